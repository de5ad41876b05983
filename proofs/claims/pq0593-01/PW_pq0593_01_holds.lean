import PyProof.Rows.All
import Wide.All
import OpenK.AllK
import Wide.FinOn
import Lean
import PySem.Challenge.RW_pq0593_01
set_option Elab.async false
set_option linter.all false
set_option maxRecDepth 100000
set_option genSizeOf false
set_option genInjectivity false
set_option genCtorIdx false
set_option tactic.hygienic false
namespace Mine.H
open PySem PySem.W PySem.Calls PyProof.Rows
noncomputable abbrev pw:Program:=PySem.Challenge.pw_pq0593_01
noncomputable abbrev N:Value:=.none
noncomputable abbrev al(i:Int)(t:Tok):Value:=.int i t
noncomputable abbrev S(s:String)(t:Tok):Value:=.str (Str.ofString s) t
noncomputable abbrev B(s:String):Value:=.builtin s
noncomputable abbrev T(s:String):Value:=.type s
noncomputable abbrev R(a:Addr):Value:=.ref a
noncomputable def eS(P:Params)(n:Str)(t:Tok)(v:Value):DictEntry:=⟨if n.cps.isEmpty then 0 else reduceHash (P.strHash n.cps),.str n t,v⟩
noncomputable abbrev en(P:Params)(n:String)(t:Tok)(v:Value):DictEntry:=eS P (Str.ofString n) t v
noncomputable def bG(l:List Value):Obj:=⟨T "tuple",none,.seq ⟨l⟩ 0,⟨[]⟩⟩
noncomputable def o3(c:Value)(l:List Value):Obj:=⟨c,none,.fields ⟨l⟩,⟨[]⟩⟩
noncomputable def iY(l:List Value):Obj:=o3 .none l
noncomputable def xR(l:List Value):Obj:=o3 (T "code") l
noncomputable def ew(c:Value)(l:List DictEntry)(n:Nat):Obj:=⟨c,none,.dict ⟨l⟩ n,⟨[]⟩⟩
noncomputable def kO(n:String)(t a:Nat)(s:Option Value)(b:Value)(bs mro Md:List Value):Obj:=⟨T "type",none,.cls {name:=Str.ofString n,bases:=bs,mro:=R a::mro,ns:=a-1,qualname:=Str.ofString n,hasDict:=true,subclasses:=Md},⟨[s,none,some (S n t),some (S n (t+8)),some b,some (.bool true)]⟩⟩
noncomputable def dy:List Stmt:=behindTheImports pw
noncomputable def sT(i:Nat):Stmt:=dy.getD i (.Pass ⟨0,0,0,0⟩)
noncomputable def sM(i j:Nat):Stmt:=match sT i with|.ClassDef _ _ _ b _ _ _ _ _ _ _=>b.getD j (.Pass ⟨0,0,0,0⟩)|_=>.Pass ⟨0,0,0,0⟩
noncomputable def p0:Pos:=⟨0,0,0,0⟩
noncomputable def rc:Stmt->DefRec|.FunctionDef n a b _ _ _ sc _ _ pos=>⟨n,a,b,sc,pos⟩|_=>⟨Str.ofString "",⟨[],[],none,[],[],none,[]⟩,[],{kind:=.function,names:=[],isGenerator:=false,isCoroutine:=false,more:=[]},p0⟩
noncomputable def fd(r:DefRec)(q:Str)(g:Addr)(d m c:Value):FuncData:={name:=r.name,qualname:=q,params:=r.params,body:=.stmts r.body,scope:=r.scope,globals:=g,closure:=[],defaults:=d,kwdefaults:=.none,doc:=.none,pyModule:=m,code:=c,builtins:=0}
noncomputable def xS:List Str->Nat->List Value|[],_=>[]|s::r,t=>.str s t::xS r (t+1)
noncomputable def sv(l:List String)(t:Nat):List Value:=xS (l.map Str.ofString) t
noncomputable def iv:List Int->Nat->List Value|[],_=>[]|s::r,t=>.int s t::iv r (t+1)
noncomputable def cO(n q:Str)(t l ar fl a:Nat)(b:Bool)(x:List Value)(k:Nat):Obj:=xR ([.str n t,.str q (t+1),S "/claim/cut.py" (t+2),al l 0,al ar 0,al 0 0,al 0 0,al fl 0,R a,.bool b,al 181 0,R (a+1)]++(x++[al (t+3+k:Nat) 0,al l 0,S "/claim/cut.py" (t+4+k)]))
noncomputable abbrev fr(c d:Nat)(m:Value):Obj:=⟨T "frame",none,.plain,⟨[some (R c),some (R 3),some (R d),none,some m,none,some (R 0)]⟩⟩
noncomputable def lo(r:DefRec):Option (List Str×List Str):=localNames r.params r.scope (.stmts r.body)
noncomputable def nO(r:DefRec):Nat:=match lo r with|some _=>7|none=>5
noncomputable def nT(r:DefRec):Nat:=match lo r with|some l=>l.1.length+6|none=>6
noncomputable def fo(m d:Value)(r:DefRec)(q:Str)(a t:Nat):List Obj:=let g b l k(x:List Value):List Obj:=bG []::iY []::(b++[⟨.none,none,.func (fd r q 0 .none .none .none),⟨[]⟩⟩,cO r.name q t r.pos.line r.params.args.length 3 a true x k,⟨T "function",none,.func (fd r q 3 d m (R (a+l))),⟨[]⟩⟩]);match lo r with|some l=>g [bG (xS l.1 (t+3)),bG []] 5 l.1.length [N,R (a+2),R (a+3),R (a+4)]|none=>g [] 3 0 [N,N,N,R (a+2)]
noncomputable def ru(m d:Value)(g:Nat->Stmt)(c:String):Nat->Nat->Nat->Nat->List Obj|0,_,_,_=>[]|n+1,i,a,t=>let r:=rc (g i);fo m d r ⟨((Str.ofString c).cps.toList++r.name.cps.toList).toArray⟩ a t++ru m N g c n (i+1) (a+nO r) (t+nT r)
noncomputable def re(P:Params)(g:Nat->Stmt):Nat->Nat->Nat->Nat->List DictEntry|0,_,_,_=>[]|n+1,i,a,t=>let r:=rc (g i);eS P r.name (t+nT r-1) (R (a+nO r-1))::re P g n (i+1) (a+nO r) (t+nT r)
noncomputable def rt(g:Nat->Stmt):Nat->Nat->Nat->List Value|0,_,_=>[]|n+1,i,a=>let r:=rc (g i);al r.pos.line 0::al r.pos.col 0::R (a+nO r-2)::rt g n (i+1) (a+nO r)
noncomputable def ks(P:Params):Nat->List (String×Int)->List DictEntry|_,[]=>[]|t,(s,i)::r=>en P s (t+1) (al i t)::ks P (t+2) r
noncomputable def bs(P:Params)(f:String->Value):Nat->List String->List DictEntry|_,[]=>[]|t,s::r=>en P s t (f s)::bs P f (t+1) r
noncomputable def kE(P:Params)(n:String)(l t:Nat)(m:Value)(q:Bool)(ms:List DictEntry):List DictEntry:=en P "__module__" (t+5) m::((bif q then[en P "__qualname__" (t+7) (S n (t+6))]else[])++en P "__firstlineno__" (t+9) (al l (t+8))::ms)
noncomputable abbrev np:Obj:=o3 (T "builtin_function_or_method") [B "type.__prepare__",T "type"]
noncomputable abbrev ni(a:Nat):Obj:=o3 (T "builtin_function_or_method") [B "object.__init_subclass__",R a]
noncomputable abbrev su(a:Nat):Obj:=o3 (T "super") [R a,R a,R a]
noncomputable abbrev gd(t a:Nat):Obj:=o3 (T "getset_descriptor") [S "__dict__" t,R a,B "function.__dict__",B "function.__dict__#set"]
noncomputable abbrev gw(t a:Nat):Obj:=o3 (T "getset_descriptor") [S "__weakref__" t,R a,B "ExceptionGroup.__weakref__",N]
noncomputable def cF(P:Params)(n:String)(l t:Nat)(m:Value)(b:Nat)(bs:List Value)(ms:List DictEntry)(tl:List Value):List Obj:=[bG bs,np,ew (T "dict") (kE P n l t m true ms) (ms.length+3),bG [],iY tl,cO (Str.ofString n) (Str.ofString n) t l 0 0 (b+3) false [N,N,N,N] 0,fr (b+5) (b+2) m]
noncomputable def ev:List Obj->List Obj|[]=>[]|[x]=>[x]|x::_::r=>x::ev r
noncomputable def od:List Obj->List Obj|[]=>[]|[_]=>[]|_::y::r=>y::od r
noncomputable def sn:Nat->List Obj->BT|0,_=>.nil|_+1,[]=>.nil|k+1,x::r=>.node x (sn k (ev r)) (sn k (od r))
noncomputable def kz(l:List Obj)(n toks:Nat)(os:OsState):SharedT:=⟨sn 12 l,n,{},⟨[]⟩,boot_drawn,toks,os⟩
noncomputable def xT:Env:={scope:=pw.main.scope,locals:=mainNs,globals:=mainNs,cells:=[],code:=R 13,frame:=some 14}
noncomputable def cE:Code:=.body dy xT
noncomputable def lA(i n:Nat)(pos:Pos):Thread:=W.piecesOf ((dy.drop i).take n) xT cE pos [topFrame p0]
noncomputable def jV(w:World)(n:Nat)(s:SharedT)(t:Thread):=PySem.W.Fast.tw10110043849684766642 PySem.W.Fast.tw14364793385576792824 pw w 11 (some (R 6)) 1 n s t
noncomputable abbrev m0:Value:=(S "__main__" 164)
noncomputable abbrev m1:Value:=(S "kindkeep.diags" 194)
noncomputable abbrev m2:Value:=(S "kindkeep.types" 347)
noncomputable abbrev m3:Value:=(S "kindkeep.hosts" 704)
noncomputable abbrev m4:Value:=(S "kindkeep.relbase" 1029)
noncomputable abbrev m5:Value:=(S "kindkeep.relsig" 1455)
noncomputable abbrev m6:Value:=(S "law_pq0593_01" 1818)
noncomputable def Cj(P:Params):List DictEntry:=[re P (sM 7) 1 0 30 219,[en P "__static_attributes__" 229 (R 37)]].flatten
noncomputable def Ck(P:Params):List DictEntry:=[re P (sM 8) 1 0 51 251,[en P "__static_attributes__" 262 (R 58)]].flatten
noncomputable def Cl(P:Params):List DictEntry:=[re P (sM 9) 1 0 71 279,[en P "__static_attributes__" 289 (R 78)]].flatten
noncomputable def Cm(P:Params):List DictEntry:=[re P (sM 10) 4 0 90 305,[en P "__static_attributes__" 339 (R 118)]].flatten
noncomputable def Cp(P:Params):List DictEntry:=[re P (sM 60) 3 0 157 475,[en P "__static_attributes__" 510 (R 178)]].flatten
noncomputable def Cq(P:Params):List DictEntry:=[re P (sM 84) 17 0 335 722,[en P "__static_attributes__" 872 (R 454)]].flatten
noncomputable def Cr(P:Params):List DictEntry:=[re P (sM 122) 5 0 585 1076,[en P "__static_attributes__" 1125 (R 620)]].flatten
noncomputable def Cs(P:Params):List DictEntry:=[re P (sM 123) 7 0 634 1145,[en P "__static_attributes__" 1217 (R 683)]].flatten
noncomputable def Ct(P:Params):List DictEntry:=[re P (sM 176) 1 0 1048 1771,[en P "__static_attributes__" 1781 (R 1055)]].flatten
noncomputable def Cu(P:Params):List DictEntry:=[re P (sM 177) 1 0 1067 1797,[en P "__static_attributes__" 1807 (R 1074)]].flatten
noncomputable def kA(P:Params)(x2:Obj)(x3:Obj)(uM:Obj):List Obj:=[[ew (T "dict") ([[en P "__name__" 1 (S "builtins" 160),en P "__doc__" 2 (B "builtins.__doc__:str#opaque"),en P "__package__" 3 (B "builtins.__package__:str#opaque"),en P "__loader__" 4 (B "builtins.__loader__:shared#opaque"),en P "__spec__" 5 (B "builtins.__spec__#opaque")],bs P .builtin 6 ["__build_class__","__import__","abs","all","any","ascii","bin","breakpoint","callable","chr","compile","delattr","dir","divmod","eval","exec","format","getattr","globals","hasattr","hash","hex","id","input","isinstance","issubclass","iter","aiter","len","locals","max","min","next","anext","oct","ord","pow","print","repr","round","setattr","sorted","sum","vars"],[en P "None" 50 N,en P "Ellipsis" 51 .ellipsis,en P "NotImplemented" 52 .notImplemented,en P "False" 53 (.bool false),en P "True" 54 (.bool true)],bs P .type 55 ["bool","memoryview","bytearray","bytes","classmethod","complex","dict","enumerate","filter","float","frozenset","property","int","list","map","object","range","reversed","set","slice","staticmethod","str","super","tuple","type","zip"],[en P "__debug__" 81 (.bool true)],bs P .type 82 ["BaseException","BaseExceptionGroup","Exception","GeneratorExit","KeyboardInterrupt","SystemExit","ArithmeticError","AssertionError","AttributeError","BufferError","EOFError","ImportError","LookupError","MemoryError","NameError","OSError","ReferenceError","RuntimeError","StopAsyncIteration","StopIteration","SyntaxError","SystemError","TypeError","ValueError","Warning","FloatingPointError","OverflowError","ZeroDivisionError","BytesWarning","DeprecationWarning","EncodingWarning","FutureWarning","ImportWarning","PendingDeprecationWarning","ResourceWarning","RuntimeWarning","SyntaxWarning","UnicodeWarning","UserWarning","BlockingIOError","ChildProcessError","ConnectionError","FileExistsError","FileNotFoundError","InterruptedError","IsADirectoryError","NotADirectoryError","PermissionError","ProcessLookupError","TimeoutError","IndentationError","_IncompleteInputError","IndexError","KeyError","ModuleNotFoundError","NotImplementedError","PythonFinalizationError","RecursionError","UnboundLocalError","UnicodeError","BrokenPipeError","ConnectionAbortedError","ConnectionRefusedError","ConnectionResetError","TabError","UnicodeDecodeError","UnicodeEncodeError","UnicodeTranslateError","ExceptionGroup"],[en P "EnvironmentError" 151 (T "OSError"),en P "IOError" 152 (T "OSError"),en P "open" 153 (B "open"),en P "quit" 154 (B "builtins.quit#opaque"),en P "exit" 155 (B "builtins.exit#opaque"),en P "copyright" 156 (B "builtins.copyright#opaque"),en P "credits" 157 (B "builtins.credits#opaque"),en P "license" 158 (B "builtins.license#opaque"),en P "help" 159 (B "builtins.help#opaque")]].flatten) 159],[ew (T "dict") [en P "builtins" 162 (R 4),en P "__main__" 163 (R 5)] 2,x2,x3,⟨(T "module"),(some 0),.plain,⟨[]⟩⟩,⟨(T "module"),(some 3),.plain,⟨[]⟩⟩,ew (T "dict") [] 0,bG [],iY [],xR [(S "<module>" 176),(S "<module>" 177),(S "/claim/cut.py" 178),(al 1 0),(al 0 0),(al 0 0),(al 0 0),(al 0 0),(R 7),(.bool false),(al 175 0),(R 8),N,N,N,N,(al 179 0),(al 1 0),(S "/claim/cut.py" 180)],⟨(T "frame"),none,.plain,⟨[some (R 9),some (R 3),some (R 3),none,some m0,none,some (R 0)]⟩⟩,bG [],uM,xR [(S "<module>" 182),(S "<module>" 183),(S "/claim/cut.py" 184),(al 1 0),(al 0 0),(al 0 0),(al 0 0),(al 0 0),(R 11),(.bool false),(al 181 0),(R 12),N,N,N,N,(al 185 0),(al 1 0),(S "/claim/cut.py" 186)],⟨(T "frame"),none,.plain,⟨[some (R 13),some (R 3),some (R 3),none,some m0,none,some (R 0)]⟩⟩]].flatten
noncomputable def lB(P:Params):List Obj:=[ru m0 N sT "" 1 0 15 187,cF P "KeepError" 10 208 m1 22 [(T "Exception")] (Cj P) (rt (sM 7) 1 0 30),[bG [(S "" 218)]],ru m1 (R 29) (sM 7) "KeepError." 1 0 30 219,[bG [(S "number" 227),(S "text" 228)],ew (T "dict") (kE P "KeepError" 10 208 m1 false (Cj P++[en P "__weakref__" 231 (R 40),en P "__doc__" 232 N])) 3,kO "KeepError" 206 39 (some (R 22)) (B "Exception.__new__") [(T "Exception")] [(T "Exception"),(T "BaseException"),(T "object")] [(R 60),(R 80)],gw 230 39,su 39,ni 39],cF P "TooDeep" 15 239 m1 43 [(R 39)] (Ck P) (rt (sM 8) 1 0 51),[bG [(al 2589 249),(S "" 250)]],ru m1 (R 50) (sM 8) "TooDeep." 1 0 51 251,[bG [(S "number" 260),(S "text" 261)],ew (T "dict") (kE P "TooDeep" 15 239 m1 false (Ck P++[en P "__doc__" 263 N])) 2,kO "TooDeep" 237 60 (some (R 43)) (B "Exception.__new__") [(R 39)] [(R 39),(T "Exception"),(T "BaseException"),(T "object")] [],su 60,ni 60],cF P "HostFault" 20 268 m1 63 [(R 39)] (Cl P) (rt (sM 9) 1 0 71),[bG [(S "" 278)]],ru m1 (R 70) (sM 9) "HostFault." 1 0 71 279,[bG [(S "number" 287),(S "text" 288)],ew (T "dict") (kE P "HostFault" 20 268 m1 false (Cl P++[en P "__doc__" 290 N])) 2,kO "HostFault" 266 80 (some (R 63)) (B "Exception.__new__") [(R 39)] [(R 39),(T "Exception"),(T "BaseException"),(T "object")] [],su 80,ni 80]].flatten
noncomputable def mG(P:Params):List Obj:=[cF P "Notes" 25 295 m1 83 [] (Cm P) (rt (sM 10) 4 0 90),ru m1 N (sM 10) "Notes." 4 0 90 305,[bG [(S "rows" 338)],ew (T "dict") (kE P "Notes" 25 295 m1 false (Cm P++[en P "__dict__" 341 (R 121),en P "__weakref__" 343 (R 122),en P "__doc__" 344 N])) 4,kO "Notes" 293 120 none (B "object.__new__") [(T "object")] [(T "object")] [],gd 340 120,gw 342 120,su 120,ni 120,bG [(al 1 349),(S "any" 439)],bG [(al 1 349),(S "unknown" 440)],bG [(al 1 349),(S "never" 441)],bG [(al 1 349),(S "void" 442)],bG [(al 1 349),(S "undefined" 443)],bG [(al 1 349),(S "null" 444)],bG [(al 1 349),(S "string" 445)],bG [(al 1 349),(S "number" 446)],bG [(al 2 351),(al 0 447),(al 0 448)],bG [(al 2 351),(al 1 449),(al 0 450)],bG [(al 1 349),(S "object" 451)],bG [],bG [],bG [],bG [],bG [],bG [(al 8 363),(R 136),(R 137),(R 138),(R 139),(R 140),(al 0 452)],bG [(al 8 453),(al 9 454)],bG [(al 6 359),(R 142)],bG [(al 1 349),(S "error" 455)],bG [(al 2 351),(al 0 456),(al 1 457)],bG [(al 2 351),(al 1 458),(al 1 459)],bG [(R 125),(R 126),(R 127),(R 128),(R 129),(R 130),(R 131),(R 132),(R 133),(R 134),(R 135),(R 141),(R 143),(R 144),(R 145),(R 146)],bG [(al 2 351),(al 3 353),(al 4 355),(al 5 357)],bG [(al 2 351),(al 3 353),(al 4 355),(al 5 357),(al 8 363)]]].flatten
noncomputable def nQ(P:Params):List Obj:=[cF P "TypeTable" 90 465 m2 150 [] (Cp P) (rt (sM 60) 3 0 157),ru m2 N (sM 60) "TypeTable." 3 0 157 475,[bG (sv ["bounds","decls","defaults","index","names","origins","putting","renamed","rows","shaping"] 500),ew (T "dict") (kE P "TypeTable" 90 465 m2 false (Cp P++[en P "__dict__" 512 (R 181),en P "__weakref__" 514 (R 182),en P "__doc__" 515 N])) 4,kO "TypeTable" 463 180 none (B "object.__new__") [(T "object")] [(T "object")] [],gd 511 180,gw 513 180,su 180,ni 180,bG [(al 0 518)]],ru m2 (R 185) sT "" 1 61 186 519,[bG [(al 0 528)]],ru m2 (R 193) sT "" 1 62 194 529,[bG [(al 0 538)]],ru m2 (R 201) sT "" 1 63 202 539,[bG [(al 0 548)]],ru m2 (R 209) sT "" 4 64 210 549,[bG [(al 0 595)]],ru m2 (R 238) sT "" 1 68 239 596,[bG [],bG [(R 244),(al 0 602)]],ru m2 (R 245) sT "" 11 69 246 603].flatten
noncomputable def o4(P:Params):List Obj:=[ru m2 N sT "" 1 80 321 696,cF P "Thin" 226 712 m3 328 [] (Cq P) (rt (sM 84) 17 0 335),ru m3 N (sM 84) "Thin." 17 0 335 722,[bG (sv ["deep","most_deep","most_rounds","tab"] 868),ew (T "dict") (kE P "Thin" 226 712 m3 false (Cq P++[en P "__dict__" 874 (R 457),en P "__weakref__" 876 (R 458),en P "__doc__" 877 N])) 4,kO "Thin" 710 456 none (B "object.__new__") [(T "object")] [(T "object")] [],gd 873 456,gw 875 456,su 456,ni 456],ru m3 N sT "" 3 85 461 880].flatten
noncomputable def qt(P:Params):List Obj:=[ru m3 N sT "" 14 88 480 903,[bG [(al 1 349),(al 2 351),(al 3 353),(al 4 355),(al 5 357)],bG [(al 11 369),(al 12 371)],bG [(al 8 363),(al 9 365)],bG [(al 10 367),(al 14 375),(al 15 377),(al 16 379),(al 17 381),(al 18 383),(al 19 385)],bG [(al 6 359),(al 7 361)],bG [(al 6 359),(al 7 361),(al 10 367),(al 14 375),(al 15 377),(al 16 379),(al 17 381),(al 18 383),(al 19 385)]]].flatten
noncomputable def so(P:Params)(Me:Obj):List Obj:=[cF P "RelRule" 392 1066 m4 578 [] (Cr P) (rt (sM 122) 5 0 585),ru m4 N (sM 122) "RelRule." 5 0 585 1076,[bG [],ew (T "dict") (kE P "RelRule" 392 1066 m4 false (Cr P++[en P "__dict__" 1127 (R 623),en P "__weakref__" 1129 (R 624),en P "__doc__" 1130 N])) 4,Me,gd 1126 622,gw 1128 622,su 622,ni 622],cF P "Rel" 408 1135 m4 627 [] (Cs P) (rt (sM 123) 7 0 634),ru m4 N (sM 123) "Rel." 7 0 634 1145,[bG (sv ["assumed","at","deep","host","known","missing","mode","notes","road","rules","telling","trail","twin"] 1204),ew (T "dict") (kE P "Rel" 408 1135 m4 false (Cs P++[en P "__dict__" 1219 (R 686),en P "__weakref__" 1221 (R 687),en P "__doc__" 1222 N])) 4,kO "Rel" 1133 685 none (B "object.__new__") [(T "object")] [(T "object")] [],gd 1218 685,gw 1220 685,su 685,ni 685],ru m4 N sT "" 3 124 690 1225].flatten
noncomputable def uN(P:Params):List Obj:=[ru m4 N sT "" 20 127 711 1256,ru m5 N sT "" 8 148 851 1457].flatten
noncomputable def xU(P:Params):List Obj:=ru m5 N sT "" 20 156 901 1534
noncomputable def Cv(P:Params):List Obj:=[cF P "SigRule" 889 1761 m5 1041 [(R 622)] (Ct P) (rt (sM 176) 1 0 1048),ru m5 N (sM 176) "SigRule." 1 0 1048 1771,[bG [],ew (T "dict") (kE P "SigRule" 889 1761 m5 false (Ct P++[en P "__doc__" 1782 N])) 2,kO "SigRule" 1759 1057 (some (R 1041)) (B "object.__new__") [(R 622)] [(R 622),(T "object")] [],su 1057,ni 1057],cF P "CallsRule" 893 1787 m5 1060 [(R 622)] (Cu P) (rt (sM 177) 1 0 1067),ru m5 N (sM 177) "CallsRule." 1 0 1067 1797,[bG [],ew (T "dict") (kE P "CallsRule" 893 1787 m5 false (Cu P++[en P "__doc__" 1808 N])) 2,kO "CallsRule" 1785 1076 (some (R 1060)) (B "object.__new__") [(R 622)] [(R 622),(T "object")] [],su 1076,ni 1076],ru m5 N sT "" 1 178 1079 1811,[bG (iv [4,32,1,3,8,36,192,256,512,260,2048,4096,0,1024,1536,24,64,33] 1820)],ru m6 N sT "" 10 181 1087 1839].flatten
noncomputable def Mf(P:Params):List Obj:=ru m6 N sT "" 12 191 1153 1936
noncomputable def dD(P:Params):List DictEntry:=[[en P "__doc__" 166 N,en P "__package__" 167 N,en P "__loader__" 168 (B "__main__.__loader__#opaque"),en P "__spec__" 169 N,en P "__annotations__" 170 (R 6),en P "__builtins__" 171 (R 4),en P "__file__" 173 (S "/claim/cut.py" 172),en P "__cached__" 174 N],re P sT 1 0 15 187,ks P 196 [("U_ANY",1),("U_METHOD",2),("U_ENUM",10),("U_OPTION",11),("U_VAR",15)],[en P "KeepError" 236 (R 39),en P "TooDeep" 265 (R 60),en P "HostFault" 292 (R 80),en P "Notes" 346 (R 120)],ks P 349 [("Y_KEY",1),("Y_BOOL",2),("Y_STR",3),("Y_NUM",4),("Y_ENUM",5),("Y_UNION",6),("Y_INTER",7),("Y_OBJ",8),("Y_REF",9),("Y_PARAM",10),("Y_ARRAY",11),("Y_TUPLE",12),("Y_SIG",13),("Y_KEYOF",14),("Y_INDEX",15),("Y_COND",16),("Y_MAPPED",17),("Y_TPL",18),("Y_ALIAS",19),("ANY",0),("UNKNOWN",1),("NEVER",2),("VOID",3),("UNDEF",4),("NULLT",5),("STRING",6),("NUMBER",7),("FALSE_T",8),("TRUE_T",9),("OBJECTT",10),("EMPTY",11),("ERR",13),("FRESH_F",14),("FRESH_T",15),("E_NEED",0),("E_OPT",1),("E_REST",2),("E_SPREAD",3),("A_NEED",0),("A_OPT",1),("A_REST",2),("S_METHOD",1),("S_ABSTRACT",2),("S_PRIVATE",4),("MAX_UNION",400)],[en P "FIRST_ROWS" 460 (R 147),en P "LITERAL_ROWS" 461 (R 148),en P "MARKED_ROWS" 462 (R 149),en P "TypeTable" 517 (R 180)],re P sT 1 61 186 519,re P sT 1 62 194 529,re P sT 1 63 202 539,re P sT 4 64 210 549,re P sT 1 68 239 596,re P sT 12 69 246 603,[en P "MOST_ROUNDS" 707 (al 200 706),en P "MOST_SHAPES" 709 (al 40 708),en P "Thin" 879 (R 456)],re P sT 17 85 461 880,ks P 1031 [("R_ASSIGN",1),("R_COMPARE",2),("R_IDENT",3),("R_SUBTYPE",4),("RULE_MEET",1),("RULE_DEFERRED",2),("RULE_SIG",3),("RULE_LIST",4),("RULE_OBJECT",5),("RULE_CHOICE",6),("RULE_CALLS",8),("RULE_GENERIC",9),("RULE_PLACES",12)],[en P "VALUE_ROWS" 1057 (R 572),en P "LIST_ROWS" 1058 (R 573),en P "SHAPED_ROWS" 1059 (R 574),en P "DEFERRED_ROWS" 1060 (R 575),en P "OPEN_ROWS" 1061 (R 577),en P "MAX_OPEN" 1063 (al 60 1062),en P "RelRule" 1132 (R 622),en P "Rel" 1224 (R 685)],re P sT 23 124 690 1225,re P sT 28 148 851 1457,[en P "SigRule" 1784 (R 1057),en P "CallsRule" 1810 (R 1076)],re P sT 1 178 1079 1811,[en P "_law_masks" 1838 (R 1086)],re P sT 22 181 1087 1839].flatten
noncomputable def kC:List Value:=[rt sT 1 0 15,[(al 10 0),(al 0 0),(R 27),(al 15 0),(al 0 0),(R 48),(al 20 0),(al 0 0),(R 68),(al 25 0),(al 0 0),(R 88),(al 90 0),(al 0 0),(R 155)],rt sT 1 61 186,rt sT 1 62 194,rt sT 1 63 202,rt sT 4 64 210,rt sT 1 68 239,rt sT 12 69 246,[(al 226 0),(al 0 0),(R 333)],rt sT 17 85 461,[(al 392 0),(al 0 0),(R 583),(al 408 0),(al 0 0),(R 632)],rt sT 23 124 690,rt sT 28 148 851,[(al 889 0),(al 0 0),(R 1046),(al 893 0),(al 0 0),(R 1065)],rt sT 1 178 1079,rt sT 22 181 1087].flatten
noncomputable def v3(P:Params)(m:Value)(n:Nat):Obj:=ew (T "dict") (en P "__name__" 165 m::(dD P).take n) (n+1)
noncomputable def Mg(P:Params):List Obj:=[kA P (ew N [] 0) (v3 P m0 8) (iY (kC.take 0))].flatten
noncomputable def sq(w:World)(os:OsState):SharedT:=kz (Mg w.params) 15 187 os
noncomputable def Mh(P:Params):List Obj:=[kA P (ew N [en P "type.__subclasses__.Exception.0" 233 (al 39 0),en P "type.__subclasses__.Exception.n" 234 (al 1 0)] 2) (v3 P m1 17) (iY (kC.take 12)),lB P].flatten
noncomputable def Cw(w:World)(os:OsState):SharedT:=kz (Mh w.params) 83 293 os
noncomputable def Mi(P:Params):List Obj:=[kA P (ew N [en P "type.__subclasses__.Exception.0" 233 (al 39 0),en P "type.__subclasses__.Exception.n" 234 (al 1 0)] 2) (v3 P m2 66) (iY (kC.take 15)),lB P,mG P].flatten
noncomputable def Cx(w:World)(os:OsState):SharedT:=kz (Mi w.params) 150 463 os
noncomputable def Mj(P:Params):List Obj:=[kA P (ew N [en P "type.__subclasses__.Exception.0" 233 (al 39 0),en P "type.__subclasses__.Exception.n" 234 (al 1 0)] 2) (v3 P m2 86) (iY (kC.take 75)),lB P,mG P,nQ P].flatten
noncomputable def Cy(w:World)(os:OsState):SharedT:=kz (Mj w.params) 321 696 os
noncomputable def Mk(P:Params):List Obj:=[kA P (ew N [en P "type.__subclasses__.Exception.0" 233 (al 39 0),en P "type.__subclasses__.Exception.n" 234 (al 1 0)] 2) (v3 P m3 93) (iY (kC.take 90)),lB P,mG P,nQ P,o4 P].flatten
noncomputable def Cz(w:World)(os:OsState):SharedT:=kz (Mk w.params) 480 903 os
noncomputable def Ml(P:Params):List Obj:=[kA P (ew N [en P "type.__subclasses__.Exception.0" 233 (al 39 0),en P "type.__subclasses__.Exception.n" 234 (al 1 0)] 2) (v3 P m4 126) (iY (kC.take 132)),lB P,mG P,nQ P,o4 P,qt P].flatten
noncomputable def CA(w:World)(os:OsState):SharedT:=kz (Ml w.params) 578 1064 os
noncomputable def Mm(P:Params):List Obj:=[kA P (ew N [en P "type.__subclasses__.Exception.0" 233 (al 39 0),en P "type.__subclasses__.Exception.n" 234 (al 1 0)] 2) (v3 P m4 131) (iY (kC.take 147)),lB P,mG P,nQ P,o4 P,qt P,so P (kO "RelRule" 1064 622 none (B "object.__new__") [(T "object")] [(T "object")] [])].flatten
noncomputable def CB(w:World)(os:OsState):SharedT:=kz (Mm w.params) 711 1256 os
noncomputable def Mn(P:Params):List Obj:=[kA P (ew N [en P "type.__subclasses__.Exception.0" 233 (al 39 0),en P "type.__subclasses__.Exception.n" 234 (al 1 0)] 2) (v3 P m5 159) (iY (kC.take 231)),lB P,mG P,nQ P,o4 P,qt P,so P (kO "RelRule" 1064 622 none (B "object.__new__") [(T "object")] [(T "object")] []),uN P].flatten
noncomputable def CC(w:World)(os:OsState):SharedT:=kz (Mn w.params) 901 1534 os
noncomputable def Mq(P:Params):List Obj:=[kA P (ew N [en P "type.__subclasses__.Exception.0" 233 (al 39 0),en P "type.__subclasses__.Exception.n" 234 (al 1 0)] 2) (v3 P m5 179) (iY (kC.take 291)),lB P,mG P,nQ P,o4 P,qt P,so P (kO "RelRule" 1064 622 none (B "object.__new__") [(T "object")] [(T "object")] []),uN P,xU P].flatten
noncomputable def CD(w:World)(os:OsState):SharedT:=kz (Mq w.params) 1041 1759 os
noncomputable def Mr(P:Params):List Obj:=[kA P (ew N [en P "type.__subclasses__.Exception.0" 233 (al 39 0),en P "type.__subclasses__.Exception.n" 234 (al 1 0)] 2) (v3 P m6 193) (iY (kC.take 330)),lB P,mG P,nQ P,o4 P,qt P,so P (kO "RelRule" 1064 622 none (B "object.__new__") [(T "object")] [(T "object")] [(R 1057),(R 1076)]),uN P,xU P,Cv P].flatten
noncomputable def CE(w:World)(os:OsState):SharedT:=kz (Mr w.params) 1153 1936 os
noncomputable def mH(P:Params):List Obj:=[kA P (ew N [en P "type.__subclasses__.Exception.0" 233 (al 39 0),en P "type.__subclasses__.Exception.n" 234 (al 1 0)] 2) (v3 P m6 205) (iY (kC.take 366)),lB P,mG P,nQ P,o4 P,qt P,so P (kO "RelRule" 1064 622 none (B "object.__new__") [(T "object")] [(T "object")] [(R 1057),(R 1076)]),uN P,xU P,Cv P,Mf P].flatten
noncomputable def nR(w:World)(os:OsState):SharedT:=kz (mH w.params) 1229 2056 os
theorem Ms(w:World)(os:OsState):jV w 813 (sq w os) (lA 0 10 ⟨0,0,0,0⟩)=some (.next,Cw w os,cE,⟨20,0,24,24⟩):=by kernel_rfl
theorem Mt(w:World)(os:OsState):jV w 879 (Cw w os) (lA 10 50 ⟨20,0,24,24⟩)=some (.next,Cx w os,cE,⟨89,0,89,11⟩):=by kernel_rfl
theorem Mu(w:World)(os:OsState):jV w 897 (Cx w os) (lA 60 20 ⟨89,0,89,11⟩)=some (.next,Cy w os,cE,⟨216,0,218,49⟩):=by kernel_rfl
theorem Mv(w:World)(os:OsState):jV w 892 (Cy w os) (lA 80 8 ⟨216,0,218,49⟩)=some (.next,Cz w os,cE,⟨288,0,291,67⟩):=by kernel_rfl
theorem Mw(w:World)(os:OsState):jV w 666 (Cz w os) (lA 88 34 ⟨288,0,291,67⟩)=some (.next,CA w os,cE,⟨391,0,391,8⟩):=by kernel_rfl
theorem Mx(w:World)(os:OsState):jV w 885 (CA w os) (lA 122 5 ⟨391,0,391,8⟩)=some (.next,CB w os,cE,⟨449,0,453,15⟩):=by kernel_rfl
theorem My(w:World)(os:OsState):jV w 896 (CB w os) (lA 127 29 ⟨449,0,453,15⟩)=some (.next,CC w os,cE,⟨717,0,725,61⟩):=by kernel_rfl
theorem Mz(w:World)(os:OsState):jV w 666 (CC w os) (lA 156 20 ⟨717,0,725,61⟩)=some (.next,CD w os,cE,⟨884,0,888,72⟩):=by kernel_rfl
theorem MA(w:World)(os:OsState):jV w 872 (CD w os) (lA 176 15 ⟨884,0,888,72⟩)=some (.next,CE w os,cE,⟨995,0,999,28⟩):=by kernel_rfl
theorem MB(w:World)(os:OsState):jV w 377 (CE w os) (lA 191 12 ⟨995,0,999,28⟩)=some (.next,nR w os,cE,⟨1110,0,1151,15⟩):=by kernel_rfl
end Mine.H
namespace Mine.H
open PySem PySem.W PySem.Calls PyProof.Rows
theorem kD{w:World}{n:Nat}{s s':SharedT}{t:Thread}{f:Flow}{c:Code}{q:Pos}(h:jV w n s t=some (f,s',c,q)):segRun treeTable pw w 11 (some (R 6)) 1 n s.abs t=some (f,s'.abs,c,q):=by refine segRun_of ?_;rw[PySem.W.Fast.te10110043849684766642,PySem.W.Fast.te14364793385576792824];exact h
theorem MC(w:World)(os:OsState):PySem.W.Fast.tw15667345088766844465 PySem.W.Fast.tw14364793385576792824 pw w 11 (some (R 6)) 12 ⟨boot_heap w.params,⟨[]⟩,boot_drawn,boot_toks,os⟩ (topStub pw)=some ((sq w os).abs,⟨PySem.W.Fast.tw11892475500146522536 PySem.W.Fast.tw14364793385576792824 cE,cE,p0,[topFrame p0]⟩):=by kernel_rfl
theorem MD(w:World)(os:OsState):topGo treeTable pw w 11 (some (R 6)) 12 ⟨boot_heap w.params,⟨[]⟩,boot_drawn,boot_toks,os⟩ (topStub pw)=some ((sq w os).abs,⟨denote treeTable cE,cE,p0,[topFrame p0]⟩):=by rw[PySem.W.Fast.te15667345088766844465,PySem.W.Fast.te14364793385576792824,PySem.W.Fast.te11892475500146522536];exact MC w os
theorem ME(w:World)(os:OsState):jV w 1 (sq w os) (W.blockOf dy xT cE p0 [topFrame p0])=some (.next,sq w os,cE,p0):=by kernel_rfl
theorem MF(w:World)(os:OsState):topRun treeTable pw w 11 (some (R 6)) 2 (nR w os).abs ⟨doneF .next,cE,⟨1110,0,1151,15⟩,[topFrame p0]⟩=some (nR w os).abs:=by kernel_rfl
theorem MG:dy=(dy.drop 0).take 10++((dy.drop 10).take 50++((dy.drop 60).take 20++((dy.drop 80).take 8++((dy.drop 88).take 34++((dy.drop 122).take 5++((dy.drop 127).take 29++((dy.drop 156).take 20++((dy.drop 176).take 15++((dy.drop 191).take 12++[]))))))))):=by kernel_rfl
theorem MH(w:World)(os:OsState):topRun treeTable pw w 11 (some (R 6)) (12+(1+(813+(879+(897+(892+(666+(885+(896+(666+(872+(377+2)))))))))))) ⟨boot_heap w.params,⟨[]⟩,boot_drawn,boot_toks,os⟩ (topStub pw)=some (nR w os).abs:=by refine go_top (MD w os) (piece_block (kD (ME w os)) ?_);rw[MG];refine piece_app (kD (Ms w os)) ?_;refine piece_app (kD (Mt w os)) ?_;refine piece_app (kD (Mu w os)) ?_;refine piece_app (kD (Mv w os)) ?_;refine piece_app (kD (Mw w os)) ?_;refine piece_app (kD (Mx w os)) ?_;refine piece_app (kD (My w os)) ?_;refine piece_app (kD (Mz w os)) ?_;refine piece_app (kD (MA w os)) ?_;refine piece_app (kD (MB w os)) ?_;exact MF w os
end Mine.H
namespace Mine.H
open PySem PySem.W PySem.Calls PyProof.Rows
noncomputable def il(P:Params):Heap:=⟨⟨mH P⟩,{}⟩
theorem MI(P:Params):absHeap (sn 12 (mH P)) 1229 {}=il P:=by kernel_rfl
theorem MJ(w:World)(os:OsState):(nR w os).abs=⟨il w.params,⟨[]⟩,boot_drawn,(nR w os).toks,os⟩:=by show Shared.mk (absHeap (sn 12 (mH w.params)) 1229 {}) ⟨[]⟩ boot_drawn _ os=_;rw[MI]
noncomputable def MK:List Stmt:=pw.main.body.drop 202
noncomputable def qv:Program:={pw with main:={pw.main with body:=MK}}
noncomputable def o5:List Str:=(pw.main.scope.names.map (·.1)).filter (fun x=>x !=(Str.ofString "law"))
noncomputable abbrev uO(s:Shared):Bool:=xlAt qv [] s&&recOk PySem.Challenge.rw_pq0593_01.row.records s
theorem ML(w:World):((boot_heap w.params).isNs mainGlobals&&(Array.mk ([]:List GenState)).size==0,(boot_heap w.params).objs.size,(boot_heap w.params).nsMap mainGlobals "__annotations__")=(true,11,some (R 6)):=by kernel_rfl
theorem MM(w:World)(os:OsState):(staticsOk (importedModules pw.main.body) (boot_heap w.params) (il w.params))=true:=by kernel_rfl
theorem MN(w:World)(os:OsState):namesBound pw (il w.params)=true:=by unfold namesBound;rw[PySem.W.Fast.te3471404346716756564,PySem.W.Fast.sDec_eq];kernel_rfl
theorem MO(w:World)(os:OsState):laidKept (boot_heap w.params) (il w.params)=true:=by kernel_rfl
end Mine.H
namespace Mine.H
open PySem PySem.W PySem.Calls PyProof.Rows
theorem MP(w:World)(os:OsState):PySem.W.Fast.tw4187177175401517315 qv o5 (importedModules pw.main.body) uO true ⟨il w.params,⟨[]⟩,boot_drawn,(nR w os).toks,os⟩=openGood qv o5:=by kernel_rfl
end Mine.H
namespace Mine.H
open PySem PySem.W PySem.Calls PyProof.Rows
theorem MQ(w:World)(os:OsState):openSeen qv o5 (importedModules pw.main.body) uO true ⟨il w.params,⟨[]⟩,boot_drawn,(nR w os).toks,os⟩=openGood qv o5:=by rw[PySem.W.Fast.te4187177175401517315];exact MP w os
theorem MS:opening pw=plainProg pw.main.scope.names:=by kernel_rfl
theorem MT(s:Shared):fenceModules? pw s=some s:=by kernel_rfl
theorem MU:LeftO pw qv o5 uO (fun s=>s.heap) (fun w=>il w.params) 16000:=by refine LeftO.of_pieces (H₀:=boot_heap) (H₁:=il) (gs₀:=⟨[]⟩) (gs₁:=⟨[]⟩) (d₀:=boot_drawn) (d₁:=boot_drawn) (k₀:=boot_toks) (k₁:=2056) (m₀:=11) (ann:=some (R 6)) (boot_open MS rfl MT) ML (fun w os=>(MH w os).trans (congrArg some (MJ w os))) rfl fun w=>funext fun os=>?_;show(((staticsOk (importedModules pw.main.body) (boot_heap w.params) (il w.params)&&namesBound pw (il w.params)&&true&&laidKept (boot_heap w.params) (il w.params))),_,il w.params)=_;rw[MM w os,MN w os,MO w os];exact Prod.ext rfl (Prod.ext (MQ w os) rfl)
abbrev hG:OpenRow:=PySem.Challenge.rw_pq0593_01.row
noncomputable abbrev nU:DefRec:=rc (sT 202)
theorem MV:defOf qv hG.name=some (nU,[]):=by kernel_rfl
theorem MW:pw.theDef hG.name=some (nU.params,nU.body,nU.scope):=by kernel_rfl
theorem MX:kwWritten? nU.params.kwonlyargs nU.params.kw_defaults=some []:=by kernel_rfl
theorem MY:(chainsOk qv&&opensWell hG.prog&&(frees hG.toRowW&&hG.within.isEmpty))=true:=by kernel_rfl
theorem uP{t:Scope}{c:TablesWhole.Ctx}{s:Scope}:∀(n:Nat){l:List Stmt},TablesWhole.wSs TablesWhole.holds t c s (l.take n)=true->TablesWhole.wSs TablesWhole.holds t c s (l.drop n)=true->TablesWhole.wSs TablesWhole.holds t c s l=true|0,_,_,h=>h|_+1,[],h,_=>h|n+1,_::_,h,k=>Bool.and_eq_true_iff.mpr ⟨(Bool.and_eq_true_iff.mp h).1,uP n (Bool.and_eq_true_iff.mp h).2 k⟩
noncomputable abbrev fS:Scope:=pw.main.scope
noncomputable abbrev qx:TablesWhole.Ctx:=⟨fS,[],[],[],none⟩
theorem MZ:TablesWhole.wSs TablesWhole.gather fS qx fS pw.main.body=[]:=by rw[PySem.W.Fast.te16421684217811934046];kernel_rfl
noncomputable abbrev wQ(l:List Stmt):Prop:=TablesWhole.wSs TablesWhole.holds fS qx fS l=true
theorem M0:wQ (pw.main.body.take 90):=by unfold wQ;rw[PySem.W.Fast.te16421684217811934046];kernel_rfl
theorem M1:wQ ((pw.main.body.drop 90).take 50):=by unfold wQ;rw[PySem.W.Fast.te16421684217811934046];kernel_rfl
theorem M2:wQ (((pw.main.body.drop 90).drop 50).take 30):=by unfold wQ;rw[PySem.W.Fast.te16421684217811934046];kernel_rfl
theorem M3:wQ (((pw.main.body.drop 90).drop 50).drop 30):=by unfold wQ;rw[PySem.W.Fast.te16421684217811934046];kernel_rfl
theorem M4:wQ pw.main.body:=@uP fS qx fS 90 _ M0 (@uP fS qx fS 50 (pw.main.body.drop 90) M1 (@uP fS qx fS 30 ((pw.main.body.drop 90).drop 50) M2 M3))
theorem M5:TablesWhole.noTwice fS=true:=by rw[PySem.W.Fast.te8331962902438777018];kernel_rfl
theorem M6:TablesWhole.wSs TablesWhole.holds fS ⟨fS,[],TablesWhole.wSs TablesWhole.gather fS qx fS pw.main.body,[],none⟩ fS pw.main.body=true:=(congrArg (fun g=>TablesWhole.wSs TablesWhole.holds fS ⟨fS,[],g,[],none⟩ fS pw.main.body) MZ).trans M4
theorem M7(m:Module)(h:TablesWhole.noTwice m.scope=true)(k:TablesWhole.wSs TablesWhole.holds m.scope ⟨m.scope,[],TablesWhole.wSs TablesWhole.gather m.scope ⟨m.scope,[],[],[],none⟩ m.scope m.body,[],none⟩ m.scope m.body=true):TablesWhole.wModule TablesWhole.holds m=true:=Bool.and_eq_true_iff.mpr ⟨h,Bool.and_eq_true_iff.mpr ⟨k,rfl⟩⟩
theorem M8(p:Program)(h:TablesWhole.wModule TablesWhole.holds p.main=true)(i:p.modules=[])(j:p.parses=[])(k:p.harvested=[]):p.tablesWhole=true:=by show TablesWhole.wProgram TablesWhole.holds p=true;unfold TablesWhole.wProgram;rw[h,i,j,k];rfl
theorem M9:pw.tablesWhole=true:=M8 pw (M7 pw.main M5 M6) rfl rfl rfl
theorem Na:hG.prog.bare:=⟨rfl,rfl,rfl,rfl,rfl,M9⟩
theorem Nb:hG.toRowW.promised:=by w_witness2
def YP(w:World)(h:Heap):Prop:=∀a o,(il w.params).get? a=some o->h.get? a=some o
theorem Nc(h1:hG.wellSaid=true)(call:WalkO qv o5 (XL qv []) YP hG.toRowW nU [] fun f vs=>PySem.call f vs):hG.Holds:=holds_open (Xt:=uO) (Yf:=fun s=>s.heap) (Ya:=fun w=>il w.params) (N:=16000) MU (fun w s e=>by intro a o h;rw[show s.heap=il w.params from e];exact h) (fun w h h' y k a o e=>k a o (y a o e)) (fun s e=>xl_of s (Bool.and_eq_true_iff.mp e).1) XL.keeps MV MW MX (fun s e=>recFacts_of (Bool.and_eq_true_iff.mp e).2) rfl h1 MY Na Nb call
end Mine.H
namespace Mine
open PySem
open _root_.Option renaming some->D,none->I,casesOn->cM,isNone_iff_eq_none->nJ,bind_some->qi,map_eq_some_iff->qo,ne_none_iff_exists'->sg,isSome_iff_exists->BU,map->KP,isSome_eq_false_iff->KX,any_eq_true->Ma,bind_eq_some_iff->w?
open _root_.Bool renaming true->Y,false->ai,and_eq_true_iff->eK,and_eq_true->gH,eq_false_iff->jK,or_eq_true->jT,and_true->lj,false_ne_true->oT,or_eq_true_iff->r9,eq_iff_iff->uw,and_false->uE,or_false->xD,casesOn->xF,true_and->KS,false_or->KV,or_true->KY,not_eq_true->KZ,and_comm->K0,not_not->K6,not_eq_true'->Zh,false_and->Zs
noncomputable def ae:=@absurd
def af:=@if_pos
def am:=@if_neg
def aI:=@congrArg
def aN:=@decide_eq_true
def aU:=@beq_iff_eq
def bQ:=@decide_eq_false
def cJ:=@of_decide_eq_true
def fx:=@bne_iff_ne
def gm:=@beq_eq_false_iff_ne
def iG:=@decide_eq_decide
open _root_.PySem renaming wpAny_bind->aA,Value->aH,wpAny_pure->aW,Str->bc,Addr->bq,Shared->cI,Expr->cN,Obj->iH,Stmt->jr,mainGlobals->js,Heap->lu,wpAny_mono->lw,assignEach->lz,Around->my,sysModules->mA,wpAny_holding->mB,Env->mF,DictEntry->nP,compareOp->o0,Scope->qk,World->qm,builtinsNs->qp,NameKind->qr,wpAny_call_entry->sk,wpAny_field->uH,Params->uL,wpAny_newObj_type->xO,eqIsQuiet_byValue->B3,entryOfKey->B5,IsPart->B7,sliceBounds->B8,getMethod_builtin->Cb,wpAny_standAt->Cd,swapsWith->Ce,cellsFrom->Cg,mem_of_lookup->Ch,wpAny_specialOf->Ln,wpAny_seqItems->Lq,wpAny_truthy_bool->Lu,wpAny_typeOf->LG,call_meets->LO,wpAny_listPart->LP,getitemInPython->LS,wpAny_UnaryOp->LU,behindInMarks->LV,wpAny_Compare1->LW,methodCallPos->LZ,letOwnedTupleGo->L0,wpAny_load->L1,wpAny_execs_nil->L6,bindL->L8,bindC->L9,wpAny_pyHash_int->ZU,wpAny_pyHash_str->ZV,concat_meets->Z3,noFill_tuple_add->Z4,seq_tuple_add->Z5,wpAny_delItem_slot->c?,size_of_entries->e?,wpAny_sequenceKey->s?,wpAny_callSpecial?_slot->t?,wpAny_loadPart->y?,aRefKeyMayBeTheName->z?,slot_list_append->A',call_meetsIn->C',slot_list_setitem->D',recursionLimit->F',codeAny_mono->F?,wpAny_Constant_none->G',markedBehindIn_of_false->H',wpAny_assign_Name->L?,assignInOrder->M',wpAny_pyIter_slot->N?,wpAny_comprehension_free->R?
open _root_.Nat renaming le_refl->aE,le_trans->bh,zero_le->bP,le_add_right->b7,le_of_ble_eq_true->ck,beq->cq,le_succ->dg,lt_of_le_of_lt->dL,add_assoc->eL,add_le_add_left->eP,succ_pos->fe,le_antisymm->fw,zero_add->gk,lt_or_gt_of_ne->gl,le_of_eq->gG,lt_trans->gZ,not_lt->hE,lt_of_lt_of_le->iX,ne_of_gt->jm,testBit_two_pow->jo,eq_of_beq_eq_true->jL,add_le_add->jM,sub_self->jO,testBit_or->jS,min_le_right->jU,le_of_not_lt->ku,blt->lf,ne_of_lt->lh,le_of_succ_le_succ->li,le_of_lt->lk,le_succ_of_le->ln,lt_succ_self->mh,succ_le_succ->mj,min_eq_left->mq,or_zero->mu,add_comm->nA,zero_testBit->nI,casesOn->nN,add_mul->oU,le_of_lt_succ->oV,lt_irrefl->oX,not_succ_le_zero->qf,lt_or_ge->qg,sub_le->qj,zero_mul->rW,one_mul->rX,sub_add_cancel->rY,add_right_comm->r5,min_eq_right->se,two_pow_pos->ur,mul_le_mul_right->ut,and_le_left->ux,add_le_add_right->uy,le_sub_of_add_le->uz,min_le_left->uB,add_sub_cancel'->uC,not_lt_zero->xw,pow_lt_pow_right->xx,not_le->xz,lt_of_le_of_ne->xC,add_sub_cancel_left->xE,sub_eq_zero_of_le->xJ,succ_ne_zero->xK,ble_eq_true_of_le->BE,mod_lt->BJ,lt_succ_of_le->BP,testBit_and->BR,zero_and->BS,max_le->B0,le_of_succ_le->KL,lt_add_of_pos_right->KM,le_add_left->KT,zero_or->K4,or_self->K5,not_succ_le_self->Ld,add_zero->Lf,or_assoc->Lg,le_of_sub_eq_zero->Lh,add_add_add_comm->Zb,mul_add->Zc,mul_assoc->Zd,lt_of_not_le->Zf,mul_le_mul_left->Zg,eq_zero_or_pos->Zn,le_of_pred_lt->Zo,le_zero->Zt,le_max_left->Zu,le_max_right->Zv,add_sub_cancel->ZB,mul_succ->ZJ,lt_succ_of_lt->j',blt_eq->J',sub_lt_sub_left->R',sub_sub_self->S?
open _root_.List renaming length_map->aJ,length_append->aT,mem_cons_self->aV,mem_singleton->aZ,getElem?_eq_some_iff->bo,not_mem_nil->bJ,append_nil->bK,mem_cons->cc,mem_cons_of_mem->cH,prefix_refl->df,append_assoc->dx,mem_append->dH,getElem?_eq_getElem->dK,casesOn->eQ,nodup_cons->fg,all_eq_true->fQ,getElem?_map->gp,mem_map->g7,map_append->g8,getElem?_append_left->ic,length_take->ig,map_cons->ij,length_cons->iF,range->iW,getElem?_eq_none->jp,lookup_cons->jt,getElem?_append_right->jN,mem_append_right->jP,nodup_nil->jQ,mem_of_getElem?->jR,take_append_drop->kw,mem_append_left->mi,eq_nil_of_length_eq_zero->nH,isEmpty_iff->nM,nodup_append->oW,length_set->oY,length_filter_le->oZ,length_singleton->qh,getElem?_set_ne->rZ,length->r6,take_length->sd,length_drop->sf,getElem?_set_self->uu,map_nil->uA,drop_zero->uD,take_of_length_le->uF,getElem_inj->xy,nil_append->xA,drop_append_of_le_length->xB,drop_nil->xG,take_nil->xH,getElem_mem->xI,find?_cons->xM,replicate->BF,all_append->BI,map_map->BL,mem_range->BM,flatten_cons->BN,dropLast_concat_getLast->BO,drop_length->BV,filter_cons_of_pos->BW,getElem?_take_of_lt->BX,dropLast_eq_take->BY,forIn_cons->B2,all_map->KO,set_append_right->KQ,drop_left->KU,range'->K7,range_eq_range'->K8,filter_cons_of_neg->La,filter_append->Lb,getElem?_of_mem->Le,length_range->Li,drop_eq_getElem_cons->Lj,take_add_one->Lk,pairwise_cons->Lz,filterMap_cons->LC,size_toArray->LH,zip_append->L7,cons_ne_nil->Za,prefix_append->Zk,mem_singleton_self->Zl,flatten_nil->Zm,map_take->Zp,dropLast_concat->Zq,ext_getElem?->Zw,filter_nil->Zy,filter->Zz,map_id->ZA,filter_eq_nil_iff->ZC,mem_filter->ZD,contains_iff_mem->ZE,dropLast_subset->ZF,length_dropLast->ZG,length_eq_one_iff->ZH,getElem?_drop->ZI,Pairwise->ZO,map_id'->ZP,drop_of_length_le->ZQ,range_succ->ZR,getD->ZS,any_cons->a?,filterMap_map->p?,length_filterMap_le->u?,take_take->E?,findIdx?_cons->M?,elem_iff->Q?,lookup->T?,of_mem_zip->U?
open _root_.Option.some renaming inj->b8
open _root_.Int renaming ofNat_lt->cv,not_le->cX,le_refl->fR,natCast_nonneg->ib,toNat_natCast->ie,not_lt->ii,ofNat->kt,toNat_of_nonneg->lr,natCast_pos->mc,le_of_lt->mz,ofNat_le->nD,lt_trans->rV,le_trans->uG,le_antisymm->BQ,ofNat_sub->BZ,lt_of_lt_of_le->KI,ofNat_inj->KN,lt_iff_le_and_ne->KW,toNat_lt->LA,min_eq_left->LB,add_sub_cancel->Zi,add_comm->Zj,le_of_lt_add_one->Zr,sub_neg->ZL,natCast_pow->ZM,ne_of_gt->Z0,fdiv_eq_ediv_of_nonneg->Z1,natAbs_of_nonneg->Z2,le_of_eq->j?,zero_add->k?,max_comm->l?,eq_ofNat_of_zero_le->m?,max_eq_right->n?,le_min->o?
open _root_.Int.ofNat renaming inj->dq
open _root_.PySem.Heap renaming get?_push_of_some->gq,get?_push_size->kx,lt_size->sj,get?_update_self->Lx,get?_update_other->Ly,size_push->J?
open _root_.PySem.Expr renaming casesOn->gI,Constant->aZ0,Tuple->a30
open _root_.List.cons renaming inj->gY
open _root_.Ne renaming symm->g9
open _root_.PySem.Builtin renaming bitNot->jq,bitAnd->ko,bitOr->qe,bitXor->KJ
open _root_.PySem.PyData renaming strOk->mf,eqv->xL,keyHash->xP,depthAll->B4,canLayAll0->Lr,eqvAll->Ls,list->a'
open _root_.ForInStep renaming yield->mw
open _root_.Array renaming length_toList->mE,getElem?_toList->B6,toList_push->Lm,forIn_toList->ZX,toList_append->Z9,mem_toList_iff->b?,getElem?_eq_some_iff->f?,eraseIdxIfInBounds->g',toList_eraseIdx->g?,getElem?_eq_none->N'
open _root_.Decidable renaming byContradiction->nK,not_not->uv
open _root_.PySem.Stmt renaming casesOn->si
open _root_.PySem.W renaming Looks->uI,emptyDict->Cc,plainGet_of->LJ,looks_nsIn->LQ,keeps_K->LY,getL->x?,looks_findIn->K?
open _root_.PySem.Code renaming builtin->uJ
open _root_.PySem.Value renaming casesOn->uK,isInt_shape->Lv,ref->Lw,bool->v?
open _root_.PyProof.Rows renaming IntsAre->xN,slot_tuple_getitem->LF,slicePart_none->q?,subscriptTail->G?,add_int->aA0,sub_int->aB0,mul_int->aC0,floordiv_int->aD0,mod_int'->aE0,and_int->aF0,or_int->aG0,xor_int->aH0,lshift_int_small->aI0,rshift_int->aJ0,add_str->aK0,truthy_none->aL0,truthy_tuple->aM0,eq_bool->aN0,ne_bool->aO0,neg_int->aX0,invert_int->aY0
open _root_.PySem.W.Fast renaming tw13343964577679436407->xQ,tw8326940854005059898->W?,tw9446332074065402090->a40,te9446332074065402090->a50
open _root_.Iff renaming rfl->BG
open _root_.Eq renaming symm->BH
open _root_.Prod renaming ext->BK,casesOn->K9
open _root_.PySem.BoolOp renaming casesOn->B1
open _root_.PySem.Builtin.Tuple renaming tupleExact->B9,tupleHashOf->ZT,tupleItemsOf->ZW,tupleIsExact->aS0
open _root_.PySem.Sem renaming wp_mono->Ca,wp_bind'->LI,wp_holding->H?,wp_cmd_standAt->I',wp_operate->I?
open _root_.PySem.Challenge renaming rw_pq0593_01->Ci
open _root_.PySem.Str renaming ofString->KK
open _root_.And renaming right->Ll
open _root_.PySem.Builtin.Slice renaming slicePlaces->LD,sliceAdjust->r?,slicePartIndex->aQ0,sliceApplied->aR0
open _root_.PySem.Obj renaming putName->LK,mapSeq->LN,mapDictKeys->h?,data_mapDictKeys->i?
open _root_.PySem.F renaming plainAttrs_list->LL,slot_dict_get->LM,slot_tuple_add->Z6,entry_tuple_add->Z7,args_tuple_add_2->Z8,slot_dict_delitem->d?,slot_list_extend->A?,slot_list_pop->B?,entry_dict_get->C?,slot_list_delitem->E',slot_tuple_iterator_iter->O',slot_range_iterator_iter->O?
open _root_.PySem.W.Looks renaming of_pure->LX
open _root_.PySem.NameKind renaming cell->L4
open _root_.PySem.W.WTm renaming holds->Mb,value->V'
open _root_.PySem.W.R renaming filterR->Mc
open _root_.False renaming elim->Ze
open _root_.Exists renaming elim->Zx
open _root_.Nat.succ renaming inj->ZK
open _root_.Nat.le renaming dest->ZN
open _root_.PySem.SeqAt renaming compareEq_reads->ZY,compareNe_reads->ZZ
open _root_.PySem.Builtin.List renaming listSubscript?->D?,listTooLong->aU0,listItems->aW0
open _root_.PySem.Builtin.Range renaming rangeSize->P?,small->a00
open _root_.PySem.W.WData renaming int->V?
open _root_.Classical renaming byContradiction->aq0,not_not->ar0,em->ay0
open _root_.List.Perm renaming swap->au0
open _root_.List.Pairwise renaming imp_of_mem->av0
open _root_.List.Sublist renaming append->aw0,refl->ax0
open _root_.PySem.Builtin.Int renaming intBits->az0
open _root_.PySem.Builtin.Dict renaming takeOut->aP0
open _root_.PySem.DictEntry renaming refKey->aT0
open _root_.PySem.MeetsSeq renaming list_pop_last->aV0
open _root_.PySem.AutoIntOps renaming iadd_0->a10,isub_0->a20
@[elab_as_elim]theorem qy.{u}{bz:Sort u}{a b:bz}{motive:bz->Prop}(h:a=b)(k:motive b):motive a:=by cases h;exact k
@[elab_as_elim]theorem uQ.{u}{bz:Sort u}{a b:bz}{motive:bz->Prop}(h:b=a)(k:motive b):motive a:=by cases h;exact k
@[elab_as_elim]theorem CF{a b:Prop}{motive:Prop->Prop}(h:b↔a)(k:motive b):motive a:=by cases propext h;exact k
theorem cps{G:Prop}(h:∀P:Prop,(G->P)->P):G:=h G id
theorem xV.{u}{bz:Sort u}{a b c:bz}(h:a=b)(k:a=c):b=c:=h.symm.trans k
@[elab_as_elim]theorem xW{a b:Prop}{motive:Prop->Prop}(h:a↔b)(k:motive b):motive a:=by cases propext h;exact k
set_option genInjectivity true in set_option genCtorIdx true in inductive aa where|none|bool(b:Bool)|int(i:Int)|str(s:bc)|ab(l:List aa)|ref(n:Nat)
mutual noncomputable def aa.beq:aa->aa->Bool
|.none,b=>match b with|.none=>Y|_=>ai
|.bool a,b=>match b with|.bool b=>a==b|_=>ai
|.int a,b=>match b with|.int b=>decide (a=b)|_=>ai
|.str a,b=>match b with|.str b=>a==b|_=>ai
|.ab a,b=>match b with|.ab b=>aa.xX a b|_=>ai
|.ref a,b=>match b with|.ref b=>decide (a=b)|_=>ai noncomputable def aa.xX:List aa->List aa->Bool
|[],l=>match l with|[]=>Y|_::_=>ai
|a::r,l=>match l with|[]=>ai|b::q=>aa.beq a b&&aa.xX r q end
theorem aa.ff{a b:aa}(h:a=b->False):ai=Y↔a=b:=iff_of_false oT h
mutual theorem aa.uR:∀a b:aa,aa.beq a b=Y↔a=b
|.none,b=>by cases b<;>first|exact iff_of_true rfl rfl|exact aa.ff aa.noConfusion
|.bool a,b=>by cases b<;>first|exact aa.ff aa.noConfusion|exact aU.trans ⟨aI aa.bool,aa.bool.inj⟩
|.int a,b=>by cases b<;>first|exact aa.ff aa.noConfusion|exact decide_eq_true_iff.trans ⟨aI aa.int,aa.int.inj⟩
|.str a,b=>by cases b<;>first|exact aa.ff aa.noConfusion|exact aU.trans ⟨aI aa.str,aa.str.inj⟩
|.ab a,b=>by cases b<;>first|exact aa.ff aa.noConfusion|exact(aa.xY a _).trans ⟨aI aa.ab,aa.ab.inj⟩
|.ref a,b=>by cases b<;>first|exact aa.ff aa.noConfusion|exact decide_eq_true_iff.trans ⟨aI aa.ref,aa.ref.inj⟩theorem aa.xY:∀a b:List aa,aa.xX a b=Y↔a=b
|[],b=>by cases b<;>first|exact iff_of_true rfl rfl|exact iff_of_false oT (Za _ _).symm
|a::r,b=>by cases b with|nil=>exact iff_of_false oT (Za _ _)|cons b q=>exact eK.trans ⟨fun h=>by rw[(aa.uR a b).mp h.1,(aa.xY r q).mp h.2],fun h=>⟨(aa.uR a b).mpr (gY h).1,(aa.xY r q).mpr (gY h).2⟩⟩end
noncomputable instance:DecidableEq aa:=fun a b=>if h:aa.beq a b=Y then .isTrue ((aa.uR a b).mp h)else .isFalse fun e=>h ((aa.uR a b).mpr e)
set_option genCtorIdx true in inductive AO where|list(xs:List aa)|dict(es:List (aa×aa))|bj(c:Nat)(fs:List (Nat×aa))
noncomputable abbrev AH:=List AO
set_option genCtorIdx true in inductive iZ where|add|sub|mul|fdiv|mod|band|bor|bxor|shl|shr
set_option genCtorIdx true in inductive qz where|eq|ne|lt|le|gt|ge
set_option genCtorIdx true in inductive Bi where|len|max|min|sorted|tuple|str
inductive Tg where|ag(i:Nat)|fT(l:List Nat)
mutual inductive Ex where|lit(d:aa)|var(i:Nat)|aj(g:Nat)|ao(e:Ex)(f:Nat)|ad(a i:Ex)|hH(a lo hi:Ex)|aK(op:iZ)(a b:Ex)|neg(a:Ex)|nV(a:Ex)|ah(op:qz)(a b:Ex)|dz(p:Bool)(a:Ex)|aX(p:Bool)(a b:Ex)|no(a:Ex)|and(a b:Ex)|or(a b:Ex)|ite(t:Te)(a b:Ex)|ab(es:Es)|dA(es:Es)|io|comp(tg:Tg)(it:It)(cond:Te)(kF:Ex)(nc:List (Option bc))|call(f:Nat)(es:Es)|new(c:Nat)(es:Es)|aQ(m:Nat)(o:Ex)(es:Es)|bi(b:Bi)(es:Es)|i6 inductive Es where|nil|cons(e:Ex)(es:Es)inductive Te where|ex(e:Ex)|no(t:Te)|and(a b:Te)|or(a b:Te)|gr(a b c:Ex)inductive It where|ex(e:Ex)|range(n:Ex)end
mutual inductive Sm where|an(t:Tg)(e:Ex)|cS(o:Ex)(f:Nat)(e:Ex)|gs(o i e:Ex)|qA(i:Nat)(op:iZ)(e:Ex)|o6(o:Ex)(f:Nat)(op:iZ)(e:Ex)|expr(e:Ex)|ifs(t:Te)(a b:Ss)|for(t:Tg)(it:It)(b:Ss)|while(t:Te)(b:Ss)|ret(e:Ex)|sr|cont|o7(o i:Ex)|qB(o lo:Ex)|i6 inductive Ss where|nil|cons(s:Sm)(ss:Ss)end
noncomputable abbrev Lc:=List (Option aa)
noncomputable abbrev Po:=aa->AH->Prop
noncomputable abbrev ju:=Nat->List aa->AH->Po->Prop
noncomputable def av:Nat:=2^24-100
noncomputable def small(i:Int):Bool:=match i with|.ofNat n=>lf n (2^60)|.negSucc n=>lf (n+1) (2^60)
theorem xZ{i:Int}:small i=Y↔-(2^60)<i/\i<2^60:=by rw[show(2:Int)^60=((2^60:Nat):Int)by decide+kernel];have z:(0:Int)<((2^60:Nat):Int):=mc.mpr (ur 60);unfold small;generalize 2^60=k at z;cases i with|ofNat n=>exact⟨fun h=>⟨KI (Int.neg_neg_of_pos z) (ib n),cv.mpr (ck h)⟩,fun h=>BE (cv.mp h.2)⟩|negSucc n=>exact⟨fun h=>⟨Int.neg_lt_neg (cv.mpr (ck h)),rV (Int.negSucc_lt_zero n) z⟩,fun h=>BE (cv.mp (Int.lt_of_neg_lt_neg h.1))⟩
mutual noncomputable def ce:Nat->aa->Bool|n,d=>match d with|.none=>Y|.int _=>Y|.str s=>mf s|.ab l=>(match n with|0=>ai|n+1=>gu n l)|.bool _=>ai|.ref _=>ai noncomputable def gu:Nat->List aa->Bool|n,l=>match l with|[]=>Y|d::r=>ce n d&&gu n r end
mutual noncomputable def fh:Nat->aa->Bool|n,d=>match d with|.int _=>Y|.str s=>mf s|.ab l=>(match n with|0=>ai|n+1=>kG n l)|.none=>ai|.bool _=>ai|.ref _=>ai noncomputable def kG:Nat->List aa->Bool|n,l=>match l with|[]=>Y|d::r=>fh n d&&kG n r end
noncomputable def eF(d:aa):Bool:=fh 6 d
noncomputable def cf(d:aa):Bool:=ce 40 d
noncomputable def hJ(σ:AH)(a b:aa):Option Bool:=match a with|.int x=>(match b with|.int y=>D (decide (x=y))|b=>if cf b then D ai else I)|.bool x=>(match b with|.bool y=>D (x==y)|_=>I)|.ref i=>(match b with|.ref j=>(match σ[i]? with|some (.list xs)=>(match σ[j]? with|some (.list ys)=>if xs.all cf&&ys.all cf then D (decide (xs=ys))else I|_=>I)|_=>I)|_=>I)|a=>if cf a&&cf b then D (decide (a=b))else I
noncomputable def lD(σ:AH)(d:aa):Option Bool:=match d with|.none=>D ai|.bool b=>D b|.int i=>D (decide (i≠0))|.str _=>I|.ab l=>if l.length<av then D (!l.isEmpty)else I|.ref i=>match σ[i]? with|some (.list xs)=>if xs.length<av then D (!xs.isEmpty)else I|_=>I
noncomputable def qC(op:iZ)(x y:Int):Option Int:=match op with|.add=>D (x+y)|.sub=>D (x-y)|.mul=>if small x||small y then D (x*y)else I|.fdiv=>if 0<y&&y<1000000000 then D (x/y)else I|.mod=>if 0<y then D (x%y)else I|.band=>D (ko x y)|.bor=>D (qe x y)|.bxor=>D (KJ x y)|.shl=>if 0<=y&&y<60&&small x then D (x*2^y.toNat)else I|.shr=>if 0<=y&&y<60 then D (x/2^y.toNat)else I
noncomputable def iZ.uS:iZ->Bool|.add=>Y|.sub=>ai|.mul=>ai|.fdiv=>ai|.mod=>ai|.band=>ai|.bor=>ai|.bxor=>ai|.shl=>ai|.shr=>ai
noncomputable def lE(op:iZ)(σ:AH)(a b:aa):Option (aa×AH):=match a with|.int x=>(match b with|.int y=>(qC op x y).map fun z=>(.int z,σ)|_=>I)|.ab x=>(match b with|.ab y=>if op.uS&&decide (x.length+y.length<av)then D (.ab (x++y),σ)else I|_=>I)|.str x=>(match b with|.str y=>if op.uS&&decide (x.cps.size+y.cps.size<1000)then D (.str (x++y),σ)else I|_=>I)|_=>I
noncomputable def kH(op:qz)(x y:Int):Bool:=match op with|.eq=>decide (x=y)|.ne=>decide (x≠y)|.lt=>decide (x<y)|.le=>decide (x<=y)|.gt=>decide (x>y)|.ge=>decide (x>=y)
noncomputable def sw(f:Int->Int->Bool)(a b:aa):Option Bool:=match a with|.int x=>(match b with|.int y=>D (f x y)|_=>I)|_=>I
noncomputable def nW(op:qz)(σ:AH)(a b:aa):Option Bool:=match op with|.eq=>hJ σ a b|.ne=>(match hJ σ a b with|some c=>D (!c)|none=>I)|.lt=>sw (kH .lt) a b|.le=>sw (kH .le) a b|.gt=>sw (kH .gt) a b|.ge=>sw (kH .ge) a b
noncomputable def lF(l:List aa)(i:Int):Option aa:=if small i&&decide (l.length<av)then if 0<=i then l[i.toNat]? else if 0<=i+l.length then l[(i+l.length).toNat]? else I else I
noncomputable def Nd(s:bc)(i:Int):Option aa:=if 0<=i&&small i then(s.cps[i.toNat]?).map fun c=>.str ⟨#[c]⟩else I
noncomputable def b9:List (aa×aa)->aa->Option aa|[],_=>I|(k',v')::r,k=>if k'=k then D v' else b9 r k
noncomputable def eR:List (aa×aa)->aa->aa->List (aa×aa)|[],k,v=>[(k,v)]|(k',v')::r,k,v=>if k'=k then(k',v)::r else(k',v')::eR r k v
noncomputable def o8:List (aa×aa)->aa->List (aa×aa)|[],_=>[]|(k',v')::r,k=>if k'=k then r else(k',v')::o8 r k
noncomputable def jW:List (Nat×aa)->Nat->Option aa|[],_=>I|(f',v')::r,f=>if f'=f then D v' else jW r f
noncomputable def iI:List (Nat×aa)->Nat->aa->List (Nat×aa)|[],f,v=>[(f,v)]|(f',v')::r,f,v=>if f'=f then(f',v)::r else(f',v')::iI r f v
noncomputable def cg(d:aa):Nat:=match d with|.int _=>1|.ab _=>2|_=>0
noncomputable def dc(es:List (aa×aa))(k:aa):Bool:=eF k&&cg k !=0&&es.all fun p=>cg p.1==cg k
noncomputable def cY(σ:AH)(a i:aa):Option aa:=match a with|.ab l=>(match i with|.int k=>lF l k|_=>I)|.str s=>(match i with|.int k=>Nd s k|_=>I)|.ref j=>(match σ[j]? with|some (.list xs)=>(match i with|.int k=>lF xs k|_=>I)|some (.dict es)=>if dc es i&&cg i==2 then b9 es i else I|_=>I)|_=>I
noncomputable def bound(n:Nat)(uU:Nat)(d:aa):Option Nat:=match d with|.none=>D uU|.int i=>if small i then D (if i<0 then(i+n).toNat else min i.toNat n)else I|_=>I
noncomputable def dS(l:List aa)(lo hi:aa):Option (List aa):=if l.length<av then match bound l.length 0 lo with|some a=>(match bound l.length l.length hi with|some b=>D ((l.take b).drop a)|none=>I)|none=>I else I
noncomputable def qD(σ:AH)(a lo hi:aa):Option (aa×AH):=match a with|.ab l=>(match dS l lo hi with|some r=>D (.ab r,σ)|none=>I)|.ref j=>(match σ[j]? with|some (.list xs)=>(match dS xs lo hi with|some r=>D (.ref σ.length,σ++[.list r])|none=>I)|_=>I)|_=>I
noncomputable def ip(σ:AH)(a b:aa):Option Bool:=match b with|.ab l=>if cf a&&l.all cf then D (l.contains a)else I|.ref j=>(match σ[j]? with|some (.list xs)=>if cf a&&xs.all cf then D (xs.contains a)else I|some (.dict es)=>if dc es a then D (b9 es a).isSome else I|_=>I)|_=>I
noncomputable def jv:List aa->Option (List Int)|[]=>D []|.int i::r=>(jv r).map (i::·)|_::_=>I
noncomputable def nX(x:Int):List Int->List Int|[]=>[x]|y::r=>if x<=y then x::y::r else y::nX x r
noncomputable def jX:List Int->List Int|[]=>[]|x::r=>nX x (jX r)
noncomputable def lG:Int->List Int->Int|m,[]=>m|m,x::r=>lG (if x<m then x else m) r
noncomputable def x8(σ:AH)(d:aa):Option aa:=match d with|.ab l=>if l.length<av then D (.int l.length)else I|.ref j=>(match σ[j]? with|some (.list xs)=>if xs.length<av then D (.int xs.length)else I|_=>I)|_=>I
noncomputable def nY(as:List aa):Option aa:=match as with|[x]=>D x|_=>I
noncomputable def o9(as:List aa):Option (Int×Int):=match as with|[.int x,.int y]=>D (x,y)|_=>I
noncomputable def nZ(σ:AH)(d:aa):Option (List aa):=match d with|.ref j=>(match σ[j]? with|some (.list xs)=>D xs|_=>I)|_=>I
noncomputable def dictAt(σ:AH)(d:aa):Option (List (aa×aa)):=match d with|.ref j=>(match σ[j]? with|some (.dict es)=>D es|_=>I)|_=>I
noncomputable def x9(σ:AH)(d:aa):Option aa:=(nZ σ d).bind fun xs=>(jv xs).bind fun l=>match l with|x::r=>if r.length<av then D (.int (lG x r))else I|[]=>I
noncomputable def qE(σ:AH)(d:aa):Option (aa×AH):=match d with|.ref j=>(match σ[j]? with|some (.dict es)=>(jv (es.map (·.1))).bind fun l=>if l.length<60 then D (.ref σ.length,σ++[.list ((jX l).map .int)])else I|_=>I)|_=>I
noncomputable def ya(σ:AH)(d:aa):Option aa:=match d with|.ab l=>D (.ab l)|d=>(nZ σ d).bind fun xs=>if xs.length<av then D (.ab xs)else I
noncomputable def yb(d:aa):Option aa:=match d with|.int i=>if 0<=i&&i<10 then D (.str ⟨#[48+i.toNat]⟩)else I|_=>I
noncomputable def iJ(b:Bi)(σ:AH)(as:List aa):Option (aa×AH):=match b with|.len=>(nY as).bind fun x=>(x8 σ x).map fun d=>(d,σ)|.max=>(o9 as).map fun p=>(.int (if p.2>p.1 then p.2 else p.1),σ)|.min=>(match as with|[x]=>(x9 σ x).map fun d=>(d,σ)|as=>(o9 as).map fun p=>(.int (if p.2<p.1 then p.2 else p.1),σ))|.sorted=>(nY as).bind fun x=>qE σ x|.tuple=>(nY as).bind fun x=>(ya σ x).map fun d=>(d,σ)|.str=>(nY as).bind fun x=>(yb x).map fun d=>(d,σ)
noncomputable def qF(m:Nat)(j:Nat)(xs:List aa)(σ:AH)(as:List aa):Option (aa×AH):=match m with|0=>(nY as).bind fun v=>if xs.length<av&&j !=0 then D (.none,σ.set j (.list (xs++[v])))else I|1=>(nY as).bind fun v=>(match v with|.ref k=>(match σ[k]? with|some (.list ys)=>if xs.length+ys.length<av&&j !=k&&j !=0 then D (.none,σ.set j (.list (xs++ys)))else I|_=>I)|_=>I)|2=>(match as with|[]=>(match xs.getLast? with|some v=>if xs.length<av&&j !=0 then D (v,σ.set j (.list xs.dropLast))else I|none=>I)|_::_=>I)|_=>I
noncomputable def uV(m:Nat)(es:List (aa×aa))(σ:AH)(as:List aa):Option (aa×AH):=match m with|3=>(match as with|[k]=>if dc es k&&cg k==1 then D ((b9 es k).getD .none,σ)else I|[k,d]=>if dc es k&&cg k==2 then D ((b9 es k).getD d,σ)else I|_=>I)|_=>I
structure Wd where
mI:Nat->Option aa
gx:Nat->Nat->Bool
n5:Nat->Nat->Option Nat
uW:Nat->Option (Option Nat)
noncomputable def n8:Lc->List Nat->List aa->Option Lc|lc,[],[]=>D lc|lc,i::is,d::ds=>if i<lc.length then n8 (lc.set i (D d)) is ds else I|_,_,_=>I
noncomputable def fi(lc:Lc)(t:Tg)(d:aa):Option Lc:=match t with|.ag i=>if i<lc.length then D (lc.set i (D d))else I|.fT is=>match d with|.ab l=>n8 lc is l|_=>I
def lH(g:Option (Nat×List aa))(σ:AH):Prop:=match g with|none=>True|some (i,xs)=>σ[i]?=D (.list xs)
noncomputable def sz(σ:AH)(d:aa):Option (List aa×Option (Nat×List aa)):=match d with
|.ab l=>if l.length<av then D (l,I)else I|.ref i=>match σ[i]? with|some (.list xs)=>if xs.length<av then D (xs,D (i,xs))else I|_=>I
|_=>I
noncomputable def eU(W:Wd)(σ:AH)(d:aa)(f:Nat):Option aa:=match d with
|.ref i=>match σ[i]? with|some (.bj c fs)=>if W.gx c f then jW fs f else I|_=>I
|_=>I
noncomputable def pb(W:Wd)(σ:AH)(d:aa)(f:Nat)(v:aa):Option AH:=match d with
|.ref j=>match σ[j]? with|some (.bj c fs)=>if W.gx c f&&decide (fs.length<500)&&j !=0 then D (σ.set j (.bj c (iI fs f v)))else I|_=>I
|_=>I
noncomputable def i7(σ:AH)(j:Nat)(k v:aa):Option AH:=match σ[j]? with|some (.dict es)=>if dc es k&&decide (es.length<av)&&j !=0 then D (σ.set j (.dict (eR es k v)))else I|some (.list xs)=>(match k with|.int k=>if 0<=k&&small k&&decide (k.toNat<xs.length)&&decide (xs.length<av)&&j !=0 then D (σ.set j (.list (xs.set k.toNat v)))else I|_=>I)|_=>I
noncomputable def uX(σ:AH)(j:Nat)(k:aa):Option AH:=match σ[j]? with|some (.dict es)=>if dc es k&&cg k==2&&(b9 es k).isSome&&decide (es.length<av)&&j !=0 then D (σ.set j (.dict (o8 es k)))else I|_=>I
noncomputable def pe(σ:AH)(j:Nat)(l:aa):Option AH:=match σ[j]? with
|some (.list xs)=>match l with|.int i=>if 0<=i&&small i&&decide (xs.length<av)&&j !=0 then D (σ.set j (.list (xs.take i.toNat)))else I|_=>I
|_=>I
noncomputable def iK(d:aa):Bool:=match d with|.ref _=>ai|.ab _=>ai|_=>Y
noncomputable def yc(op:iZ)(x y:Int):Option Int:=match op with|.add=>D (x+y)|.sub=>D (x-y)|_=>I
def br(c:Bool)(A B:Prop):Prop:=match c with|true=>A|false=>B
def gO{bz:Type}(o:Option bz)(p:bz->Prop):Prop:=match o with|some v=>p v|none=>False
def gP{bz:Type}(o:Option (bz×AH))(p:bz->AH->Prop):Prop:=match o with|some (v,w)=>p v w|none=>False
def gL(o:Option (Option aa))(p:aa->Prop):Prop:=match o with|some (D v)=>p v|_=>False
def jY(d:aa)(p:Int->Prop):Prop:=match d with|.int i=>p i|_=>False
def pf(d:aa)(p:Nat->Prop):Prop:=match d with|.ref i=>p i|_=>False
def CG(d:aa)(p:Prop):Prop:=match d with|.none=>p|_=>False
noncomputable def jZ(g:Option (Nat×List aa))(t:Tg)(c:Lc->AH->(Bool->AH->Prop)->Prop)(e:Lc->AH->Po->Prop):List aa->List aa->Lc->AH->Po->Prop|[],dM,lc,σ,k=>lH g σ/\k (.ref σ.length) (σ++[.list dM])|x::r,dM,lc,σ,k=>lH g σ/\gO (fi lc t x) fun j0=>c j0 σ fun b σ=>br b (e j0 σ fun v σ=>jZ g t c e r (dM++[v]) j0 σ k) (jZ g t c e r dM j0 σ k)
section
variable(W:Wd)(K:ju)
def dr(m j:Nat)(uY σ:AH)(vs:List aa)(k:Po):Prop:=gO uY[j]? fun o=>match o with|.bj c fs=>jW fs m=I/\gO (W.n5 c m) fun f=>K f (.ref j::vs) σ k|.list _=>gO (nZ σ (.ref j)) fun xs=>gP (qF m j xs σ vs) k|.dict _=>gO (dictAt σ (.ref j)) fun es=>gP (uV m es σ vs) k
def lI(c:Nat)(vs:List aa)(σ:AH)(k:Po):Prop:=gO (W.uW c) fun i=>match i with|some f=>K f (.ref σ.length::vs) (σ++[.bj c []]) fun d au=>CG d (k (.ref σ.length) au)|none=>(match vs with|[]=>k (.ref σ.length) (σ++[.bj c []])|_=>False)
mutual noncomputable def wE:Ex->Lc->AH->Po->Prop|.lit d,_,σ,k=>k d σ|.var i,lc,σ,k=>gL lc[i]? fun d=>k d σ|.aj g,_,σ,k=>gO (W.mI g) fun d=>k d σ|.ao e f,lc,σ,k=>wE e lc σ fun d σ=>gO (eU W σ d f) fun v=>k v σ|.ad a i,lc,σ,k=>wE a lc σ fun x σ=>wE i lc σ fun y σ=>gO (cY σ x y) fun d=>k d σ|.hH a lo hi,lc,σ,k=>wE a lc σ fun x σ=>wE lo lc σ fun l σ=>wE hi lc σ fun h σ=>gP (qD σ x l h) k|.aK op a b,lc,σ,k=>wE a lc σ fun x σ=>wE b lc σ fun y σ=>gP (lE op σ x y) k|.neg a,lc,σ,k=>wE a lc σ fun x σ=>jY x fun i=>k (.int (-i)) σ|.nV a,lc,σ,k=>wE a lc σ fun x σ=>jY x fun i=>k (.int (-i-1)) σ|.ah op a b,lc,σ,k=>wE a lc σ fun x σ=>wE b lc σ fun y σ=>gO (nW op σ x y) fun c=>k (.bool c) σ|.dz p a,lc,σ,k=>wE a lc σ fun x σ=>k (.bool (decide (x=.none)==p)) σ|.aX p a b,lc,σ,k=>wE a lc σ fun x σ=>wE b lc σ fun y σ=>gO (ip σ x y) fun c=>k (.bool (c==p)) σ|.no a,lc,σ,k=>wE a lc σ fun x σ=>gO (lD σ x) fun c=>k (.bool (!c)) σ|.and a b,lc,σ,k=>wE a lc σ fun x σ=>gO (lD σ x) fun c=>br c (wE b lc σ k) (k x σ)|.or a b,lc,σ,k=>wE a lc σ fun x σ=>gO (lD σ x) fun c=>br c (k x σ) (wE b lc σ k)|.ite t a b,lc,σ,k=>wT t lc σ fun c σ=>br c (wE a lc σ k) (wE b lc σ k)|.ab es,lc,σ,k=>lJ es lc σ fun vs σ=>k (.ab vs) σ|.dA es,lc,σ,k=>lJ es lc σ fun vs σ=>k (.ref σ.length) (σ++[.list vs])|.io,_,σ,k=>k (.ref σ.length) (σ++[.dict []])|.comp tg it cond kF _,lc,σ,k=>wI it lc σ fun xs g σ=>jZ g tg (wT cond) (wE kF) xs [] lc σ k|.call f es,lc,σ,k=>lJ es lc σ fun vs σ=>K f vs σ k|.new c es,lc,σ,k=>lJ es lc σ fun vs σ=>lI W K c vs σ k|.aQ m o es,lc,σ,k=>wE o lc σ fun d uY=>lJ es lc uY fun vs σ=>pf d fun j=>dr W K m j uY σ vs k|.bi b es,lc,σ,k=>lJ es lc σ fun vs σ=>gP (iJ b σ vs) k|.i6,_,_,_=>False noncomputable def lJ:Es->Lc->AH->(List aa->AH->Prop)->Prop|.nil,_,σ,k=>k [] σ|.cons e es,lc,σ,k=>wE e lc σ fun v σ=>lJ es lc σ fun vs σ=>k (v::vs) σ noncomputable def wT:Te->Lc->AH->(Bool->AH->Prop)->Prop|.ex e,lc,σ,k=>wE e lc σ fun x σ=>gO (lD σ x) fun c=>k c σ|.no a,lc,σ,k=>wT a lc σ fun b σ=>k (!b) σ|.and a b,lc,σ,k=>wT a lc σ fun c σ=>br c (wT b lc σ k) (k ai σ)|.or a b,lc,σ,k=>wT a lc σ fun c σ=>br c (k Y σ) (wT b lc σ k)|.gr a b c,lc,σ,k=>wE a lc σ fun x σ=>wE b lc σ fun y σ=>jY x fun i=>jY y fun j=>br (decide (i<=j)) (wE c lc σ fun z σ=>jY z fun l=>k (decide (j<l)) σ) (k ai σ)noncomputable def wI:It->Lc->AH->(List aa->Option (Nat×List aa)->AH->Prop)->Prop|.range n,lc,σ,k=>wE n lc σ fun x σ=>jY x fun i=>(i<1000000&&small i)=Y/\k ((iW i.toNat).map fun i=>.int (kt i)) I σ|.ex e,lc,σ,k=>wE e lc σ fun x σ=>gO (sz σ x) fun p=>k p.1 p.2 σ end
noncomputable abbrev Kn:=Lc->AH->Prop
structure Kt where
kn:Kn
kr:Po
kc:Kn
noncomputable def kR(k:Po):Kt:=⟨fun _ σ=>k .none σ,k,fun _ σ=>k .none σ⟩
noncomputable def lL(aw:Kt)(K:Kn):Kt:=⟨K,aw.kr,K⟩
noncomputable def kS(f:Lc->AH->Kt->Prop)(aw:Kt):Kt:=⟨fun lc σ=>f lc σ aw,aw.kr,aw.kc⟩
noncomputable def qG(t:Lc->AH->(Bool->AH->Prop)->Prop)(b:Lc->AH->Kn->Prop):Nat->Lc->AH->Kn->Prop|0,_,_,_=>False|n+1,lc,σ,kn=>t lc σ fun c σ=>br c (b lc σ fun lc σ=>qG t b n lc σ kn) (kn lc σ)
noncomputable def pg(g:Option (Nat×List aa))(t:Tg)(b:Lc->AH->Kn->Prop):List aa->Lc->AH->Kn->Prop|[],lc,σ,kn=>lH g σ/\kn lc σ|x::r,lc,σ,kn=>lH g σ/\gO (fi lc t x) fun j0=>b j0 σ fun lc σ=>pg g t b r lc σ kn
mutual noncomputable def wS:Sm->Lc->AH->Kt->Prop|.an t e,lc,σ,aw=>wE W K e lc σ fun v σ=>gO (fi lc t v) fun j0=>aw.kn j0 σ|.cS o f e,lc,σ,aw=>wE W K e lc σ fun v σ=>wE W K o lc σ fun d σ=>gO (pb W σ d f v) fun au=>aw.kn lc au|.gs o i e,lc,σ,aw=>wE W K e lc σ fun v σ=>wE W K o lc σ fun d σ=>pf d fun j=>wE W K i lc σ fun x σ=>gO (i7 σ j x v) fun au=>aw.kn lc au|.qA i op e,lc,σ,aw=>gL lc[i]? fun x=>wE W K e lc σ fun d σ=>jY x fun x=>jY d fun v=>gO (yc op x v) fun z=>gO (fi lc (.ag i) (.int z)) fun j0=>aw.kn j0 σ|.o6 o f op e,lc,σ,aw=>wE W K o lc σ fun d σ=>gO (eU W σ d f) fun a=>wE W K e lc σ fun y σ=>jY a fun a=>jY y fun v=>gO (yc op a v) fun z=>gO (pb W σ d f (.int z)) fun au=>aw.kn lc au|.expr e,lc,σ,aw=>wE W K e lc σ fun d σ=>br (iK d) (aw.kn lc σ) False|.ifs t a b,lc,σ,aw=>wT W K t lc σ fun c σ=>br c (wSs a lc σ aw) (wSs b lc σ aw)|.for t it b,lc,σ,aw=>wI W K it lc σ fun xs g σ=>pg g t (fun lc σ k=>wSs b lc σ (lL aw k)) xs lc σ aw.kn|.while t b,lc,σ,aw=>∃n,qG (wT W K t) (fun lc σ k=>wSs b lc σ (lL aw k)) n lc σ aw.kn|.ret e,lc,σ,aw=>wE W K e lc σ aw.kr|.sr,lc,σ,aw=>aw.kr .none σ|.cont,lc,σ,aw=>aw.kc lc σ|.o7 o i,lc,σ,aw=>wE W K o lc σ fun d σ=>pf d fun j=>wE W K i lc σ fun x σ=>gO (uX σ j x) fun au=>aw.kn lc au|.qB o lo,lc,σ,aw=>wE W K o lc σ fun d σ=>pf d fun j=>wE W K lo lc σ fun x σ=>gO (pe σ j x) fun au=>aw.kn lc au|.i6,lc,σ,aw=>False noncomputable def wSs:Ss->Lc->AH->Kt->Prop|.nil,lc,σ,aw=>aw.kn lc σ|.cons s ss,lc,σ,aw=>wS s lc σ (kS (wSs ss) aw)end
end
structure Fn where
dT:Nat
hO:List aa
kI:Nat
body:Ss
noncomputable def bindL(F:Fn)(vs:List aa):Option Lc:=if vs.length<=F.dT&&decide (F.dT<=vs.length+F.hO.length)then D ((vs++F.hO.drop (F.hO.length-(F.dT-vs.length))).map D++BF (F.kI-F.dT) I)else I
noncomputable def iM(W:Wd)(fn:Nat->Option Fn):Nat->ju|0,_,_,_,_=>False|n+1,f,vs,σ,k=>∃F lc,fn f=D F/\bindL F vs=D lc/\wSs W (iM W fn n) F.body lc σ (kR k)
theorem Nf{W:Wd}{fn:Nat->Option Fn}{n f:Nat}{vs:List aa}{σ:AH}{k:Po}(F:Fn)(lc:Lc)(h1:fn f=D F)(h2:bindL F vs=D lc)(h:wSs W (iM W fn n) F.body lc σ (kR k)):iM W fn (n+1) f vs σ k:=⟨F,lc,h1,h2,h⟩
theorem CH{W:Wd}{fn:Nat->Option Fn}{n f:Nat}{vs:List aa}{σ:AH}{k:Po}(h:iM W fn (n+1) f vs σ k):∃F lc,fn f=D F/\bindL F vs=D lc/\wSs W (iM W fn n) F.body lc σ (kR k):=h
theorem Ng{W:Wd}{fn:Nat->Option Fn}{f:Nat}{vs:List aa}{σ:AH}{k:Po}(h:iM W fn 0 f vs σ k):False:=h
noncomputable abbrev S0(s:String):Str:=KK s
noncomputable abbrev CJ:Ss:=.cons (.cS (.var 0) 6 (.dA .nil)) .nil
noncomputable abbrev CK:Ss:=.cons (.expr (.aQ 0 (.ao (.var 0) 6) (.cons (.ab (.cons (.var 1) (.cons (.var 2) .nil))) .nil))) .nil
noncomputable abbrev CL:Ss:=.cons (.an (.ag 1) .io) (.cons (.for (.fT [2,3]) (.ex (.ao (.var 0) 6)) (.cons (.gs (.var 1) (.var 2) (.var 3)) .nil)) (.cons (.ret (.bi .sorted (.cons (.var 1) .nil))) .nil))
noncomputable abbrev CM:Ss:=.cons (.cS (.var 0) 6 (.dA .nil)) (.cons (.cS (.var 0) 16 .io) (.cons (.cS (.var 0) 15 (.dA (.cons (.lit (.none)) .nil))) (.cons (.cS (.var 0) 14 (.dA .nil)) (.cons (.cS (.var 0) 13 (.dA .nil)) (.cons (.cS (.var 0) 12 (.dA .nil)) (.cons (.cS (.var 0) 11 .io) (.cons (.cS (.var 0) 10 .io) (.cons (.cS (.var 0) 9 (.lit (.int 0))) (.cons (.cS (.var 0) 8 (.lit (.int 0))) (.cons (.for (.ag 1) (.ex (.aj 50)) (.cons (.expr (.aQ 7 (.var 0) (.cons (.var 1) .nil))) .nil)) .nil))))))))))
noncomputable abbrev CN:Ss:=.cons (.ifs (.ex (.aX Y (.var 1) (.ao (.var 0) 16))) (.cons (.ret (.ad (.ao (.var 0) 16) (.var 1))) .nil) .nil) (.cons (.an (.ag 2) (.bi .len (.cons (.ao (.var 0) 6) .nil))) (.cons (.expr (.aQ 0 (.ao (.var 0) 6) (.cons (.var 1) .nil))) (.cons (.gs (.ao (.var 0) 16) (.var 1) (.var 2)) (.cons (.ret (.var 2)) .nil))))
noncomputable abbrev CO:Ss:=.cons (.ret (.aQ 7 (.var 0) (.cons (.ab (.cons (.aj 7) (.cons (.var 1) (.cons (.var 2) .nil)))) .nil))) .nil
noncomputable abbrev CP:Ss:=.cons (.ret (.aQ 7 (.var 0) (.cons (.ab (.cons (.aj 8) (.cons (.var 1) (.cons (.var 2) .nil)))) .nil))) .nil
noncomputable abbrev CQ:Ss:=.cons (.ret (.aQ 7 (.var 0) (.cons (.ab (.cons (.aj 6) (.cons (.ite (.ex (.var 1)) (.lit (.int 1)) (.lit (.int 0))) (.cons (.var 2) .nil)))) .nil))) .nil
noncomputable abbrev yd:Ss:=.cons (.ret (.aQ 7 (.var 0) (.cons (.ab (.cons (.aj 15) (.cons (.var 1) (.cons (.var 2) .nil)))) .nil))) .nil
noncomputable abbrev CR:Ss:=.cons (.an (.ag 2) (.neg (.lit (.int 1)))) (.cons (.for (.ag 3) (.range (.bi .len (.cons (.var 0) .nil))) (.cons (.ifs (.ex (.aX Y (.ad (.ad (.var 0) (.var 3)) (.lit (.int 1))) (.var 1))) (.cons (.an (.ag 2) (.var 3)) .nil) .nil) .nil)) (.cons (.ret (.var 2)) .nil))
noncomputable abbrev CS:Ss:=.cons (.an (.ag 2) (.call 15 (.cons (.var 1) (.cons (.ab (.cons (.aj 39) .nil)) .nil)))) (.cons (.an (.ag 3) (.dA .nil)) (.cons (.for (.ag 4) (.range (.bi .len (.cons (.var 1) .nil))) (.cons (.an (.fT [5,6]) (.ad (.var 1) (.var 4))) (.cons (.ifs (.and (.ex (.ah .eq (.var 6) (.aj 40))) (.ex (.ah .lt (.var 4) (.var 2)))) (.cons (.expr (.aQ 0 (.var 3) (.cons (.ab (.cons (.call 27 (.cons (.var 0) (.cons (.var 5) .nil))) (.cons (.aj 39) .nil))) .nil))) .nil) (.cons (.expr (.aQ 0 (.var 3) (.cons (.ab (.cons (.var 5) (.cons (.var 6) .nil))) .nil))) .nil)) .nil))) (.cons (.ret (.var 3)) .nil)))
noncomputable abbrev CT:Ss:=.cons (.an (.ag 2) (.neg (.lit (.int 1)))) (.cons (.for (.ag 3) (.range (.bi .len (.cons (.var 1) .nil))) (.cons (.ifs (.and (.ex (.ah .lt (.var 2) (.lit (.int 0)))) (.ex (.ah .eq (.ad (.ad (.var 1) (.var 3)) (.lit (.int 1))) (.aj 41)))) (.cons (.an (.ag 2) (.var 3)) .nil) .nil) .nil)) (.cons (.an (.ag 4) (.call 15 (.cons (.var 1) (.cons (.ab (.cons (.aj 41) (.cons (.aj 40) .nil))) .nil)))) (.cons (.ifs (.or (.ex (.ah .lt (.var 2) (.lit (.int 0)))) (.ex (.ah .le (.var 4) (.var 2)))) (.cons (.ret (.var 1)) .nil) .nil) (.cons (.an (.ag 5) (.dA .nil)) (.cons (.for (.fT [6,7]) (.ex (.hH (.var 1) (.var 2) (.aK .add (.var 4) (.lit (.int 1))))) (.cons (.expr (.aQ 0 (.var 5) (.cons (.ite (.ex (.ah .eq (.var 7) (.aj 40))) (.call 27 (.cons (.var 0) (.cons (.var 6) .nil))) (.var 6)) .nil))) .nil)) (.cons (.ret (.aK .add (.aK .add (.hH (.var 1) (.lit .none) (.var 2)) (.dA (.cons (.ab (.cons (.call 26 (.cons (.var 0) (.cons (.var 5) .nil))) (.cons (.aj 41) .nil))) .nil))) (.hH (.var 1) (.aK .add (.var 4) (.lit (.int 1))) (.lit .none)))) .nil))))))
noncomputable abbrev uZ:Ss:=.cons (.an (.ag 3) (.comp (.fT [4,5]) (.ex (.var 1)) (.ex (.lit (.bool Y))) (.ab (.cons (.var 4) (.cons (.var 5) .nil))) [I,I,I,I,D (S0 "given"),D (S0 "mark")])) (.cons (.ifs (.ex (.ah .lt (.call 15 (.cons (.var 3) (.cons (.ab (.cons (.aj 42) .nil)) .nil))) (.lit (.int 0)))) (.cons (.an (.ag 3) (.call 17 (.cons (.var 0) (.cons (.call 16 (.cons (.var 0) (.cons (.var 3) .nil))) .nil)))) (.cons (.ifs (.and (.ex (.ah .eq (.bi .len (.cons (.var 3) .nil)) (.lit (.int 1)))) (.ex (.ah .eq (.ad (.ad (.var 3) (.lit (.int 0))) (.lit (.int 1))) (.aj 41)))) (.cons (.ret (.call 14 (.cons (.var 0) (.cons (.ad (.ad (.var 3) (.lit (.int 0))) (.lit (.int 0))) (.cons (.var 2) .nil))))) .nil) .nil) .nil)) .nil) (.cons (.ret (.aQ 7 (.var 0) (.cons (.ab (.cons (.aj 16) (.cons (.bi .tuple (.cons (.var 3) .nil)) (.cons (.var 2) .nil)))) .nil))) .nil))
noncomputable abbrev ye:Ss:=.cons (.ret (.aQ 7 (.var 0) (.cons (.ab (.cons (.aj 17) (.cons (.bi .tuple (.cons (.var 1) .nil)) (.cons (.bi .tuple (.cons (.var 2) .nil)) (.cons (.var 3) (.cons (.var 4) (.cons (.var 5) .nil))))))) .nil))) .nil
noncomputable abbrev CU:Ss:=.cons (.ifs (.ex (.ah .eq (.var 1) (.aj 26))) (.cons (.ret (.ab .nil)) .nil) .nil) (.cons (.an (.ag 2) (.ad (.ao (.var 0) 6) (.var 1))) (.cons (.ifs (.ex (.ah .eq (.ad (.var 2) (.lit (.int 0))) (.aj 10))) (.cons (.ret (.ad (.var 2) (.lit (.int 1)))) .nil) .nil) (.cons (.ret (.ab (.cons (.var 1) .nil))) .nil)))
noncomputable abbrev CV:Ss:=.cons (.an (.ag 1) (.ad (.var 0) (.lit (.int 0)))) (.cons (.ifs (.or (.ex (.ah .eq (.var 1) (.aj 7))) (.ex (.ah .eq (.var 1) (.aj 22)))) (.cons (.ret (.aj 30)) .nil) .nil) (.cons (.ifs (.ex (.ah .eq (.var 1) (.aj 8))) (.cons (.ret (.aj 31)) .nil) .nil) (.cons (.ifs (.ex (.ah .eq (.var 1) (.aj 9))) (.cons (.ret (.ite (.ex (.i6)) (.aj 30) (.aj 31))) .nil) .nil) (.cons (.ret (.neg (.lit (.int 1)))) .nil))))
noncomputable abbrev CX:Ss:=.cons (.an (.ag 2) (.ad (.ao (.var 0) 6) (.var 1))) (.cons (.ifs (.and (.ex (.aX Y (.ad (.var 2) (.lit (.int 0))) (.aj 52))) (.ex (.ah .eq (.ad (.var 2) (.neg (.lit (.int 1)))) (.lit (.int 1))))) (.cons (.ret (.aQ 3 (.ao (.var 0) 16) (.cons (.aK .add (.hH (.var 2) (.lit .none) (.neg (.lit (.int 1)))) (.ab (.cons (.lit (.int 0)) .nil))) (.cons (.neg (.lit (.int 1))) .nil)))) .nil) .nil) (.cons (.ret (.neg (.lit (.int 1)))) .nil))
noncomputable abbrev CY:Ss:=.cons (.ifs (.and (.or (.ex (.aX Y (.aj 32) (.var 0))) (.ex (.aX Y (.aj 37) (.var 0)))) (.or (.ex (.aX Y (.aj 33) (.var 0))) (.ex (.aX Y (.aj 38) (.var 0))))) (.cons (.gs (.var 0) (.aj 32) (.lit (.int 1))) (.cons (.gs (.var 0) (.aj 33) (.lit (.int 1))) .nil)) .nil) .nil
noncomputable abbrev CZ:Ss:=.cons (.ifs (.ex (.aX Y (.call 22 (.cons (.var 0) (.cons (.var 2) .nil))) (.var 1))) (.cons (.ret (.lit (.bool ai))) .nil) .nil) (.cons (.ret (.aX ai (.call 21 (.cons (.ad (.ao (.var 0) 6) (.var 2)) .nil)) (.var 1))) .nil)
noncomputable abbrev C0:Ss:=.cons (.for (.ag 1) (.ex (.ab (.cons (.aj 24) (.cons (.aj 36) (.cons (.aj 25) .nil))))) (.cons (.ifs (.ex (.aX Y (.var 1) (.var 0))) (.cons (.ret (.var 1)) .nil) .nil) .nil)) (.cons (.ret (.neg (.lit (.int 1)))) .nil)
noncomputable abbrev C1:Ss:=.cons (.an (.ag 2) .io) (.cons (.for (.ag 3) (.ex (.var 1)) (.cons (.for (.ag 4) (.ex (.call 20 (.cons (.var 0) (.cons (.var 3) .nil)))) (.cons (.gs (.var 2) (.var 4) (.lit (.int 1))) .nil)) .nil)) (.cons (.an (.ag 5) (.call 25 (.cons (.var 2) .nil))) (.cons (.ifs (.ex (.ah .ge (.var 5) (.lit (.int 0)))) (.cons (.ret (.var 5)) .nil) .nil) (.cons (.expr (.call 23 (.cons (.var 2) .nil))) (.cons (.an (.ag 6) (.comp (.ag 7) (.ex (.bi .sorted (.cons (.var 2) .nil))) (.ex (.call 24 (.cons (.var 0) (.cons (.var 2) (.cons (.var 7) .nil))))) (.var 7) [D (S0 "tab"),I,D (S0 "got"),I,I,I,I,D (S0 "t")])) (.cons (.ifs (.no (.ex (.var 6))) (.cons (.ret (.aj 26)) .nil) .nil) (.cons (.ifs (.ex (.ah .eq (.bi .len (.cons (.var 6) .nil)) (.lit (.int 1)))) (.cons (.ret (.ad (.var 6) (.lit (.int 0)))) .nil) .nil) (.cons (.ifs (.ex (.ah .gt (.bi .len (.cons (.var 6) .nil)) (.aj 49))) (.cons .i6 .nil) .nil) (.cons (.ret (.aQ 7 (.var 0) (.cons (.ab (.cons (.aj 10) (.cons (.bi .tuple (.cons (.var 6) .nil)) .nil))) .nil))) .nil)))))))))
noncomputable abbrev C2:Ss:=.cons (.ret (.call 26 (.cons (.var 0) (.cons (.ab (.cons (.var 1) (.cons (.aj 28) .nil))) .nil)))) .nil
noncomputable abbrev C3:Ss:=.cons (.ret (.aX Y (.ad (.ad (.ao (.var 0) 6) (.var 1)) (.lit (.int 0))) (.aj 51))) .nil
noncomputable abbrev C4:Ss:=.cons (.an (.ag 2) (.ad (.ao (.var 0) 6) (.var 1))) (.cons (.ret (.and (.aX Y (.ad (.var 2) (.lit (.int 0))) (.aj 52)) (.ah .eq (.ad (.var 2) (.neg (.lit (.int 1)))) (.lit (.int 1))))) .nil)
noncomputable abbrev C5:Ss:=.cons (.ifs (.ex (.call 29 (.cons (.var 0) (.cons (.var 1) .nil)))) (.cons (.ret (.aQ 7 (.var 0) (.cons (.aK .add (.hH (.ad (.ao (.var 0) 6) (.var 1)) (.lit .none) (.neg (.lit (.int 1)))) (.ab (.cons (.lit (.int 0)) .nil))) .nil))) .nil) .nil) (.cons (.ret (.var 1)) .nil)
noncomputable abbrev C6:Ss:=.cons (.cS (.var 0) 20 (.var 1)) (.cons (.cS (.var 0) 19 (.lit (.int 0))) (.cons (.cS (.var 0) 18 (.aj 53)) (.cons (.cS (.var 0) 17 (.aj 54)) .nil)))
noncomputable abbrev C7:Ss:=.cons (.ret (.var 1)) .nil
noncomputable abbrev C8:Ss:=.cons (.ret (.bi .len (.cons (.comp (.fT [1,2]) (.ex (.ad (.var 0) (.lit (.int 1)))) (.ex (.ah .eq (.var 2) (.aj 39))) (.var 2) [I,D (S0 "given"),D (S0 "mark")]) .nil))) .nil
noncomputable abbrev C9:Ss:=.cons (.for (.fT [1,2]) (.ex (.ad (.var 0) (.lit (.int 1)))) (.cons (.ifs (.or (.ex (.ah .eq (.var 2) (.aj 41))) (.ex (.ah .eq (.var 2) (.aj 42)))) (.cons (.ret (.neg (.lit (.int 1)))) .nil) .nil) .nil)) (.cons (.ret (.bi .len (.cons (.ad (.var 0) (.lit (.int 1))) .nil))) .nil)
noncomputable abbrev Da:Ss:=.cons (.ifs (.ex (.ah .eq (.ad (.var 1) (.lit (.int 1))) (.aj 42))) (.cons (.ret (.aj 25)) .nil) .nil) (.cons (.ret (.ite (.ex (.ah .eq (.ad (.var 1) (.lit (.int 1))) (.aj 40))) (.call 27 (.cons (.var 0) (.cons (.ad (.var 1) (.lit (.int 0))) .nil))) (.ad (.var 1) (.lit (.int 0))))) .nil)
noncomputable abbrev Db:Ss:=.cons (.ifs (.ex (.ah .eq (.ad (.var 0) (.lit (.int 0))) (.aj 15))) (.cons (.ret (.lit (.int 0))) .nil) .nil) (.cons (.for (.ag 1) (.range (.bi .len (.cons (.ad (.var 0) (.lit (.int 1))) .nil))) (.cons (.ifs (.ex (.aX Y (.ad (.ad (.ad (.var 0) (.lit (.int 1))) (.var 1)) (.lit (.int 1))) (.ab (.cons (.aj 41) (.cons (.aj 42) .nil))))) (.cons (.ret (.var 1)) .nil) .nil) .nil)) (.cons (.ret (.bi .len (.cons (.ad (.var 0) (.lit (.int 1))) .nil))) .nil))
noncomputable abbrev Dc:Ss:=.cons (.an (.ag 2) (.hH (.ad (.var 1) (.lit (.int 1))) (.call 51 (.cons (.var 1) .nil)) (.lit .none))) (.cons (.ret (.ite (.ex (.var 2)) (.call 26 (.cons (.ao (.var 0) 20) (.cons (.comp (.ag 3) (.ex (.var 2)) (.ex (.lit (.bool Y))) (.call 50 (.cons (.ao (.var 0) 20) (.cons (.var 3) .nil))) [D (S0 "host"),I,I,D (S0 "elem")]) .nil))) (.neg (.lit (.int 1))))) .nil)
noncomputable abbrev Dd:Ss:=.cons (.ifs (.or (.no (.ex (.ad (.var 1) (.lit (.int 2))))) (.ex (.ah .ne (.ad (.ad (.ad (.var 1) (.lit (.int 2))) (.neg (.lit (.int 1)))) (.lit (.int 2))) (.aj 45)))) (.cons (.ret (.ab .nil)) .nil) .nil) (.cons (.an (.ag 2) (.aQ 22 (.var 0) (.cons (.ad (.ad (.ad (.var 1) (.lit (.int 2))) (.neg (.lit (.int 1)))) (.lit (.int 1))) .nil))) (.cons (.ret (.ite (.ex (.ah .eq (.var 2) (.aj 26))) (.ab (.cons (.var 2) .nil)) (.call 20 (.cons (.ao (.var 0) 20) (.cons (.var 2) .nil))))) .nil))
noncomputable abbrev De:Ss:=.cons (.ret (.bi .len (.cons (.comp (.ag 1) (.ex (.ad (.var 0) (.lit (.int 2)))) (.ex (.ah .ne (.ad (.var 1) (.lit (.int 2))) (.aj 45))) (.var 1) [I,D (S0 "param")]) .nil))) .nil
noncomputable abbrev Df:Ss:=.cons (.ifs (.ex (.ah .lt (.var 2) (.call 51 (.cons (.var 1) .nil)))) (.cons (.ret (.call 50 (.cons (.ao (.var 0) 20) (.cons (.ad (.ad (.var 1) (.lit (.int 1))) (.var 2)) .nil)))) .nil) .nil) (.cons (.ret (.call 52 (.cons (.var 0) (.cons (.var 1) .nil)))) .nil)
noncomputable abbrev Dg:Ss:=.cons (.an (.ag 3) (.ad (.ao (.ao (.var 0) 20) 6) (.var 1))) (.cons (.ifs (.ex (.ah .eq (.ad (.var 3) (.lit (.int 0))) (.aj 15))) (.cons (.ret (.ad (.var 3) (.lit (.int 1)))) .nil) .nil) (.cons (.ifs (.ex (.ah .eq (.ad (.var 3) (.lit (.int 0))) (.aj 16))) (.cons (.ret (.call 57 (.cons (.var 0) (.cons (.var 3) (.cons (.var 2) .nil))))) .nil) .nil) (.cons (.ifs (.ex (.aX Y (.var 1) (.ab (.cons (.aj 24) (.cons (.aj 36) (.cons (.aj 26) .nil)))))) (.cons (.ret (.var 1)) .nil) .nil) (.cons (.ret (.aQ 23 (.var 0) (.cons (.ab (.cons (.aj 19) (.cons (.var 1) (.cons (.aj 31) .nil)))) .nil))) .nil))))
noncomputable abbrev Dh:Ss:=.cons (.an (.ag 3) (.ad (.ao (.ao (.var 0) 20) 6) (.var 1))) (.cons (.an (.ag 4) (.call 56 (.cons (.var 3) .nil))) (.cons (.ifs (.ex (.ah .lt (.var 2) (.var 4))) (.cons (.an (.ag 5) (.ad (.ad (.var 3) (.lit (.int 2))) (.var 2))) (.cons (.an (.ag 6) (.aQ 22 (.var 0) (.cons (.ad (.var 5) (.lit (.int 1))) .nil))) (.cons (.ret (.ite (.ex (.ah .eq (.ad (.var 5) (.lit (.int 2))) (.aj 44))) (.call 27 (.cons (.ao (.var 0) 20) (.cons (.var 6) .nil))) (.var 6))) .nil))) .nil) (.cons (.an (.ag 7) (.comp (.ag 9) (.ex (.call 55 (.cons (.var 0) (.cons (.var 3) .nil)))) (.ex (.lit (.bool Y))) (.call 58 (.cons (.var 0) (.cons (.var 9) (.cons (.aK .sub (.var 2) (.var 4)) .nil)))) [D (S0 "host"),I,D (S0 "place"),I,D (S0 "fixed"),I,I,I,I,D (S0 "part"),I])) (.cons (.an (.ag 8) (.comp (.ag 10) (.ex (.var 7)) (.ex (.ah .ge (.var 10) (.lit (.int 0)))) (.aQ 22 (.var 0) (.cons (.var 10) .nil)) [D (S0 "host"),I,I,I,I,I,I,I,I,I,D (S0 "t")])) (.cons (.ret (.ite (.ex (.var 8)) (.call 26 (.cons (.ao (.var 0) 20) (.cons (.var 8) .nil))) (.neg (.lit (.int 1))))) .nil)))))
noncomputable abbrev Di:Ss:=.cons (.an (.ag 1) (.lit (.int 0))) (.cons (.for (.ag 2) (.range (.bi .len (.cons (.ad (.var 0) (.lit (.int 2))) .nil))) (.cons (.ifs (.ex (.ah .eq (.ad (.ad (.ad (.var 0) (.lit (.int 2))) (.var 2)) (.lit (.int 2))) (.aj 43))) (.cons (.an (.ag 1) (.aK .add (.var 2) (.lit (.int 1)))) .nil) .nil) .nil)) (.cons (.ret (.var 1)) .nil))
noncomputable abbrev Dj:Ss:=.cons (.an (.ag 2) (.call 62 (.cons (.var 0) (.cons (.var 1) .nil)))) (.cons (.while (.and (.ex (.ah .gt (.var 2) (.lit (.int 0)))) (.ex (.aX Y (.aj 27) (.call 20 (.cons (.ao (.var 0) 20) (.cons (.call 59 (.cons (.var 0) (.cons (.var 1) (.cons (.aK .sub (.var 2) (.lit (.int 1))) .nil)))) .nil)))))) (.cons (.qA 2 .sub (.lit (.int 1))) .nil)) (.cons (.ret (.var 2)) .nil))
noncomputable abbrev Dk:Ss:=.cons (.an (.ag 2) (.ad (.ao (.ao (.var 0) 20) 6) (.var 1))) (.cons (.an (.ag 3) (.dA .nil)) (.cons (.for (.ag 4) (.ex (.call 55 (.cons (.var 0) (.cons (.var 2) .nil)))) (.cons (.an (.ag 5) (.ad (.ao (.ao (.var 0) 20) 6) (.var 4))) (.cons (.expr (.aQ 0 (.var 3) (.cons (.ite (.ex (.ah .eq (.ad (.var 5) (.lit (.int 0))) (.aj 16))) (.call 48 (.cons (.var 5) .nil)) (.lit (.int 0))) .nil))) .nil))) (.cons (.an (.ag 6) (.ite (.ex (.var 3)) (.bi .min (.cons (.var 3) .nil)) (.lit (.int 0)))) (.cons (.ret (.ite (.ex (.ah .gt (.var 6) (.lit (.int 0)))) (.aK .add (.call 56 (.cons (.var 2) .nil)) (.var 6)) (.call 60 (.cons (.var 2) .nil)))) .nil))))
noncomputable abbrev Dl:Ss:=.cons (.an (.ag 2) (.ad (.ao (.ao (.var 0) 20) 6) (.var 1))) (.cons (.an (.ag 3) (.lit (.int 0))) (.cons (.for (.ag 4) (.ex (.call 55 (.cons (.var 0) (.cons (.var 2) .nil)))) (.cons (.an (.ag 5) (.ad (.ao (.ao (.var 0) 20) 6) (.var 4))) (.cons (.an (.ag 6) (.ite (.ex (.ah .eq (.ad (.var 5) (.lit (.int 0))) (.aj 16))) (.call 49 (.cons (.var 5) .nil)) (.neg (.lit (.int 1))))) (.cons (.ifs (.ex (.ah .lt (.var 6) (.lit (.int 0)))) (.cons (.ret (.neg (.lit (.int 1)))) .nil) .nil) (.cons (.an (.ag 3) (.bi .max (.cons (.var 3) (.cons (.var 6) .nil)))) .nil))))) (.cons (.ret (.aK .add (.call 56 (.cons (.var 2) .nil)) (.var 3))) .nil)))
noncomputable abbrev Dm:Ss:=.cons (.an (.ag 2) (.ad (.ao (.ao (.var 0) 20) 6) (.var 1))) (.cons (.an (.ag 3) (.dA .nil)) (.cons (.for (.ag 4) (.ex (.call 55 (.cons (.var 0) (.cons (.var 2) .nil)))) (.cons (.an (.ag 5) (.ad (.ao (.ao (.var 0) 20) 6) (.var 4))) (.cons (.expr (.aQ 0 (.var 3) (.cons (.ite (.ex (.ah .eq (.ad (.var 5) (.lit (.int 0))) (.aj 16))) (.call 51 (.cons (.var 5) .nil)) (.lit (.int 0))) .nil))) .nil))) (.cons (.ret (.aK .add (.call 56 (.cons (.var 2) .nil)) (.ite (.ex (.var 3)) (.bi .min (.cons (.var 3) .nil)) (.lit (.int 0))))) .nil)))
noncomputable abbrev Dn:Ss:=.cons (.cS (.var 0) 35 (.var 1)) (.cons (.cS (.var 0) 34 (.var 2)) (.cons (.cS (.var 0) 33 .io) (.cons (.cS (.var 0) 32 .io) (.cons (.cS (.var 0) 31 .io) (.cons (.cS (.var 0) 30 (.dA .nil)) (.cons (.cS (.var 0) 29 (.dA .nil)) (.cons (.cS (.var 0) 19 (.lit (.int 0))) (.cons (.cS (.var 0) 28 (.new 3 .nil)) (.cons (.cS (.var 0) 27 (.lit (.bool Y))) (.cons (.cS (.var 0) 26 (.lit (.none))) (.cons (.cS (.var 0) 25 (.lit (.str (S0 "")))) (.cons (.cS (.var 0) 24 (.lit (.int 0))) .nil))))))))))))
noncomputable abbrev Do:Ss:=.cons (.ret (.call 83 (.cons (.var 0) (.cons (.var 1) (.cons (.var 2) .nil))))) .nil
noncomputable abbrev Dp:Ss:=.cons (.ifs (.ex (.ao (.var 0) 27)) (.cons (.expr (.aQ 7 (.ao (.var 0) 28) (.cons (.var 1) (.cons (.ao (.var 0) 24) .nil)))) .nil) .nil) .nil
noncomputable abbrev Dq:Ss:=.cons (.ret (.ab (.cons (.bi .len (.cons (.ao (.ao (.var 0) 28) 6) .nil)) (.cons (.bi .len (.cons (.ao (.var 0) 30) .nil)) .nil)))) .nil
noncomputable abbrev Ds:Ss:=.cons (.expr (.call 81 (.cons (.var 0) (.cons (.var 1) .nil)))) .nil
noncomputable abbrev Dt:Ss:=.cons (.an (.ag 4) (.aQ 3 (.ao (.var 0) 33) (.cons (.var 1) .nil))) (.cons (.ret (.and (.dz ai (.var 4)) (.aQ 37 (.var 4) (.cons (.var 0) (.cons (.var 2) (.cons (.var 3) .nil)))))) .nil)
noncomputable abbrev Du:Ss:=.cons (.qB (.ao (.ao (.var 0) 28) 6) (.ad (.var 1) (.lit (.int 0)))) (.cons (.while (.ex (.ah .gt (.bi .len (.cons (.ao (.var 0) 30) .nil)) (.ad (.var 1) (.lit (.int 1))))) (.cons (.o7 (.ao (.var 0) 32) (.aQ 2 (.ao (.var 0) 30) .nil)) .nil)) .nil)
noncomputable abbrev Dv:Ss:=.cons (.an (.ag 1) (.aQ 22 (.var 0) (.cons (.var 1) .nil))) (.cons (.ifs (.ex (.call 28 (.cons (.ao (.var 0) 20) (.cons (.var 1) .nil)))) (.cons (.ret (.call 30 (.cons (.ao (.var 0) 20) (.cons (.var 1) .nil)))) .nil) .nil) (.cons (.ret (.var 1)) .nil))
noncomputable abbrev yf:Ss:=.cons (.ifs (.ex (.ah .eq (.var 1) (.var 2))) (.cons (.ret (.lit (.bool Y))) .nil) .nil) (.cons (.an (.ag 1) (.call 82 (.cons (.ao (.var 0) 35) (.cons (.var 1) .nil)))) (.cons (.an (.ag 2) (.call 82 (.cons (.ao (.var 0) 35) (.cons (.var 2) .nil)))) (.cons (.ifs (.ex (.ah .eq (.var 1) (.var 2))) (.cons (.ret (.lit (.bool Y))) .nil) .nil) (.cons (.ifs (.ex (.ah .eq (.ao (.var 0) 34) (.aj 57))) (.cons (.an (.ag 3) (.ao (.ao (.ao (.var 0) 35) 20) 6)) (.cons (.ifs (.or (.ex (.ah .eq (.var 1) (.aj 36))) (.ex (.ah .eq (.var 2) (.aj 36)))) (.cons (.ret (.lit (.bool Y))) .nil) .nil) (.cons (.ifs (.or (.ex (.aX Y (.ad (.ad (.var 3) (.var 1)) (.lit (.int 0))) (.aj 68))) (.ex (.aX Y (.ad (.ad (.var 3) (.var 2)) (.lit (.int 0))) (.aj 68)))) (.cons (.ret (.lit (.bool ai))) .nil) .nil) (.cons (.ret (.call 84 (.cons (.var 0) (.cons (.var 1) (.cons (.var 2) .nil))))) .nil)))) .nil) (.cons (.an (.ag 4) (.call 86 (.cons (.var 0) (.cons (.var 1) (.cons (.var 2) .nil))))) (.cons (.ifs (.or (.ex (.ah .eq (.var 4) (.lit (.int 1)))) (.and (.ex (.ah .eq (.ao (.var 0) 34) (.aj 56))) (.and (.ex (.ah .ne (.var 2) (.aj 26))) (.ex (.ah .eq (.call 86 (.cons (.var 0) (.cons (.var 2) (.cons (.var 1) .nil)))) (.lit (.int 1))))))) (.cons (.ret (.lit (.bool Y))) .nil) .nil) (.cons (.ret (.and (.ah .lt (.var 4) (.lit (.int 0))) (.call 84 (.cons (.var 0) (.cons (.var 1) (.cons (.var 2) .nil)))))) .nil)))))))
noncomputable abbrev Dw:Ss:=.cons (.an (.ag 3) (.ab (.cons (.var 1) (.cons (.var 2) .nil)))) (.cons (.ifs (.ex (.aX Y (.var 3) (.ao (.var 0) 31))) (.cons (.ret (.ad (.ao (.var 0) 31) (.var 3))) .nil) .nil) (.cons (.ifs (.ex (.aX Y (.var 3) (.ao (.var 0) 32))) (.cons (.ret (.lit (.bool Y))) .nil) .nil) (.cons (.ifs (.ex (.ah .ge (.ao (.var 0) 19) (.aj 73))) (.cons (.expr (.aQ 40 (.var 0) (.cons (.aj 4) .nil))) (.cons (.ret (.lit (.bool Y))) .nil)) .nil) (.cons (.an (.ag 4) (.aQ 39 (.var 0) .nil)) (.cons (.gs (.ao (.var 0) 32) (.var 3) (.lit (.int 1))) (.cons (.expr (.aQ 0 (.ao (.var 0) 30) (.cons (.var 3) .nil))) (.cons (.o6 (.var 0) 19 .add (.lit (.int 1))) (.cons (.an (.ag 5) (.ite (.ex (.ah .eq (.ao (.var 0) 34) (.aj 57))) (.call 98 (.cons (.var 0) (.cons (.var 1) (.cons (.var 2) .nil)))) (.call 92 (.cons (.var 0) (.cons (.var 1) (.cons (.var 2) .nil)))))) (.cons (.o6 (.var 0) 19 .sub (.lit (.int 1))) (.cons (.ifs (.no (.ex (.var 5))) (.cons (.expr (.call 81 (.cons (.var 0) (.cons (.var 4) .nil)))) (.cons (.ifs (.or (.ex (.ah .eq (.ad (.var 4) (.lit (.int 1))) (.lit (.int 0)))) (.ex (.ah .ne (.ao (.var 0) 34) (.aj 58)))) (.cons (.gs (.ao (.var 0) 31) (.var 3) (.lit (.bool ai))) .nil) .nil) .nil)) (.cons (.ifs (.ex (.ah .eq (.ad (.var 4) (.lit (.int 1))) (.lit (.int 0)))) (.cons (.expr (.call 85 (.cons (.var 0) (.cons (.ah .eq (.bi .len (.cons (.ao (.ao (.var 0) 28) 6) .nil)) (.ad (.var 4) (.lit (.int 0)))) .nil)))) .nil) .nil) .nil)) (.cons (.ret (.var 5)) .nil)))))))))))
noncomputable abbrev Dx:Ss:=.cons (.for (.ag 2) (.ex (.ao (.var 0) 30)) (.cons (.o7 (.ao (.var 0) 32) (.var 2)) (.cons (.ifs (.ex (.var 1)) (.cons (.gs (.ao (.var 0) 31) (.var 2) (.lit (.bool Y))) .nil) .nil) .nil))) (.cons (.cS (.var 0) 30 (.dA .nil)) .nil)
noncomputable abbrev Dy:Ss:=.cons (.an (.ag 3) (.call 87 (.cons (.var 0) (.cons (.var 1) (.cons (.var 2) .nil))))) (.cons (.ifs (.ex (.ah .ge (.var 3) (.lit (.int 0)))) (.cons (.ret (.var 3)) .nil) .nil) (.cons (.an (.ag 4) (.ao (.ao (.ao (.var 0) 35) 20) 6)) (.cons (.an (.ag 5) (.ad (.ad (.var 4) (.var 1)) (.lit (.int 0)))) (.cons (.an (.ag 6) (.ad (.ad (.var 4) (.var 2)) (.lit (.int 0)))) (.cons (.ifs (.or (.ex (.aX Y (.var 5) (.aj 72))) (.ex (.aX Y (.var 6) (.aj 72)))) (.cons (.ret (.neg (.lit (.int 1)))) .nil) .nil) (.cons (.ifs (.ex (.ah .eq (.var 2) (.aj 34))) (.cons (.ret (.ite (.ex (.aX Y (.var 5) (.aj 68))) (.lit (.int 0)) (.neg (.lit (.int 1))))) .nil) .nil) (.cons (.ifs (.ex (.aX Y (.var 6) (.aj 68))) (.cons (.ret (.ite (.ex (.aX Y (.var 5) (.aj 68))) (.call 90 (.cons (.var 0) (.cons (.var 1) (.cons (.var 2) .nil)))) (.lit (.int 0)))) .nil) .nil) (.cons (.ifs (.or (.ex (.ah .eq (.var 1) (.aj 28))) (.or (.ex (.ah .eq (.var 1) (.aj 29))) (.ex (.ah .eq (.var 1) (.aj 27))))) (.cons (.ret (.lit (.int 0))) .nil) .nil) (.cons (.ret (.neg (.lit (.int 1)))) .nil)))))))))
noncomputable abbrev Dz:Ss:=.cons (.ifs (.or (.ex (.ah .eq (.var 2) (.aj 24))) (.or (.ex (.ah .eq (.var 2) (.aj 36))) (.or (.ex (.ah .eq (.var 1) (.aj 26))) (.ex (.ah .eq (.var 1) (.aj 36)))))) (.cons (.ret (.lit (.int 1))) .nil) .nil) (.cons (.ifs (.and (.ex (.ah .eq (.var 1) (.aj 24))) (.ex (.ah .eq (.ao (.var 0) 34) (.aj 58)))) (.cons (.ret (.lit (.int 0))) .nil) .nil) (.cons (.ifs (.ex (.ah .eq (.var 2) (.aj 25))) (.cons (.ret (.lit (.int 1))) .nil) .nil) (.cons (.ifs (.ex (.ah .eq (.var 1) (.aj 24))) (.cons (.ifs (.ex (.ah .eq (.var 2) (.aj 26))) (.cons (.ret (.lit (.int 0))) .nil) .nil) (.cons (.expr (.aQ 40 (.var 0) (.cons (.aj 0) .nil))) (.cons (.ret (.lit (.int 1))) .nil))) .nil) (.cons (.ifs (.ex (.ah .eq (.var 1) (.aj 25))) (.cons (.ret (.call 88 (.cons (.var 0) (.cons (.var 2) .nil)))) .nil) .nil) (.cons (.ifs (.and (.ex (.ah .eq (.var 2) (.aj 26))) (.ex (.aX ai (.ad (.ad (.ao (.ao (.ao (.var 0) 35) 20) 6) (.var 1)) (.lit (.int 0))) (.aj 72)))) (.cons (.ret (.lit (.int 0))) .nil) .nil) (.cons (.ret (.neg (.lit (.int 1)))) .nil))))))
noncomputable abbrev DA:Ss:=.cons (.ifs (.ex (.aX Y (.ad (.ad (.ao (.ao (.ao (.var 0) 35) 20) 6) (.var 1)) (.lit (.int 0))) (.aj 71))) (.cons (.ret (.neg (.lit (.int 1)))) .nil) .nil) (.cons (.an (.ag 2) (.call 20 (.cons (.ao (.ao (.var 0) 35) 20) (.cons (.var 1) .nil)))) (.cons (.ifs (.ex (.ah .eq (.ao (.var 0) 34) (.aj 58))) (.cons (.ret (.lit (.int 0))) .nil) .nil) (.cons (.ret (.ite (.and (.ex (.aX Y (.aj 35) (.var 2))) (.and (.ex (.aX Y (.aj 29) (.var 2))) (.ex (.aX Y (.aj 28) (.var 2))))) (.lit (.int 1)) (.lit (.int 0)))) .nil)))
noncomputable abbrev DB:Ss:=.cons (.ret (.and (.ah .eq (.ad (.var 0) (.lit (.int 0))) (.aj 9)) (.ah .eq (.call 21 (.cons (.var 0) .nil)) (.aj 31)))) .nil
noncomputable abbrev DC:Ss:=.cons (.ifs (.ex (.ah .eq (.var 1) (.aj 28))) (.cons (.ret (.ite (.ex (.ah .eq (.var 2) (.aj 27))) (.lit (.int 1)) (.lit (.int 0)))) .nil) .nil) (.cons (.an (.ag 3) (.ad (.ao (.ao (.ao (.var 0) 35) 20) 6) (.var 1))) (.cons (.an (.ag 4) (.ad (.ao (.ao (.ao (.var 0) 35) 20) 6) (.var 2))) (.cons (.ifs (.and (.ex (.ah .eq (.call 21 (.cons (.var 3) .nil)) (.var 2))) (.ex (.ah .ge (.call 21 (.cons (.var 3) .nil)) (.lit (.int 0))))) (.cons (.ret (.lit (.int 1))) .nil) .nil) (.cons (.ifs (.and (.ex (.ah .eq (.ao (.var 0) 34) (.aj 56))) (.ex (.ah .eq (.call 21 (.cons (.var 4) .nil)) (.var 1)))) (.cons (.ret (.lit (.int 1))) .nil) .nil) (.cons (.ifs (.and (.ex (.ah .eq (.ad (.var 3) (.lit (.int 0))) (.aj 9))) (.and (.ex (.ah .eq (.ad (.var 4) (.lit (.int 0))) (.aj 9))) (.ex (.ah .eq (.ad (.var 3) (.lit (.int 1))) (.ad (.var 4) (.lit (.int 1))))))) (.cons (.ret (.ite (.ex (.ah .eq (.ad (.var 3) (.lit (.int 3))) (.ad (.var 4) (.lit (.int 3))))) (.lit (.int 1)) (.lit (.int 0)))) .nil) .nil) (.cons (.ifs (.ex (.ah .eq (.ad (.var 3) (.lit (.int 0))) (.aj 9))) (.cons (.ret (.ite (.and (.ex (.aX Y (.ad (.var 4) (.lit (.int 0))) (.ab (.cons (.aj 7) (.cons (.aj 8) .nil))))) (.and (.ex (.ah .eq (.call 21 (.cons (.var 4) .nil)) (.call 21 (.cons (.var 3) .nil)))) (.ex (.ah .eq (.ad (.var 4) (.lit (.int 1))) (.ad (.var 3) (.lit (.int 3))))))) (.lit (.int 1)) (.lit (.int 0)))) .nil) .nil) (.cons (.ret (.call 91 (.cons (.var 0) (.cons (.var 1) (.cons (.var 3) (.cons (.var 4) .nil)))))) .nil)))))))
noncomputable abbrev DD:Ss:=.cons (.ifs (.or (.ex (.ah .eq (.ao (.var 0) 34) (.aj 58))) (.no (.ex (.call 89 (.cons (.var 3) .nil))))) (.cons (.ret (.lit (.int 0))) .nil) .nil) (.cons (.ifs (.or (.ex (.ah .eq (.var 1) (.aj 31))) (.and (.ex (.ah .eq (.ad (.var 2) (.lit (.int 0))) (.aj 8))) (.ex (.ah .eq (.ad (.var 2) (.lit (.int 1))) (.ad (.var 3) (.lit (.int 3))))))) (.cons (.expr (.aQ 40 (.var 0) (.cons (.aj 2) .nil))) (.cons (.ret (.lit (.int 1))) .nil)) .nil) (.cons (.ret (.lit (.int 0))) .nil))
noncomputable abbrev DE:Ss:=.cons (.an (.ag 3) (.ao (.ao (.ao (.var 0) 35) 20) 6)) (.cons (.an (.ag 4) (.ad (.ad (.var 3) (.var 1)) (.lit (.int 0)))) (.cons (.an (.ag 5) (.ad (.ad (.var 3) (.var 2)) (.lit (.int 0)))) (.cons (.ifs (.ex (.ah .eq (.var 4) (.aj 10))) (.cons (.ret (.call 94 (.cons (.var 0) (.cons (.var 1) (.cons (.var 2) .nil))))) .nil) .nil) (.cons (.ifs (.ex (.ah .eq (.var 5) (.aj 10))) (.cons (.ret (.call 97 (.cons (.var 0) (.cons (.var 1) (.cons (.var 2) .nil))))) .nil) .nil) (.cons (.ret (.call 77 (.cons (.var 0) (.cons (.call 93 (.cons (.var 4) (.cons (.var 5) .nil))) (.cons (.var 1) (.cons (.var 2) .nil)))))) .nil)))))
noncomputable abbrev DF:Ss:=.cons (.ifs (.or (.ex (.ah .eq (.var 0) (.aj 11))) (.ex (.ah .eq (.var 1) (.aj 11)))) (.cons (.ret (.aj 59)) .nil) .nil) (.cons (.ifs (.or (.ex (.aX Y (.var 0) (.aj 71))) (.ex (.aX Y (.var 1) (.aj 71)))) (.cons (.ret (.aj 60)) .nil) .nil) (.cons (.ifs (.and (.ex (.ah .eq (.var 0) (.aj 17))) (.ex (.ah .eq (.var 1) (.aj 17)))) (.cons (.ret (.aj 61)) .nil) .nil) (.cons (.ifs (.and (.ex (.aX Y (.var 0) (.aj 69))) (.ex (.aX Y (.var 1) (.aj 69)))) (.cons (.ret (.aj 62)) .nil) .nil) (.cons (.ret (.aj 63)) .nil))))
noncomputable abbrev DG:Ss:=.cons (.for (.ag 3) (.ex (.call 20 (.cons (.ao (.ao (.var 0) 35) 20) (.cons (.var 1) .nil)))) (.cons (.ifs (.ex (.aQ 36 (.var 0) (.cons (.var 3) (.cons (.var 2) .nil)))) (.cons (.ifs (.ex (.ah .eq (.ao (.var 0) 34) (.aj 56))) (.cons (.ret (.lit (.bool Y))) .nil) .nil) .nil) (.cons (.ifs (.ex (.ah .ne (.ao (.var 0) 34) (.aj 56))) (.cons (.ret (.lit (.bool ai))) .nil) .nil) .nil)) .nil)) (.cons (.ret (.ah .ne (.ao (.var 0) 34) (.aj 56))) .nil)
noncomputable abbrev DH:Ss:=.cons (.an (.ag 3) (.lit (.none))) (.cons (.for (.ag 4) (.ex (.var 2)) (.cons (.an (.ag 5) (.aQ 39 (.var 0) .nil)) (.cons (.ifs (.ex (.aQ 36 (.var 0) (.cons (.var 1) (.cons (.var 4) .nil)))) (.cons (.ifs (.ex (.ah .eq (.bi .len (.cons (.ao (.ao (.var 0) 28) 6) .nil)) (.ad (.var 5) (.lit (.int 0))))) (.cons (.ret (.lit (.bool Y))) .nil) .nil) (.cons (.ifs (.ex (.dz Y (.var 3))) (.cons (.an (.ag 3) (.ab (.cons (.hH (.ao (.ao (.var 0) 28) 6) (.ad (.var 5) (.lit (.int 0))) (.lit .none)) (.cons (.hH (.ao (.var 0) 30) (.ad (.var 5) (.lit (.int 1))) (.lit .none)) .nil)))) .nil) .nil) (.cons (.expr (.aQ 41 (.var 0) (.cons (.var 5) .nil))) .nil))) .nil) .nil))) (.cons (.ifs (.ex (.dz Y (.var 3))) (.cons (.ret (.lit (.bool ai))) .nil) .nil) (.cons (.expr (.call 96 (.cons (.var 0) (.cons (.var 3) .nil)))) (.cons (.ret (.lit (.bool Y))) .nil))))
noncomputable abbrev DI:Ss:=.cons (.expr (.aQ 1 (.ao (.ao (.var 0) 28) 6) (.cons (.ad (.var 1) (.lit (.int 0))) .nil))) (.cons (.for (.ag 2) (.ex (.ad (.var 1) (.lit (.int 1)))) (.cons (.ifs (.and (.ex (.aX ai (.var 2) (.ao (.var 0) 32))) (.ex (.aX ai (.var 2) (.ao (.var 0) 31)))) (.cons (.gs (.ao (.var 0) 32) (.var 2) (.lit (.int 1))) (.cons (.expr (.aQ 0 (.ao (.var 0) 30) (.cons (.var 2) .nil))) .nil)) .nil) .nil)) .nil)
noncomputable abbrev DJ:Ss:=.cons (.an (.ag 3) (.ao (.ao (.var 0) 35) 20)) (.cons (.an (.ag 4) (.call 20 (.cons (.var 3) (.cons (.var 2) .nil)))) (.cons (.ifs (.or (.ex (.aX Y (.var 1) (.var 4))) (.ex (.call 95 (.cons (.var 0) (.cons (.var 1) (.cons (.var 4) .nil)))))) (.cons (.ret (.lit (.bool Y))) .nil) .nil) (.cons (.an (.ag 5) (.ad (.ad (.ao (.var 3) 6) (.var 1)) (.lit (.int 0)))) (.cons (.ifs (.ex (.aX Y (.var 5) (.aj 71))) (.cons (.ret (.call 77 (.cons (.var 0) (.cons (.aj 60) (.cons (.var 1) (.cons (.var 2) .nil)))))) .nil) .nil) (.cons (.ifs (.and (.ex (.ah .eq (.var 5) (.aj 11))) (.ex (.call 77 (.cons (.var 0) (.cons (.aj 59) (.cons (.var 1) (.cons (.var 2) .nil))))))) (.cons (.ret (.lit (.bool Y))) .nil) .nil) (.cons (.ifs (.or (.ex (.ah .eq (.var 5) (.aj 11))) (.ex (.aX Y (.var 5) (.aj 70)))) (.cons (.ret (.call 77 (.cons (.var 0) (.cons (.aj 64) (.cons (.var 1) (.cons (.var 2) .nil)))))) .nil) .nil) (.cons (.ret (.and (.ah .eq (.var 5) (.aj 16)) (.call 77 (.cons (.var 0) (.cons (.aj 67) (.cons (.var 1) (.cons (.var 2) .nil))))))) .nil)))))))
noncomputable abbrev DK:Ss:=.cons (.an (.ag 3) (.ao (.ao (.ao (.var 0) 35) 20) 6)) (.cons (.an (.ag 4) (.ad (.var 3) (.var 1))) (.cons (.an (.ag 5) (.ad (.var 3) (.var 2))) (.cons (.ifs (.and (.ex (.ah .eq (.ad (.var 4) (.lit (.int 0))) (.ad (.var 5) (.lit (.int 0))))) (.or (.ex (.ah .eq (.ad (.var 4) (.lit (.int 0))) (.aj 10))) (.ex (.ah .eq (.ad (.var 4) (.lit (.int 0))) (.aj 11))))) (.cons (.ret (.and (.call 99 (.cons (.var 0) (.cons (.ad (.var 4) (.lit (.int 1))) (.cons (.ad (.var 5) (.lit (.int 1))) .nil)))) (.call 99 (.cons (.var 0) (.cons (.ad (.var 5) (.lit (.int 1))) (.cons (.ad (.var 4) (.lit (.int 1))) .nil)))))) .nil) .nil) (.cons (.ifs (.or (.ex (.aX Y (.ad (.var 4) (.lit (.int 0))) (.ab (.cons (.aj 10) (.cons (.aj 11) .nil))))) (.ex (.aX Y (.ad (.var 5) (.lit (.int 0))) (.ab (.cons (.aj 10) (.cons (.aj 11) .nil)))))) (.cons (.ret (.lit (.bool ai))) .nil) .nil) (.cons (.ret (.call 77 (.cons (.var 0) (.cons (.call 93 (.cons (.ad (.var 4) (.lit (.int 0))) (.cons (.ad (.var 5) (.lit (.int 0))) .nil))) (.cons (.var 1) (.cons (.var 2) .nil)))))) .nil)))))
noncomputable abbrev DL:Ss:=.cons (.for (.ag 3) (.ex (.var 1)) (.cons (.ifs (.no (.ex (.call 95 (.cons (.var 0) (.cons (.var 3) (.cons (.var 2) .nil)))))) (.cons (.ret (.lit (.bool ai))) .nil) .nil) .nil)) (.cons (.ret (.lit (.bool Y))) .nil)
noncomputable abbrev DM:Ss:=.cons (.an (.ag 3) (.call 63 (.cons (.ao (.var 0) 35) (.cons (.var 2) .nil)))) (.cons (.ifs (.ex (.ah .lt (.var 3) (.lit (.int 0)))) (.cons (.ifs (.ex (.ah .gt (.call 61 (.cons (.ao (.var 0) 35) (.cons (.var 1) .nil))) (.call 64 (.cons (.ao (.var 0) 35) (.cons (.var 2) .nil))))) (.cons (.expr (.aQ 40 (.var 0) (.cons (.aj 3) .nil))) .nil) .nil) (.cons (.ret (.lit (.bool Y))) .nil)) .nil) (.cons (.ifs (.ex (.ah .gt (.call 61 (.cons (.ao (.var 0) 35) (.cons (.var 1) .nil))) (.var 3))) (.cons (.ret (.lit (.bool ai))) .nil) .nil) (.cons (.an (.ag 4) (.call 63 (.cons (.ao (.var 0) 35) (.cons (.var 1) .nil)))) (.cons (.ifs (.or (.ex (.ah .lt (.var 4) (.lit (.int 0)))) (.ex (.ah .gt (.var 4) (.var 3)))) (.cons (.ifs (.ex (.ah .eq (.ao (.var 0) 34) (.aj 58))) (.cons (.ret (.lit (.bool ai))) .nil) .nil) (.cons (.expr (.aQ 40 (.var 0) (.cons (.aj 3) .nil))) .nil)) .nil) (.cons (.ret (.lit (.bool Y))) .nil)))))
noncomputable abbrev DN:Ss:=.cons (.an (.ag 2) (.ad (.ad (.ao (.ao (.var 0) 20) 6) (.var 1)) (.lit (.int 2)))) (.cons (.ifs (.or (.no (.ex (.var 2))) (.ex (.ah .ne (.ad (.ad (.var 2) (.neg (.lit (.int 1)))) (.lit (.int 2))) (.aj 45)))) (.cons (.ret (.neg (.lit (.int 1)))) .nil) .nil) (.cons (.an (.ag 3) (.aQ 22 (.var 0) (.cons (.ad (.ad (.var 2) (.neg (.lit (.int 1)))) (.lit (.int 1))) .nil))) (.cons (.ifs (.ex (.aX Y (.ad (.ad (.ao (.ao (.var 0) 20) 6) (.var 3)) (.lit (.int 0))) (.ab (.cons (.aj 15) (.cons (.aj 16) .nil))))) (.cons (.ret (.neg (.lit (.int 1)))) .nil) .nil) (.cons (.ret (.var 3)) .nil))))
noncomputable abbrev DO:Ss:=.cons (.an (.ag 2) (.call 101 (.cons (.var 0) (.cons (.var 1) .nil)))) (.cons (.ifs (.ex (.ah .ge (.var 2) (.lit (.int 0)))) (.cons (.ret (.and (.ah .ne (.var 2) (.aj 24)) (.ah .ne (.var 2) (.aj 36)))) .nil) .nil) (.cons (.an (.ag 3) (.ad (.ad (.ao (.ao (.var 0) 20) 6) (.var 1)) (.lit (.int 2)))) (.cons (.ifs (.or (.no (.ex (.var 3))) (.ex (.ah .ne (.ad (.ad (.var 3) (.neg (.lit (.int 1)))) (.lit (.int 2))) (.aj 45)))) (.cons (.ret (.lit (.bool ai))) .nil) .nil) (.cons (.an (.ag 4) (.ad (.ao (.ao (.var 0) 20) 6) (.aQ 22 (.var 0) (.cons (.ad (.ad (.var 3) (.neg (.lit (.int 1)))) (.lit (.int 1))) .nil)))) (.cons (.ifs (.ex (.ah .ne (.ad (.var 4) (.lit (.int 0))) (.aj 16))) (.cons (.ret (.lit (.bool ai))) .nil) .nil) (.cons (.ret (.or (.aX Y (.aj 41) (.comp (.ag 5) (.ex (.hH (.ad (.var 4) (.lit (.int 1))) (.lit .none) (.neg (.lit (.int 1))))) (.ex (.lit (.bool Y))) (.ad (.var 5) (.lit (.int 1))) [I,I,I,I,I,D (S0 "elem"),I])) (.aX Y (.aj 42) (.comp (.ag 6) (.ex (.ad (.var 4) (.lit (.int 1)))) (.ex (.lit (.bool Y))) (.ad (.var 6) (.lit (.int 1))) [I,I,I,I,I,I,D (S0 "elem")])))) .nil))))))
noncomputable abbrev DP:Ss:=.cons (.an (.ag 2) (.ad (.ao (.ao (.var 0) 20) 6) (.var 1))) (.cons (.ifs (.ex (.ah .eq (.ad (.var 2) (.lit (.int 0))) (.aj 15))) (.cons (.ret (.dA (.cons (.ab (.cons (.ad (.var 2) (.lit (.int 1))) (.cons (.aj 41) .nil))) .nil))) .nil) .nil) (.cons (.ret (.ite (.ex (.ah .eq (.ad (.var 2) (.lit (.int 0))) (.aj 16))) (.comp (.ag 3) (.ex (.ad (.var 2) (.lit (.int 1)))) (.ex (.lit (.bool Y))) (.var 3) [I,I,I,D (S0 "elem")]) (.dA (.cons (.ab (.cons (.var 1) (.cons (.aj 42) .nil))) .nil)))) .nil))
noncomputable abbrev u4:Ss:=.cons (.an (.ag 3) (.hH (.ad (.ad (.ao (.ao (.var 0) 20) 6) (.var 1)) (.lit (.int 2))) (.var 2) (.lit .none))) (.cons (.ifs (.and (.ex (.ah .eq (.bi .len (.cons (.var 3) .nil)) (.lit (.int 1)))) (.ex (.ah .ge (.call 101 (.cons (.var 0) (.cons (.var 1) .nil))) (.lit (.int 0))))) (.cons (.ret (.call 101 (.cons (.var 0) (.cons (.var 1) .nil)))) .nil) .nil) (.cons (.an (.ag 4) (.dA .nil)) (.cons (.for (.ag 5) (.ex (.var 3)) (.cons (.ifs (.ex (.ah .eq (.ad (.var 5) (.lit (.int 2))) (.aj 45))) (.cons (.expr (.aQ 1 (.var 4) (.cons (.call 103 (.cons (.var 0) (.cons (.aQ 22 (.var 0) (.cons (.ad (.var 5) (.lit (.int 1))) .nil)) .nil))) .nil))) .nil) (.cons (.expr (.aQ 0 (.var 4) (.cons (.ab (.cons (.ad (.var 5) (.lit (.int 1))) (.cons (.ite (.ex (.ah .eq (.ad (.var 5) (.lit (.int 2))) (.aj 44))) (.aj 40) (.aj 39)) .nil))) .nil))) .nil)) .nil)) (.cons (.ret (.call 18 (.cons (.ao (.var 0) 20) (.cons (.var 4) (.cons (.lit (.int 1)) .nil))))) .nil))))
noncomputable abbrev DQ:Ss:=.cons (.an (.ag 5) (.call 104 (.cons (.ao (.var 0) 35) (.cons (.var 1) (.cons (.var 3) .nil))))) (.cons (.an (.ag 6) (.call 104 (.cons (.ao (.var 0) 35) (.cons (.var 2) (.cons (.var 3) .nil))))) (.cons (.ret (.call 110 (.cons (.var 0) (.cons (.var 5) (.cons (.var 6) (.cons (.var 4) .nil)))))) .nil))
noncomputable abbrev DS:Ss:=.cons (.an (.ag 2) (.call 63 (.cons (.var 0) (.cons (.var 1) .nil)))) (.cons (.ifs (.ex (.ah .ge (.var 2) (.lit (.int 0)))) (.cons (.ret (.var 2)) .nil) .nil) (.cons (.an (.ag 3) (.ad (.ad (.ao (.ao (.var 0) 20) 6) (.var 1)) (.lit (.int 2)))) (.cons (.an (.ag 4) (.lit (.int 1))) (.cons (.for (.ag 5) (.ex (.call 20 (.cons (.ao (.var 0) 20) (.cons (.aQ 22 (.var 0) (.cons (.ad (.ad (.var 3) (.neg (.lit (.int 1)))) (.lit (.int 1))) .nil)) .nil)))) (.cons (.an (.ag 6) (.ad (.ao (.ao (.var 0) 20) 6) (.var 5))) (.cons (.ifs (.ex (.ah .eq (.ad (.var 6) (.lit (.int 0))) (.aj 16))) (.cons (.an (.ag 4) (.bi .max (.cons (.var 4) (.cons (.bi .len (.cons (.ad (.var 6) (.lit (.int 1))) .nil)) .nil)))) .nil) .nil) .nil))) (.cons (.ret (.aK .add (.aK .sub (.bi .len (.cons (.var 3) .nil)) (.lit (.int 1))) (.var 4))) .nil)))))
noncomputable abbrev DT:Ss:=.cons (.an (.ag 2) (.comp (.ag 5) (.ex (.call 20 (.cons (.ao (.var 0) 20) (.cons (.var 1) .nil)))) (.and (.ex (.ah .ne (.var 5) (.aj 28))) (.ex (.ah .ne (.var 5) (.aj 29)))) (.var 5) [I,I,I,I,I,D (S0 "part")])) (.cons (.ifs (.or (.ex (.ah .ne (.bi .len (.cons (.var 2) .nil)) (.lit (.int 1)))) (.ex (.aX ai (.ad (.ad (.ao (.ao (.var 0) 20) 6) (.ad (.var 2) (.lit (.int 0)))) (.lit (.int 0))) (.aj 70)))) (.cons (.ret (.neg (.lit (.int 1)))) .nil) .nil) (.cons (.an (.ag 3) (.ad (.ao (.ao (.var 0) 20) 6) (.aQ 21 (.var 0) (.cons (.ad (.var 2) (.lit (.int 0))) .nil)))) (.cons (.ifs (.or (.ex (.ah .ne (.ad (.var 3) (.lit (.int 1))) (.ab .nil))) (.or (.ex (.ah .ne (.bi .len (.cons (.ad (.var 3) (.lit (.int 2))) .nil)) (.lit (.int 1)))) (.or (.ex (.ah .ne (.ad (.var 3) (.lit (.int 3))) (.ab .nil))) (.or (.ex (.ah .ne (.ad (.var 3) (.lit (.int 4))) (.ab .nil))) (.ex (.ah .ne (.ad (.var 3) (.lit (.int 5))) (.ab .nil))))))) (.cons (.ret (.neg (.lit (.int 1)))) .nil) .nil) (.cons (.an (.ag 4) (.ad (.ao (.ao (.var 0) 20) 6) (.ad (.ad (.var 3) (.lit (.int 2))) (.lit (.int 0))))) (.cons (.ret (.ite (.and (.ex (.ah .eq (.ad (.var 4) (.lit (.int 1))) (.ab .nil))) (.ex (.ah .eq (.ad (.var 4) (.lit (.int 4))) (.ab .nil)))) (.ad (.ad (.var 3) (.lit (.int 2))) (.lit (.int 0))) (.neg (.lit (.int 1))))) .nil)))))
noncomputable abbrev DU:Ss:=.cons (.an (.ag 3) (.call 107 (.cons (.ao (.var 0) 35) (.cons (.var 1) .nil)))) (.cons (.an (.ag 4) (.call 107 (.cons (.ao (.var 0) 35) (.cons (.var 2) .nil)))) (.cons (.an (.ag 5) (.call 20 (.cons (.ao (.ao (.var 0) 35) 20) (.cons (.var 1) .nil)))) (.cons (.an (.ag 6) (.call 20 (.cons (.ao (.ao (.var 0) 35) 20) (.cons (.var 2) .nil)))) (.cons (.an (.ag 7) (.and (.ah .eq (.aX Y (.aj 28) (.var 5)) (.aX Y (.aj 28) (.var 6))) (.ah .eq (.aX Y (.aj 29) (.var 5)) (.aX Y (.aj 29) (.var 6))))) (.cons (.ifs (.and (.ex (.var 7)) (.and (.ex (.ah .ge (.var 3) (.lit (.int 0)))) (.ex (.ah .ge (.var 4) (.lit (.int 0)))))) (.cons (.ret (.call 108 (.cons (.var 0) (.cons (.var 4) (.cons (.var 3) .nil))))) .nil) .nil) (.cons (.ret (.aQ 36 (.var 0) (.cons (.var 1) (.cons (.var 2) .nil)))) .nil))))))
noncomputable abbrev DV:Ss:=.cons (.an (.ag 4) (.aQ 39 (.var 0) .nil)) (.cons (.ifs (.ex (.aQ 36 (.var 0) (.cons (.var 2) (.cons (.var 1) .nil)))) (.cons (.ret (.lit (.bool Y))) .nil) .nil) (.cons (.expr (.aQ 41 (.var 0) (.cons (.var 4) .nil))) (.cons (.ifs (.and (.ex (.var 3)) (.and (.ex (.ah .ne (.ao (.var 0) 34) (.aj 58))) (.ex (.call 109 (.cons (.var 0) (.cons (.var 1) (.cons (.var 2) .nil))))))) (.cons (.expr (.aQ 40 (.var 0) (.cons (.aj 1) .nil))) (.cons (.ret (.lit (.bool Y))) .nil)) .nil) (.cons (.ret (.lit (.bool ai))) .nil))))
noncomputable abbrev DW:Ss:=.cons (.ifs (.ex (.ah .ne (.ao (.var 0) 34) (.aj 58))) (.cons (.ret (.lit (.bool ai))) .nil) .nil) (.cons (.ifs (.or (.ex (.ah .lt (.var 3) (.call 61 (.cons (.ao (.var 0) 35) (.cons (.var 1) .nil))))) (.ex (.ah .ge (.var 3) (.call 61 (.cons (.ao (.var 0) 35) (.cons (.var 2) .nil)))))) (.cons (.ret (.lit (.bool ai))) .nil) .nil) (.cons (.ret (.aQ 36 (.var 0) (.cons (.var 4) (.cons (.var 5) .nil)))) .nil))
noncomputable abbrev DX:Ss:=.cons (.an (.ag 4) (.ao (.var 0) 35)) (.cons (.an (.ag 5) (.bi .max (.cons (.call 106 (.cons (.var 4) (.cons (.var 1) .nil))) (.cons (.call 106 (.cons (.var 4) (.cons (.var 2) .nil))) .nil)))) (.cons (.ifs (.or (.ex (.call 102 (.cons (.var 4) (.cons (.var 1) .nil)))) (.ex (.call 102 (.cons (.var 4) (.cons (.var 2) .nil))))) (.cons (.an (.ag 5) (.bi .max (.cons (.lit (.int 0)) (.cons (.aK .sub (.bi .min (.cons (.bi .len (.cons (.ad (.ad (.ao (.ao (.var 4) 20) 6) (.var 1)) (.lit (.int 2))) .nil)) (.cons (.bi .len (.cons (.ad (.ad (.ao (.ao (.var 4) 20) 6) (.var 2)) (.lit (.int 2))) .nil)) .nil))) (.lit (.int 1))) .nil)))) (.cons (.ifs (.no (.ex (.call 105 (.cons (.var 0) (.cons (.var 1) (.cons (.var 2) (.cons (.var 5) (.cons (.var 3) .nil)))))))) (.cons (.ret (.lit (.bool ai))) .nil) .nil) .nil)) .nil) (.cons (.for (.ag 6) (.range (.var 5)) (.cons (.an (.ag 7) (.call 59 (.cons (.var 4) (.cons (.var 1) (.cons (.var 6) .nil))))) (.cons (.an (.ag 8) (.call 59 (.cons (.var 4) (.cons (.var 2) (.cons (.var 6) .nil))))) (.cons (.ifs (.or (.ex (.ah .lt (.var 7) (.lit (.int 0)))) (.ex (.ah .lt (.var 8) (.lit (.int 0))))) (.cons .cont .nil) .nil) (.cons (.ifs (.or (.no (.ex (.call 110 (.cons (.var 0) (.cons (.var 7) (.cons (.var 8) (.cons (.var 3) .nil))))))) (.ex (.call 111 (.cons (.var 0) (.cons (.var 1) (.cons (.var 2) (.cons (.var 6) (.cons (.var 7) (.cons (.var 8) .nil))))))))) (.cons (.ret (.lit (.bool ai))) .nil) .nil) .nil))))) (.cons (.ret (.lit (.bool Y))) .nil))))
noncomputable abbrev DY:Ss:=.cons (.ifs (.or (.ex (.ah .eq (.var 1) (.ab .nil))) (.or (.ex (.ah .ne (.ad (.var 1) (.lit (.int 0))) (.ad (.var 2) (.lit (.int 0))))) (.ex (.ah .ne (.ad (.var 1) (.lit (.int 2))) (.ad (.var 2) (.lit (.int 2))))))) (.cons (.ret (.lit (.bool ai))) .nil) .nil) (.cons (.ifs (.or (.ex (.ah .lt (.ad (.var 1) (.lit (.int 1))) (.lit (.int 0)))) (.ex (.ah .lt (.ad (.var 2) (.lit (.int 1))) (.lit (.int 0))))) (.cons (.ret (.ah .eq (.ad (.var 1) (.lit (.int 1))) (.ad (.var 2) (.lit (.int 1))))) .nil) .nil) (.cons (.ret (.aQ 36 (.var 0) (.cons (.ad (.var 1) (.lit (.int 1))) (.cons (.ad (.var 2) (.lit (.int 1))) .nil)))) .nil))
noncomputable abbrev DZ:Ss:=.cons (.an (.ag 3) (.ad (.ao (.ao (.ao (.var 0) 35) 20) 6) (.var 1))) (.cons (.an (.ag 4) (.ad (.ao (.ao (.ao (.var 0) 35) 20) 6) (.var 2))) (.cons (.ifs (.ex (.ah .eq (.aQ 22 (.ao (.var 0) 35) (.cons (.ad (.var 4) (.lit (.int 3))) .nil)) (.aj 27))) (.cons (.ret (.lit (.bool Y))) .nil) .nil) (.cons (.ifs (.ex (.ah .ne (.ad (.var 4) (.lit (.int 4))) (.ab .nil))) (.cons (.ret (.call 113 (.cons (.var 0) (.cons (.ad (.var 3) (.lit (.int 4))) (.cons (.ad (.var 4) (.lit (.int 4))) .nil))))) .nil) .nil) (.cons (.ret (.aQ 36 (.var 0) (.cons (.ad (.var 3) (.lit (.int 3))) (.cons (.ad (.var 4) (.lit (.int 3))) .nil)))) .nil))))
noncomputable abbrev D0:Ss:=.cons (.an (.ag 2) (.ad (.ao (.ao (.var 0) 20) 6) (.var 1))) (.cons (.ifs (.or (.ex (.ah .ne (.ad (.var 2) (.lit (.int 1))) (.ab .nil))) (.or (.ex (.ah .ne (.bi .len (.cons (.ad (.var 2) (.lit (.int 2))) .nil)) (.lit (.int 1)))) (.or (.ex (.ah .ne (.ad (.ad (.ad (.var 2) (.lit (.int 2))) (.lit (.int 0))) (.lit (.int 2))) (.aj 45))) (.ex (.ah .ne (.ad (.var 2) (.lit (.int 4))) (.ab .nil)))))) (.cons (.ret (.neg (.lit (.int 1)))) .nil) .nil) (.cons (.an (.ag 3) (.aQ 22 (.var 0) (.cons (.ad (.ad (.ad (.var 2) (.lit (.int 2))) (.lit (.int 0))) (.lit (.int 1))) .nil))) (.cons (.an (.ag 4) (.ad (.ao (.ao (.var 0) 20) 6) (.var 3))) (.cons (.an (.ag 5) (.ite (.ex (.ah .eq (.ad (.var 4) (.lit (.int 0))) (.aj 15))) (.aQ 22 (.var 0) (.cons (.ad (.var 4) (.lit (.int 1))) .nil)) (.var 3))) (.cons (.an (.ag 6) (.aQ 22 (.var 0) (.cons (.ad (.var 2) (.lit (.int 3))) .nil))) (.cons (.ret (.ite (.and (.ex (.aX Y (.var 5) (.ab (.cons (.aj 24) (.cons (.aj 26) .nil))))) (.ex (.aX Y (.var 6) (.ab (.cons (.aj 24) (.cons (.aj 25) .nil)))))) (.var 5) (.neg (.lit (.int 1))))) .nil))))))
noncomputable abbrev D1:Ss:=.cons (.an (.ag 3) (.call 115 (.cons (.ao (.var 0) 35) (.cons (.var 2) .nil)))) (.cons (.ifs (.ex (.ah .lt (.var 3) (.lit (.int 0)))) (.cons (.ret (.lit (.bool ai))) .nil) .nil) (.cons (.ifs (.ex (.ah .eq (.ao (.var 0) 34) (.aj 58))) (.cons (.ret (.ah .lt (.call 115 (.cons (.ao (.var 0) 35) (.cons (.var 1) .nil))) (.lit (.int 0)))) .nil) .nil) (.cons (.an (.ag 4) (.aQ 22 (.ao (.var 0) 35) (.cons (.ad (.ad (.ad (.ad (.ao (.ao (.ao (.var 0) 35) 20) 6) (.var 2)) (.lit (.int 2))) (.lit (.int 0))) (.lit (.int 1))) .nil))) (.cons (.ifs (.ex (.ah .eq (.var 3) (.aj 24))) (.cons (.expr (.aQ 40 (.var 0) (.cons (.aj 0) .nil))) .nil) (.cons (.ifs (.and (.ex (.ah .ne (.var 4) (.aj 26))) (.ex (.ah .gt (.call 61 (.cons (.ao (.var 0) 35) (.cons (.var 1) .nil))) (.lit (.int 0))))) (.cons (.expr (.aQ 40 (.var 0) (.cons (.aj 3) .nil))) .nil) .nil) .nil)) (.cons (.ret (.lit (.bool Y))) .nil)))))
noncomputable abbrev D2:Ss:=.cons (.ret (.and (.call 112 (.cons (.var 0) (.cons (.var 1) (.cons (.var 2) (.cons (.var 3) .nil))))) (.call 114 (.cons (.var 0) (.cons (.var 1) (.cons (.var 2) .nil)))))) .nil
noncomputable abbrev D3:Ss:=.cons (.ifs (.ex (.ah .eq (.var 1) (.var 2))) (.cons (.ret (.lit (.bool Y))) .nil) .nil) (.cons (.ifs (.ex (.ah .eq (.ao (.var 0) 34) (.aj 57))) (.cons (.ret (.call 121 (.cons (.var 0) (.cons (.var 1) (.cons (.var 2) .nil))))) .nil) .nil) (.cons (.ifs (.ex (.call 116 (.cons (.var 0) (.cons (.var 1) (.cons (.var 2) .nil))))) (.cons (.ret (.lit (.bool Y))) .nil) .nil) (.cons (.ifs (.no (.ex (.call 100 (.cons (.var 0) (.cons (.var 1) (.cons (.var 2) .nil)))))) (.cons (.ret (.lit (.bool ai))) .nil) .nil) (.cons (.an (.ag 4) (.ao (.ao (.ao (.var 0) 35) 20) 6)) (.cons (.an (.ag 5) (.or (.var 3) (.ah .ne (.aK .band (.aK .bor (.ad (.ad (.var 4) (.var 1)) (.lit (.int 5))) (.ad (.ad (.var 4) (.var 2)) (.lit (.int 5)))) (.aj 46)) (.lit (.int 0))))) (.cons (.an (.ag 6) (.aQ 3 (.ao (.var 0) 33) (.cons (.aj 66) .nil))) (.cons (.ifs (.or (.ex (.ah .eq (.ad (.ad (.var 4) (.var 1)) (.lit (.int 1))) (.ab .nil))) (.ex (.dz Y (.var 6)))) (.cons (.ret (.call 117 (.cons (.var 0) (.cons (.var 1) (.cons (.var 2) (.cons (.var 5) .nil)))))) .nil) .nil) (.cons (.ret (.ite (.ex (.var 5)) (.aQ 42 (.var 6) (.cons (.var 0) (.cons (.var 1) (.cons (.var 2) .nil)))) (.aQ 37 (.var 6) (.cons (.var 0) (.cons (.var 1) (.cons (.var 2) .nil)))))) .nil))))))))
noncomputable abbrev D4:Ss:=.cons (.ifs (.ex (.ah .ne (.bi .len (.cons (.var 1) .nil)) (.bi .len (.cons (.var 2) .nil)))) (.cons (.ret (.lit (.bool ai))) .nil) .nil) (.cons (.for (.ag 3) (.range (.bi .len (.cons (.var 1) .nil))) (.cons (.ifs (.or (.ex (.ah .ne (.ad (.ad (.var 1) (.var 3)) (.lit (.int 2))) (.ad (.ad (.var 2) (.var 3)) (.lit (.int 2))))) (.no (.ex (.aQ 36 (.var 0) (.cons (.ad (.ad (.var 1) (.var 3)) (.lit (.int 1))) (.cons (.ad (.ad (.var 2) (.var 3)) (.lit (.int 1))) .nil)))))) (.cons (.ret (.lit (.bool ai))) .nil) .nil) .nil)) (.cons (.ret (.lit (.bool Y))) .nil))
noncomputable abbrev D5:Ss:=.cons (.ifs (.or (.ex (.ah .eq (.var 1) (.ab .nil))) (.ex (.ah .eq (.var 2) (.ab .nil)))) (.cons (.ret (.ah .eq (.var 1) (.var 2))) .nil) .nil) (.cons (.ret (.call 113 (.cons (.var 0) (.cons (.var 1) (.cons (.var 2) .nil))))) .nil)
noncomputable abbrev D6:Ss:=.cons (.an (.ag 3) (.ao (.var 0) 35)) (.cons (.an (.ag 4) (.ad (.ad (.ao (.ao (.var 3) 20) 6) (.var 1)) (.lit (.int 1)))) (.cons (.an (.ag 5) (.ad (.ao (.ao (.var 3) 20) 6) (.var 2))) (.cons (.ifs (.ex (.ah .ne (.bi .len (.cons (.var 4) .nil)) (.bi .len (.cons (.ad (.var 5) (.lit (.int 1))) .nil)))) (.cons (.ret (.lit (.bool ai))) .nil) .nil) (.cons (.ifs (.ex (.var 4)) (.cons (.an (.ag 1) (.call 78 (.cons (.var 0) (.cons (.aj 66) (.cons (.var 1) (.cons (.var 2) .nil)))))) (.cons (.ifs (.ex (.ah .lt (.var 1) (.lit (.int 0)))) (.cons (.ret (.lit (.bool ai))) .nil) .nil) .nil)) .nil) (.cons (.an (.ag 6) (.ad (.ao (.ao (.var 3) 20) 6) (.var 1))) (.cons (.ifs (.ex (.ah .ne (.aK .band (.aK .bxor (.ad (.var 6) (.lit (.int 5))) (.ad (.var 5) (.lit (.int 5)))) (.aK .bor (.aj 47) (.aj 48))) (.lit (.int 0)))) (.cons (.ret (.lit (.bool ai))) .nil) .nil) (.cons (.ret (.and (.call 119 (.cons (.var 0) (.cons (.ad (.var 6) (.lit (.int 2))) (.cons (.ad (.var 5) (.lit (.int 2))) .nil)))) (.and (.call 120 (.cons (.var 0) (.cons (.ad (.var 6) (.lit (.int 4))) (.cons (.ad (.var 5) (.lit (.int 4))) .nil)))) (.aQ 36 (.var 0) (.cons (.ad (.var 6) (.lit (.int 3))) (.cons (.ad (.var 5) (.lit (.int 3))) .nil)))))) .nil)))))))
noncomputable abbrev D7:Ss:=.cons (.ret (.call 118 (.cons (.var 1) (.cons (.var 2) (.cons (.var 3) (.cons (.lit (.bool ai)) .nil)))))) .nil
noncomputable abbrev D8:Ss:=.cons (.gs (.ao (.var 0) 33) (.aj 61) (.new 8 .nil)) (.cons (.gs (.ao (.var 0) 33) (.aj 65) (.new 9 .nil)) .nil)
noncomputable abbrev D9:Ss:=.cons (.an (.ag 3) (.ad (.var 1) (.lit (.int 0)))) (.cons (.gs (.var 1) (.lit (.int 0)) (.aK .add (.var 3) (.lit (.int 1)))) (.cons (.an (.ag 4) (.bi .len (.cons (.var 0) .nil))) (.cons (.ret (.aK .mod (.aK .add (.ad (.var 0) (.aK .mod (.var 3) (.var 4))) (.aK .mul (.aK .fdiv (.var 3) (.var 4)) (.aK .add (.aK .mod (.ad (.var 0) (.lit (.int 0))) (.lit (.int 7))) (.aK .mul (.lit (.int 3)) (.var 3))))) (.var 2))) .nil)))
noncomputable abbrev yg:Ss:=.cons (.ifs (.ex (.aK .band (.var 0) (.lit (.int 4096)))) (.cons (.ret (.lit (.int 4096))) .nil) .nil) (.cons (.ifs (.ex (.aK .band (.var 0) (.lit (.int 2048)))) (.cons (.ret (.lit (.int 2048))) .nil) .nil) (.cons (.ifs (.ex (.aK .band (.var 0) (.lit (.int 4)))) (.cons (.an (.ag 0) (.aK .band (.var 0) (.nV (.lit (.int 3))))) .nil) .nil) (.cons (.ifs (.ex (.aK .band (.var 0) (.lit (.int 32)))) (.cons (.an (.ag 0) (.aK .band (.var 0) (.nV (.lit (.int 24))))) .nil) .nil) (.cons (.ret (.var 0)) .nil))))
noncomputable abbrev Ea:Ss:=.cons (.an (.ag 2) (.call 132 (.cons (.aK .bor (.ad (.var 0) (.lit (.int 0))) (.var 1)) .nil))) (.cons (.ret (.ab (.cons (.var 2) (.cons (.ite (.ex (.aK .band (.var 2) (.lit (.int 6144)))) (.lit (.none)) (.ad (.var 0) (.lit (.int 1)))) .nil)))) .nil)
noncomputable abbrev Eb:Ss:=.cons (.an (.ag 3) (.call 131 (.cons (.var 0) (.cons (.var 1) (.cons (.lit (.int 22)) .nil))))) (.cons (.ifs (.or (.ex (.ah .lt (.var 3) (.lit (.int 18)))) (.ex (.ah .gt (.var 2) (.lit (.int 1))))) (.cons (.ret (.ab (.cons (.ad (.aj 74) (.aK .mod (.var 3) (.lit (.int 18)))) (.cons (.lit (.none)) .nil)))) .nil) .nil) (.cons (.ret (.ab (.cons (.ad (.ab (.cons (.lit (.int 0)) (.cons (.lit (.int 0)) (.cons (.lit (.int 512)) (.cons (.lit (.int 256)) .nil))))) (.aK .sub (.var 3) (.lit (.int 18)))) (.cons (.call 136 (.cons (.var 0) (.cons (.var 1) (.cons (.aK .add (.var 2) (.lit (.int 1))) .nil)))) .nil)))) .nil))
noncomputable abbrev yh:Ss:=.cons (.an (.ag 2) (.call 131 (.cons (.var 0) (.cons (.var 1) (.cons (.lit (.int 6)) .nil))))) (.cons (.ifs (.ex (.ah .lt (.var 2) (.lit (.int 3)))) (.cons (.ret (.ab .nil)) .nil) .nil) (.cons (.an (.ag 3) (.ite (.ex (.ah .eq (.var 2) (.lit (.int 5)))) (.lit (.none)) (.ab (.cons (.ad (.aj 74) (.call 131 (.cons (.var 0) (.cons (.var 1) (.cons (.lit (.int 18)) .nil))))) (.cons (.lit (.none)) .nil))))) (.cons (.ret (.ab (.cons (.aK .sub (.call 131 (.cons (.var 0) (.cons (.var 1) (.cons (.lit (.int 2)) .nil)))) (.lit (.int 1))) (.cons (.var 3) (.cons (.aK .mod (.var 2) (.lit (.int 2))) .nil))))) .nil)))
noncomputable abbrev qH:Ss:=.cons (.an (.ag 3) (.ite (.ex (.ah .eq (.var 2) (.lit (.int 0)))) (.aK .add (.call 131 (.cons (.var 0) (.cons (.var 1) (.cons (.lit (.int 3)) .nil)))) (.lit (.int 1))) (.call 131 (.cons (.var 0) (.cons (.var 1) (.cons (.lit (.int 2)) .nil)))))) (.cons (.an (.ag 4) (.call 131 (.cons (.var 0) (.cons (.var 1) (.cons (.aK .add (.var 3) (.lit (.int 1))) .nil))))) (.cons (.an (.ag 5) (.dA .nil)) (.cons (.for (.ag 6) (.range (.var 3)) (.cons (.expr (.aQ 0 (.var 5) (.cons (.ab (.cons (.call 134 (.cons (.var 0) (.cons (.var 1) (.cons (.var 2) .nil)))) (.cons (.ite (.ex (.ah .lt (.var 6) (.aK .sub (.var 3) (.var 4)))) (.lit (.int 0)) (.lit (.int 1))) .nil))) .nil))) .nil)) (.cons (.an (.ag 7) (.lit (.none))) (.cons (.an (.ag 8) (.var 3)) (.cons (.an (.ag 9) (.call 131 (.cons (.var 0) (.cons (.var 1) (.cons (.lit (.int 6)) .nil))))) (.cons (.ifs (.and (.ex (.ah .eq (.ad (.var 1) (.lit (.int 1))) (.lit (.int 0)))) (.ex (.ah .lt (.var 2) (.lit (.int 2))))) (.cons (.ifs (.ex (.ah .gt (.var 9) (.lit (.int 2)))) (.cons (.an (.ag 7) (.call 134 (.cons (.var 0) (.cons (.var 1) (.cons (.lit (.int 2)) .nil))))) .nil) .nil) (.cons (.ifs (.ex (.ah .eq (.aK .mod (.var 9) (.lit (.int 3))) (.lit (.int 1)))) (.cons (.an (.ag 8) (.call 131 (.cons (.var 0) (.cons (.var 1) (.cons (.aK .add (.var 3) (.lit (.int 1))) .nil))))) .nil) .nil) .nil)) .nil) (.cons (.an (.ag 10) (.call 134 (.cons (.var 0) (.cons (.var 1) (.cons (.var 2) .nil))))) (.cons (.an (.ag 11) (.call 135 (.cons (.var 0) (.cons (.var 1) .nil)))) (.cons (.ret (.ab (.cons (.bi .tuple (.cons (.var 5) .nil)) (.cons (.var 8) (.cons (.var 7) (.cons (.var 10) (.cons (.var 11) (.cons (.ad (.ab (.cons (.lit (.int 0)) (.cons (.lit (.int 0)) (.cons (.lit (.int 1)) (.cons (.lit (.int 0)) (.cons (.lit (.int 2)) (.cons (.lit (.int 5)) .nil))))))) (.call 131 (.cons (.var 0) (.cons (.var 1) (.cons (.lit (.int 6)) .nil))))) .nil)))))))) .nil))))))))))
noncomputable abbrev Ec:Ss:=.cons (.an (.ag 4) (.call 131 (.cons (.var 0) (.cons (.var 1) (.cons (.lit (.int 7)) .nil))))) (.cons (.ifs (.ex (.ah .eq (.var 4) (.lit (.int 3)))) (.cons (.ret (.call 133 (.cons (.var 2) (.cons (.aK .shl (.lit (.int 1)) (.call 131 (.cons (.var 0) (.cons (.var 1) (.cons (.lit (.int 12)) .nil))))) .nil)))) .nil) .nil) (.cons (.ifs (.ex (.ah .eq (.var 4) (.lit (.int 4)))) (.cons (.ret (.ab (.cons (.aK .band (.ad (.var 2) (.lit (.int 0))) (.aK .sub (.ad (.var 2) (.lit (.int 0))) (.lit (.int 1)))) (.cons (.ad (.var 2) (.lit (.int 1))) .nil)))) .nil) .nil) (.cons (.ifs (.and (.ex (.ah .eq (.var 4) (.lit (.int 5)))) (.ex (.dz ai (.ad (.var 2) (.lit (.int 1)))))) (.cons (.ret (.ab (.cons (.ad (.var 2) (.lit (.int 0))) (.cons (.call 138 (.cons (.var 0) (.cons (.var 1) (.cons (.ad (.var 2) (.lit (.int 1))) (.cons (.aK .add (.var 3) (.lit (.int 1))) .nil))))) .nil)))) .nil) .nil) (.cons (.ifs (.ex (.ah .gt (.var 4) (.lit (.int 4)))) (.cons (.ret (.call 134 (.cons (.var 0) (.cons (.var 1) (.cons (.var 3) .nil))))) .nil) .nil) (.cons (.ret (.var 2)) .nil)))))
noncomputable abbrev gy:Ss:=.cons (.an (.fT [4,5,6,7,8,9]) (.var 2)) (.cons (.an (.ag 10) (.call 131 (.cons (.var 0) (.cons (.var 1) (.cons (.lit (.int 8)) .nil))))) (.cons (.an (.ag 11) (.comp (.fT [15,16]) (.ex (.var 4)) (.ex (.lit (.bool Y))) (.ab (.cons (.call 137 (.cons (.var 0) (.cons (.var 1) (.cons (.var 15) (.cons (.var 3) .nil))))) (.cons (.var 16) .nil))) [D (S0 "nums"),D (S0 "at"),I,D (S0 "deep"),I,I,I,I,I,I,I,I,I,I,I,D (S0 "kind"),D (S0 "opt"),I])) (.cons (.an (.ag 12) (.ah .eq (.var 5) (.bi .len (.cons (.var 11) .nil)))) (.cons (.ifs (.and (.ex (.ah .eq (.var 10) (.lit (.int 0)))) (.ex (.ah .gt (.bi .len (.cons (.var 11) .nil)) (.lit (.int 0))))) (.cons (.an (.ag 11) (.hH (.var 11) (.lit .none) (.neg (.lit (.int 1))))) .nil) .nil) (.cons (.ifs (.ex (.ah .eq (.var 10) (.lit (.int 1)))) (.cons (.an (.ag 13) (.ite (.ex (.ah .gt (.bi .len (.cons (.var 11) .nil)) (.lit (.int 0)))) (.ad (.ad (.var 11) (.neg (.lit (.int 1)))) (.lit (.int 1))) (.lit (.int 0)))) (.cons (.expr (.aQ 0 (.var 11) (.cons (.ab (.cons (.call 134 (.cons (.var 0) (.cons (.var 1) (.cons (.lit (.int 2)) .nil)))) (.cons (.ite (.ex (.var 13)) (.lit (.int 1)) (.call 131 (.cons (.var 0) (.cons (.var 1) (.cons (.lit (.int 2)) .nil))))) .nil))) .nil))) .nil)) .nil) (.cons (.ifs (.ex (.ah .eq (.var 10) (.lit (.int 2)))) (.cons (.an (.ag 14) (.call 131 (.cons (.var 0) (.cons (.var 1) (.cons (.aK .add (.bi .len (.cons (.var 11) .nil)) (.lit (.int 1))) .nil))))) (.cons (.an (.ag 11) (.comp (.ag 17) (.range (.bi .len (.cons (.var 11) .nil))) (.ex (.lit (.bool Y))) (.ab (.cons (.ad (.ad (.var 11) (.var 17)) (.lit (.int 0))) (.cons (.ite (.ex (.ah .lt (.var 17) (.var 14))) (.lit (.int 0)) (.lit (.int 1))) .nil))) [I,I,I,I,I,I,I,I,I,I,I,D (S0 "rows"),I,I,D (S0 "wants"),I,I,D (S0 "i")])) .nil)) .nil) (.cons (.ifs (.and (.ex (.ah .eq (.var 10) (.lit (.int 3)))) (.ex (.ah .eq (.ad (.var 1) (.lit (.int 1))) (.lit (.int 0))))) (.cons (.an (.ag 6) (.ite (.ex (.dz ai (.var 6))) (.lit (.none)) (.call 134 (.cons (.var 0) (.cons (.var 1) (.cons (.lit (.int 2)) .nil)))))) .nil) (.cons (.ifs (.ex (.dz ai (.var 6))) (.cons (.an (.ag 6) (.call 137 (.cons (.var 0) (.cons (.var 1) (.cons (.var 6) (.cons (.lit (.int 2)) .nil)))))) .nil) .nil) .nil)) (.cons (.an (.ag 5) (.ite (.ex (.var 12)) (.bi .len (.cons (.var 11) .nil)) (.bi .min (.cons (.var 5) (.cons (.bi .len (.cons (.var 11) .nil)) .nil))))) (.cons (.ifs (.and (.ex (.ah .eq (.var 10) (.lit (.int 4)))) (.ex (.ah .eq (.ad (.var 1) (.lit (.int 1))) (.lit (.int 0))))) (.cons (.an (.ag 5) (.call 131 (.cons (.var 0) (.cons (.var 1) (.cons (.aK .add (.bi .len (.cons (.var 11) .nil)) (.lit (.int 1))) .nil))))) .nil) .nil) (.cons (.an (.ag 7) (.call 137 (.cons (.var 0) (.cons (.var 1) (.cons (.var 7) (.cons (.var 3) .nil)))))) (.cons (.ifs (.ex (.ah .eq (.call 131 (.cons (.var 0) (.cons (.var 1) (.cons (.lit (.int 5)) .nil)))) (.lit (.int 4)))) (.cons (.an (.ag 7) (.ab (.cons (.lit (.int 1024)) (.cons (.lit (.none)) .nil)))) .nil) .nil) (.cons (.ifs (.ex (.ah .eq (.call 131 (.cons (.var 0) (.cons (.var 1) (.cons (.lit (.int 4)) .nil)))) (.lit (.int 3)))) (.cons (.an (.ag 8) (.call 135 (.cons (.var 0) (.cons (.var 1) .nil)))) .nil) .nil) (.cons (.ifs (.ex (.ah .eq (.call 131 (.cons (.var 0) (.cons (.var 1) (.cons (.lit (.int 3)) .nil)))) (.lit (.int 2)))) (.cons (.an (.ag 9) (.ad (.ab (.cons (.lit (.int 0)) (.cons (.lit (.int 1)) (.cons (.lit (.int 4)) .nil)))) (.call 131 (.cons (.var 0) (.cons (.var 1) (.cons (.lit (.int 3)) .nil)))))) .nil) .nil) (.cons (.ret (.ab (.cons (.bi .tuple (.cons (.var 11) .nil)) (.cons (.var 5) (.cons (.var 6) (.cons (.var 7) (.cons (.var 8) (.cons (.var 9) .nil)))))))) .nil))))))))))))))
noncomputable abbrev Ed:Ss:=.cons (.ifs (.ex (.ah .lt (.var 1) (.lit (.int 2)))) (.cons (.ret (.call 11 (.cons (.var 0) (.cons (.ad (.lit (.str (S0 "ab"))) (.var 1)) (.cons (.var 2) .nil))))) .nil) .nil) (.cons (.ifs (.or (.ex (.ah .eq (.var 1) (.lit (.int 3)))) (.ex (.ah .eq (.var 1) (.lit (.int 4))))) (.cons (.ret (.call 12 (.cons (.var 0) (.cons (.aK .sub (.var 1) (.lit (.int 3))) (.cons (.var 2) .nil))))) .nil) .nil) (.cons (.ifs (.or (.ex (.ah .eq (.var 1) (.lit (.int 6)))) (.ex (.ah .eq (.var 1) (.lit (.int 7))))) (.cons (.ret (.call 13 (.cons (.var 0) (.cons (.aK .sub (.var 1) (.lit (.int 6))) (.cons (.var 2) .nil))))) .nil) .nil) (.cons (.ret (.ad (.ab (.cons (.lit (.int 0)) (.cons (.lit (.int 0)) (.cons (.aj 30) (.cons (.lit (.int 0)) (.cons (.lit (.int 0)) (.cons (.aj 31) (.cons (.lit (.int 0)) (.cons (.lit (.int 0)) (.cons (.aj 29) (.cons (.aj 28) (.cons (.aj 27) (.cons (.aj 25) (.cons (.aj 24) .nil)))))))))))))) (.var 1))) .nil)))
noncomputable abbrev Ee:Ss:=.cons (.an (.ag 4) (.comp (.ag 5) (.range (.lit (.int 13))) (.ex (.aK .band (.aK .shr (.ad (.var 1) (.lit (.int 0))) (.var 5)) (.lit (.int 1)))) (.call 139 (.cons (.var 0) (.cons (.var 5) (.cons (.var 3) .nil)))) [D (S0 "tab"),D (S0 "kind"),I,D (S0 "fresh"),I,D (S0 "i")])) (.cons (.ifs (.ex (.dz ai (.ad (.var 1) (.lit (.int 1))))) (.cons (.expr (.aQ 0 (.var 4) (.cons (.call 141 (.cons (.var 0) (.cons (.ad (.var 1) (.lit (.int 1))) (.cons (.var 2) (.cons (.var 3) .nil))))) .nil))) .nil) .nil) (.cons (.ret (.call 26 (.cons (.var 0) (.cons (.var 4) .nil)))) .nil))
noncomputable abbrev ph:Ss:=.cons (.an (.fT [4,5,6,7,8,9]) (.var 1)) (.cons (.an (.ag 10) (.dA .nil)) (.cons (.an (.ag 11) (.dA .nil)) (.cons (.for (.ag 12) (.range (.bi .len (.cons (.var 4) .nil))) (.cons (.an (.ag 13) (.call 140 (.cons (.var 0) (.cons (.ad (.ad (.var 4) (.var 12)) (.lit (.int 0))) (.cons (.var 2) (.cons (.var 3) .nil)))))) (.cons (.ifs (.ex (.ah .lt (.var 12) (.var 5))) (.cons (.expr (.aQ 0 (.var 10) (.cons (.ab (.cons (.aK .add (.var 2) (.bi .str (.cons (.var 12) .nil))) (.cons (.var 13) (.cons (.ite (.ex (.ad (.ad (.var 4) (.var 12)) (.lit (.int 1)))) (.aj 44) (.aj 43)) .nil)))) .nil))) .nil) (.cons (.expr (.aQ 0 (.var 11) (.cons (.ab (.cons (.var 13) (.cons (.ite (.ex (.ad (.ad (.var 4) (.var 12)) (.lit (.int 1)))) (.aj 40) (.aj 39)) .nil))) .nil))) .nil)) .nil))) (.cons (.ifs (.ex (.ah .gt (.bi .len (.cons (.var 11) .nil)) (.lit (.int 0)))) (.cons (.ifs (.ex (.dz ai (.var 6))) (.cons (.expr (.aQ 0 (.var 11) (.cons (.ab (.cons (.call 140 (.cons (.var 0) (.cons (.var 6) (.cons (.var 2) (.cons (.var 3) .nil))))) (.cons (.aj 41) .nil))) .nil))) .nil) .nil) (.cons (.expr (.aQ 0 (.var 10) (.cons (.ab (.cons (.var 2) (.cons (.call 18 (.cons (.var 0) (.cons (.var 11) .nil))) (.cons (.aj 45) .nil)))) .nil))) .nil)) (.cons (.ifs (.ex (.dz ai (.var 6))) (.cons (.expr (.aQ 0 (.var 10) (.cons (.ab (.cons (.var 2) (.cons (.call 14 (.cons (.var 0) (.cons (.call 140 (.cons (.var 0) (.cons (.var 6) (.cons (.var 2) (.cons (.var 3) .nil))))) .nil))) (.cons (.aj 45) .nil)))) .nil))) .nil) .nil) .nil)) (.cons (.an (.ag 14) (.ab .nil)) (.cons (.ifs (.ex (.ah .ne (.var 8) (.ab .nil))) (.cons (.an (.ag 14) (.ab (.cons (.ad (.var 8) (.lit (.int 0))) (.cons (.ite (.ex (.dz Y (.ad (.var 8) (.lit (.int 1))))) (.neg (.lit (.int 1))) (.call 140 (.cons (.var 0) (.cons (.ad (.var 8) (.lit (.int 1))) (.cons (.var 2) (.cons (.var 3) .nil)))))) (.cons (.ad (.var 8) (.lit (.int 2))) .nil))))) .nil) .nil) (.cons (.ret (.call 19 (.cons (.var 0) (.cons (.ab .nil) (.cons (.var 10) (.cons (.call 140 (.cons (.var 0) (.cons (.var 7) (.cons (.var 2) (.cons (.var 3) .nil))))) (.cons (.var 14) (.cons (.var 9) .nil)))))))) .nil)))))))
noncomputable abbrev yi:Ss:=.cons (.an (.ag 1) (.ad (.var 0) (.lit (.int 4)))) (.cons (.ifs (.and (.ex (.ah .ne (.var 1) (.ab .nil))) (.ex (.dz ai (.ad (.var 1) (.lit (.int 1)))))) (.cons (.an (.ag 1) (.ab (.cons (.ad (.var 1) (.lit (.int 0))) (.cons (.call 143 (.cons (.ad (.var 1) (.lit (.int 1))) .nil)) (.cons (.ad (.var 1) (.lit (.int 2))) .nil))))) .nil) .nil) (.cons (.an (.ag 2) (.bi .tuple (.cons (.comp (.fT [3,4]) (.ex (.ad (.var 0) (.lit (.int 0)))) (.ex (.lit (.bool Y))) (.ab (.cons (.call 143 (.cons (.var 3) .nil)) (.cons (.var 4) .nil))) [I,I,I,D (S0 "kind"),D (S0 "opt")]) .nil))) (.cons (.ret (.ab (.cons (.var 2) (.cons (.call 143 (.cons (.ad (.var 0) (.lit (.int 3))) .nil)) (.cons (.var 1) (.cons (.aK .band (.ad (.var 0) (.lit (.int 5))) (.lit (.int 6))) .nil)))))) .nil)))
noncomputable abbrev Ef:Ss:=.cons (.ret (.ab (.cons (.ad (.var 0) (.lit (.int 0))) (.cons (.ite (.ex (.dz Y (.ad (.var 0) (.lit (.int 1))))) (.lit (.none)) (.call 142 (.cons (.ad (.var 0) (.lit (.int 1))) .nil))) .nil)))) .nil
noncomputable abbrev u5:Ss:=.cons (.ifs (.or (.ex (.aK .band (.ad (.var 1) (.lit (.int 0))) (.lit (.int 4096)))) (.ex (.ah .eq (.var 0) (.ab (.cons (.lit (.int 0)) (.cons (.lit (.none)) .nil)))))) (.cons (.ret (.lit (.int 0))) .nil) .nil) (.cons (.ifs (.and (.ex (.aK .band (.ad (.var 0) (.lit (.int 0))) (.lit (.int 4096)))) (.ex (.ah .eq (.var 2) (.aj 58)))) (.cons (.ret (.neg (.lit (.int 1)))) .nil) .nil) (.cons (.ifs (.ex (.aK .band (.ad (.var 1) (.lit (.int 0))) (.lit (.int 2048)))) (.cons (.ret (.lit (.int 0))) .nil) .nil) (.cons (.ifs (.ex (.aK .band (.ad (.var 0) (.lit (.int 0))) (.lit (.int 4096)))) (.cons (.ret (.ite (.ex (.ah .eq (.var 1) (.ab (.cons (.lit (.int 0)) (.cons (.lit (.none)) .nil))))) (.neg (.lit (.int 1))) (.lit (.int 1)))) .nil) .nil) (.cons (.an (.ag 3) (.aK .bor (.aK .bor (.aK .bor (.ad (.var 1) (.lit (.int 0))) (.ite (.ex (.aK .band (.ad (.var 1) (.lit (.int 0))) (.lit (.int 4)))) (.lit (.int 3)) (.lit (.int 0)))) (.ite (.ex (.aK .band (.ad (.var 1) (.lit (.int 0))) (.lit (.int 32)))) (.lit (.int 24)) (.lit (.int 0)))) (.ite (.ex (.aK .band (.ad (.var 1) (.lit (.int 0))) (.lit (.int 1024)))) (.lit (.int 512)) (.lit (.int 0))))) (.cons (.an (.ag 4) (.neg (.lit (.int 1)))) (.cons (.ifs (.and (.ex (.dz ai (.ad (.var 0) (.lit (.int 1))))) (.ex (.dz ai (.ad (.var 1) (.lit (.int 1)))))) (.cons (.an (.ag 4) (.call 151 (.cons (.ad (.var 0) (.lit (.int 1))) (.cons (.ad (.var 1) (.lit (.int 1))) (.cons (.lit (.bool ai)) (.cons (.var 2) .nil)))))) .nil) .nil) (.cons (.ifs (.ex (.ah .eq (.var 2) (.aj 56))) (.cons (.an (.ag 3) (.aK .bor (.aK .bor (.aK .bor (.var 3) (.ite (.ex (.aK .band (.ad (.var 1) (.lit (.int 0))) (.lit (.int 3)))) (.lit (.int 4)) (.lit (.int 0)))) (.ite (.ex (.aK .band (.ad (.var 1) (.lit (.int 0))) (.lit (.int 24)))) (.lit (.int 32)) (.lit (.int 0)))) (.ite (.ex (.aK .band (.ad (.var 1) (.lit (.int 0))) (.lit (.int 512)))) (.lit (.int 1024)) (.lit (.int 0))))) (.cons (.ifs (.ex (.ah .ne (.var 1) (.ab (.cons (.lit (.int 0)) (.cons (.lit (.none)) .nil))))) (.cons (.an (.ag 3) (.aK .bor (.var 3) (.lit (.int 2048)))) .nil) .nil) (.cons (.ret (.ite (.or (.ex (.aK .band (.ad (.var 0) (.lit (.int 0))) (.var 3))) (.ex (.ah .ge (.var 4) (.lit (.int 0))))) (.lit (.int 0)) (.neg (.lit (.int 1))))) .nil))) .nil) (.cons (.ifs (.ex (.aK .band (.ad (.var 0) (.lit (.int 0))) (.nV (.var 3)))) (.cons (.ret (.neg (.lit (.int 1)))) .nil) .nil) (.cons (.ret (.ite (.ex (.dz Y (.ad (.var 0) (.lit (.int 1))))) (.lit (.int 0)) (.var 4))) .nil)))))))))
noncomputable abbrev Eg:Ss:=.cons (.an (.ag 4) (.call 144 (.cons (.var 0) (.cons (.var 1) (.cons (.var 3) .nil))))) (.cons (.ifs (.and (.ex (.ah .lt (.var 4) (.lit (.int 0)))) (.and (.ex (.var 2)) (.ex (.ah .ne (.var 3) (.aj 58))))) (.cons (.an (.ag 4) (.call 144 (.cons (.var 1) (.cons (.var 0) (.cons (.var 3) .nil))))) (.cons (.ifs (.ex (.ah .ge (.var 4) (.lit (.int 0)))) (.cons (.an (.ag 4) (.aK .bor (.var 4) (.lit (.int 2)))) .nil) .nil) .nil)) .nil) (.cons (.ret (.var 4)) .nil))
noncomputable abbrev Eh:Ss:=.cons (.an (.ag 3) (.ad (.var 0) (.lit (.int 4)))) (.cons (.an (.ag 4) (.ad (.var 1) (.lit (.int 4)))) (.cons (.ifs (.ex (.ah .eq (.ad (.var 1) (.lit (.int 3))) (.ab (.cons (.lit (.int 1024)) (.cons (.lit (.none)) .nil))))) (.cons (.ret (.lit (.int 0))) .nil) .nil) (.cons (.ifs (.ex (.ah .ne (.var 4) (.ab .nil))) (.cons (.ifs (.or (.ex (.ah .eq (.var 3) (.ab .nil))) (.or (.ex (.ah .ne (.ad (.var 3) (.lit (.int 0))) (.ad (.var 4) (.lit (.int 0))))) (.ex (.ah .ne (.ad (.var 3) (.lit (.int 2))) (.ad (.var 4) (.lit (.int 2))))))) (.cons (.ret (.neg (.lit (.int 1)))) .nil) .nil) (.cons (.ifs (.or (.ex (.dz Y (.ad (.var 3) (.lit (.int 1))))) (.ex (.dz Y (.ad (.var 4) (.lit (.int 1)))))) (.cons (.ret (.ite (.and (.ex (.dz Y (.ad (.var 3) (.lit (.int 1))))) (.ex (.dz Y (.ad (.var 4) (.lit (.int 1)))))) (.lit (.int 0)) (.neg (.lit (.int 1))))) .nil) .nil) (.cons (.ret (.call 144 (.cons (.ad (.var 3) (.lit (.int 1))) (.cons (.ad (.var 4) (.lit (.int 1))) (.cons (.var 2) .nil))))) .nil))) .nil) (.cons (.ret (.call 144 (.cons (.ad (.var 0) (.lit (.int 3))) (.cons (.ad (.var 1) (.lit (.int 3))) (.cons (.var 2) .nil))))) .nil))))
noncomputable abbrev Ei:Ss:=.cons (.while (.and (.ex (.ah .gt (.var 1) (.lit (.int 0)))) (.ex (.aK .band (.ad (.ad (.var 0) (.aK .sub (.var 1) (.lit (.int 1)))) (.lit (.int 0))) (.lit (.int 1024))))) (.cons (.an (.ag 1) (.aK .sub (.var 1) (.lit (.int 1)))) .nil)) (.cons (.ret (.var 1)) .nil)
noncomputable abbrev Ej:Ss:=.cons (.ret (.comp (.fT [1,2]) (.ex (.ad (.var 0) (.lit (.int 0)))) (.ex (.lit (.bool Y))) (.ite (.ex (.var 2)) (.call 133 (.cons (.var 1) (.cons (.lit (.int 512)) .nil))) (.var 1)) [I,D (S0 "kind"),D (S0 "opt")])) .nil
noncomputable abbrev Ek:Ss:=.cons (.ret (.bi .len (.cons (.comp (.fT [1,2]) (.ex (.ad (.var 0) (.lit (.int 0)))) (.no (.ex (.var 2))) (.lit (.int 1)) [I,D (S0 "kind"),D (S0 "opt")]) .nil))) .nil
noncomputable abbrev yj:Ss:=.cons (.an (.ag 1) (.and (.aX Y (.ad (.var 0) (.lit (.int 2))) (.ab (.cons (.ab (.cons (.lit (.int 4096)) (.cons (.lit (.none)) .nil))) (.cons (.ab (.cons (.lit (.int 0)) (.cons (.lit (.none)) .nil))) .nil)))) (.aX Y (.ad (.var 0) (.lit (.int 3))) (.ab (.cons (.ab (.cons (.lit (.int 4096)) (.cons (.lit (.none)) .nil))) (.cons (.ab (.cons (.lit (.int 2048)) (.cons (.lit (.none)) .nil))) .nil)))))) (.cons (.ret (.and (.var 1) (.and (.ah .eq (.bi .len (.cons (.ad (.var 0) (.lit (.int 0))) .nil)) (.lit (.int 0))) (.ah .eq (.ad (.var 0) (.lit (.int 4))) (.ab .nil))))) .nil)
noncomputable abbrev pi:Ss:=.cons (.ifs (.ex (.ah .eq (.var 3) (.aj 57))) (.cons (.ret (.ite (.ex (.ah .eq (.call 142 (.cons (.var 0) .nil)) (.call 142 (.cons (.var 1) .nil)))) (.lit (.int 0)) (.neg (.lit (.int 1))))) .nil) .nil) (.cons (.an (.ag 4) (.call 148 (.cons (.var 0) .nil))) (.cons (.an (.ag 5) (.call 148 (.cons (.var 1) .nil))) (.cons (.an (.ag 6) (.call 147 (.cons (.var 4) (.cons (.call 149 (.cons (.var 0) .nil)) .nil)))) (.cons (.an (.ag 7) (.call 147 (.cons (.var 5) (.cons (.call 149 (.cons (.var 1) .nil)) .nil)))) (.cons (.an (.ag 8) (.lit (.int 0))) (.cons (.ifs (.and (.ex (.call 150 (.cons (.var 1) .nil))) (.no (.and (.ex (.ah .eq (.var 3) (.aj 58))) (.ex (.call 150 (.cons (.var 0) .nil)))))) (.cons (.ret (.ite (.ex (.ad (.ad (.var 1) (.lit (.int 2))) (.lit (.int 0)))) (.lit (.int 1)) (.ite (.ex (.ah .gt (.var 6) (.lit (.int 0)))) (.lit (.int 4)) (.lit (.int 0))))) .nil) .nil) (.cons (.ifs (.ex (.dz Y (.ad (.var 1) (.lit (.int 2))))) (.cons (.ifs (.ex (.ah .gt (.var 6) (.bi .len (.cons (.var 5) .nil)))) (.cons (.ret (.neg (.lit (.int 1)))) .nil) .nil) (.cons (.ifs (.or (.ex (.dz ai (.ad (.var 0) (.lit (.int 2))))) (.ex (.ah .gt (.bi .len (.cons (.var 4) .nil)) (.bi .len (.cons (.var 5) .nil))))) (.cons (.ifs (.ex (.ah .eq (.var 3) (.aj 58))) (.cons (.ret (.neg (.lit (.int 1)))) .nil) .nil) (.cons (.an (.ag 8) (.lit (.int 4))) .nil)) .nil) .nil)) (.cons (.ifs (.ex (.ah .gt (.var 6) (.bi .len (.cons (.var 5) .nil)))) (.cons (.an (.ag 8) (.lit (.int 4))) .nil) .nil) .nil)) (.cons (.for (.ag 9) (.range (.lit (.int 6))) (.cons (.an (.ag 10) (.ite (.ex (.ah .lt (.var 9) (.bi .len (.cons (.var 4) .nil)))) (.ad (.var 4) (.var 9)) (.ad (.var 0) (.lit (.int 2))))) (.cons (.an (.ag 11) (.ite (.ex (.ah .lt (.var 9) (.bi .len (.cons (.var 5) .nil)))) (.ad (.var 5) (.var 9)) (.ad (.var 1) (.lit (.int 2))))) (.cons (.ifs (.and (.ex (.dz ai (.var 10))) (.ex (.dz ai (.var 11)))) (.cons (.an (.ag 12) (.call 145 (.cons (.var 11) (.cons (.var 10) (.cons (.or (.var 2) (.or (.aK .band (.ad (.var 0) (.lit (.int 5))) (.aj 46)) (.aK .band (.ad (.var 1) (.lit (.int 5))) (.aj 46)))) (.cons (.var 3) .nil)))))) (.cons (.ifs (.ex (.ah .lt (.var 12) (.lit (.int 0)))) (.cons (.ret (.neg (.lit (.int 1)))) .nil) .nil) (.cons (.ifs (.and (.ex (.ah .eq (.var 3) (.aj 58))) (.and (.gr (.var 6) (.var 9) (.var 7)) (.ex (.ah .ge (.call 144 (.cons (.var 10) (.cons (.var 11) (.cons (.var 3) .nil)))) (.lit (.int 0)))))) (.cons (.ret (.neg (.lit (.int 1)))) .nil) .nil) (.cons (.an (.ag 8) (.aK .bor (.var 8) (.var 12))) .nil)))) .nil) .nil)))) (.cons (.an (.ag 12) (.call 146 (.cons (.var 0) (.cons (.var 1) (.cons (.var 3) .nil))))) (.cons (.ret (.ite (.ex (.ah .lt (.var 12) (.lit (.int 0)))) (.neg (.lit (.int 1))) (.aK .bor (.var 8) (.var 12)))) .nil))))))))))
noncomputable abbrev j1:Ss:=.cons (.an (.ag 1) (.comp (.ag 24) (.ex (.hH (.var 0) (.lit .none) (.lit (.int 40)))) (.ex (.lit (.bool Y))) (.aK .mod (.var 24) (.lit (.int 999983))) [I,I,I,I,I,I,I,I,I,I,I,I,I,I,I,I,I,I,I,I,I,I,I,I,D (S0 "n"),I])) (.cons (.ifs (.ex (.ah .eq (.bi .len (.cons (.var 1) .nil)) (.lit (.int 0)))) (.cons (.an (.ag 1) (.dA (.cons (.lit (.int 5)) .nil))) .nil) .nil) (.cons (.an (.ag 2) (.dA (.cons (.lit (.int 0)) (.cons (.lit (.int 0)) .nil)))) (.cons (.an (.ag 3) (.ad (.ab (.cons (.aj 58) (.cons (.aj 56) (.cons (.aj 57) .nil)))) (.call 131 (.cons (.var 1) (.cons (.var 2) (.cons (.lit (.int 3)) .nil)))))) (.cons (.ifs (.ex (.ah .eq (.var 3) (.aj 57))) (.cons (.gs (.var 2) (.lit (.int 1)) (.lit (.int 1))) .nil) .nil) (.cons (.an (.ag 4) (.ah .eq (.call 131 (.cons (.var 1) (.cons (.var 2) (.cons (.lit (.int 3)) .nil)))) (.lit (.int 1)))) (.cons (.an (.ag 5) (.call 131 (.cons (.var 1) (.cons (.var 2) (.cons (.lit (.int 2)) .nil))))) (.cons (.an (.ag 6) (.call 136 (.cons (.var 1) (.cons (.var 2) (.cons (.lit (.int 0)) .nil))))) (.cons (.an (.ag 7) (.call 138 (.cons (.var 1) (.cons (.var 2) (.cons (.var 6) (.cons (.lit (.int 0)) .nil)))))) (.cons (.an (.ag 8) (.new 4 .nil)) (.cons (.an (.ag 9) (.new 5 (.cons (.var 8) .nil))) (.cons (.an (.ag 10) (.call 141 (.cons (.var 8) (.cons (.var 6) (.cons (.lit (.str (S0 "x"))) (.cons (.var 5) .nil)))))) (.cons (.an (.ag 11) (.call 19 (.cons (.var 8) (.cons (.ab .nil) (.cons (.ab (.cons (.ab (.cons (.lit (.str (S0 "x"))) (.cons (.aj 26) (.cons (.aj 45) .nil)))) .nil)) (.cons (.aj 29) .nil)))))) (.cons (.an (.ag 12) (.call 141 (.cons (.var 8) (.cons (.var 7) (.cons (.lit (.str (S0 "y"))) (.cons (.lit (.int 0)) .nil)))))) (.cons (.an (.ag 13) (.call 131 (.cons (.var 1) (.cons (.var 2) (.cons (.lit (.int 3)) .nil))))) (.cons (.an (.ag 14) (.ad (.ab (.cons (.aj 26) (.cons (.call 14 (.cons (.var 8) (.cons (.aj 24) .nil))) (.cons (.call 14 (.cons (.var 8) (.cons (.aj 26) .nil))) .nil)))) (.var 13))) (.cons (.an (.ag 15) (.call 19 (.cons (.var 8) (.cons (.ab .nil) (.cons (.ab (.cons (.ab (.cons (.lit (.str (S0 "z"))) (.cons (.var 14) (.cons (.aj 45) .nil)))) .nil)) (.cons (.ad (.ab (.cons (.aj 25) (.cons (.aj 24) .nil))) (.var 5)) (.cons (.ab .nil) (.cons (.var 5) .nil)))))))) (.cons (.for (.fT [16,17,18,19]) (.ex (.ab (.cons (.ab (.cons (.var 6) (.cons (.var 7) (.cons (.var 10) (.cons (.var 12) .nil))))) (.cons (.ab (.cons (.var 7) (.cons (.var 6) (.cons (.var 12) (.cons (.var 10) .nil))))) .nil)))) (.cons (.for (.ag 20) (.ex (.ab (.cons (.aj 55) (.cons (.var 3) .nil)))) (.cons (.an (.ag 21) (.new 7 (.cons (.var 9) (.cons (.var 20) .nil)))) (.cons (.expr (.call 130 (.cons (.var 21) .nil))) (.cons (.ifs (.and (.ex (.ah .ne (.var 20) (.aj 57))) (.no (.and (.ex (.ah .eq (.var 20) (.aj 58))) (.ex (.call 150 (.cons (.var 16) .nil)))))) (.cons (.ifs (.no (.ex (.call 118 (.cons (.var 21) (.cons (.var 18) (.cons (.var 15) (.cons (.var 4) .nil))))))) (.cons (.ret (.lit (.bool ai))) .nil) .nil) (.cons (.an (.ag 22) (.ad (.ab (.cons (.dA .nil) (.cons (.dA (.cons (.aj 0) .nil)) (.cons (.ite (.ex (.ah .gt (.call 147 (.cons (.call 148 (.cons (.var 16) .nil)) (.cons (.call 149 (.cons (.var 16) .nil)) .nil))) (.lit (.int 0)))) (.dA (.cons (.aj 3) .nil)) (.dA .nil)) .nil)))) (.var 13))) (.cons (.ifs (.and (.ex (.ah .eq (.var 20) (.aj 55))) (.ex (.ah .ne (.aQ 44 (.ao (.var 21) 28) .nil) (.var 22)))) (.cons (.ret (.lit (.bool ai))) .nil) .nil) .nil))) .nil) (.cons (.ifs (.and (.ex (.ah .ne (.var 20) (.aj 57))) (.ex (.ah .ne (.call 118 (.cons (.var 21) (.cons (.var 18) (.cons (.var 11) (.cons (.var 4) .nil))))) (.ah .ge (.call 144 (.cons (.ad (.var 16) (.lit (.int 3))) (.cons (.ab (.cons (.lit (.int 256)) (.cons (.lit (.none)) .nil))) (.cons (.var 20) .nil)))) (.lit (.int 0)))))) (.cons (.ret (.lit (.bool ai))) .nil) .nil) (.cons (.an (.ag 21) (.new 7 (.cons (.var 9) (.cons (.var 20) .nil)))) (.cons (.expr (.call 130 (.cons (.var 21) .nil))) (.cons (.an (.ag 23) (.call 151 (.cons (.var 16) (.cons (.var 17) (.cons (.var 4) (.cons (.var 20) .nil)))))) (.cons (.ifs (.ex (.ah .ne (.call 118 (.cons (.var 21) (.cons (.var 18) (.cons (.var 19) (.cons (.var 4) .nil))))) (.ah .ge (.var 23) (.lit (.int 0))))) (.cons (.ret (.lit (.bool ai))) .nil) .nil) (.cons (.ifs (.and (.ex (.ah .eq (.var 20) (.aj 55))) (.ex (.ah .ge (.var 23) (.lit (.int 0))))) (.cons (.an (.ag 22) (.comp (.ag 25) (.range (.lit (.int 3))) (.ex (.aK .band (.aK .shr (.var 23) (.var 25)) (.lit (.int 1)))) (.ad (.ab (.cons (.aj 0) (.cons (.aj 1) (.cons (.aj 3) .nil)))) (.var 25)) [I,I,I,I,I,I,I,I,I,I,I,I,I,I,I,I,I,I,I,I,I,I,I,D (S0 "want"),I,D (S0 "i")])) (.cons (.ifs (.ex (.ah .ne (.aQ 44 (.ao (.var 21) 28) .nil) (.var 22))) (.cons (.ret (.lit (.bool ai))) .nil) .nil) .nil)) .nil) .nil)))))))))) .nil)) (.cons (.ret (.lit (.bool Y))) .nil))))))))))))))))))
noncomputable def kJ:List (Option Fn):=[I,I,I,I,D ⟨1,[],1,CJ⟩,D ⟨3,[],3,CK⟩,D ⟨1,[],4,CL⟩,I,D ⟨1,[],2,CM⟩,I,D ⟨2,[],3,CN⟩,D ⟨3,[.int 0],3,CO⟩,D ⟨3,[.int 0],3,CP⟩,D ⟨3,[.int 0],3,CQ⟩,D ⟨3,[.int 0],3,yd⟩,D ⟨2,[],4,CR⟩,D ⟨2,[],7,CS⟩,D ⟨2,[],8,CT⟩,D ⟨3,[.int 0],6,uZ⟩,D ⟨6,[.ab [],.int 0],6,ye⟩,D ⟨2,[],3,CU⟩,D ⟨1,[],2,CV⟩,D ⟨2,[],3,CX⟩,D ⟨1,[],1,CY⟩,D ⟨3,[],3,CZ⟩,D ⟨1,[],2,C0⟩,D ⟨2,[],8,C1⟩,D ⟨2,[],2,C2⟩,D ⟨2,[],2,C3⟩,D ⟨2,[],3,C4⟩,D ⟨2,[],2,C5⟩,D ⟨2,[],2,C6⟩,D ⟨2,[],2,C7⟩,I,I,I,I,I,I,I,I,I,I,I,I,I,I,I,D ⟨1,[],3,C8⟩,D ⟨1,[],3,C9⟩,D ⟨2,[],2,Da⟩,D ⟨1,[],2,Db⟩,D ⟨2,[],4,Dc⟩,I,I,D ⟨2,[],3,Dd⟩,D ⟨1,[],2,De⟩,D ⟨3,[],3,Df⟩,D ⟨3,[],4,Dg⟩,D ⟨3,[],11,Dh⟩,D ⟨1,[],3,Di⟩,D ⟨2,[],3,Dj⟩,D ⟨2,[],7,Dk⟩,D ⟨2,[],7,Dl⟩,D ⟨2,[],6,Dm⟩,I,I,I,I,I,D ⟨3,[],3,Dn⟩,D ⟨3,[],3,Do⟩,D ⟨2,[],2,Dp⟩,I,D ⟨1,[],1,Dq⟩,D ⟨2,[],2,Ds⟩,I,D ⟨4,[],5,Dt⟩,I,I,I,D ⟨2,[],2,Du⟩,D ⟨2,[],2,Dv⟩,D ⟨3,[],5,yf⟩,D ⟨3,[],6,Dw⟩,D ⟨2,[],3,Dx⟩,D ⟨3,[],7,Dy⟩,D ⟨3,[],3,Dz⟩,D ⟨2,[],3,DA⟩,D ⟨1,[],1,DB⟩,D ⟨3,[],5,DC⟩,D ⟨4,[],4,DD⟩,D ⟨3,[],6,DE⟩,D ⟨2,[],2,DF⟩,D ⟨3,[],4,DG⟩,D ⟨3,[],6,DH⟩,D ⟨2,[],3,DI⟩,D ⟨3,[],6,DJ⟩,D ⟨3,[],6,DK⟩,D ⟨3,[],4,DL⟩,D ⟨3,[],5,DM⟩,D ⟨2,[],4,DN⟩,D ⟨2,[],7,DO⟩,D ⟨2,[],4,DP⟩,D ⟨3,[],6,u4⟩,D ⟨5,[],7,DQ⟩,D ⟨2,[],7,DS⟩,D ⟨2,[],6,DT⟩,I,D ⟨3,[],8,DU⟩,D ⟨4,[],5,DV⟩,D ⟨6,[],6,DW⟩,D ⟨4,[],9,DX⟩,D ⟨3,[],3,DY⟩,D ⟨3,[],5,DZ⟩,D ⟨2,[],7,D0⟩,D ⟨3,[],5,D1⟩,D ⟨4,[],4,D2⟩,D ⟨4,[],7,D3⟩,D ⟨3,[],4,D4⟩,D ⟨3,[],3,D5⟩,D ⟨3,[],7,D6⟩,I,I,I,I,I,I,D ⟨4,[],4,D7⟩,I,D ⟨1,[],1,D8⟩,D ⟨3,[],5,D9⟩,D ⟨1,[],1,yg⟩,D ⟨2,[],3,Ea⟩,D ⟨3,[],4,Eb⟩,D ⟨2,[],4,yh⟩,D ⟨3,[],12,qH⟩,D ⟨4,[],5,Ec⟩,D ⟨4,[],18,gy⟩,D ⟨3,[],3,Ed⟩,D ⟨4,[],6,Ee⟩,D ⟨4,[],15,ph⟩,D ⟨1,[],5,yi⟩,D ⟨1,[],1,Ef⟩,D ⟨3,[],5,u5⟩,D ⟨4,[],5,Eg⟩,D ⟨3,[],5,Eh⟩,D ⟨2,[],2,Ei⟩,D ⟨1,[],3,Ej⟩,D ⟨1,[],3,Ek⟩,D ⟨1,[],2,yj⟩,D ⟨4,[],13,pi⟩,D ⟨1,[],26,j1⟩]
noncomputable def lM(i:Nat):Option Fn:=(kJ[i]?).join
noncomputable def mJ:List Str:=[(S0 "append"),(S0 "extend"),(S0 "pop"),(S0 "get"),(S0 "text"),(S0 "number"),(S0 "rows"),(S0 "put"),(S0 "putting"),(S0 "shaping"),(S0 "renamed"),(S0 "origins"),(S0 "names"),(S0 "defaults"),(S0 "bounds"),(S0 "decls"),(S0 "index"),(S0 "most_deep"),(S0 "most_rounds"),(S0 "deep"),(S0 "tab"),(S0 "shape"),(S0 "force"),(S0 "put_deferred"),(S0 "at"),(S0 "missing"),(S0 "twin"),(S0 "telling"),(S0 "notes"),(S0 "road"),(S0 "trail"),(S0 "known"),(S0 "assumed"),(S0 "rules"),(S0 "mode"),(S0 "host"),(S0 "ask"),(S0 "holds"),(S0 "sig"),(S0 "mark"),(S0 "note"),(S0 "back"),(S0 "loose"),(S0 "blank"),(S0 "codes")]
noncomputable def yk:List Str:=[(S0 "U_ANY"),(S0 "U_METHOD"),(S0 "U_ENUM"),(S0 "U_OPTION"),(S0 "U_VAR"),(S0 "Y_KEY"),(S0 "Y_BOOL"),(S0 "Y_STR"),(S0 "Y_NUM"),(S0 "Y_ENUM"),(S0 "Y_UNION"),(S0 "Y_INTER"),(S0 "Y_OBJ"),(S0 "Y_REF"),(S0 "Y_PARAM"),(S0 "Y_ARRAY"),(S0 "Y_TUPLE"),(S0 "Y_SIG"),(S0 "Y_KEYOF"),(S0 "Y_INDEX"),(S0 "Y_COND"),(S0 "Y_MAPPED"),(S0 "Y_TPL"),(S0 "Y_ALIAS"),(S0 "ANY"),(S0 "UNKNOWN"),(S0 "NEVER"),(S0 "VOID"),(S0 "UNDEF"),(S0 "NULLT"),(S0 "STRING"),(S0 "NUMBER"),(S0 "FALSE_T"),(S0 "TRUE_T"),(S0 "OBJECTT"),(S0 "EMPTY"),(S0 "ERR"),(S0 "FRESH_F"),(S0 "FRESH_T"),(S0 "E_NEED"),(S0 "E_OPT"),(S0 "E_REST"),(S0 "E_SPREAD"),(S0 "A_NEED"),(S0 "A_OPT"),(S0 "A_REST"),(S0 "S_METHOD"),(S0 "S_ABSTRACT"),(S0 "S_PRIVATE"),(S0 "MAX_UNION"),(S0 "FIRST_ROWS"),(S0 "LITERAL_ROWS"),(S0 "MARKED_ROWS"),(S0 "MOST_ROUNDS"),(S0 "MOST_SHAPES"),(S0 "R_ASSIGN"),(S0 "R_COMPARE"),(S0 "R_IDENT"),(S0 "R_SUBTYPE"),(S0 "RULE_MEET"),(S0 "RULE_DEFERRED"),(S0 "RULE_SIG"),(S0 "RULE_LIST"),(S0 "RULE_OBJECT"),(S0 "RULE_CHOICE"),(S0 "RULE_CALLS"),(S0 "RULE_GENERIC"),(S0 "RULE_PLACES"),(S0 "VALUE_ROWS"),(S0 "LIST_ROWS"),(S0 "SHAPED_ROWS"),(S0 "DEFERRED_ROWS"),(S0 "OPEN_ROWS"),(S0 "MAX_OPEN"),(S0 "_law_masks")]
noncomputable def yl:List aa:=[.int 1,.int 2,.int 10,.int 11,.int 15,.int 1,.int 2,.int 3,.int 4,.int 5,.int 6,.int 7,.int 8,.int 9,.int 10,.int 11,.int 12,.int 13,.int 14,.int 15,.int 16,.int 17,.int 18,.int 19,.int 0,.int 1,.int 2,.int 3,.int 4,.int 5,.int 6,.int 7,.int 8,.int 9,.int 10,.int 11,.int 13,.int 14,.int 15,.int 0,.int 1,.int 2,.int 3,.int 0,.int 1,.int 2,.int 1,.int 2,.int 4,.int 400,.ab [.ab [.int 1,.str (S0 "any")],.ab [.int 1,.str (S0 "unknown")],.ab [.int 1,.str (S0 "never")],.ab [.int 1,.str (S0 "void")],.ab [.int 1,.str (S0 "undefined")],.ab [.int 1,.str (S0 "null")],.ab [.int 1,.str (S0 "string")],.ab [.int 1,.str (S0 "number")],.ab [.int 2,.int 0,.int 0],.ab [.int 2,.int 1,.int 0],.ab [.int 1,.str (S0 "object")],.ab [.int 8,.ab [],.ab [],.ab [],.ab [],.ab [],.int 0],.ab [.int 6,.ab [.int 8,.int 9]],.ab [.int 1,.str (S0 "error")],.ab [.int 2,.int 0,.int 1],.ab [.int 2,.int 1,.int 1]],.ab [.int 2,.int 3,.int 4,.int 5],.ab [.int 2,.int 3,.int 4,.int 5,.int 8],.int 200,.int 40,.int 1,.int 2,.int 3,.int 4,.int 1,.int 2,.int 3,.int 4,.int 5,.int 6,.int 8,.int 9,.int 12,.ab [.int 1,.int 2,.int 3,.int 4,.int 5],.ab [.int 11,.int 12],.ab [.int 8,.int 9],.ab [.int 10,.int 14,.int 15,.int 16,.int 17,.int 18,.int 19],.ab [.int 6,.int 7,.int 10,.int 14,.int 15,.int 16,.int 17,.int 18,.int 19],.int 60,.ab [.int 4,.int 32,.int 1,.int 3,.int 8,.int 36,.int 192,.int 256,.int 512,.int 260,.int 2048,.int 4096,.int 0,.int 1024,.int 1536,.int 24,.int 64,.int 33]]
noncomputable def qI:List (Option bc):=[D (S0 "_wall"),I,I,I,I,I,I,I,I,I,I,D (S0 "str_type"),D (S0 "num_type"),D (S0 "bool_type"),D (S0 "array_type"),D (S0 "last_mark"),D (S0 "needed_to_last"),D (S0 "one_rest"),D (S0 "tuple_type"),D (S0 "sig_type"),D (S0 "parts_of"),D (S0 "whole_of_row"),D (S0 "regular_twin"),D (S0 "join_bools"),D (S0 "stays_beside"),D (S0 "top_of"),D (S0 "union"),D (S0 "add_undef"),D (S0 "is_literal"),D (S0 "is_fresh"),D (S0 "regular_one"),I,I,I,I,I,I,I,I,I,I,I,I,I,I,I,I,I,D (S0 "tuple_need"),D (S0 "tuple_most"),D (S0 "elem_read"),D (S0 "told_places"),D (S0 "late_place"),D (S0 "calls_of"),D (S0 "ctors_of"),D (S0 "rest_parts"),D (S0 "fixed_count"),D (S0 "tuple_at"),D (S0 "rest_at"),D (S0 "param_at"),D (S0 "last_needed"),D (S0 "need_count"),D (S0 "written_need"),D (S0 "most_count"),D (S0 "told_count"),I,I,I,I,I,I,I,I,I,I,I,I,D (S0 "by_rule"),D (S0 "sig_by_rule"),D (S0 "silent_with"),D (S0 "twin_of"),D (S0 "cut_back"),D (S0 "settled"),D (S0 "ask_kinds"),D (S0 "kept"),D (S0 "close_trail"),D (S0 "simple_related"),D (S0 "tops_related"),D (S0 "unknown_told"),D (S0 "is_numeric_enum"),D (S0 "values_related"),D (S0 "number_to_enum"),D (S0 "structured"),D (S0 "rule_for"),D (S0 "from_union"),D (S0 "some_part"),D (S0 "lay_again"),D (S0 "to_union"),D (S0 "same_kind"),D (S0 "each_in"),D (S0 "counts_fit"),D (S0 "open_rest"),D (S0 "ends_open"),D (S0 "relsig_rest_elems"),D (S0 "tail_kind"),D (S0 "tails_related"),D (S0 "relsig_places_of"),D (S0 "lone_call"),D (S0 "callback_related"),D (S0 "loose_pair"),D (S0 "param_pair"),D (S0 "looser_place"),D (S0 "params_related"),D (S0 "pred_related"),D (S0 "result_related"),D (S0 "top_elem"),D (S0 "top_serves"),D (S0 "plain_related"),D (S0 "sig_related"),D (S0 "same_params"),D (S0 "same_pred"),D (S0 "sig_same"),D (S0 "made_alike"),D (S0 "blanked"),D (S0 "some_sig"),D (S0 "same_sigs"),D (S0 "sigs_related"),D (S0 "calls_related"),I,I,D (S0 "install_rel_sigs"),D (S0 "_law_draw"),D (S0 "_law_norm"),D (S0 "_law_join"),D (S0 "_law_kind"),D (S0 "_law_pred"),D (S0 "_law_sig"),D (S0 "_law_turn"),D (S0 "_law_vary"),D (S0 "_law_atom"),D (S0 "_law_type"),D (S0 "_law_build"),D (S0 "_law_bare"),D (S0 "_law_plain"),D (S0 "_law_goes_kind"),D (S0 "_law_pair"),D (S0 "_law_result"),D (S0 "_law_least"),D (S0 "_law_seats"),D (S0 "_law_wanted"),D (S0 "_law_top"),D (S0 "_law_goes"),D (S0 "law")]
noncomputable def ym:List Str:=[(S0 "KeepError"),(S0 "TooDeep"),(S0 "HostFault"),(S0 "Notes"),(S0 "TypeTable"),(S0 "Thin"),(S0 "RelRule"),(S0 "Rel"),(S0 "SigRule"),(S0 "CallsRule")]
noncomputable def qJ:List (List (Nat×Nat)):=[[],[],[],[(7,5),(44,6)],[(7,10)],[(21,37),(22,32),(23,33)],[(37,65),(38,67),(42,66),(43,68)],[(36,71),(39,74),(40,72),(41,75)],[(37,128),(38,67),(42,66),(43,68)],[(37,129),(38,67),(42,66),(43,68)]]
noncomputable def yn:List (Option (Option Nat)):=[I,I,I,D (D 4),D (D 8),D (D 31),D I,D (D 70),D I,D I]
noncomputable def u6:List (List Nat):=[[],[],[],[6],[6,8,9,10,11,12,13,14,15,16],[17,18,19,20],[],[19,24,25,26,27,28,29,30,31,32,33,34,35],[],[]]
noncomputable def sA:List (Nat×Nat)->Nat->Option Nat|[],_=>I|(a,b)::r,k=>if a=k then D b else sA r k
noncomputable def WD:Wd where mI i:=yl[i]?;gx c f:=match u6[c]? with|some l=>l.contains f|none=>ai;n5 c m:=match qJ[c]? with|some l=>sA l m|none=>I;uW c:=(yn[c]?).getD I
@[irreducible]noncomputable def CW(n:Nat):ju:=iM WD lM n
section
variable{n:Nat}{lc:Lc}{σ:AH}{k:Po}{aw:Kt}
theorem CW.go{f:Nat}{vs:List aa}(F:Fn)(lc:Lc)(h1:lM f=D F)(h2:bindL F vs=D lc)(h:wSs WD (CW n) F.body lc σ (kR k)):CW (n+1) f vs σ k:=by unfold CW at h⊢;exact Nf F lc h1 h2 h
theorem o{bz:Type}{o:Option bz}{p:bz->Prop}{v:bz}(h:o=D v)(hk:p v):gO o p:=by cases h;exact hk
theorem p{bz:Type}{o:Option (bz×AH)}{p:bz->AH->Prop}{v:bz}{w:AH}(h:o=D (v,w))(hk:p v w):gP o p:=by cases h;exact hk
theorem bI{c:Bool}{A B:Prop}(h1:c=Y->A)(h2:c=ai->B):br c A B:=by cases c;exact h2 rfl;exact h1 rfl
theorem bD{p:Prop}{i:Decidable p}{A B:Prop}(h1:p->A)(h2:¬p->B):br (decide p) A B:=bI (fun h=>h1 (cJ h)) fun h=>h2 (of_decide_eq_false h)
theorem bE{p:Prop}{i:Decidable p}{A B:Prop}(h1:p->A)(h2:¬p->B):br (decide p==Y) A B:=bI (fun h=>h1 (cJ (eq_of_beq h))) fun h=>h2 fun q=>by rw[aN q]at h;cases h
theorem Nh{p:Prop}{i:Decidable p}{A:Nat->Prop}{x y:Nat}(h:A (if p then x else y)):br (decide p) (A x) (A y):=bD (fun q=>by rw[af q]at h;exact h) fun q=>by rw[am q]at h;exact h
theorem bN{c:Bool}{A B:Prop}(h:br c B A):br (!c) A B:=by cases c<;>exact h
theorem bt{c:Bool}{A B:Prop}(h:c=Y)(hk:A):br c A B:=by cases h;exact hk
theorem bf{c:Bool}{A B:Prop}(h:c=ai)(hk:B):br c A B:=by cases h;exact hk
end
def I1(u:Nat)(s:Ss)(t:Lc):Prop:=∀{n:Nat}{σ:AH}{k:Po}{a:aa},wSs WD (CW n) s (D a::t) σ (kR k)->CW (n+1) u [a] σ k
theorem g1{u p l:Nat}{m:List aa}{s:Ss}{t:Lc}(h:lM u=D ⟨p,m,l,s⟩)(w:∀a,bindL ⟨p,m,l,s⟩ [a]=D (D a::t)):I1 u s t:=fun z=>CW.go _ _ h (w _) z
def I2(u:Nat)(s:Ss)(t:Lc):Prop:=∀{n:Nat}{σ:AH}{k:Po}{a b:aa},wSs WD (CW n) s (D a::D b::t) σ (kR k)->CW (n+1) u [a,b] σ k
theorem g2{u p l:Nat}{m:List aa}{s:Ss}{t:Lc}(h:lM u=D ⟨p,m,l,s⟩)(w:∀a b,bindL ⟨p,m,l,s⟩ [a,b]=D (D a::D b::t)):I2 u s t:=fun z=>CW.go _ _ h (w _ _) z
def I3(u:Nat)(s:Ss)(t:Lc):Prop:=∀{n:Nat}{σ:AH}{k:Po}{a b c:aa},wSs WD (CW n) s (D a::D b::D c::t) σ (kR k)->CW (n+1) u [a,b,c] σ k
theorem g3{u p l:Nat}{m:List aa}{s:Ss}{t:Lc}(h:lM u=D ⟨p,m,l,s⟩)(w:∀a b c,bindL ⟨p,m,l,s⟩ [a,b,c]=D (D a::D b::D c::t)):I3 u s t:=fun z=>CW.go _ _ h (w _ _ _) z
def I4(u:Nat)(s:Ss)(t:Lc):Prop:=∀{n:Nat}{σ:AH}{k:Po}{a b c d:aa},wSs WD (CW n) s (D a::D b::D c::D d::t) σ (kR k)->CW (n+1) u [a,b,c,d] σ k
theorem g4{u p l:Nat}{m:List aa}{s:Ss}{t:Lc}(h:lM u=D ⟨p,m,l,s⟩)(w:∀a b c d,bindL ⟨p,m,l,s⟩ [a,b,c,d]=D (D a::D b::D c::D d::t)):I4 u s t:=fun z=>CW.go _ _ h (w _ _ _ _) z
def I5(u:Nat)(s:Ss)(t:Lc):Prop:=∀{n:Nat}{σ:AH}{k:Po}{a b c d e:aa},wSs WD (CW n) s (D a::D b::D c::D d::D e::t) σ (kR k)->CW (n+1) u [a,b,c,d,e] σ k
theorem g5{u p l:Nat}{m:List aa}{s:Ss}{t:Lc}(h:lM u=D ⟨p,m,l,s⟩)(w:∀a b c d e,bindL ⟨p,m,l,s⟩ [a,b,c,d,e]=D (D a::D b::D c::D d::D e::t)):I5 u s t:=fun z=>CW.go _ _ h (w _ _ _ _ _) z
def I6(u:Nat)(s:Ss)(t:Lc):Prop:=∀{n:Nat}{σ:AH}{k:Po}{a b c d e f:aa},wSs WD (CW n) s (D a::D b::D c::D d::D e::D f::t) σ (kR k)->CW (n+1) u [a,b,c,d,e,f] σ k
theorem g6{u p l:Nat}{m:List aa}{s:Ss}{t:Lc}(h:lM u=D ⟨p,m,l,s⟩)(w:∀a b c d e f,bindL ⟨p,m,l,s⟩ [a,b,c,d,e,f]=D (D a::D b::D c::D d::D e::D f::t)):I6 u s t:=fun z=>CW.go _ _ h (w _ _ _ _ _ _) z
theorem Ni:I1 4 CJ []:=@g1 _ _ _ _ _ _ rfl fun _=>rfl
theorem Nj:I3 5 CK []:=@g3 _ _ _ _ _ _ rfl fun _ _ _=>rfl
theorem Nk:I1 6 CL [I,I,I]:=@g1 _ _ _ _ _ _ rfl fun _=>rfl
theorem Nl:I1 8 CM [I]:=@g1 _ _ _ _ _ _ rfl fun _=>rfl
theorem El:I2 10 CN [I]:=@g2 _ _ _ _ _ _ rfl fun _ _=>rfl
theorem Em:I3 11 CO []:=@g3 _ _ _ _ _ _ rfl fun _ _ _=>rfl
theorem En:I3 12 CP []:=@g3 _ _ _ _ _ _ rfl fun _ _ _=>rfl
theorem Eo:I3 13 CQ []:=@g3 _ _ _ _ _ _ rfl fun _ _ _=>rfl
theorem Nn:I3 14 yd []:=@g3 _ _ _ _ _ _ rfl fun _ _ _=>rfl
theorem No:I2 14 yd [D (.int 0)]:=@g2 _ _ _ _ _ _ rfl fun _ _=>rfl
theorem Np:I2 15 CR [I,I]:=@g2 _ _ _ _ _ _ rfl fun _ _=>rfl
theorem Nq:I2 16 CS [I,I,I,I,I]:=@g2 _ _ _ _ _ _ rfl fun _ _=>rfl
theorem Nr:I2 17 CT [I,I,I,I,I,I]:=@g2 _ _ _ _ _ _ rfl fun _ _=>rfl
theorem Nt:I3 18 uZ [I,I,I]:=@g3 _ _ _ _ _ _ rfl fun _ _ _=>rfl
theorem Nu:I2 18 uZ [D (.int 0),I,I,I]:=@g2 _ _ _ _ _ _ rfl fun _ _=>rfl
theorem yo:I6 19 ye []:=@g6 _ _ _ _ _ _ rfl fun _ _ _ _ _ _=>rfl
theorem Nv:I4 19 ye [D (.ab []),D (.int 0)]:=@g4 _ _ _ _ _ _ rfl fun _ _ _ _=>rfl
theorem Ep:I2 20 CU [I]:=@g2 _ _ _ _ _ _ rfl fun _ _=>rfl
theorem Er:I1 21 CV [I]:=@g1 _ _ _ _ _ _ rfl fun _=>rfl
theorem Et:I2 22 CX [I]:=@g2 _ _ _ _ _ _ rfl fun _ _=>rfl
theorem Nw:I1 23 CY []:=@g1 _ _ _ _ _ _ rfl fun _=>rfl
theorem Nx:I3 24 CZ []:=@g3 _ _ _ _ _ _ rfl fun _ _ _=>rfl
theorem Ny:I1 25 C0 [I]:=@g1 _ _ _ _ _ _ rfl fun _=>rfl
theorem Nz:I2 26 C1 [I,I,I,I,I,I]:=@g2 _ _ _ _ _ _ rfl fun _ _=>rfl
theorem NA:I2 27 C2 []:=@g2 _ _ _ _ _ _ rfl fun _ _=>rfl
theorem qK:I2 28 C3 []:=@g2 _ _ _ _ _ _ rfl fun _ _=>rfl
theorem NB:I2 29 C4 [I]:=@g2 _ _ _ _ _ _ rfl fun _ _=>rfl
theorem NC:I2 30 C5 []:=@g2 _ _ _ _ _ _ rfl fun _ _=>rfl
theorem ND:I2 31 C6 []:=@g2 _ _ _ _ _ _ rfl fun _ _=>rfl
theorem NE:I2 32 C7 []:=@g2 _ _ _ _ _ _ rfl fun _ _=>rfl
theorem NF:I1 48 C8 [I,I]:=@g1 _ _ _ _ _ _ rfl fun _=>rfl
theorem NG:I1 49 C9 [I,I]:=@g1 _ _ _ _ _ _ rfl fun _=>rfl
theorem Eu:I2 50 Da []:=@g2 _ _ _ _ _ _ rfl fun _ _=>rfl
theorem NH:I1 51 Db [I]:=@g1 _ _ _ _ _ _ rfl fun _=>rfl
theorem NI:I2 52 Dc [I,I]:=@g2 _ _ _ _ _ _ rfl fun _ _=>rfl
theorem yp:I2 55 Dd [I]:=@g2 _ _ _ _ _ _ rfl fun _ _=>rfl
theorem Ev:I1 56 De [I]:=@g1 _ _ _ _ _ _ rfl fun _=>rfl
theorem NJ:I3 57 Df []:=@g3 _ _ _ _ _ _ rfl fun _ _ _=>rfl
theorem NK:I3 58 Dg [I]:=@g3 _ _ _ _ _ _ rfl fun _ _ _=>rfl
theorem NL:I3 59 Dh [I,I,I,I,I,I,I,I]:=@g3 _ _ _ _ _ _ rfl fun _ _ _=>rfl
theorem NN:I1 60 Di [I,I]:=@g1 _ _ _ _ _ _ rfl fun _=>rfl
theorem NO:I2 61 Dj [I]:=@g2 _ _ _ _ _ _ rfl fun _ _=>rfl
theorem NP:I2 62 Dk [I,I,I,I,I]:=@g2 _ _ _ _ _ _ rfl fun _ _=>rfl
theorem Ew:I2 63 Dl [I,I,I,I,I]:=@g2 _ _ _ _ _ _ rfl fun _ _=>rfl
theorem Ey:I2 64 Dm [I,I,I,I]:=@g2 _ _ _ _ _ _ rfl fun _ _=>rfl
theorem NQ:I3 70 Dn []:=@g3 _ _ _ _ _ _ rfl fun _ _ _=>rfl
theorem Ez:I3 71 Do []:=@g3 _ _ _ _ _ _ rfl fun _ _ _=>rfl
theorem NR:I2 72 Dp []:=@g2 _ _ _ _ _ _ rfl fun _ _=>rfl
theorem NS:I1 74 Dq []:=@g1 _ _ _ _ _ _ rfl fun _=>rfl
theorem NT:I2 75 Ds []:=@g2 _ _ _ _ _ _ rfl fun _ _=>rfl
theorem EA:I4 77 Dt [I]:=@g4 _ _ _ _ _ _ rfl fun _ _ _ _=>rfl
theorem NU:I2 81 Du []:=@g2 _ _ _ _ _ _ rfl fun _ _=>rfl
theorem yq:I2 82 Dv []:=@g2 _ _ _ _ _ _ rfl fun _ _=>rfl
theorem EB:I3 83 yf [I,I]:=@g3 _ _ _ _ _ _ rfl fun _ _ _=>rfl
theorem NV:I3 84 Dw [I,I,I]:=@g3 _ _ _ _ _ _ rfl fun _ _ _=>rfl
theorem NW:I2 85 Dx [I]:=@g2 _ _ _ _ _ _ rfl fun _ _=>rfl
theorem EC:I3 86 Dy [I,I,I,I]:=@g3 _ _ _ _ _ _ rfl fun _ _ _=>rfl
theorem ED:I3 87 Dz []:=@g3 _ _ _ _ _ _ rfl fun _ _ _=>rfl
theorem NX:I2 88 DA [I]:=@g2 _ _ _ _ _ _ rfl fun _ _=>rfl
theorem EE:I1 89 DB []:=@g1 _ _ _ _ _ _ rfl fun _=>rfl
theorem NY:I3 90 DC [I,I]:=@g3 _ _ _ _ _ _ rfl fun _ _ _=>rfl
theorem EF:I4 91 DD []:=@g4 _ _ _ _ _ _ rfl fun _ _ _ _=>rfl
theorem EG:I3 92 DE [I,I,I]:=@g3 _ _ _ _ _ _ rfl fun _ _ _=>rfl
theorem NZ:I2 93 DF []:=@g2 _ _ _ _ _ _ rfl fun _ _=>rfl
theorem N0:I3 94 DG [I]:=@g3 _ _ _ _ _ _ rfl fun _ _ _=>rfl
theorem N3:I3 95 DH [I,I,I]:=@g3 _ _ _ _ _ _ rfl fun _ _ _=>rfl
theorem N4:I2 96 DI [I]:=@g2 _ _ _ _ _ _ rfl fun _ _=>rfl
theorem N5:I3 97 DJ [I,I,I]:=@g3 _ _ _ _ _ _ rfl fun _ _ _=>rfl
theorem N6:I3 98 DK [I,I,I]:=@g3 _ _ _ _ _ _ rfl fun _ _ _=>rfl
theorem N7:I3 99 DL [I]:=@g3 _ _ _ _ _ _ rfl fun _ _ _=>rfl
theorem EH:I3 100 DM [I,I]:=@g3 _ _ _ _ _ _ rfl fun _ _ _=>rfl
theorem EI:I2 101 DN [I,I]:=@g2 _ _ _ _ _ _ rfl fun _ _=>rfl
theorem EJ:I2 102 DO [I,I,I,I,I]:=@g2 _ _ _ _ _ _ rfl fun _ _=>rfl
theorem N8:I2 103 DP [I,I]:=@g2 _ _ _ _ _ _ rfl fun _ _=>rfl
theorem EK:I3 104 u4 [I,I,I]:=@g3 _ _ _ _ _ _ rfl fun _ _ _=>rfl
theorem N9:I5 105 DQ [I,I]:=@g5 _ _ _ _ _ _ rfl fun _ _ _ _ _=>rfl
theorem EL:I2 106 DS [I,I,I,I,I]:=@g2 _ _ _ _ _ _ rfl fun _ _=>rfl
theorem Oa:I2 107 DT [I,I,I,I]:=@g2 _ _ _ _ _ _ rfl fun _ _=>rfl
theorem Ob:I3 109 DU [I,I,I,I,I]:=@g3 _ _ _ _ _ _ rfl fun _ _ _=>rfl
theorem EM:I4 110 DV [I]:=@g4 _ _ _ _ _ _ rfl fun _ _ _ _=>rfl
theorem Oc:I6 111 DW []:=@g6 _ _ _ _ _ _ rfl fun _ _ _ _ _ _=>rfl
theorem EN:I4 112 DX [I,I,I,I,I]:=@g4 _ _ _ _ _ _ rfl fun _ _ _ _=>rfl
theorem Od:I3 113 DY []:=@g3 _ _ _ _ _ _ rfl fun _ _ _=>rfl
theorem EO:I3 114 DZ [I,I]:=@g3 _ _ _ _ _ _ rfl fun _ _ _=>rfl
theorem EP:I2 115 D0 [I,I,I,I,I]:=@g2 _ _ _ _ _ _ rfl fun _ _=>rfl
theorem yr:I3 116 D1 [I,I]:=@g3 _ _ _ _ _ _ rfl fun _ _ _=>rfl
theorem EQ:I4 117 D2 []:=@g4 _ _ _ _ _ _ rfl fun _ _ _ _=>rfl
theorem u7:I4 118 D3 [I,I,I]:=@g4 _ _ _ _ _ _ rfl fun _ _ _ _=>rfl
theorem Oe:I3 119 D4 [I]:=@g3 _ _ _ _ _ _ rfl fun _ _ _=>rfl
theorem Of:I3 120 D5 []:=@g3 _ _ _ _ _ _ rfl fun _ _ _=>rfl
theorem Og:I3 121 D6 [I,I,I,I]:=@g3 _ _ _ _ _ _ rfl fun _ _ _=>rfl
theorem Oh:I4 128 D7 []:=@g4 _ _ _ _ _ _ rfl fun _ _ _ _=>rfl
theorem Oi:I1 130 D8 []:=@g1 _ _ _ _ _ _ rfl fun _=>rfl
theorem Oj:I3 131 D9 [I,I]:=@g3 _ _ _ _ _ _ rfl fun _ _ _=>rfl
theorem Ok:I1 132 yg []:=@g1 _ _ _ _ _ _ rfl fun _=>rfl
theorem Ol:I2 133 Ea [I]:=@g2 _ _ _ _ _ _ rfl fun _ _=>rfl
theorem Om:I3 134 Eb [I]:=@g3 _ _ _ _ _ _ rfl fun _ _ _=>rfl
theorem On:I2 135 yh [I,I]:=@g2 _ _ _ _ _ _ rfl fun _ _=>rfl
theorem Oo:I3 136 qH [I,I,I,I,I,I,I,I,I]:=@g3 _ _ _ _ _ _ rfl fun _ _ _=>rfl
theorem Op:I4 137 Ec [I]:=@g4 _ _ _ _ _ _ rfl fun _ _ _ _=>rfl
theorem Oq:I4 138 gy [I,I,I,I,I,I,I,I,I,I,I,I,I,I]:=@g4 _ _ _ _ _ _ rfl fun _ _ _ _=>rfl
theorem Os:I3 139 Ed []:=@g3 _ _ _ _ _ _ rfl fun _ _ _=>rfl
theorem Ot:I4 140 Ee [I,I]:=@g4 _ _ _ _ _ _ rfl fun _ _ _ _=>rfl
theorem Ou:I4 141 ph [I,I,I,I,I,I,I,I,I,I,I]:=@g4 _ _ _ _ _ _ rfl fun _ _ _ _=>rfl
theorem Ov:I1 142 yi [I,I,I,I]:=@g1 _ _ _ _ _ _ rfl fun _=>rfl
theorem ER:I1 143 Ef []:=@g1 _ _ _ _ _ _ rfl fun _=>rfl
theorem Ow:I3 144 u5 [I,I]:=@g3 _ _ _ _ _ _ rfl fun _ _ _=>rfl
theorem Ox:I4 145 Eg [I]:=@g4 _ _ _ _ _ _ rfl fun _ _ _ _=>rfl
theorem Oy:I3 146 Eh [I,I]:=@g3 _ _ _ _ _ _ rfl fun _ _ _=>rfl
theorem Oz:I2 147 Ei []:=@g2 _ _ _ _ _ _ rfl fun _ _=>rfl
theorem OA:I1 148 Ej [I,I]:=@g1 _ _ _ _ _ _ rfl fun _=>rfl
theorem OB:I1 149 Ek [I,I]:=@g1 _ _ _ _ _ _ rfl fun _=>rfl
theorem OC:I1 150 yj [I]:=@g1 _ _ _ _ _ _ rfl fun _=>rfl
theorem ES:I4 151 pi [I,I,I,I,I,I,I,I,I]:=@g4 _ _ _ _ _ _ rfl fun _ _ _ _=>rfl
theorem OD:I1 152 j1 [I,I,I,I,I,I,I,I,I,I,I,I,I,I,I,I,I,I,I,I,I,I,I,I,I]:=@g1 _ _ _ _ _ _ rfl fun _=>rfl
inductive ci where|v(i:Nat)|k(n:Nat)|a(x y:ci)|m(n:Nat)(x:ci)
noncomputable def ci.u8(c:List Nat):Nat->Nat:=c.rec (fun _=>0) fun x _ f i=>i.rec x fun i _=>f i
noncomputable def ci.aD(c:List Nat)(y:ci):Nat:=y.rec (u8 c) (fun n=>n) (fun _ _ a b=>a+b) fun n _ a=>n*a
noncomputable def ci.c0(y:ci):Nat:=y.rec (fun _=>0) (fun n=>n) (fun _ _ a b=>a+b) fun n _ a=>n*a
noncomputable def ci.co(y:ci)(j:Nat):Nat:=y.rec (fun i=>cond (cq i j) 1 0) (fun _=>0) (fun _ _ a b=>a+b) fun n _ a=>n*a
noncomputable def ci.fJ(x:ci)(c:List Nat):Nat->Nat:=c.rec (fun _=>0) fun z _ f j=>x.co j*z+f (j+1)
noncomputable def ci.ET(x y:ci)(n:Nat):Nat->Bool:=n.rec (fun _=>Y) fun _ f j=>Nat.ble (x.co j) (y.co j)&&f (j+1)
theorem ci.EU{x:ci}{c:List Nat}:∀{j:Nat},(∀i,j<=i->x.co i=0)->x.fJ c j=0:=by induction c with|nil=>intros;rfl|cons z r ih=>intro j h;have a:x.fJ r (j+1)=0:=ih fun i hi=>h i (KL hi);show x.co j*z+x.fJ r (j+1)=0;rw[a,h j (aE j),rW]
theorem ci.OE{c:List Nat}:∀{i j:Nat},(v (j+i)).fJ c j=u8 c i:=by induction c with|nil=>intros;rfl|cons z r ih=>intro i j;show cond (cq (j+i) j) 1 0*z+(v (j+i)).fJ r (j+1)=_;cases i with|zero=>rw[show cq (j+0) j=Y from Nat.beq_refl j,EU (x:=v (j+0)) fun i hi=>(by show cond (cq j i) 1 0=0;rw[show cq j i=ai from jK.mpr fun e=>ae (jL e) (lh hi)];rfl)];exact rX z|succ i=>rw[show cq (j+(i+1)) j=ai from jK.mpr fun e=>ae (jL e) (jm (KM (fe i)))];have:=ih (i:=i) (j:=j+1);rw[eL,nA 1 i]at this;rw[this];exact(aI (·+u8 r i) (rW z)).trans (gk _)
theorem ci.OF{x y:ci}{c:List Nat}:∀{j:Nat},(a x y).fJ c j=x.fJ c j+y.fJ c j:=by induction c with|nil=>intros;rfl|cons z r ih=>intro j;show(x.co j+y.co j)*z+(a x y).fJ r (j+1)=(x.co j*z+x.fJ r (j+1))+(y.co j*z+y.fJ r (j+1));rw[ih,oU,Zb]
theorem ci.OG{n:Nat}{x:ci}{c:List Nat}:∀{j:Nat},(m n x).fJ c j=n*x.fJ c j:=by induction c with|nil=>intros;rfl|cons z r ih=>intro j;show(n*x.co j)*z+(m n x).fJ r (j+1)=n*(x.co j*z+x.fJ r (j+1));rw[ih,Zc,Zd]
theorem ci.EV{c:List Nat}{x:ci}:x.aD c=x.c0+x.fJ c 0:=by induction x with|v i=>exact(by rw[<-OE (j:=0),gk]:u8 c i=_).trans (gk _).symm|k n=>exact(aI (n+·) (EU fun _ _=>rfl)).symm|a x y hx hy=>exact(by rw[hx,hy,Zb]:x.aD c+y.aD c=(x.c0+y.c0)+(x.fJ c 0+y.fJ c 0)).trans (aI _ OF.symm)|m n x hx=>exact(by rw[hx,Zc]:n*x.aD c=n*x.c0+n*x.fJ c 0).trans (aI _ OG.symm)
theorem ci.OH{x y:ci}{c:List Nat}:∀{j:Nat},ET x y c.length j=Y->x.fJ c j<=y.fJ c j:=by induction c with|nil=>exact fun _=>aE _|cons z r ih=>exact fun{j}h=>jM (ut z (ck (eK.mp h).1)) (ih (eK.mp h).2)
noncomputable def ci.le(n:Nat)(x y:ci):Bool:=Nat.ble x.c0 y.c0&&ET x y n 0
theorem ci.yt{c:List Nat}{x y:ci}(h:le c.length x y=Y):x.aD c<=y.aD c:=by have h:=eK.mp h;rw[EV,EV];exact jM (ck h.1) (OH h.2)
noncomputable def pY(f:Nat):Nat->ci×Nat:=f.rec (fun s=>(.k 0,s)) fun _ p s=>cond (cq (s%32) 0) ((p (s/32)).rec fun x s=>(p s).rec fun y s=>(.a x y,s)) (cond (cq (s%32) 1) (.k (s/1024%32^(s/32%32)),s/1024/32^(s/32%32)) (cond (cq (s%32) 2) (.k av,s/32) (cond (cq (s%32) 3) ((p (s/1024)).rec fun x t=>(.m (s/32%32) x,t)) (cond (lf (s%32) 20) (.k (s%32-4),s/32) (.v (s%32-20),s/32)))))
structure Qn where
d:Nat
m:Nat
x:ci
y:ci
noncomputable def pQ(s:Nat):Qn×Nat:=(pY 40 (s/1024)).rec fun x t=>(pY 40 t).rec fun y t=>(⟨s%32,s/32%32,x,y⟩,t)
def re{bz:Type}[LE bz][LT bz](r:Nat)(a b:bz):Prop:=cond (cq r 0) (a<=b) (cond (cq r 1) (a<b) (cond (cq r 2) (a=b) False))
noncomputable def Qn.fU(q:Qn):Nat:=q.d%4
noncomputable def Qn.neg(q:Qn):Bool:=cq (q.d/4%2) 1
noncomputable def Qn.yu(q:Qn):Bool:=cq (q.d/8%2) 1
noncomputable def Qn.bk(q:Qn):Bool:=cq (q.d/16) 1
def Qn.aD(c:List Nat)(q:Qn):Prop:=cond q.neg (¬cond q.yu (re q.fU (q.x.aD c:Int) (q.y.aD c)) (re q.fU (q.x.aD c) (q.y.aD c))) (cond q.yu (re q.fU (q.x.aD c:Int) (q.y.aD c)) (re q.fU (q.x.aD c) (q.y.aD c)))
theorem EW{r a b:Nat}:re r (a:Int) (b:Int)↔re r a b:=by
 unfold re;cases cq r 0
 .cases cq r 1
  .cases cq r 2;.exact BG
   .exact KN
  .exact cv
 .exact nD
def Qn.dn(c:List Nat)(q:Qn)(b:Bool):Prop:=cond b (¬re q.fU (q.x.aD c) (q.y.aD c)) (re q.fU (q.x.aD c) (q.y.aD c))
theorem Qn.yv{c:List Nat}{q:Qn}:q.aD c↔q.dn c q.neg:=by
 unfold aD dn;cases q.yu;.exact BG
 .cases q.neg;.exact EW
  .exact not_congr EW
noncomputable def Qn.hl(q:Qn)(b:Bool):ci×ci:=cond b (cond (cq q.fU 0) (.a q.y (.k 1),q.x) (cond (cq q.fU 1) (q.y,q.x) (.k 0,.k 0))) (cond (cq q.fU 0) (q.x,q.y) (cond (cq q.fU 1) (.a q.x (.k 1),q.y) (cond (cq q.fU 2) (cond q.bk (q.y,q.x) (q.x,q.y)) (.k 1,.k 0))))
theorem Qn.EX{c:List Nat}{q:Qn}{b:Bool}:q.dn c b->(q.hl b).1.aD c<=(q.hl b).2.aD c:=by
 unfold dn hl re;cases b
 .cases cq q.fU 0
  .cases cq q.fU 1
   .cases cq q.fU 2;.exact Ze
    .cases q.bk;.exact gG
     .exact fun h=>gG (BH h)
   .exact id
  .exact id
 .cases cq q.fU 0
  .cases cq q.fU 1;.exact fun _=>aE 0
   .exact ku
  .exact Zf
noncomputable def aO(j:Nat):Nat->Qn:=j.rec (fun s=>(pQ s).1) fun _ f s=>f (pQ s).2
noncomputable def i8(s m:Nat):ci×ci:=m.rec (.k 0,.k 0) fun m z=>(.a z.1 (.m (aO (m+1) s).m ((aO (m+1) s).hl (aO (m+1) s).neg).1),.a z.2 (.m (aO (m+1) s).m ((aO (m+1) s).hl (aO (m+1) s).neg).2))
noncomputable def EY(s m:Nat):Bool:=m.rec Y fun m b=>b&&(cq (aO (m+1) s).fU 2&&!(aO (m+1) s).neg)
def Hy(c:List Nat)(s m:Nat):Prop:=m.rec True fun m p=>p/\(aO (m+1) s).aD c
theorem OI{s m:Nat}{c:List Nat}(h:Hy c s m):(i8 s m).1.aD c<=(i8 s m).2.aD c:=by induction m with|zero=>exact aE 0|succ m ih=>exact jM (ih h.1) (Zg _ (Qn.EX (Qn.yv.mp h.2)))
theorem OJ{s m:Nat}{c:List Nat}(h:Hy c s m)(e:EY s m=Y):(i8 s m).2.aD c<=(i8 s m).1.aD c:=by induction m with|zero=>exact aE 0|succ m ih=>
have e:=eK.mp e;refine jM (ih h.1 e.1) (Zg _ ?_);have e:=eK.mp e.2;have e2:=(Zh _).mp e.2;have h:=Qn.yv.mp h.2;generalize aO (m+1) s=q at e e2 h;have r:q.fU=2:=jL e.1;unfold Qn.dn re at h;unfold Qn.hl;rw[e2,r]at h⊢;show(cond q.bk (q.y,q.x) (q.x,q.y)).2.aD c<=(cond q.bk (q.y,q.x) (q.x,q.y)).1.aD c;cases q.bk;.exact gG (BH h)
.exact gG h
noncomputable def dN(n m s:Nat):Bool:=cond (cq (aO 0 s).fU 2&&!(aO 0 s).neg) (EY s m&&(ci.le n (.a (aO 0 s).x (i8 s m).2) (.a (aO 0 s).y (i8 s m).1)&&ci.le n (.a (aO 0 s).y (i8 s m).1) (.a (aO 0 s).x (i8 s m).2))) (ci.le n (.a (.a ((aO 0 s).hl (!(aO 0 s).neg)).2 (i8 s m).2) (.k 1)) (.a ((aO 0 s).hl (!(aO 0 s).neg)).1 (i8 s m).1))
theorem lg{s m:Nat}{c:List Nat}(e:Y=dN c.length m s)(h:Hy c s m):(aO 0 s).aD c:=by refine Qn.yv.mpr ?_;have a:=OI h;unfold dN at e;have b:=OJ h;generalize aO 0 s=q at e;cases k:cq q.fU 2&&!q.neg with|true=>rw[k]at e;have e:=eK.mp e.symm;have e2:=eK.mp e.2;have k:=eK.mp k;unfold Qn.dn re;rw[(Zh _).mp k.2,jL k.1];have x:q.x.aD c+(i8 s m).2.aD c<=q.y.aD c+(i8 s m).1.aD c:=ci.yt e2.1;have y:q.y.aD c+(i8 s m).1.aD c<=q.x.aD c+(i8 s m).2.aD c:=ci.yt e2.2;have b:=fw a (b e.1);rw[b]at x y;exact Nat.add_right_cancel (fw x y)|false=>
rw[k]at e;refine aq0 fun g=>?_;have z:q.dn c (!q.neg):=by
 unfold Qn.dn at g⊢;cases h:q.neg;.rw[h]at g;exact g
 .rw[h]at g;exact ar0.mp g
exact ae (jM (Qn.EX z) a) (Nat.not_le_of_lt (ci.yt e.symm))
theorem u9{w:Nat}{P:Prop}(h:(-1:Int)=w):P:=Int.noConfusion (show Int.negSucc 0=kt w from h)
theorem pj(n:Nat):((n+1:Nat):Int)-1=n:=Zi (n:Int) 1
theorem EZ(n:Nat):(-1:Int)+((n+1:Nat):Int)=n:=(Zj _ _).trans (pj n)
theorem yw(n:Nat):((-1:Int)+(n:Int)).toNat=n-1:=by induction n with|zero=>rfl|succ n _=>rw[EZ];rfl
theorem sC{a b:Nat}(h:b<=a):∃e,a=e+b:=⟨a-b,(rY h).symm⟩
theorem yx{motive:(i:Nat)->i<2->Prop}(h0:motive 0 (fe 1))(h1:motive 1 (mh 1))(i:Nat)(h:i<2):motive i h:=by
 rcases i with _|_|i;.exact h0
 .exact h1
 .exact ae (li (li h)) (qf i)
theorem n9(n:Nat){x:Nat}(h:x<n+2)(l:n<=x):x=n\/x=n+1:=(qg x (n+1)).imp (fun q=>fw (oV q) l) fun q=>fw (oV h) q
theorem qL(n:Nat){x:Nat}(h:x<n+3)(l:n<=x):x=n\/x=n+1\/x=n+2:=(qg x (n+1)).imp (fun q=>fw (oV q) l) fun q=>n9 (n+1) h q
theorem yy{motive:(i:Nat)->i<3->Prop}(h0:motive 0 (fe 2))(h1:motive 1 (ck rfl))(h2:motive 2 (mh 2))(i:Nat)(h:i<3):motive i h:=by
 rcases i with _|_|_|i;.exact h0
 .exact h1
 .exact h2
 .exact ae (li (li (li h))) (qf i)
theorem qM{motive:(i:Nat)->i<4->Prop}(h0:motive 0 (fe 3))(h1:motive 1 (ck rfl))(h2:motive 2 (ck rfl))(h3:motive 3 (mh 3))(i:Nat)(h:i<4):motive i h:=by
 rcases i with _|_|_|_|i;.exact h0
 .exact h1
 .exact h2
 .exact h3
 .exact ae (li (li (li (li h)))) (qf i)
theorem E0{motive:(i:Nat)->i<6->Prop}(h0:motive 0 (fe 5))(h1:motive 1 (ck rfl))(h2:motive 2 (ck rfl))(h3:motive 3 (ck rfl))(h4:motive 4 (ck rfl))(h5:motive 5 (ck rfl))(i:Nat)(h:i<6):motive i h:=by
 rcases i with _|_|i;.exact h0
 .exact h1
 .exact qM (motive:=fun i _=>∀h,motive (i+2) h) (fun _=>h2) (fun _=>h3) (fun _=>h4) (fun _=>h5) i (li (li h)) h
theorem mK{a b:Nat}(h:b<a):a-b=a-(b+1)+1:=by rw[Nat.sub_add_eq];exact(rY (Nat.sub_pos_of_lt h)).symm
theorem aB{a:Nat}(s:Nat)(e:Y=dN 1 0 s):(aO 0 s).aD [a]:=lg (c:=[a]) e trivial
theorem ax{a:Nat}(s:Nat)(e:Y=dN 1 1 s)(h1:(aO 1 s).aD [a]):(aO 0 s).aD [a]:=lg (c:=[a]) e ⟨trivial,h1⟩
theorem hQ{a:Nat}(s:Nat)(e:Y=dN 1 2 s)(h1:(aO 1 s).aD [a])(h2:(aO 2 s).aD [a]):(aO 0 s).aD [a]:=lg (c:=[a]) e ⟨⟨trivial,h1⟩,h2⟩
theorem bA{a b:Nat}(s:Nat)(e:Y=dN 2 0 s):(aO 0 s).aD [a,b]:=lg (c:=[a,b]) e trivial
theorem aC{a b:Nat}(s:Nat)(e:Y=dN 2 1 s)(h1:(aO 1 s).aD [a,b]):(aO 0 s).aD [a,b]:=lg (c:=[a,b]) e ⟨trivial,h1⟩
theorem bZ{a b:Nat}(s:Nat)(e:Y=dN 2 2 s)(h1:(aO 1 s).aD [a,b])(h2:(aO 2 s).aD [a,b]):(aO 0 s).aD [a,b]:=lg (c:=[a,b]) e ⟨⟨trivial,h1⟩,h2⟩
theorem OK{a b:Nat}(s:Nat)(e:Y=dN 2 3 s)(h1:(aO 1 s).aD [a,b])(h2:(aO 2 s).aD [a,b])(h3:(aO 3 s).aD [a,b]):(aO 0 s).aD [a,b]:=lg (c:=[a,b]) e ⟨⟨⟨trivial,h1⟩,h2⟩,h3⟩
theorem fy{a b c:Nat}(s:Nat)(e:Y=dN 3 0 s):(aO 0 s).aD [a,b,c]:=lg (c:=[a,b,c]) e trivial
theorem c5{a b c:Nat}(s:Nat)(e:Y=dN 3 1 s)(h1:(aO 1 s).aD [a,b,c]):(aO 0 s).aD [a,b,c]:=lg (c:=[a,b,c]) e ⟨trivial,h1⟩
theorem pn{a b c:Nat}(s:Nat)(e:Y=dN 3 2 s)(h1:(aO 1 s).aD [a,b,c])(h2:(aO 2 s).aD [a,b,c]):(aO 0 s).aD [a,b,c]:=lg (c:=[a,b,c]) e ⟨⟨trivial,h1⟩,h2⟩
theorem fj{a b c:Nat}(s:Nat)(e:Y=dN 3 3 s)(h1:(aO 1 s).aD [a,b,c])(h2:(aO 2 s).aD [a,b,c])(h3:(aO 3 s).aD [a,b,c]):(aO 0 s).aD [a,b,c]:=lg (c:=[a,b,c]) e ⟨⟨⟨trivial,h1⟩,h2⟩,h3⟩
theorem yz{a b c d:Nat}(s:Nat)(e:Y=dN 4 0 s):(aO 0 s).aD [a,b,c,d]:=lg (c:=[a,b,c,d]) e trivial
theorem E1{a b c d:Nat}(s:Nat)(e:Y=dN 4 1 s)(h1:(aO 1 s).aD [a,b,c,d]):(aO 0 s).aD [a,b,c,d]:=lg (c:=[a,b,c,d]) e ⟨trivial,h1⟩
theorem oa{a b c d:Nat}(s:Nat)(e:Y=dN 4 2 s)(h1:(aO 1 s).aD [a,b,c,d])(h2:(aO 2 s).aD [a,b,c,d]):(aO 0 s).aD [a,b,c,d]:=lg (c:=[a,b,c,d]) e ⟨⟨trivial,h1⟩,h2⟩
theorem va{a b c d:Nat}(s:Nat)(e:Y=dN 4 3 s)(h1:(aO 1 s).aD [a,b,c,d])(h2:(aO 2 s).aD [a,b,c,d])(h3:(aO 3 s).aD [a,b,c,d]):(aO 0 s).aD [a,b,c,d]:=lg (c:=[a,b,c,d]) e ⟨⟨⟨trivial,h1⟩,h2⟩,h3⟩
theorem OL{a b c d:Nat}(s:Nat)(e:Y=dN 4 4 s)(h1:(aO 1 s).aD [a,b,c,d])(h2:(aO 2 s).aD [a,b,c,d])(h3:(aO 3 s).aD [a,b,c,d])(h4:(aO 4 s).aD [a,b,c,d]):(aO 0 s).aD [a,b,c,d]:=lg (c:=[a,b,c,d]) e ⟨⟨⟨⟨trivial,h1⟩,h2⟩,h3⟩,h4⟩
theorem yA{a b c d x:Nat}(s:Nat)(e:Y=dN 5 1 s)(h1:(aO 1 s).aD [a,b,c,d,x]):(aO 0 s).aD [a,b,c,d,x]:=lg (c:=[a,b,c,d,x]) e ⟨trivial,h1⟩
theorem sD{a b c d x:Nat}(s:Nat)(e:Y=dN 5 2 s)(h1:(aO 1 s).aD [a,b,c,d,x])(h2:(aO 2 s).aD [a,b,c,d,x]):(aO 0 s).aD [a,b,c,d,x]:=lg (c:=[a,b,c,d,x]) e ⟨⟨trivial,h1⟩,h2⟩
theorem mM{a b c d x:Nat}(s:Nat)(e:Y=dN 5 3 s)(h1:(aO 1 s).aD [a,b,c,d,x])(h2:(aO 2 s).aD [a,b,c,d,x])(h3:(aO 3 s).aD [a,b,c,d,x]):(aO 0 s).aD [a,b,c,d,x]:=lg (c:=[a,b,c,d,x]) e ⟨⟨⟨trivial,h1⟩,h2⟩,h3⟩
theorem OM{a b c d x y:Nat}(s:Nat)(e:Y=dN 6 1 s)(h1:(aO 1 s).aD [a,b,c,d,x,y]):(aO 0 s).aD [a,b,c,d,x,y]:=lg (c:=[a,b,c,d,x,y]) e ⟨trivial,h1⟩
theorem yB{a b c d x y:Nat}(s:Nat)(e:Y=dN 6 2 s)(h1:(aO 1 s).aD [a,b,c,d,x,y])(h2:(aO 2 s).aD [a,b,c,d,x,y]):(aO 0 s).aD [a,b,c,d,x,y]:=lg (c:=[a,b,c,d,x,y]) e ⟨⟨trivial,h1⟩,h2⟩
theorem E7{a b c d x y:Nat}(s:Nat)(e:Y=dN 6 3 s)(h1:(aO 1 s).aD [a,b,c,d,x,y])(h2:(aO 2 s).aD [a,b,c,d,x,y])(h3:(aO 3 s).aD [a,b,c,d,x,y]):(aO 0 s).aD [a,b,c,d,x,y]:=lg (c:=[a,b,c,d,x,y]) e ⟨⟨⟨trivial,h1⟩,h2⟩,h3⟩
theorem E9{a b c d x y:Nat}(s:Nat)(e:Y=dN 6 4 s)(h1:(aO 1 s).aD [a,b,c,d,x,y])(h2:(aO 2 s).aD [a,b,c,d,x,y])(h3:(aO 3 s).aD [a,b,c,d,x,y])(h4:(aO 4 s).aD [a,b,c,d,x,y]):(aO 0 s).aD [a,b,c,d,x,y]:=lg (c:=[a,b,c,d,x,y]) e ⟨⟨⟨⟨trivial,h1⟩,h2⟩,h3⟩,h4⟩
theorem ON{a b c d x y z:Nat}(s:Nat)(e:Y=dN 7 1 s)(h1:(aO 1 s).aD [a,b,c,d,x,y,z]):(aO 0 s).aD [a,b,c,d,x,y,z]:=lg (c:=[a,b,c,d,x,y,z]) e ⟨trivial,h1⟩
theorem Fa{a b c d x y z:Nat}(s:Nat)(e:Y=dN 7 2 s)(h1:(aO 1 s).aD [a,b,c,d,x,y,z])(h2:(aO 2 s).aD [a,b,c,d,x,y,z]):(aO 0 s).aD [a,b,c,d,x,y,z]:=lg (c:=[a,b,c,d,x,y,z]) e ⟨⟨trivial,h1⟩,h2⟩
theorem Fb{a b c d x y z w:Nat}(s:Nat)(e:Y=dN 8 2 s)(h1:(aO 1 s).aD [a,b,c,d,x,y,z,w])(h2:(aO 2 s).aD [a,b,c,d,x,y,z,w]):(aO 0 s).aD [a,b,c,d,x,y,z,w]:=lg (c:=[a,b,c,d,x,y,z,w]) e ⟨⟨trivial,h1⟩,h2⟩
set_option maxHeartbeats 0
set_option compiler.extract_closed false
local macro_rules |`(tactic|show$t)=>`(tactic|refine(?_:$t))
local macro_rules |`(tactic|rw[$r,$s,*]$[$l]?)=>`(tactic|(rw[$r]$[$l]?;rw[$s,*]$[$l]?))
local macro_rules |`(tactic|rw[←$t:term])=>`(tactic|((first|refine uQ $t ?_|refine uQ ($t _) ?_|refine uQ ($t _ _) ?_|refine uQ ($t _ _ _) ?_|refine CF $t ?_|refine CF ($t _) ?_|fail);try with_reducible rfl))
local macro_rules |`(tactic|rw[$t:term])=>`(tactic|((first|refine qy $t ?_|refine qy ($t _) ?_|refine qy ($t _ _) ?_|refine qy ($t _ _ _) ?_|refine xW $t ?_|refine xW ($t _) ?_|refine xW ($t _ _) ?_|fail);try with_reducible rfl))
local macro_rules |`(tactic|rw[$t:term]at$h:ident)=>`(tactic|first|replace$h:ident:=xV $t $h|replace$h:ident:=xV ($t _) $h|replace$h:ident:=xV ($t _ _) $h|replace$h:ident:=Iff.mp $t $h|replace$h:ident:=$t▸$h|fail)
local macro_rules |`(tactic|cases$h:ident)=>let r:=Lean.mkIdent `rfl;`(tactic|first|obtain$r:ident:=$h|obtain$r:ident:=Option.some.inj $h|obtain$r:ident:=aa.int.inj $h|obtain$r:ident:=aa.ab.inj $h|(focus injection$h;done)|(injection$h with a b c;cases a;cases b;cases c)|(injection$h with a b;cases a;cases b)|(injection$h with a;cases a)|rcases$h:ident with⟨⟩|fail)
local macro_rules |`(tactic|change$t at$h:ident)=>`(tactic|replace$h:ident:$t :=$h)
local macro_rules |`(tactic|decide)=>`(tactic|first|exact Nat.le_of_ble_eq_true rfl|exact Nat.ne_of_beq_eq_false rfl|exact .head _|exact .tail _ (.head _)|exact .tail _ (.tail _ (.head _))|exact of_decide_eq_true rfl|fail)
local macro_rules |`(nofun)=>`(by intros;first|contradiction|(intro h;first|contradiction|exact nomatch(h))|(rename_i h;exact nomatch(h)))
local macro_rules |`(nomatch$h:ident)=>`(by first|contradiction|exact nomatch($h))
set_option compiler.extract_closed true
set_option maxHeartbeats 200000
inductive E2{bz fz:Type}(P:bz->fz->Prop):Prop where|mk(x0:bz)(x1:fz)(h:P x0 x1):E2 P
inductive E3{bz fz i9:Type}(P:bz->fz->i9->Prop):Prop where|mk(x0:bz)(x1:fz)(x2:i9)(h:P x0 x1 x2):E3 P
inductive E4{bz fz i9 ja:Type}(P:bz->fz->i9->ja->Prop):Prop where|mk(x0:bz)(x1:fz)(x2:i9)(x3:ja)(h:P x0 x1 x2 x3):E4 P
inductive E5{bz fz i9 ja oc:Type}(P:bz->fz->i9->ja->oc->Prop):Prop where|mk(x0:bz)(x1:fz)(x2:i9)(x3:ja)(x4:oc)(h:P x0 x1 x2 x3 x4):E5 P
inductive E6{bz fz i9 ja oc sF:Type}(P:bz->fz->i9->ja->oc->sF->Prop):Prop where|mk(x0:bz)(x1:fz)(x2:i9)(x3:ja)(x4:oc)(x5:sF)(h:P x0 x1 x2 x3 x4 x5):E6 P
inductive E8{bz fz i9 ja oc sF Fc Fd:Type}(P:bz->fz->i9->ja->oc->sF->Fc->Fd->Prop):Prop where|mk(x0:bz)(x1:fz)(x2:i9)(x3:ja)(x4:oc)(x5:sF)(x6:Fc)(x7:Fd)(h:P x0 x1 x2 x3 x4 x5 x6 x7):E8 P
inductive A3(a0 a1 a2:Prop):Prop where|mk(h0:a0)(h1:a1)(h2:a2):A3 a0 a1 a2
inductive A4(a0 a1 a2 a3:Prop):Prop where|mk(h0:a0)(h1:a1)(h2:a2)(h3:a3):A4 a0 a1 a2 a3
inductive A5(a0 a1 a2 a3 a4:Prop):Prop where|mk(h0:a0)(h1:a1)(h2:a2)(h3:a3)(h4:a4):A5 a0 a1 a2 a3 a4
inductive A6(a0 a1 a2 a3 a4 a5:Prop):Prop where|mk(h0:a0)(h1:a1)(h2:a2)(h3:a3)(h4:a4)(h5:a5):A6 a0 a1 a2 a3 a4 a5
inductive A7(a0 a1 a2 a3 a4 a5 a6:Prop):Prop where|mk(h0:a0)(h1:a1)(h2:a2)(h3:a3)(h4:a4)(h5:a5)(h6:a6):A7 a0 a1 a2 a3 a4 a5 a6
inductive A8(a0 a1 a2 a3 a4 a5 a6 a7:Prop):Prop where|mk(h0:a0)(h1:a1)(h2:a2)(h3:a3)(h4:a4)(h5:a5)(h6:a6)(h7:a7):A8 a0 a1 a2 a3 a4 a5 a6 a7
inductive Fe(a0 a1 a2 a3 a4 a5 a6 a7 a8 a9 Ff:Prop):Prop where|mk(h0:a0)(h1:a1)(h2:a2)(h3:a3)(h4:a4)(h5:a5)(h6:a6)(h7:a7)(h8:a8)(h9:a9)(vb:Ff):Fe a0 a1 a2 a3 a4 a5 a6 a7 a8 a9 Ff
def Fr(O:List Nat)(σ Z:AH):Prop:=∀(i:Nat)o,σ[i]?=D o->i∉O->Z[i]?=D o
theorem Fr.rfl:Fr O σ σ:=fun _ _ h _=>h
theorem Fr.trans(h:Fr O σ Z)(h':Fr O Z yC):Fr O σ yC:=fun i o a b=>h' i o (h i o a b) b
theorem dt{σ g:AH}{i:Nat}{o:AO}(h:σ[i]?=D o):(σ++g)[i]?=D o:=by rw[ic (bo.mp h).1];exact h
theorem bl{σ:AH}{o o':AO}(h:σ[i]?=D o)(Z:j≠i):(σ.set j o')[i]?=D o:=by rw[rZ Z];exact h
theorem aR{o:AO}:(σ++[o])[σ.length]?=D o:=by rw[jN (aE _),jO];exact List.getElem?_cons_zero
theorem eV{σ:AH}{o o':AO}(h:σ[i]?=D o):(σ.set i o')[i]?=D o':=by rw[uu (bo.mp h).1]
theorem Fr.cm{O:List Nat}{σ Z g:AH}(h:Fr O σ Z):Fr O σ (Z++g):=fun i o a b=>dt (h i o a b)
theorem Fr.new{O:List Nat}{σ g:AH}:Fr O σ (σ++g):=fun i o a b=>dt a
theorem Fr.set{O:List Nat}{j:Nat}(h:Fr O σ Z)(C:j∈O):Fr O σ (Z.set j o'):=fun i o a b=>bl (h i o a b) fun e=>b (e▸C)
theorem Fr.kK{O:List Nat}{j:Nat}(h:Fr O σ Z)(X:σ[j]?=I):Fr O σ (Z.set j o'):=fun i o a b=>bl (h i o a b) fun e=>by rw[e,a]at X;cases X
theorem Fr.aq(h:Fr O σ au)(s:∀i,i∈O->i∈Z):Fr Z σ au:=fun i o a b=>h i o a fun q=>b (s i q)
theorem Fr.nil(h:Fr [] σ au):Fr O σ au:=h.aq fun _ q=>nomatch q
section
theorem fK(h:σ[i]?=D (.bj c fs))(Z:WD.gx c f=Y)(X:jW fs f=D v):eU WD σ (.ref i) f=D v:=by show(match σ[i]? with|some (.bj c fs)=>if WD.gx c f then jW fs f else I|_=>I)=_;rw[h];exact(af Z).trans X
theorem vc(h:σ[i]?=D (.bj c fs))(Z:(WD.gx c f&&decide (fs.length<500))=Y)(X:i≠0):pb WD σ (.ref i) f v=D (σ.set i (.bj c (iI fs f v))):=by show(match σ[i]? with|some (.bj c fs)=>if(WD.gx c f&&decide (fs.length<500)&&i !=0)=Y then D (σ.set i (.bj c (iI fs f v)))else I|_=>I)=_;rw[h];exact af (by rw[Z,fx.mpr X];rfl)
theorem hU(h:σ[i]?=D (.list xs)):cY σ (.ref i) d=(match d with|.int k=>lF xs k|_=>I):=by show(match σ[i]? with|some (.list xs)=>_|some (.dict es)=>_|_=>_)=_;rw[h];try rfl
theorem Fg(h:σ[i]?=D (.dict es))(Z:dc es d=Y)(X:cg d=2):cY σ (.ref i) d=b9 es d:=by show(match σ[i]? with|some (.list xs)=>_|some (.dict es)=>_|_=>_)=_;rw[h];exact af (by rw[Z,X];rfl)
theorem pp(h:σ[i]?=D (.dict es))(Z:dc es d=Y):ip σ d (.ref i)=D (b9 es d).isSome:=by show(match σ[i]? with|some (.list xs)=>_|some (.dict es)=>_|_=>_)=_;rw[h];exact af Z
theorem du(h:σ[i]?=D (.list xs))(Z:xs.length<av):iJ .len σ [.ref i]=D (.int xs.length,σ):=by show((match σ[i]? with|some (.list xs)=>_|_=>_:Option aa).map _)=_;rw[h];show((if xs.length<av then _ else _:Option aa).map _)=_;rw[af Z];rfl
theorem ez(h:σ[i]?=D (.list xs)):nZ σ (.ref i)=D xs:=by show(match σ[i]? with|some (.list xs)=>_|_=>_:Option (List aa))=_;rw[h]
theorem pq(h:σ[i]?=D (.dict es)):dictAt σ (.ref i)=D es:=by show(match σ[i]? with|some (.dict xs)=>_|_=>_:Option (List (aa×aa)))=_;rw[h]
theorem gz(Z:xs.length<av)(X:i≠0):qF 0 i xs σ [v]=D (.none,σ.set i (.list (xs++[v]))):=by show(if(decide (xs.length<av)&&i !=0)=Y then _ else _)=_;exact af (by rw[aN Z,fx.mpr X];rfl)
theorem mN(h:σ[i]?=D (.dict es))(Z:dc es d=Y)(X:es.length<av)(U:i≠0):i7 σ i d v=D (σ.set i (.dict (eR es d v))):=by show(match σ[i]? with|some (.dict es)=>_|some (.list xs)=>_|_=>_)=_;rw[h];exact af (by rw[Z,aN X,fx.mpr U];rfl)
theorem kL(h:σ[i]?=D (.list xs))(Z:xs.length<av):sz σ (.ref i)=D (xs,D (i,xs)):=by show(match σ[i]? with|some (.list xs)=>_|_=>_:Option (List aa×Option (Nat×List aa)))=_;rw[h];exact af Z
theorem hW(Z:xs.length<av):sz σ (.ab xs)=D (xs,I):=af Z
theorem kM(h:σ[i]?=D (.list xs))(Z:xs.length<av):lD σ (.ref i)=D (!xs.isEmpty):=by show(match σ[i]? with|some (.list xs)=>_|_=>_:Option Bool)=_;rw[h];exact af Z
theorem qN(Z:xs.length<av):lD σ (.ab xs)=D (!xs.isEmpty):=af Z
theorem ir(Z:xs.length<av):iJ .len σ [.ab xs]=D (.int xs.length,σ):=by show((if xs.length<av then _ else _:Option aa).map _)=_;rw[af Z];rfl
end
structure Ad where
az:Nat
r:Nat
ix:Nat
bd:Nat
noncomputable abbrev Ad.aP(A:Ad):List Nat:=[A.r,A.ix]
noncomputable def dU:Nat->List aa->List (aa×aa)|_,[]=>[]|i,x::r=>(x,.int i)::dU (i+1) r
theorem yD:∀{T:List aa}{i:Nat}{k v:aa},b9 (dU i T) k=D v->∃j:Nat,T[j]?=D k/\v=.int ((i+j:Nat):Int):=by intro T;induction T with|nil=>intro i k v h;exact nomatch h|cons x r Z=>
intro i k v h;change(if x=k then D (aa.int i)else b9 (dU (i+1) r) k)=D v at h;by_cases e:x=k;.rw[af e]at h;cases h;exact⟨0,aI D e,rfl⟩
.rw[am e]at h;obtain⟨j,X,U⟩:=Z h;exact⟨j+1,X,by rw[U,r5,eL]⟩
theorem yE:∀{T:List aa}{i:Nat}{k:aa},b9 (dU i T) k=I->k∉T:=by intro T;induction T with|nil=>intro i k h;exact fun q=>nomatch q|cons x r Z=>
intro i k h;change(if x=k then D (aa.int i)else b9 (dU (i+1) r) k)=I at h;by_cases e:x=k;.rw[af e]at h;cases h
.rw[am e]at h;exact fun q=>(cc.mp q).elim (fun q=>e q.symm) (Z h)
theorem Fh:∀{T:List aa}{i:Nat}{k v:aa},b9 (dU i T) k=I->eR (dU i T) k v=dU i T++[(k,v)]:=by intro T;induction T with|nil=>intro i k v h;exact rfl|cons x r Z=>
intro i k v h;change(if x=k then D (aa.int i)else b9 (dU (i+1) r) k)=I at h;show(if x=k then _ else(x,_)::eR (dU (i+1) r) k v)=_;by_cases e:x=k;.rw[af e]at h;cases h
.rw[am e]at h⊢;rw[Z h];rfl
theorem Fi:∀{T:List aa}{i:Nat}{k:aa},dU i (T++[k])=dU i T++[(k,.int ((i+T.length:Nat):Int))]:=by intro T;induction T with|nil=>intro i k;exact rfl|cons x r Z=>intro i k;show(x,aa.int i)::dU (i+1) (r++[k])=_;rw[Z,iF,r5 i 1,eL];rfl
theorem Fj:∀{T:List aa}{i:Nat},(dU i T).length=T.length:=by intro T;induction T with|nil=>intro i;exact rfl|cons x r Z=>intro i;exact aI (·+1) (Z)
theorem Fk:∀{T:List aa}{i:Nat},(dU i T).all (fun p=>q p.1)=T.all q:=by intro T;induction T with|nil=>intro i;exact rfl|cons x r Z=>intro i;exact aI (q x&&·) (Z)
noncomputable def dI(s:String):aa:=.ab [.int 1,.str (S0 s)]
noncomputable def oe(k:Nat)(v:aa)(f:Nat):aa:=.ab [.int k,v,.int f]
noncomputable def aY(l:List Nat):List aa:=l.map fun(i:Nat)=>.int i
noncomputable def pu(l:List Nat):aa:=.ab [.int 6,.ab (aY l)]
noncomputable def lO(e ro:Nat):aa:=.ab [.int 11,.int e,.int ro]
noncomputable def iN(es:List aa)(ro:Nat):aa:=.ab [.int 12,.ab es,.int ro]
noncomputable def eA(ps:List aa)(ret:Nat)(Z:aa)(X:Nat):aa:=.ab [.int 13,.ab [],.ab ps,.int ret,Z,.int X]
noncomputable def Fl:aa:=.ab [.int 8,.ab [],.ab [],.ab [],.ab [],.ab [],.int 0]
noncomputable def cG:List aa:=[dI "any",dI "unknown",dI "never",dI "void",dI "undefined",dI "null",dI "string",dI "number",oe 2 (.int 0) 0,oe 2 (.int 1) 0,dI "object",Fl,pu [8,9],dI "error",oe 2 (.int 0) 1,oe 2 (.int 1) 1]
noncomputable def Fm:List aa:=[.ab [.int 3,.str (S0 "a"),.int 0],.ab [.int 3,.str (S0 "b"),.int 0],.ab [.int 4,.int 0,.int 0],.ab [.int 4,.int 1,.int 0],oe 2 (.int 0) 0,oe 2 (.int 1) 0]
noncomputable def qO(T:List aa):List aa->Nat|[]=>0|r::l=>(if r∈T then 0 else 1)+qO T l
noncomputable def ms(T:List aa):Nat:=qO T Fm
theorem Fo:∀{l:List aa},qO (T++[row]) l<=qO T l:=by intro l;induction l with|nil=>exact aE 0|cons r l Z=>
  refine jM ?_ Z;by_cases h:r∈T;.rw[af h,af (mi _ h)];exact aE 0
  .rw[am h];split;.exact bP 1
   .exact aE 1
theorem OO(h:row∉T):∀{l:List aa},row∈l->qO (T++[row]) l+1<=qO T l:=by intro l;induction l with|nil=>intro m;cases m|cons r l Z=>
  intro m;by_cases e:r=row;.clear m;subst e;show(if r∈T++[r]then 0 else 1)+_+1<=(if r∈T then 0 else 1)+_;rw[af (jP _ aV),am h,gk,nA];exact eP Fo 1
  .have X:=Z ((cc.mp m).elim (fun q=>ae q.symm e) id);show(if r∈T++[row]then 0 else 1)+_+1<=(if r∈T then 0 else 1)+_;rw[eL];refine jM ?_ X;by_cases q:r∈T;.rw[af q,af (mi _ q)];exact aE 0
   .rw[am q];split;.exact bP 1
    .exact aE 1
theorem OP:ms (T++[row])+1<=ms T+1:=mj Fo
structure Tb(A:Ad)(b:Nat)(T:List aa)(σ:AH):Prop where
ct:∃f,σ[A.az]?=D (.bj 4 ((6,.ref A.r)::(16,.ref A.ix)::f))/\jW f 7=I
ch:σ[A.bd]?=D (.bj 5 [(20,.ref A.az),(19,.int 0),(18,.int 200),(17,.int 40)])cr:σ[A.r]?=D (.list T)cx:σ[A.ix]?=D (.dict (dU 0 T))nr:A.r≠0
nx:A.ix≠0
len:T.length+ms T+b<av
jw:T.all (fun r=>eF r&&cg r==2)=Y
base:cG<+:T
nd:T.Nodup
section
theorem Tb.le(h:Tb A b T σ)(l:b'<=b):Tb A b' T σ:={h with len:=by have:=h.len;exact oa 0x15eb400021bd82015ab400001 rfl l this}
theorem Tb.fr(h:Tb A b T σ)(x:Fr O σ au)(Z:A.az∉O)(X:A.bd∉O)(U:A.r∉O)(J:A.ix∉O):Tb A b T au:={h with ct:=(by obtain⟨f,a,b⟩:=h.ct;exact⟨f,x _ _ a Z,b⟩),ch:=x _ _ h.ch X,cr:=x _ _ h.cr U,cx:=x _ _ h.cx J}
theorem Tb.fV(h:Tb A b T σ)(x:Fr [] σ au):Tb A b T au:=h.fr x (nomatch·) (nomatch·) (nomatch·) (nomatch·)
theorem Tb.cm(h:Tb A b T σ):Tb A b T (σ++g):=h.fV .new
theorem Tb.fW(h:Tb A b T σ):eU WD σ (.ref A.az) 6=D (.ref A.r):=(by obtain⟨_,a,_⟩:=h.ct;exact fK a rfl rfl)
theorem Tb.yF(h:Tb A b T σ):eU WD σ (.ref A.az) 16=D (.ref A.ix):=let⟨_,a,_⟩:=h.ct;fK a rfl rfl
theorem Tb.az(h:Tb A b T σ):eU WD σ (.ref A.bd) 20=D (.ref A.az):=fK h.ch rfl rfl
theorem Tb.lt(h:Tb A b T σ):T.length<av:=by have:=h.len;exact c5 97588254069575681 rfl this
theorem jx(h:i<av):small (i:Int)=true:=by exact BE (gZ h (ck rfl))
theorem gJ{i:Nat}(h:l[i]?=D d)(Z:l.length<av):lF l i=D d:=by have:=(bo.mp h).1;unfold lF;rw[jx (bZ 0xad0211542115001 rfl Z this),aN Z,Bool.and_self,af rfl,af (aB 659464 rfl),ie,h]
theorem Tb.row(h:Tb A b T σ){t:Nat}{d:aa}(e:T[t]?=D d):cY σ (.ref A.r) (.int t)=D d:=(hU h.cr).trans (gJ e h.lt)
theorem Tb.eC(h:Tb A b T σ){t:Nat}{p:aa->Prop}(e:T[t]?=D d)(Z:p d):gO (eU WD σ (.ref A.az) 6) fun y=>gO (cY σ y (.int t)) p:=o h.fW (o (h.row e) Z)
theorem Tb.dv(h:Tb A b T σ){t:Nat}{p:aa->Prop}(e:T[t]?=D d)(Z:p d):gO (eU WD σ (.ref A.bd) 20) fun y=>gO (eU WD σ y 6) fun y=>gO (cY σ y (.int t)) p:=o h.az (h.eC e Z)
theorem Tb.dc(h:Tb A b T σ)(U:eF k=Y)(J:cg k=2):dc (dU 0 T) k=true:=by unfold Mine.dc;rw[Fk (q:=fun d=>cg d==cg k),U,J];refine eK.mpr ⟨rfl,fQ.mpr fun x H=>?_⟩;exact(eK.mp (fQ.mp h.jw x H)).2
theorem OQ{n u:Nat}{row:aa}(h:Tb A (b+u) T σ)(K:row∉T->ms (T++[row])+1<=ms T+u)(M:eF row=Y)(O:cg row=2)(L:∀(t:Nat)T' Z,Tb A b T' Z->T<+:T'->T'[t]?=D row->Fr A.aP σ Z->k (.int t) Z):CW (n+1) 10 [.ref A.az,row] σ k:=by
 have X:=h.dc M O;refine El ?_;apply o h.yF;apply o (pp h.cx X);rcases U:b9 (dU 0 T) row with _|v
 .apply o h.fW;apply p (du h.cr h.lt);apply o h.fW;apply o h.cr;apply o (ez h.cr);apply p (gz h.lt h.nr);have J:A.r≠A.ix:=fun e=>by have:=h.cr;rw[e,h.cx]at this;cases this
  have H:(σ.set A.r (.list (T++[row])))[A.ix]?=D (.dict (dU 0 T)):=bl h.cx J;obtain⟨f,ct,E⟩:=h.ct;have Q:A.r≠A.az:=fun e=>by have:=h.cr;rw[e,ct]at this;cases this
  have C:A.ix≠A.bd:=fun e=>by have:=h.cx;rw[e,h.ch]at this;cases this
  apply o (fK (f:=16) (bl ct Q) rfl rfl);apply o ((mN (v:=.int T.length) H X (by rw[Fj];exact h.lt) h.nx).trans (by rw[Fh U,<-gk T.length,<-Fi]));refine L T.length (T++[row]) _ ?_ (Zk T [row]) (by rw[jN (aE _),jO];rfl) ((Fr.rfl.set aV).set (cH _ aV));exact{
  ct:=⟨f,bl (bl ct Q) (fun e=>by have:=h.cx;rw[e,ct]at this;cases this),E⟩
  ch:=bl (bl h.ch (fun e=>by have:=h.cr;rw[e,h.ch]at this;cases this)) C
  cr:=bl (eV h.cr) J.symm
  cx:=eV H
  nr:=h.nr
  nx:=h.nx
  len:=by have q:=h.len;have g:=K (yE U);rw[aT,qh];exact sD 0xc5c05a8020162c0bd00008456a968000001 rfl q g
  jw:=by rw[BI,h.jw];show((eF row&&cg row==2)&&Y)=Y;rw[M,O];rfl
  base:=h.base.trans (Zk T [row])
  nd:=oW.mpr ⟨h.nd,fg.mpr ⟨bJ,jQ⟩,fun a d b w e=>yE U (by rw[aZ.mp w]at e;exact e▸d)⟩}
 refine cps fun P m=>?_;obtain⟨j,y,z⟩:=yD U;refine m ?_;apply o h.yF;apply o ((Fg h.cx X O).trans U);rw[z,gk];exact L j T σ (h.le (b7 b u)) (df T) y .rfl
end
structure jy(K:Type)where
ps:List (K×Bool)sp:Nat
rest:Option Nat
res:K
pred:Option (Int×Option Nat×Int)fl:Nat
set_option genInjectivity true in inductive Kd where|mk(m:Nat)(s:Option (jy Kd))
noncomputable abbrev Sg:=jy Kd
noncomputable def Kd.m:Kd->Nat|.mk m _=>m
noncomputable def Kd.s:Kd->Option Sg|.mk _ s=>s
noncomputable def eM(m:Nat):aa:=.ab [.int m,.none]
noncomputable def eO(o:Option Nat):aa:=match o with|some m=>eM m|none=>.none
noncomputable def dF(p:Option (Int×Option Nat×Int)):aa:=match p with|none=>.ab []|some (a,k,b)=>.ab [.int a,eO k,.int b]
noncomputable def eB(b:Bool):aa:=match b with|true=>.int 1|false=>.int 0
noncomputable def cZ(m:Nat):Nat:=if m&&&4096≠0 then 4096 else if m&&&2048≠0 then 2048 else let m:=if m&&&4≠0 then m-(m&&&3)else m;if m&&&32≠0 then m-(m&&&24)else m
def Nm(m:Nat):Prop:=m<8192/\cZ m=m
noncomputable def jn(k:Kd)(b:Nat):Kd:=match k with|.mk m s=>.mk (cZ (m|||b)) (if cZ (m|||b)&&&6144≠0 then I else s)
mutual noncomputable def aL:Kd->aa|.mk m s=>.ab [.int m,og s]noncomputable def og:Option (jy Kd)->aa|none=>.none|some s=>aF s noncomputable def aF:jy Kd->aa|⟨ps,sp,rest,X,Z,U⟩=>.ab [.ab (fA ps),.int sp,eO rest,aL X,dF Z,.int U]noncomputable def fA:List (Kd×Bool)->List aa|[]=>[]|k::r=>cw k::fA r noncomputable def cw:Kd×Bool->aa|(k,o)=>.ab [aL k,eB o]end
mutual noncomputable def cA:Kd->aa|.mk m s=>.ab [.int m,jb s]noncomputable def jb:Option (jy Kd)->aa|none=>.none|some s=>dG s noncomputable def dG:jy Kd->aa|⟨ps,_,_,X,Z,U⟩=>.ab [.ab (gC ps),cA X,dF Z,.int (U&&&6:Nat)]noncomputable def gC:List (Kd×Bool)->List aa|[]=>[]|k::r=>j2 k::gC r noncomputable def j2:Kd×Bool->aa|(k,o)=>.ab [cA k,eB o]end
noncomputable def fC:List (Kd×Bool)->Bool|[]=>Y|p::r=>(!p.2||r.all (·.2))&&fC r
structure kN(V:Nat)(x:Sg):Prop where
pl:V=3->x.rest=I/\x.sp=x.ps.length
len:x.ps.length<=4
sp:x.sp<=x.ps.length
aq:fC x.ps=Y
rest:∀m,x.rest=D m->Nm m
pred:∀a k b,x.pred=D (a,k,b)->-1<=a/\a<1/\0<=b/\b<2/\∀m,k=D m->Nm m
fl:x.fl<8
noncomputable def aS(V:Nat):Nat->Kd->Prop|0,.mk m s=>Nm m/\s=I|n+1,.mk m s=>Nm m/\∀x,s=D x->(m<2048/\x.ps.length<=2)/\kN V x/\(∀p∈x.ps,aS V n p.1)/\aS V n x.res
def bn(V n:Nat)(x:Sg):Prop:=kN V x/\(∀p∈x.ps,aS V n p.1)/\aS V n x.res
theorem aS.le:∀{n:Nat}{k:Kd},aS V n k->aS V (n+1) k:=by intro n;induction n with|zero=>intro K h;obtain⟨m,s⟩:=K;exact⟨h.1,fun x e=>by rw[h.2]at e;cases e⟩|succ n Z=>intro K h;obtain⟨m,s⟩:=K;exact⟨h.1,fun x e=>(by obtain⟨a,b,c,d⟩:=h.2 x e;exact⟨a,b,fun p X=>Z (c p X),Z d⟩)⟩
theorem aS.aq(h:aS V n k)(l:n<=m):aS V m k:=by induction l with|refl=>exact h|step _ Z=>exact Z.le
theorem aS.nm:∀{n:Nat}{k:Kd},aS V n k->Nm k.m|0,.mk m s,h=>h.1|n+1,.mk m s,h=>h.1
noncomputable def mO(p:Kd×Bool):Kd:=match p.2 with|true=>jn p.1 512|false=>p.1
noncomputable def bp(s:Sg):List Kd:=s.ps.map mO
noncomputable def lP(s:Sg):Nat:=(s.ps.filter fun p=>!p.2).length
noncomputable def kP(bp:List Kd):Nat->Nat|0=>0|c+1=>match bp[c]? with|some k=>if k.m&&&1024≠0 then kP bp c else c+1|none=>c+1
noncomputable def b5(s:Sg):Nat:=kP (bp s) (lP s)
noncomputable def da(s:Sg):Bool:=(match s.rest with|some m=>m==4096||m==0|none=>ai)&&(match s.res with|.mk m I=>m==4096||m==2048|.mk _ (D _)=>ai)&&s.ps.isEmpty&&s.pred.isNone
noncomputable def px(k:Kd):Bool:=match k with|.mk m s=>m==0&&s.isNone
noncomputable def gM(b:Nat):Nat:=b|||(if b&&&4≠0 then 3 else 0)|||(if b&&&32≠0 then 24 else 0)|||(if b&&&1024≠0 then 512 else 0)
noncomputable def j3(b:Nat)(Z:Bool):Nat:=gM b|||(if b&&&3≠0 then 4 else 0)|||(if b&&&24≠0 then 32 else 0)|||(if b&&&512≠0 then 1024 else 0)|||(if Z then 0 else 2048)
section
variable(g:Sg->Sg->Int)(V:Nat)
noncomputable def iO(a b:Option Sg):Int:=match a with|some x=>(match b with|some y=>g x y|none=>-1)|none=>-1
noncomputable def gK(a b:Kd):Int:=if b.m&&&4096≠0\/px a=Y then 0 else if a.m&&&4096≠0/\V=4 then-1 else if b.m&&&2048≠0 then 0 else if a.m&&&4096≠0 then(if px b=Y then-1 else 1)else if V=2 then(if a.m&&&j3 b.m (px b)≠0\/0<=iO g a.s b.s then 0 else-1)else if a.m&&&gM b.m≠a.m then-1 else if a.s.isNone=Y then 0 else iO g a.s b.s
noncomputable def dO(X Z:Kd)(U:Bool):Int:=if gK g V X Z<0/\U=Y/\V≠4 then(if 0<=gK g V Z X then((gK g V Z X).toNat|||2:Nat)else gK g V Z X)else gK g V X Z
noncomputable def jz(s t:Sg):Int:=if t.res.m=1024/\t.res.s.isNone=Y then 0 else match t.pred with|some (Q,Z,O)=>(match s.pred with|some (p0,X,E)=>if p0≠Q\/E≠O then-1 else(match X with|some X=>(match Z with|some Z=>gK g V (.mk X I) (.mk Z I)|none=>-1)|none=>(match Z with|some _=>-1|none=>0))|none=>-1)|none=>gK g V s.res t.res
noncomputable def dJ(l:List Kd)(r:Option Nat)(i:Nat):Option Kd:=match l[i]? with|some k=>D k|none=>r.map fun m=>.mk m I
noncomputable def eW(s t:Sg)(U:Bool)(i:Nat):Option Nat:=match dJ (bp s) s.rest i with|some Z=>(match dJ (bp t) t.rest i with|some X=>if dO g V X Z U<0 then I else if V=4/\b5 s<=i/\i<b5 t/\0<=gK g V Z X then I else D (dO g V X Z U).toNat|none=>D 0)|none=>D 0
noncomputable def iP(s t:Sg)(Z:Bool):Nat->Nat->Nat->Option Nat|0,_,c=>D c|n+1,i,c=>(eW g V s t Z i).bind fun x=>iP s t Z n (i+1) (c|||x)
noncomputable def fX(s t:Sg)(ay:Bool):Bool:=ay||s.fl&&&1≠0||t.fl&&&1≠0
noncomputable def py(s t:Sg):Option Nat:=match t.rest with|none=>if b5 s>t.ps.length then I else if s.rest.isSome=Y\/s.ps.length>t.ps.length then(if V=4 then I else D 4)else D 0|some _=>if b5 s>t.ps.length then D 4 else D 0
noncomputable def restOf(c:Nat)(s t:Sg):Int:=if jz g V s t<0 then-1 else(c|||(jz g V s t).toNat:Nat)
noncomputable def gB(s t:Sg)(ay:Bool):Int:=if da t=Y/\¬(V=4/\da s=Y)then(match t.rest with|some 0=>if b5 s>0 then 4 else 0|some _=>1|none=>0)else match(py V s t).bind fun c=>iP g V s t (fX s t ay) 6 0 c with|some c=>restOf g V c s t|none=>-1
end
noncomputable def gS(V:Nat):Nat->Sg->Sg->Bool->Int|0,_,_,_=>-1|n+1,s,t,ay=>if V=3 then(if dG s=dG t then 0 else-1)else gB (fun x y=>gS V n x y ai) V s t ay
noncomputable def vd(n:Nat)(p:Nat->Bool):Bool:=Nat.rec Y (fun i b=>p i&&b) n
theorem Fp{p:Nat->Bool}(h:vd n p=Y):∀i,i<n->p i=true:=by induction n with|zero=>exact fun i l=>ae l (xw i)|succ n X=>
have h:(p n&&vd n p)=true:=h;rw[gH]at h;intro i l;by_cases e:i=n;.rw[e];exact h.1
.exact X h.2 i ((gl e).elim (fun Z=>aC 743064653825 rfl Z) fun Z=>bZ 0xb505041a5421ad001 rfl Z l)
theorem kQ{p:Nat->Bool}(h:vd 64 (fun a=>vd 128 fun b=>p (128*a+b))=Y)(m:Nat)(l:m<8192):p m=true:=by have:=Fp (Fp h (m/128) (Nat.div_lt_of_lt_mul l)) (m%128) (BJ _ (fe _));rwa[Nat.div_add_mod]at this
theorem OS:∀m,m<8192->decide (cZ m<8192/\cZ (cZ m)=cZ m)=true:=kQ (by decide+kernel)
theorem yG(h:m<8192):Nm (cZ m):=@cJ _ (_) (OS m h)
theorem OT:∀m,m<8192->decide (m&&&6144=0->m<2048)=true:=kQ (by decide+kernel)
theorem ve(h:m<8192)(Z:b<8192):m|||b<8192:=Nat.or_lt_two_pow (n:=13) h Z
theorem Fs:∀{n:Nat}{k:Kd}{b:Nat},b<8192->aS V n k->aS V n (jn k b)|0,.mk m s,b,Z,h=>⟨yG (ve h.1.1 Z),by rw[h.2];exact ite_self _⟩|n+1,.mk m s,b,Z,h=>⟨yG (ve h.1.1 Z),fun x e=>by
by_cases q:cZ (m|||b)&&&6144≠0;.rw[af q]at e;cases e
.rw[am q]at e;exact⟨⟨cJ (OT _ (yG (ve h.1.1 Z)).1) (uv.mp q),(h.2 x e).1.2⟩,(h.2 x e).2⟩⟩
theorem OU{p:Kd×Bool}(h:aS V n p.1):aS V n (mO p):=by
 obtain⟨k,o⟩:=p;rcases o with _|_;.exact h
 exact Fs (by decide) h
noncomputable def vf(V n:Nat)(a b:Kd):Int:=if V=3 then(if cA a=cA b then 0 else-1)else gK (fun x y=>gS V n x y ai) V a b
section
theorem Ft(h:∀x y,a.s=D x->b.s=D y->g x y=Z x y):gK g V a b=gK Z V a b:=by
 have e:iO g a.s b.s=iO Z a.s b.s:=by
  rcases X:a.s with _|x;.rfl
  induction U:b.s using cM with|none=>rfl|some y=>exact h x y X U
 unfold gK;rw[e]
theorem pz(h:bn V n s)(e:dJ (bp s) s.rest i=D k):aS V n k:=by
 unfold dJ at e;rcases Z:(bp s)[i]? with _|J
 .rw[Z]at e;rcases X:s.rest with _|m;.rw[X]at e;cases e
  rw[X]at e;cases e;exact aS.aq (n:=0) ⟨h.1.rest m X,rfl⟩ (bP n)
 rw[Z]at e;cases e;obtain⟨p,U,rfl⟩:=g7.mp (jR Z);exact OU (h.2.1 p U)
theorem Fu(J:bn V n s)(H:bn V n t)(h:∀a b,aS V n a->aS V n b->gK g V a b=gK U V a b):gB g V s t ay=gB U V s t ay:=by
 have K:∀i c,eW g V s t c i=eW U V s t c i:=fun i c=>by
  unfold eW;rcases e1:dJ (bp s) s.rest i with _|Z;.rfl
  induction e2:dJ (bp t) t.rest i using cM with|none=>rfl|some X=>
  have Q:=pz J e1;have O:=pz H e2;have e3:dO g V X Z c=dO U V X Z c:=by unfold dO;rw[h _ _ Q O,h _ _ O Q]
  dsimp only;rw[e3,h _ _ Q O]
 have E:∀k i c b,iP g V s t b k i c=iP U V s t b k i c:=fun k=>by induction k with|zero=>intros;rfl|succ k A=>intro i c b;show(eW g V s t b i).bind _=(eW U V s t b i).bind _;rw[K];exact aI _ (funext fun x=>A _ _ _)
 have L:∀m,Nm m->aS V n (.mk m I):=fun m q=>aS.aq (n:=0) ⟨q,rfl⟩ (bP n);have j:jz g V s t=jz U V s t:=by
  unfold jz;rcases e1:t.pred with _|q;.show ite _ _ _=ite _ _ _;rw[h _ _ J.2.2 H.2.2]
  induction e2:s.pred using cM with|none=>rfl|some p=>
  obtain⟨d,C,r⟩:=q;obtain⟨p0,M,u⟩:=p;rcases M with _|M;.rfl
  induction C using cM with|none=>rfl|some C=>have:=h _ _ (L M ((J.1.pred _ _ _ e2).2.2.2.2 _ rfl)) (L C ((H.1.pred _ _ _ e1).2.2.2.2 _ rfl));dsimp only;rw[this]
 unfold gB restOf;rw[j,funext fun c=>E 6 0 c (fX s t ay)]
theorem Fv:∀{n:Nat}{a b:Kd},V≠3->aS V n a->aS V n b->gK (fun x y=>gS V n x y ai) V a b=gK (fun x y=>gS V (n+1) x y ai) V a b:=by intro n;induction n with|zero=>intro a b Z X U;exact Ft fun x y e _=>by obtain⟨m,s⟩:=a;rw[show s=I from X.2]at e;cases e|succ n J=>intro a b Z X U;refine Ft fun x y e1 e2=>?_;obtain⟨m,s⟩:=a;obtain⟨m',s'⟩:=b;show ite _ _ (gB _ _ _ _ _)=ite _ _ (gB _ _ _ _ _);rw[am Z,am Z];exact Fu (X.2 x e1).2 (U.2 y e2).2 fun a b=>J Z
theorem yH:∀{s t:Sg}{ay:Bool},V≠3->bn V 2 s->bn V 2 t->gS V 3 s t ay=gB (fun x y=>gS V 3 x y ai) V s t ay:=fun Z X U=>(am Z).trans (Fu X U fun a b=>Fv Z)
end
noncomputable def bm(i f:Nat):aa:=match i with|0=>.ab [.int 3,.str (S0 "a"),.int f]|1=>.ab [.int 3,.str (S0 "b"),.int f]|2=>dI "string"|3=>.ab [.int 4,.int 0,.int f]|4=>.ab [.int 4,.int 1,.int f]|5=>dI "number"|6=>oe 2 (.int 0) f|7=>oe 2 (.int 1) f|8=>dI "null"|9=>dI "undefined"|10=>dI "void"|11=>dI "unknown"|_=>dI "any"
noncomputable def eX(i:Nat):Bool:=match i with|0=>Y|1=>Y|3=>Y|4=>Y|6=>Y|7=>Y|_=>ai
theorem Fw(hi:i<13)(hj:j<13)(l:eX i=Y)(e:bm i 1=bm j 0):False:=(by decide+kernel:∀i,i<13->∀j,j<13->eX i=Y->bm i 1≠bm j 0) i hi j hj l e
def At(T:List aa)(p i:Nat):Prop:=∃f,f<2/\T[p]?=D (bm i f)
def Pa(T:List aa)(t:Nat)(l:List Nat):Prop:=(t=2/\l=[])\/(t≠2/\T[t]?=D (pu l)/\2<=l.length)\/(t≠2/\l=[t]/\∀x,T[t]?≠D (.ab [.int 6,x]))
structure PR(T:List aa)(m:Nat)(l:List Nat)(q:Option Nat):Prop where
nd:l.Nodup
lt:m<8192
dW:∀i,i<13->(m.testBit i=Y↔∃p∈l,At T p i)all:∀p∈l,(∃i,i<13/\At T p i)\/q=D p
tw:∀i,i<13->eX i=Y->∀p∈l,T[p]?=D (bm i 1)->∀p'∈l,T[p']?≠D (bm i 0)
def MR(T:List aa)(m t:Nat):Prop:=∃l,Pa T t l/\PR T m l I
noncomputable def cT(c:Bool):Str:=S0 (if c then"x"else"y")
noncomputable def iQ(c:Bool)(j:Nat)(p:Nat×Bool):aa:=.ab [.str (cT c++⟨#[48+j]⟩),.int p.1,eB p.2]
noncomputable def bg(c:Bool):Nat->List (Nat×Bool)->List aa|_,[]=>[]|j,p::r=>iQ c j p::bg c (j+1) r
noncomputable def dd(c:Bool)(Z:Nat):aa:=.ab [.str (cT c),.int Z,.int 2]
noncomputable def ba(p:Nat×Bool):aa:=.ab [.int p.1,eB p.2]
noncomputable def bu(rest:Option Nat)(e:Nat):List aa:=match rest with|none=>[]|some _=>[.ab [.int e,.int 2]]
def fD(c:Bool)(T:List aa)(l:List (Nat×Bool))(rest:Option Nat)(e:Nat)(tl:List aa):Prop:=match l with|[]=>(match rest with|none=>tl=[]|some _=>∃Z,tl=[dd c Z]/\T[Z]?=D (lO e 0))|x::r=>∃Z,tl=[dd c Z]/\T[Z]?=D (iN ((x::r).map ba++bu rest e) 0)
def mP(T:List aa)(rest:Option Nat)(e:Nat):Prop:=match rest with|none=>True|some m=>MR T m e
def hX(T:List aa)(Z:Option (Int×Option Nat×Int))(X:aa):Prop:=match Z with|none=>X=.ab []|some (a,k,b)=>(match k with|none=>X=.ab [.int a,.int (-1),.int b]|some m=>∃t:Nat,X=.ab [.int a,.int t,.int b]/\MR T m t)
mutual noncomputable def KR(c:Bool)(T:List aa):Kd->Nat->Prop|.mk m s,t=>E2 fun l q=>A3 (Pa T t l) (PR T m l q) (dB c T s l q)noncomputable def dB(c:Bool)(T:List aa):Option (jy Kd)->List Nat->Option Nat->Prop|none,l,q=>q=I|some x,l,q=>∃p,A3 (q=D p) (p∈l) (SR c T x p)noncomputable def SR(c:Bool)(T:List aa):jy Kd->Nat->Prop|⟨ps,sp,rest,X,Z,J⟩,p=>E5 fun pl e rt U tl=>A6 (T[p]?=D (eA (bg c 0 (pl.take sp)++tl) rt U J)) (dX c T ps pl) (KR c T X rt) (mP T rest e) (hX T Z U) (fD c T (pl.drop sp) rest e tl)noncomputable def dX(c:Bool)(T:List aa):List (Kd×Bool)->List (Nat×Bool)->Prop|[],pl=>pl=[]|p::r,pl=>E2 fun i Z=>A3 (pl=(i,p.2)::Z) (sG c T p i) (dX c T r Z)noncomputable def sG(c:Bool)(T:List aa):Kd×Bool->Nat->Prop|(k,_),i=>KR c T k i end
section
theorem bV{i:Nat}(h:T<+:T')(e:T[i]?=D d):T'[i]?=D d:=by obtain⟨g,rfl⟩:=h;rw[ic (bo.mp e).1];exact e
theorem fL{i:Nat}(h:T<+:T')(e:T'[i]?=D d)(Z:T[i]?=D d'):d=d':=by have:=bV h Z;rw[e]at this;exact b8 this
theorem At.aq{p i:Nat}(h:T<+:T'):At T p i->At T' p i:=(by rintro⟨f,a,b⟩;exact⟨f,a,bV h b⟩)
theorem Fx(hi:i<13)(hj:j<13)(hf:f<2)(hg:g<2)(e:bm i f=bm j g):i=j:=(by decide+kernel:∀i,i<13->∀j,j<13->∀f,f<2->∀g,g<2->bm i f=bm j g->i=j) i hi j hj f hf g hg e
theorem At.cU{p i j:Nat}(hi:i<13)(Z:j<13)(h:At T p i)(h':At T p j):i=j:=by obtain⟨f,a,b⟩:=h;obtain⟨g,c,d⟩:=h';rw[b]at d;exact Fx hi Z a c (b8 d)
noncomputable def jc(d:aa):Int:=match d with|.ab (.int g::_)=>g|_=>0
theorem td(h:aa.ab l=aa.ab l')(i:Nat)(e:l[i]?=D a)(Z:l'[i]?=D b):a=b:=by cases h;exact b8 (e.symm.trans Z)
theorem tn{a b:Nat}(h:aa.ab l=aa.ab l')(i:Nat)(e:l[i]?=D (.int a))(Z:l'[i]?=D (.int b)):a=b:=dq (aa.int.inj (td h i e Z))
theorem gQ{P:Prop}(h:a=b)(e:(jc a==jc b)=ai):P:=by rw[h,beq_self_eq_true]at e;cases e
theorem pA:jc (bm i f)<6:=by rcases i with _|_|_|_|_|_|_|_|_|_|_|_|i<;>exact cJ rfl
theorem mQ(hi:i<13):bm i f≠eA ps rt Z fl:=fun e=>by have:=pA (i:=i) (f:=f);rw[e]at this;exact ae (show(13:Int)<6 from this) (by decide)
theorem vg(hi:i<13):bm i f≠.ab [.int 6,x]:=fun e=>by have:=pA (i:=i) (f:=f);rw[e]at this;exact ae (show(6:Int)<6 from this) (by decide)
theorem Fy:∀{l l':List Nat},aY l=aY l'->l=l'|[],[],_=>rfl|[],_::_,h=>nomatch h|_::_,[],h=>nomatch h|a::r,b::Z,h=>by have h:=gY h;rw[Fy h.2,dq (aa.int.inj h.1)]
theorem Pa.cU(h:Pa T t l)(h':Pa T t l'):l=l':=by
 rcases h with⟨a,b⟩|⟨a,b,d⟩|⟨a,b,d⟩<;>rcases h' with⟨Z,b'⟩|⟨Z,b',X⟩|⟨Z,b',X⟩;.rw[b,b']
 .exact ae a Z
 .exact ae a Z
 .exact ae Z a
 .rw[b]at b';have:=b8 b';injection this with this;injection this with _ this;injection this with this _;injection this with this;exact Fy this
 .exact ae b (X _)
 .exact ae Z a
 .exact ae b' (d _)
 .rw[b,b']
theorem Pa.aq{t:Nat}(h:T<+:T')(v:l=[t]->∃d,T[t]?=D d):Pa T t l->Pa T' t l|.inl a=>.inl a|.inr (.inl ⟨a,b,d⟩)=>.inr (.inl ⟨a,bV h b,d⟩)|.inr (.inr ⟨a,b,d⟩)=>.inr (.inr ⟨a,b,fun x e=>by obtain⟨y,Z⟩:=v b;rw[bV h Z]at e;exact d x (Z.trans e)⟩)
theorem PR.gR(Z:∀p,q=D p->E4 fun ps rt X U=>T[p]?=D (eA ps rt X U))(a:PR T m l q):∀p∈l,∃d,T[p]?=D d:=fun p J=>(a.all p J).elim ((by rintro⟨i,x,f,y,z⟩;exact⟨_,z⟩)) fun e=>(by obtain⟨_,_,_,_,h⟩:=Z p e;exact⟨_,h⟩)
theorem PR.aq{m:Nat}(h:T<+:T')(hq:∀p,q=D p->E4 fun ps rt pd fl=>T[p]?=D (eA ps rt pd fl))(a:PR T m l q):PR T' m l q where
nd:=a.nd;lt:=a.lt;dW i hi:=(a.dW i hi).trans ⟨(by rintro⟨p,x,y⟩;exact⟨p,x,y.aq h⟩),(by rintro⟨p,x,f,y,z⟩;exact⟨p,x,by
rcases a.all p x with⟨j,hj,w⟩|w;.have:=At.cU hi hj ⟨f,y,z⟩ (w.aq h);rw[this];exact w
.obtain⟨ps,rt,pd,fl,e⟩:=hq p w;rw[bV h e]at z;exact ae (b8 z).symm (mQ hi)⟩)⟩;all p hp:=(a.all p hp).imp_left (by rintro⟨i,x,y⟩;exact⟨i,x,y.aq h⟩);tw i hi hl p hp e p' jA e':=by obtain⟨d,h1⟩:=a.gR hq p hp;obtain⟨d',h2⟩:=a.gR hq p' jA;exact a.tw i hi hl p hp (h1.trans (aI D (fL h e h1).symm)) p' jA (h2.trans (aI D (fL h e' h2).symm))
theorem MR.aq(h:T<+:T'):MR T m t->MR T' m t:=fun⟨l,a,b⟩=>⟨l,a.aq h fun e=>b.gR (fun p(q:I=D p)=>nomatch q) t (by rw[e];exact Zl t),b.aq h fun p(q:I=D p)=>nomatch q⟩
theorem fD.aq{l:List (Nat×Bool)}(h:T<+:T'):fD c T l rest e tl->fD c T' l rest e tl:=by
 rcases l with _|⟨x,r⟩;.induction rest using cM with|none=>exact id|some _=>exact(by rintro⟨Z,a,b⟩;exact⟨Z,a,bV h b⟩)
 exact(by rintro⟨Z,a,b⟩;exact⟨Z,a,bV h b⟩)
theorem mP.aq(h:T<+:T'):mP T rest e->mP T' rest e:=by
 rcases rest with _|_;.exact id
 exact MR.aq h
theorem hX.aq(h:T<+:T'):hX T Z pd->hX T' Z pd:=by
 rcases Z with _|⟨a,_|m,b⟩;.exact id
 .exact id
 .exact(by rintro⟨t,x,y⟩;exact⟨t,x,y.aq h⟩)
mutual theorem KR.aq(h:T<+:T'):∀{k:Kd}{t:Nat},KR c T k t->KR c T' k t|.mk m s,t=>fun⟨l,q,a,b,d⟩=>have v:=dB.dY d;⟨l,q,a.aq h fun e=>b.gR v t (by rw[e];exact Zl t),b.aq h v,dB.aq h d⟩theorem dB.dY:∀{s:Option (jy Kd)}{l:List Nat}{q:Option Nat},dB c T s l q->∀p,q=D p->E4 fun ps rt X U=>T[p]?=D (eA ps rt X U)|none,l,q=>fun e p Z=>by rw[show q=I from e]at Z;cases Z|some ⟨ps,sp,rest,H,J,U⟩,l,q=>fun⟨p,e,_,pl,Z,rt,X,tl,h,_,_,_,_,_⟩Q e2=>by rw[e]at e2;clear e;cases e2;exact⟨_,_,_,_,h⟩theorem dB.aq(h:T<+:T'):∀{s:Option (jy Kd)}{l:List Nat}{q:Option Nat},dB c T s l q->dB c T' s l q|none,l,q=>id|some x,l,q=>fun⟨p,a,b,d⟩=>⟨p,a,b,SR.aq h d⟩theorem SR.aq(h:T<+:T'):∀{x:jy Kd}{p:Nat},SR c T x p->SR c T' x p|⟨ps,sp,rest,X,Z,C⟩,p=>fun⟨pl,e,rt,U,tl,a1,J,H,Q,O,E⟩=>⟨pl,e,rt,U,tl,bV h a1,dX.aq h J,KR.aq h H,Q.aq h,O.aq h,E.aq h⟩theorem dX.aq(h:T<+:T'):∀{ps:List (Kd×Bool)}{pl:List (Nat×Bool)},dX c T ps pl->dX c T' ps pl|[],pl=>id|p::r,pl=>fun⟨i,Z,a,b,d⟩=>⟨i,Z,a,sG.aq h b,dX.aq h d⟩theorem sG.aq(h:T<+:T'):∀{p:Kd×Bool}{i:Nat},sG c T p i->sG c T' p i|(k,_),i=>fun x=>KR.aq (k:=k) h x end
end
section
theorem Fz(h:eA ps rt J H=eA Z X U yI):ps=Z/\rt=X/\J=U/\H=yI:=⟨aa.ab.inj (td h 2 rfl rfl),tn h 3 rfl rfl,td h 4 rfl rfl,tn h 5 rfl rfl⟩
theorem OV(h:cT c++⟨#[48+j]⟩=cT c'++⟨#[48+Z]⟩):c=c':=by
 have h:(cT c).cps++#[48+j]=(cT c').cps++#[48+Z]:=aI Str.cps h;have h:=aI (fun a=>a[0]?) h;cases c<;>cases c';.rfl
 .exact ae h (by show¬(D 121=D 120);decide)
 .exact ae h (by show¬(D 120=D 121);decide)
 .rfl
theorem yJ(h:eB a=eB b):a=b:=by cases a<;>cases b<;>first|rfl|exact nomatch h
theorem OW{p q:Nat×Bool}(h:iQ c j p=iQ c' j q):p=q/\c=c':=⟨BK (tn h 1 rfl rfl) (yJ (td h 2 rfl rfl)),OV (aa.str.inj (td h 0 rfl rfl))⟩
theorem FA{p:Nat×Bool}(h:iQ c j p=dd Z X):False:=by obtain⟨i,o⟩:=p;cases o<;>exact ae (tn h 2 rfl rfl) (by decide)
theorem sH(h:dd c t=dd c' t'):t=t'/\c=c':=by refine⟨tn h 1 rfl rfl,?_⟩;cases c<;>cases c'<;>first|rfl|exact ae (td h 0 rfl rfl) (by decide)
theorem fD.cases(h:fD c T l rest e tl):(l=[]/\rest=I/\tl=[])\/∃Z,tl=[dd c Z]:=by
 rcases l with _|⟨x,r⟩;.induction rest using cM with|none=>exact .inl ⟨rfl,rfl,h⟩|some _=>exact .inr ((by obtain⟨Z,a,_⟩:=h;exact⟨Z,a⟩))
 exact .inr ((by obtain⟨Z,a,_⟩:=h;exact⟨Z,a⟩))
theorem FB:∀{a Z:List (Nat×Bool)}{j:Nat}{l l':List (Nat×Bool)}{r U:Option Nat}{e J:Nat}{tl iR:List aa},fD c T l r e tl->fD H T l' U J iR->bg c j a++tl=bg H j Z++iR->a=Z/\tl=iR/\(c≠H->a=[]/\tl=[]):=by
 intro a;induction a with|nil=>
  intro Z j l l' r U e J tl iR h h' q;rcases Z with _|⟨p,a⟩
  .have q:tl=iR:=q;refine⟨rfl,q,fun Q=>⟨rfl,?_⟩⟩;rcases h.cases with⟨_,_,x⟩|⟨t,x⟩;.exact x
   .rcases h'.cases with⟨_,_,y⟩|⟨t',y⟩;.rw[q,y]
    .rw[x,y]at q;exact ae (sH (gY q).1).2 Q
  .have q:tl=iQ H j p::_:=q;rcases h.cases with⟨_,_,y⟩|⟨t',y⟩;.rw[y]at q;cases q
   .rw[y]at q;exact(FA (gY q).1.symm).elim|cons p a X=>
  intro Z j l l' r U e J tl iR h h' q;rcases Z with _|⟨O,Z⟩
  .have q:iQ c j p::_=iR:=q;rcases h'.cases with⟨_,_,y⟩|⟨t',y⟩;.rw[y]at q;cases q
   .rw[y]at q;exact(FA (gY q).1).elim
  .have q:=gY q;have x:=OW q.1;have X:=X h h' q.2;exact⟨by rw[x.1,X.1],X.2.1,fun Q=>ae x.2 Q⟩
theorem OX{p q:Nat×Bool}(h:ba p=ba q):p=q:=BK (tn h 0 rfl rfl) (yJ (td h 1 rfl rfl))
theorem FC{p:Nat×Bool}{vf:Prop}(h:ba p=.ab [.int e,.int 2]):vf:=by obtain⟨i,o⟩:=p;cases o<;>exact ae (tn h 1 rfl rfl) (by decide)
theorem OY:∀{l l':List (Nat×Bool)}{r Z:Option Nat}{e X:Nat},l.map ba++bu r e=l'.map ba++bu Z X->l=l'/\r.isSome=Z.isSome/\(r.isSome=Y->e=X):=by
 intro l;induction l with|nil=>
  intro l' r Z e X h;rcases l' with _|⟨p,l'⟩
  .rcases r with _|m<;>rcases Z with _|m';.exact⟨rfl,rfl,nofun⟩
   .cases h
   .cases h
   .exact⟨rfl,rfl,fun _=>tn (gY h).1 0 rfl rfl⟩
  .rcases r with _|m;.cases h
   .exact FC (gY h).1.symm|cons p l U=>
  intro l' r Z e X h;rcases l' with _|⟨C,l'⟩
  .rcases Z with _|m;.cases h
   .exact FC (gY h).1
  .have h:=gY h;have U:=U h.2;exact⟨by rw[OX h.1,U.1],U.2⟩
theorem fD.cU(h:fD c T l r e tl)(h':fD H T l' J Q tl):l=l'/\r.isSome=J.isSome/\(r.isSome=Y->e=Q):=by
 have key:∀{U Z:Nat}{a b:aa},tl=[dd c U]->tl=[dd H Z]->T[U]?=D a->T[Z]?=D b->a=b:=fun x y z w=>by rw[x]at y;rw[(sH (gY y).1).1,w]at z;exact(b8 z).symm
 rcases l with _|⟨x,M⟩;.induction r using cM with
|none=>
  rw[show tl=[]from h]at h';rcases h'.cases with⟨a,b,_⟩|⟨_,a⟩;.rw[a,b];exact⟨rfl,rfl,nofun⟩
  .cases a|some m=>
  obtain⟨U,a,b⟩:=h;rcases l' with _|⟨O,E⟩;.induction J using cM with|none=>rw[show tl=[]from h']at a;cases a|some m'=>obtain⟨Z,X,b'⟩:=h';refine⟨rfl,rfl,fun _=>?_⟩;exact tn (key a X b b') 1 rfl rfl
  obtain⟨Z,X,b'⟩:=h';exact gQ (key a X b b') rfl
 obtain⟨U,a,b⟩:=h;rcases l' with _|⟨O,C⟩;.induction J using cM with|none=>rw[show tl=[]from h']at a;cases a|some m'=>obtain⟨Z,X,b'⟩:=h';exact gQ (key a X b b') rfl
 obtain⟨Z,X,b'⟩:=h';exact OY (aa.ab.inj (td (key a X b b') 1 rfl rfl))
theorem pB(h:m<8192)(h':m'<8192)(e:∀i,i<13->(m.testBit i=Y↔m'.testBit i=Y)):m=m':=Nat.eq_of_testBit_eq fun i=>by
 by_cases l:i<13;.exact uw.mpr (e i l)
 .have:∀{m:Nat},m<8192->m.testBit i=false:=fun h=>Nat.testBit_lt_two_pow (iX h (Nat.pow_le_pow_right (n:=2) (by decide) (ku l)));rw[this h,this h']
theorem PR.cU(h:PR T m l q)(h':PR T m' l Z):m=m':=pB h.lt h'.lt fun i l=>(h.dW i l).trans (h'.dW i l).symm
theorem MR.cU(h:MR T m t)(h':MR T m' t):m=m':=by obtain⟨l,a,b⟩:=h;obtain⟨l',Z,b'⟩:=h';have:=a.cU Z;clear Z;subst this;exact b.cU b'
theorem hX.cU{p p':Option (Int×Option Nat×Int)}(h:hX T p Z)(h':hX T p' Z):p=p':=by
 rcases p with _|⟨a,_|m,b⟩<;>rcases p' with _|⟨X,_|m',b'⟩;.rfl
 .rw[show Z=_ from h]at h';exact nomatch(show _=_ from h')
 .rw[show Z=_ from h]at h';obtain⟨t,h',_⟩:=h';exact nomatch h'
 .rw[show Z=_ from h']at h;exact nomatch(show _=_ from h)
 .rw[show Z=_ from h]at h';have h':aa.ab [.int a,.int (-1),.int b]=aa.ab [.int X,.int (-1),.int b']:=h';rw[aa.int.inj (td h' 0 rfl rfl),aa.int.inj (td h' 2 rfl rfl)]
 .rw[show Z=_ from h]at h';obtain⟨t,h',_⟩:=h';exact u9 (aa.int.inj (td h' 1 rfl rfl))
 .rw[show Z=_ from h']at h;obtain⟨t,h,_⟩:=h;exact nomatch h
 .rw[show Z=_ from h']at h;obtain⟨t,h,_⟩:=h;exact u9 (aa.int.inj (td h 1 rfl rfl))
 .obtain⟨t,h,x⟩:=h;obtain⟨t',h',y⟩:=h';rw[h]at h';rw[tn h' 1 rfl rfl]at x;rw[aa.int.inj (td h' 0 rfl rfl),aa.int.inj (td h' 2 rfl rfl),x.cU y]
theorem take_drop{l l':List O}(a:l.take n=l'.take Q)(b:l.drop n=l'.drop Q):l=l':=by rw[<-kw n l,a,b,kw]
theorem OZ:∀m,m<8192->decide (m&&&gM m=m/\(m≠0->m&&&j3 m ai≠0))=true:=kQ (by decide+kernel)
theorem sJ(h:m<8192)(Q:∀x,s=D x->g x x=0):gK g V (.mk m s) (.mk m s)=0:=by
 have J:=cJ (OZ m h);show(if m&&&4096≠0\/px (.mk m s)=Y then(0:Int)else if m&&&4096≠0/\V=4 then-1 else if m&&&2048≠0 then 0 else if m&&&4096≠0 then _ else if V=2 then(if m&&&j3 m (px (.mk m s))≠0\/0<=iO g s s then 0 else-1)else if m&&&gM m≠m then-1 else if s.isNone=Y then 0 else iO g s s)=0;by_cases Z:m&&&4096≠0\/px (.mk m s)=Y;.exact af Z
 rw[am Z,am fun q=>Z (.inl q.1)];by_cases H:m&&&2048≠0;.exact af H
 have U:px (.mk m s)=false:=jK.mpr fun q=>Z (.inr q);rw[am H,am fun q=>Z (.inl q),am (fun q=>q J.1:¬(m&&&gM m≠m)),U];rcases s with _|x
 .have:m≠0:=fun e=>by rw[e]at U;cases U
  by_cases X:V=2;.rw[af X,af (.inl (J.2 this))]
  .rw[am X];exact af (rfl:(I:Option Sg).isNone=Y)
 have e:iO g (D x) (D x)=0:=Q x rfl;rw[e];by_cases X:V=2;.rw[af X,af (.inr (fR 0))]
 .rw[am X,am (fun q=>nomatch q:¬(D x).isNone=Y)]
theorem FD(J:x.ps=[])(H:x.rest=I)(A:gK g V x.res x.res=0)(j:∀m,Nm m->gK g V (.mk m I) (.mk m I)=0)(d:kN md x):gB g V x x ay=0:=by
 obtain⟨ps,sp,rest,X,Z,C⟩:=x;have J:ps=[]:=J;have H:rest=none:=H;clear H;subst J H;have:jz g V ⟨[],sp,I,X,Z,C⟩ ⟨[],sp,I,X,Z,C⟩=0:=by
  show ite _ 0 _=0;clear J;rcases Z with _|⟨a,k,b⟩;.rw[show gK g V _ _=0 from A];exact ite_self 0
  .dsimp only;rw[am (fun q:a≠a\/b≠b=>q.elim (fun q=>q rfl) fun q=>q rfl)];rcases k with _|m;.exact ite_self 0
   dsimp only;rw[j m ((d.pred a _ b rfl).2.2.2.2 m rfl)];exact ite_self 0
 show restOf g V 0 _ _=0;unfold restOf;rw[this];rfl
theorem KR.cU:∀{n:Nat}{k O:Kd}{t:Nat},aS V n k->aS V n O->KR c T k t->KR c' T O t->k=O/\(c≠c'->∀V,V≠3->gK (fun x y=>gS V n x y ai) V k k=0):=fun{n}=>by induction n with|zero=>intro k O t w K h h';obtain⟨m,s⟩:=k;obtain⟨m',s'⟩:=O;obtain⟨w,rfl⟩:=w;obtain⟨_,rfl⟩:=K;refine cps fun P hP=>?_;obtain⟨l,q,a,b,d⟩:=h;obtain⟨l',q',A,b',g⟩:=h';refine hP ?_;have:=a.cU A;clear A g;subst this;rw[b.cU b'];exact⟨rfl,fun _ V _=>sJ b'.lt fun x e=>nomatch e⟩|succ n ih=>
  intro k O t w K h h';obtain⟨m,s⟩:=k;obtain⟨m',s'⟩:=O;obtain⟨l,q,a,b,d⟩:=h;obtain⟨l',q',A,b',g⟩:=h';have:=a.cU A;clear A;subst this;have hm:=b.cU b';subst hm;rcases s with _|x;.induction s' using cM with|none=>exact⟨rfl,fun _ V _=>sJ b.lt fun x e=>nomatch e⟩|some x'=>
   clear b';obtain⟨p,rfl,j,u⟩:=g;clear K;obtain⟨ps,sp,rest,J,X,fl⟩:=x';obtain⟨pl,e,rt,pd,tl,Z,_⟩:=u;rcases b.all p j with⟨i,hi,f,_,e⟩|e;.rw[e]at Z;exact ae (b8 Z) (mQ hi)
   .rw[show q=I from d]at e;cases e
  obtain⟨p,rfl,j,u⟩:=d;rcases s' with _|x'
  .clear w;obtain⟨ps,sp,rest,J,X,fl⟩:=x;refine cps fun P hP=>?_;obtain⟨pl,e,rt,pd,tl,Z,_⟩:=u;refine hP ?_;rcases b'.all p j with⟨i,hi,f,_,e⟩|e;.rw[e]at Z;exact ae (b8 Z) (mQ hi)
   .rw[show q'=I from g]at e;cases e
  obtain⟨p',rfl,jA,O0⟩:=g;have e:p=p':=by
   rcases b'.all p j with⟨i,hi,f,_,e⟩|e;.clear w;obtain⟨ps,sp,rest,J,X,fl⟩:=x;obtain⟨pl,_,rt,pd,tl,Z,_⟩:=u;rw[e]at Z;exact ae (b8 Z) (mQ hi)
   .exact(b8 e).symm
  subst e;have v:=w.2 x rfl;have H:=K.2 x' rfl;obtain⟨ps,sp,rest,J,X,fl⟩:=x;obtain⟨yK,gE,yL,O1,X',yI⟩:=x';obtain⟨pl,e,rt,pd,tl,h1,z,h3,h4,h5,h6⟩:=u;obtain⟨vh,e',oh,oi,iR,E,Q,O2,yM,O3,U⟩:=O0;rw[h1]at E;obtain⟨ep,er,ed,ef⟩:=Fz (b8 E);subst er ed ef;obtain⟨ea,et,en⟩:=FB h6 U ep;subst et;obtain⟨el,ei,ee⟩:=h6.cU U;have O4:=take_drop ea el;subst O4;have C:∀{c:Bool}{ps:List (Kd×Bool)}{pl:List (Nat×Bool)},dX c T ps pl->ps.length=pl.length:=fun{c ps}=>by induction ps with|nil=>intro pl h;rw[show pl=[]from h];rfl|cons p r ih=>intro pl h;obtain⟨i,is,rfl,_,h⟩:=h;exact aI (·+1) (ih h)
  have O5:ps=yK:=by have h7:=v.2.2.1;have M:=H.2.2.1;dsimp only at h7 M;clear h1 h6 U ea el en ep E v H w K j jA b b';induction ps generalizing yK pl with|nil=>rw[show pl=[]from z]at Q;exact(nH (C Q)).symm|cons p r O6=>
   obtain⟨i,is,rfl,hk,Z⟩:=z;rcases yK with _|⟨p',r'⟩;. (have h:=(show _::_=[]from Q);contradiction)
   obtain⟨i',X?,e',oj,vi⟩:=Q;injection e' with e1 e2;injection e1 with e3 e4;subst e2 e3;obtain⟨pk,po⟩:=p;obtain⟨O7,O8⟩:=p';have:=(ih (h7 (pk,po) aV) (M (O7,O8) aV) hk oj).1;rw[O6 r' is Z vi (fun q hq=>h7 q (cH _ hq)) fun q hq=>M q (cH _ hq),BK this e4]
  subst O5;have O9:sp=gE:=by have l1:=aI r6 ea;rw[ig,ig,<-C z,mq v.2.1.sp,mq H.2.1.sp]at l1;exact l1
  subst O9;have Pb:rest=yL:=by
   rcases rest with _|r;.induction yL using cM with|none=>rfl|some _=>cases ei
   induction yL using cM with|none=>cases ei|some r'=>have:=ee rfl;clear ee U;subst this;rw[MR.cU h4 yM]
  clear yM ei U K;subst Pb;have Pc:=h5.cU O3;subst Pc;obtain⟨L,eg⟩:=ih v.2.2.2 H.2.2.2 h3 O2;have L:J=O1:=L;subst L;refine⟨rfl,fun ne V hm=>sJ b.lt fun x e=>?_⟩;cases e;obtain⟨ea,Pd⟩:=en ne;rw[Pd]at h6;obtain⟨hd,Z,_⟩:pl.drop sp=[]/\rest=I/\_:=by
   rcases h6.cases with x|⟨_,x⟩;.exact x
   .cases x
  have sL:pl=[]:=by rw[<-kw sp pl,ea,hd];rfl
  rw[sL]at z;exact(am hm).trans (FD (nH (C z)) Z (eg ne V hm) (fun m q=>sJ q.1 fun x e=>nomatch e) v.2.1)
end
noncomputable def gA(i:Nat):Nat:=match i with|0=>3|1=>3|3=>4|4=>4|6=>2|7=>2|_=>1
theorem fB{p:Nat->Prop}(Z:p 0)(h:∀i,i<n->p (i+1))(i:Nat)(q:i<n+1):p i:=by
 rcases i with _|i;.exact Z
 exact h i (Nat.lt_of_succ_lt_succ q)
theorem vj{p:Nat->Prop}(J:p 0)(H:p 1)(Q:p 2)(O:p 3)(E:p 4)(C:p 5)(M:p 6)(L:p 7)(K:p 8)(A:p 9)(Z:p 10)(X:p 11)(U:p 12):∀i,i<13->p i:=fB J (fB H (fB Q (fB O (fB E (fB C (fB M (fB L (fB K (fB A (fB Z (fB X (fB U nofun))))))))))))
theorem pC{motive:(i:Nat)->i<13->Prop}(h0:motive 0 (ck rfl))(h1:motive 1 (ck rfl))(h2:motive 2 (ck rfl))(h3:motive 3 (ck rfl))(h4:motive 4 (ck rfl))(h5:motive 5 (ck rfl))(h6:motive 6 (ck rfl))(h7:motive 7 (ck rfl))(h8:motive 8 (ck rfl))(h9:motive 9 (ck rfl))(vb:motive 10 (ck rfl))(Pe:motive 11 (ck rfl))(Pf:motive 12 (ck rfl))(i:Nat)(h:i<13):motive i h:=vj (p:=fun i=>∀h,motive i h) (fun _=>h0) (fun _=>h1) (fun _=>h2) (fun _=>h3) (fun _=>h4) (fun _=>h5) (fun _=>h6) (fun _=>h7) (fun _=>h8) (fun _=>h9) (fun _=>vb) (fun _=>Pe) (fun _=>Pf) i h h
theorem qP{i f:Nat}(hi:i<13):∃r,bm i f=.ab (.int (gA i)::r)/\r.length<=2:=by refine vj (p:=fun i=>∃r,bm i f=.ab (.int (gA i)::r)/\r.length<=2) ?_ ?_ ?_ ?_ ?_ ?_ ?_ ?_ ?_ ?_ ?_ ?_ ?_ i hi;all_goals exact⟨_,rfl,ck rfl⟩
section
variable{T:List aa}
theorem dh(e:d=.ab (.int g::r))(J:r.length<=7):cY σ d (.int 0)=D (.int g):=by subst e;show lF _ _=_;exact gJ (i:=0) rfl (by rw[iF];exact ax 409052758278145 rfl J)
inductive TV(c:Bool)(T:List aa)(t:Nat):Kd->Prop|jB:t=2->TV c T t (.mk 0 I)|lQ(i f:Nat):i<13->f<2->t≠2->T[t]?=D (bm i f)->TV c T t (.mk (2^i) I)|dY(x:Sg):t≠2->SR c T x t->TV c T t (.mk 0 (D x))|sN(l:List Nat)(q:Option Nat)(m:Nat)(s:Option Sg):t≠2->T[t]?=D (pu l)->2<=l.length->PR T m l q->dB c T s l q->TV c T t (.mk m s)
theorem SR.row{p:Nat}(h:SR c T x p):E4 fun ps rt Z X=>T[p]?=D (eA ps rt Z X):=by refine cps fun P J=>?_;obtain⟨ps,sp,rest,H,U,X⟩:=x;obtain⟨pl,e,rt,Z,tl,h,_⟩:=h;refine J ?_;exact⟨_,_,_,_,h⟩
theorem KR.vk{t:Nat}(h:KR c T K t):TV c T t K:=by
 obtain⟨m,s⟩:=K;obtain⟨l,q,a,b,d⟩:=h;rcases a with⟨a,Z⟩|⟨a,Z,X⟩|⟨a,Z,X⟩
 .subst Z;have U:m=0:=pB b.lt (by decide) fun i hi=>⟨fun q=>(by obtain⟨_,x,_⟩:=(b.dW i hi).mp q;exact(nomatch x)),fun q=>by rw[nI]at q;cases q⟩;clear b;subst U;rcases s with _|x;.exact .jB a
  obtain⟨p,_,x,_⟩:=d;cases x
 .exact .sN l q m s a Z X b d
 .subst Z;rcases s with _|x
  .cases show q=I from d;rcases b.all t aV with⟨i,hi,f,J,e⟩|e
   .have U:m=2^i:=pB b.lt (xx (by decide) hi) fun j H=>by rw[b.dW j H,jo];exact⟨(by rintro⟨p,x,y⟩;exact aN (by rw[aZ.mp x]at y;exact At.cU hi H ⟨f,J,e⟩ y)),fun x=>⟨t,aV,cJ x▸⟨f,J,e⟩⟩⟩
    rw[U];exact .lQ i f hi J a e
   .cases e
  obtain⟨p,rfl,O,Q⟩:=d;cases aZ.mp O;have U:m=0:=pB b.lt (by decide) fun i hi=>⟨fun q=>(by obtain⟨p,x,f,_,y⟩:=(b.dW i hi).mp q;obtain⟨_,_,_,_,e⟩:=Q.row;rw[aZ.mp x,e]at y;exact ae (b8 y).symm (mQ hi)),fun q=>by rw[nI]at q;cases q⟩;rw[U];exact .dY x a Q
theorem FE{p:Nat}:∀i,i<13->eX i=Y->∀x∈[p],T[x]?=D (bm i 1)->∀X∈[p],T[X]?≠D (bm i 0):=fun i hi O x E e X Z U=>by rw[aZ.mp E]at e;rw[aZ.mp Z,e]at U;exact Fw hi hi O (b8 U)
theorem qQ{p i:Nat}(hi:i<13)(hT:cG<+:T)(h:At T p i):KR c T (.mk (2^i) I) p:=by
 obtain⟨f,hf,e⟩:=h;refine⟨[p],I,.inr (.inr ⟨fun q=>?_,rfl,fun x y=>?_⟩),⟨fg.mpr ⟨bJ,jQ⟩,xx (by decide) hi,fun j hj=>?_,fun q hq=>.inl ⟨i,hi,f,hf,aZ.mp hq▸e⟩,FE⟩,rfl⟩;.subst q;have:=fL hT e rfl;exact(by decide+kernel:∀i,i<13->∀f,f<2->bm i f≠dI "never") i hi f hf this
 .rw[e]at y;exact vg hi (b8 y)
 .rw[jo];exact⟨fun x=>⟨p,aV,cJ x▸⟨f,hf,e⟩⟩,fun⟨q,x,y⟩=>aN (by rw[aZ.mp x]at y;exact At.cU hi hj ⟨f,hf,e⟩ y)⟩
theorem vm{p:Nat}{x:Sg}(Z:cG<+:T)(h:SR c T x p):KR c T (.mk 0 (D x)) p:=by
 obtain⟨_,_,_,_,e⟩:=h.row;refine⟨[p],D p,.inr (.inr ⟨fun q=>?_,rfl,fun x y=>?_⟩),⟨fg.mpr ⟨bJ,jQ⟩,by decide,fun j X=>?_,fun q U=>.inr (by rw[aZ.mp U]),FE⟩,⟨p,rfl,aV,h⟩⟩;.clear h;subst q;exact gQ (fL Z e rfl) rfl
 .rw[e]at y;exact gQ (b8 y) rfl
 .rw[nI];refine⟨nofun,fun⟨q,x,f,_,y⟩=>?_⟩;rw[aZ.mp x,e]at y;exact ae (b8 y).symm (mQ X)
theorem qR:MR T m t↔KR c T (.mk m I) t:=⟨(by rintro⟨l,a,b⟩;exact⟨l,I,a,b,rfl⟩),fun⟨l,q,a,b,d⟩=>by cases show q=I from d;exact⟨l,a,b⟩⟩
theorem KR.pa(h:KR c T K t):E2 fun l q=>A3 (Pa T t l) (PR T K.m l q) (dB c T K.s l q):=by obtain⟨m,s⟩:=K;obtain⟨l,q,a⟩:=h;exact⟨l,q,a⟩
theorem KR.gR{t:Nat}(U:cG<+:T)(h:KR c T K t):t<T.length:=by have:∀{d},T[t]?=D d->t<T.length:=fun e=>(bo.mp e).1;induction h.vk using TV.casesOn with|jB e=>exact this (d:=dI "never") (by rw[e];exact bV U rfl)|lQ i f _ _ _ e=>exact this e|dY x _ J=>obtain⟨_,_,_,_,e⟩:=J.row;exact this e|sN l q m s _ e=>exact this e
theorem yN(h:Tb A b T σ)(H:Pa T t l)(v:∀d,l=[t]->T[t]?=D d->E2 fun(g:Nat)(r:List aa)=>A3 (d=.ab (.int g::r)) (r.length<=7) (g≠6))(U:t<T.length)(X:k (.ab (aY l)) σ):CW (n+1) 20 [.ref A.az,.int t] σ k:=by
 refine Ep ?_;rcases H with⟨e,Z⟩|⟨e,Z,_⟩|⟨e,Z,Q⟩;.clear v U;subst e Z;exact X
 .refine bD (fun q=>ae (dq q) e) fun _=>?_;refine h.eC Z ?_;exact X
 .subst Z;refine bD (fun q=>ae (dq q) e) fun _=>?_;obtain⟨d,J⟩:∃d,T[t]?=D d:=⟨_,dK U⟩;refine cps fun P O=>?_;obtain⟨g,r,rfl,E,C⟩:=v d rfl J;refine O ?_;refine h.eC J ?_;apply o (dh rfl E);exact bD (fun q=>ae (dq q) C) fun _=>X
theorem KR.head{K:Kd}(X:PR T K.m l q)(U:dB c T K.s l q):∀d,l=[t]->T[t]?=D d->E2 fun(g:Nat)(r:List aa)=>A3 (d=.ab (.int g::r)) (r.length<=7) (g≠6):=fun d e Z=>by
 rcases X.all t (by rw[e];exact aV)with⟨i,hi,f,_,y⟩|y;.rw[Z]at y;clear Z;cases y;obtain⟨r,e,J⟩:=qP (f:=f) hi;refine⟨gA i,r,e,ax 227667202048 rfl J,?_⟩;intro q;have:=pA (i:=i) (f:=f);rw[e,q]at this;exact ae (show(6:Int)<6 from this) (by decide)
 .obtain⟨ps,rt,H,Q,y⟩:=dB.dY (T:=T) U t y;rw[Z]at y;clear Z;cases y;exact⟨13,_,rfl,ck rfl,by decide⟩
theorem pD(h:Tb A b T σ)(Z:KR c T K t)(X:∀l q,Pa T t l->PR T K.m l q->dB c T K.s l q->k (.ab (aY l)) σ):CW (n+1) 20 [.ref A.az,.int t] σ k:=by obtain⟨l,q,a,b,d⟩:=Z.pa;exact yN h a (KR.head b d) (Z.gR h.base) (X l q a b d)
theorem Pg{t i f:Nat}(h:Tb A b T σ)(e:T[t]?=D (bm i f))(hi:i<13)(X:k (.bool (eX i)) σ):CW (n+1) 28 [.ref A.az,.int t] σ k:=by refine qK ?_;refine h.eC e ?_;clear h e;obtain⟨r,e,Z⟩:=qP (f:=f) hi;apply o (dh e (ax 227667202048 rfl Z));clear e Z;induction i,hi using pC;all_goals exact X
end
theorem j4(al:List aa->Lc->AH->Prop)(X:∀r lc σ,al r lc σ->lH g σ)(U:∀lc σ,al [] lc σ->kn lc σ)(J:∀x r lc σ(K:Kn),al (x::r) lc σ->(∀lc σ,al r lc σ->K lc σ)->gO (fi lc t x) fun Z=>b Z σ K):∀{xs:List aa}{lc:Lc}{σ:AH},al xs lc σ->pg g t b xs lc σ kn:=by intro xs;induction xs with|nil=>intro lc σ h;exact⟨X _ _ _ h,U lc σ h⟩|cons x r H=>intro lc σ h;exact⟨X _ _ _ h,J x r lc σ _ h fun lc σ h=>H h⟩
theorem qS(al:List aa->List aa->Lc->AH->Prop)(J:∀a r lc σ,al a r lc σ->lH g σ)(Q:∀a lc σ,al a [] lc σ->k (.ref σ.length) (σ++[.list a]))(O:∀x r a lc σ(K:List aa->Lc->AH->Prop),al a (x::r) lc σ->(∀a lc σ,al a r lc σ->K a lc σ)->gO (fi lc t x) fun Z=>c Z σ fun b σ=>br b (e Z σ fun v σ=>K (a++[v]) Z σ) (K a Z σ)):∀{xs a:List aa}{lc:Lc}{σ:AH},al a xs lc σ->jZ g t c e xs a lc σ k:=by intro xs;induction xs with|nil=>intro a lc σ h;exact⟨J _ _ _ _ h,Q a lc σ h⟩|cons x r E=>intro a lc σ h;exact⟨J _ _ _ _ h,O x r a lc σ (fun a lc σ=>jZ g t c e r a lc σ k) h fun a lc σ h=>E h⟩
noncomputable def gD(P:List Nat):List (aa×aa):=P.map fun(p:Nat)=>(.int p,.int 1)
noncomputable def gT(P:List Nat)(p:Nat):List Nat:=if p∈P then P else P++[p]
theorem qT{p q:Nat}:q∈gT P p↔q∈P\/q=p:=by
 unfold gT;by_cases h:p∈P;.rw[af h];exact⟨.inl,fun x=>x.elim id fun e=>e▸h⟩
 .rw[am h,dH,aZ]
theorem vn{p:Nat}(h:P.Nodup):(gT P p).Nodup:=by
 unfold gT;by_cases q:p∈P;.rw[af q];exact h
 .rw[am q];exact oW.mpr ⟨h,fg.mpr ⟨bJ,jQ⟩,fun a Z b X e=>q (by rw[aZ.mp X]at e;exact e▸Z)⟩
theorem j5{a b:Nat}(h:aa.int (a:Int)=aa.int (b:Int)):a=b:=dq (aa.int.inj h)
theorem Ph:∀{P:List Nat}{p:Nat},eR (gD P) (.int p) (.int 1)=gD (gT P p):=by intro P;induction P with|nil=>intro p;exact rfl|cons x r Z=>
  intro p;show(if aa.int x=aa.int p then(aa.int x,aa.int 1)::gD r else(aa.int x,aa.int 1)::eR (gD r) (.int p) (.int 1))=_;rw[Z];unfold gT;by_cases e:x=p;.subst e;rw[af rfl,af aV];rfl
  .rw[am fun q=>e (j5 q)];by_cases m:p∈r;.rw[af m,af (cH _ m)];rfl
   .rw[am m,am fun q=>(cc.mp q).elim (fun q=>e q.symm) m];rfl
theorem Pi:∀{P:List Nat}{z:Int},(b9 (gD P) (.int z)).isSome=decide (∃p:Nat,p∈P/\(p:Int)=z):=by intro P;induction P with|nil=>intro z;rw[bQ ((by rintro⟨_,h,_⟩;exact nomatch h))];rfl|cons x r Z=>
intro z;show(if aa.int x=aa.int z then D (aa.int 1)else b9 (gD r) (.int z)).isSome=_;by_cases e:(x:Int)=z;.rw[af (aI aa.int e),aN ⟨x,aV,e⟩];rfl
.rw[am (fun q=>e (aa.int.inj q)),Z];exact iG.mpr ⟨(by rintro⟨p,a,b⟩;exact⟨p,cH _ a,b⟩),(by rintro⟨p,a,b⟩;exact(cc.mp a).elim (fun q=>ae (q▸b) e) fun a=>⟨p,a,b⟩)⟩
theorem FF:dc (gD P) (.int z)=true:=by unfold dc gD;rw[KO];refine eK.mpr ⟨rfl,fQ.mpr fun x _=>rfl⟩
theorem sO(h:σ[i]?=D (.dict (gD P))):ip σ (.int z) (.ref i)=D (decide (∃p:Nat,p∈P/\(p:Int)=z)):=by rw[pp h FF,Pi]
theorem mR{p:Nat}(h:σ[i]?=D (.dict (gD P))):ip σ (.int p) (.ref i)=D (decide (p∈P)):=by rw[sO h];exact aI D (iG.mpr ⟨(by rintro⟨q,a,b⟩;exact dq b▸a),fun a=>⟨p,a,rfl⟩⟩)
theorem yO{p:Nat}(h:σ[i]?=D (.dict (gD P)))(X:P.length<av)(U:i≠0):i7 σ i (.int p) (.int 1)=D (σ.set i (.dict (gD (gT P p)))):=by rw[mN h FF (by unfold gD;rw[aJ];exact X) U,Ph]
theorem FG:∀{x:Nat}{S:List Nat},∃Z:List Nat,nX (x:Int) (S.map fun(n:Nat)=>(n:Int))=Z.map (fun(n:Nat)=>(n:Int))/\Z.Perm (x::S)
|x,[]=>⟨[x],rfl,.refl _⟩|x,y::r=>by
 obtain⟨Z,a,b⟩:=FG (x:=x) (S:=r);by_cases h:(x:Int)<=y;.exact⟨x::y::r,af h,.refl _⟩
 .exact⟨y::Z,(am h).trans (aI ((y:Int)::·) a),(b.cons y).trans (au0 x y r)⟩
theorem Pj:∀{P:List Nat},∃S:List Nat,jX (P.map fun(n:Nat)=>(n:Int))=S.map (fun(n:Nat)=>(n:Int))/\S.Perm P:=by intro P;induction P with|nil=>exact⟨[],rfl,.refl _⟩|cons x r Z=>refine cps fun P X=>?_;obtain⟨S,a,b⟩:=Z;obtain⟨U,c,d⟩:=FG (x:=x) (S:=S);refine X ?_;exact⟨U,(aI (nX (x:Int)) a).trans c,d.trans (b.cons x)⟩
theorem Pk:∀{P:List Nat},jv ((gD P).map (·.1))=D (P.map fun(n:Nat)=>(n:Int)):=by intro P;induction P with|nil=>exact rfl|cons x r Z=>exact aI (KP ((x:Int)::·)) (Z)
theorem Pl(h:σ[i]?=D (.dict (gD P)))(X:P.length<60):∃S,S.Perm P/\iJ .sorted σ [.ref i]=D (.ref σ.length,σ++[.list (aY S)]):=by obtain⟨S,a,b⟩:=Pj (P:=P);refine⟨S,b,?_⟩;show qE σ (.ref i)=_;unfold qE;dsimp only;rw[h];show(jv ((gD P).map (·.1))).bind _=_;rw[Pk,qi,aJ,af X,a,BL];rfl
section
theorem FH(h:Tb A (b+u) T σ)(U:row∉T->ms (T++[row])+1<=ms T+u)(J:eF row=Y)(H:cg row=2)(Q:∀(t:Nat)T' Z,Tb A b T' Z->T<+:T'->T'[t]?=D row->Fr A.aP σ Z->k (.int t) Z):dr WD (CW (n+1)) 7 A.az σ σ [row] k:=by refine cps fun P O=>?_;obtain⟨f,E,X⟩:=h.ct;refine O ?_;exact o E ⟨X,OQ h U J H Q⟩
theorem mS(h:Tb A (b+1) T σ)(X:eF row=Y)(U:cg row=2)(J:∀(t:Nat)T' Z,Tb A b T' Z->T<+:T'->T'[t]?=D row->Fr A.aP σ Z->k (.int t) Z):dr WD (CW (n+1)) 7 A.az σ σ [row] k:=FH h (fun _=>OP) X U J
theorem eD(h:Tb A b T σ)(Z:k v σ):dr WD (CW (n+1)) 22 A.bd σ σ [v] k:=o h.ch ⟨rfl,NE Z⟩
theorem Pm(h:Tb A b T σ)(X:eF row=Y)(Z:cg row=2):uV 3 (dU 0 T) σ [row,d]=D ((b9 (dU 0 T) row).getD d,σ):=af (by rw[h.dc X Z,Z];rfl)
theorem qU(hi:i<13)(hf:f<2):eF (bm i f)=Y/\cg (bm i f)=2:=(by decide+kernel:∀i,i<13->∀f,f<2->eF (bm i f)=Y/\cg (bm i f)=2) i hi f hf
theorem Pn{t i f:Nat}(h:Tb A b T σ)(e:T[t]?=D (bm i f))(hi:i<13)(hf:f<2)(hk:∀z:Int,((z=-1/\(eX i=Y->f=1->∀t':Nat,T[t']?≠D (bm i 0)))\/∃t':Nat,A4 (z=t') (eX i=Y) (f=1) (T[t']?=D (bm i 0)))->k (.int z) σ):CW (n+1) 22 [.ref A.az,.int t] σ k:=by
 refine Et ?_;refine h.eC e ?_;have fk:eX i=Y->f=1->∀z,b9 (dU 0 T) (bm i 0)=z->k (z.getD (.int (-1))) σ:=fun hl hf z hz=>by
  rcases z with _|v;.exact hk (-1) (.inl ⟨rfl,fun _ _ t' e=>yE hz (jR e)⟩)
  obtain⟨j,h3,rfl⟩:=yD hz;rw[gk];exact hk j (.inr ⟨j,rfl,hl,hf,h3⟩)
 have Pp:(aa.int (f:Int)=aa.int 1)=(f=1):=propext ⟨fun q=>j5 q,fun q=>by rw[q];rfl⟩;obtain⟨fl,ct,Y'⟩:=h.ct;have hj:=hi;clear e;induction i,hi using pC;case h0|h1|h3|h4|h6|h7=>refine bD (fun q=>?_) fun q=>hk (-1) (.inl ⟨rfl,fun _ e=>ae (Pp.mpr e) (fun e=>q (aa.int.inj e))⟩);apply o h.yF;apply o h.cx;apply o (pq h.cx);apply p (Pm h (qU (f:=0) hj (by decide)).1 (qU (f:=0) hj (by decide)).2);exact fk rfl (dq q) _ rfl
 all_goals exact hk (-1) (.inl ⟨rfl,nofun⟩)
end
theorem Pr[DecidableEq X]:∀{l l':List X},l.Nodup->(∀x,x∈l->x∈l')->l.length<=l'.length:=by intro l;induction l with|nil=>intro l' _ _;exact bP _|cons a l U=>intro l' h s;have h:=fg.mp h;have:=U (l':=l'.erase a) h.2 fun x Z=>(List.mem_erase_of_ne fun(e:x=a)=>h.1 (e▸Z)).mpr (s x (cH _ Z));rw[List.length_erase_of_mem (s a aV)]at this;exact Nat.add_le_of_le_sub (List.length_pos_of_mem (s a aV)) this
noncomputable def wh(i:Nat):Int:=match i with|0=>6|1=>6|3=>7|4=>7|_=>-1
theorem yP(hi:i<13)(hj:j<13)(hf:f<2)(hg:g<2)(l:eX i=Y)(e:bm j g=bm i f):f=g/\i=j:=by have:=Fx hj hi hg hf e;subst this;exact⟨(by decide+kernel:∀i,i<13->∀f,f<2->∀g,g<2->eX i=Y->bm i g=bm i f->f=g) j hi f hf g hg l e,rfl⟩
structure PS(T:List aa)(P:List Nat)(q:Option Nat):Prop where
all:∀p∈P,(∃i,i<13/\At T p i)\/q=D p
dY:∀p,q=D p->p∈P/\E4 fun ps rt pd fl=>T[p]?=D (eA ps rt pd fl)
section
variable{P:List Nat}
theorem PS.len(h:PS T F q)(J:T.Nodup)(nd:P.Nodup)(X:∀p∈P,p∈F):P.length<=27:=by
 have inj:(P.map fun p=>T[p]?).Nodup:=by
  refine List.pairwise_map.mpr (av0 ?_ nd);intro a b Z H Q e;refine Q ?_;have U:∀{a},a∈P->a<T.length:=fun{a}Z=>by
   rcases h.all a (X a Z)with⟨_,_,_,_,e⟩|e;.exact(bo.mp e).1
   .obtain⟨_,_,_,_,_,e⟩:=h.dY a e;exact(bo.mp e).1
  rw[dK (U Z),dK (U H)]at e;exact(xy J).mp (b8 e)
 have:=Pr (l':=(q.bind fun p=>T[p]?)::(((iW 13).map fun i=>D (bm i 0))++(iW 13).map fun i=>D (bm i 1))) inj fun x O=>by
  obtain⟨p,E,rfl⟩:=g7.mp O;rcases h.all p (X p E)with⟨i,hi,f,C,e⟩|e
  .refine cH _ ?_;rw[e,dH];clear e;induction f,C using yx;.exact .inl (g7.mpr ⟨i,BM.mpr hi,rfl⟩)
   .exact .inr (g7.mpr ⟨i,BM.mpr hi,rfl⟩)
  .rw[e];exact aV
 rw[aJ]at this;exact this
theorem Tb.yQ(h:cG<+:T)(nd:T.Nodup){t i:Nat}(e:T[t]?=D d)(Z:cG[i]?=D d):t=i:=by have l2:=(bo.mp (bV h Z));obtain⟨v,x⟩:=((bo.mp e));obtain⟨w,y⟩:=l2;exact(xy nd).mp (x.trans y.symm)
theorem sP(hi:i<13)(Z:k (.int (wh i)) σ):CW (n+1) 21 [bm i f] σ k:=by refine Er ?_;induction i,hi using pC;all_goals exact Z
theorem Pt(Z:k (.int (-1)) σ):CW (n+1) 21 [eA ps rt X U] σ k:=Er Z
theorem Pu{g p:Nat}(h:Tb A b T σ)(C:PS T P q)(J:σ[g]?=D (.dict (gD P)))(M:p∈P)(L:∀p∈P,∀i,i<13->At T p i->∀w:Nat,wh i=w->w∉P)(Q:∀b:Bool,(b=ai->∃i,A4 (i<13) (eX i=Y) (T[p]?=D (bm i 1)) (∃t'∈P,T[t']?=D (bm i 0)))->(b=Y->∀i,i<13->eX i=Y->T[p]?=D (bm i 1)->∀t'∈P,T[t']?≠D (bm i 0))->k (.bool b) σ):CW (n+2) 24 [.ref A.az,.ref g,.int p] σ k:=by
 refine Nx ?_;have Z:¬∃p:Nat,p∈P/\(p:Int)=-1:=(by rintro⟨p,_,e⟩;exact u9 e.symm);rcases C.all p M with⟨i,hi,f,U,e⟩|e
 .apply Pn h e hi U;intro z hz;apply o (sO J);refine bE (fun x=>?_) fun x=>?_
  .rcases hz with⟨hz,_⟩|⟨t',hz,H,U,K⟩;.subst hz;exact ae x Z
   .subst hz U;refine cps fun P d=>?_;obtain⟨y,O,X⟩:=x;refine d ?_;cases dq X;exact Q ai (fun _=>⟨i,hi,H,e,t',O,K⟩) nofun
  .refine h.eC e ?_;apply sP hi;apply o (sO J);have:¬∃p:Nat,p∈P/\(p:Int)=wh i:=(by rintro⟨w,r,X⟩;exact L p M i hi ⟨f,U,e⟩ w X.symm r);rw[bQ this];refine Q Y nofun fun _ j u H e2 t' E e3=>?_;rw[e]at e2;clear e this;obtain⟨rfl,rfl⟩:=yP u hi (by decide) U H (b8 e2);rcases hz with⟨_,hz⟩|⟨c,hz,_,_,m⟩;.exact hz H rfl t' e3
   .subst hz;refine x ⟨t',E,?_⟩;obtain⟨v,a⟩:=bo.mp e3;obtain⟨w,b⟩:=bo.mp m;rw[(xy h.nd).mp (a.trans b.symm)]
 .obtain⟨_,ps,rt,t,s,e⟩:=C.dY p e;apply Et;refine h.eC e ?_;apply o (sO J);refine bE (fun x=>ae x Z) fun x=>?_;refine h.eC e ?_;apply Pt;apply o (sO J);rw[bQ Z];exact Q Y nofun fun _ i hi _ X=>by rw[e]at X;exact ae (b8 X).symm (mQ hi)
theorem Pv(Z:σ[g]?=D (.dict (gD P)))(X:13∉P)(J:0∈P->k (.int 0) σ)(H:0∉P->1∈P->k (.int 1) σ)(Q:0∉P->1∉P->k (.int (-1)) σ):CW (n+1) 25 [.ref g] σ k:=by refine Ny ?_;refine⟨trivial,?_⟩;apply o (mR (p:=0) Z);refine bE J fun U=>⟨trivial,?_⟩;apply o (mR (p:=13) Z);refine bE (fun x=>ae x X) fun _=>⟨trivial,?_⟩;apply o (mR (p:=1) Z);exact bE (H U) fun a1=>⟨trivial,Q U a1⟩
end
section
theorem qV:(σ++[x]).set σ.length y=σ++[y]:=by rw[KQ _ _ (aE _),jO];rfl
theorem vo:aY a++[.int x]=aY (a++[x]):=by unfold aY;rw[g8];rfl
theorem jC:(aY a).length=a.length:=by unfold aY;rw[aJ]
theorem Px(O:P.length<=27)(nd:P.Nodup)(A:0<σ.length)(L:∀J,J.Nodup->(∀p,p∈P->p∈J)->(∀p∈J,p∈P\/(p=8/\(8∈P\/14∈P))\/(p=9/\(9∈P\/15∈P)))->k .none (σ++[.dict (gD J)])):CW (n+1) 23 [.ref σ.length] (σ++[.dict (gD P)]) k:=by
 refine Nw ?_;have E:k .none (σ++[.dict (gD P)]):=L P nd (fun _ a=>a) fun _ a=>.inl a;have bS:(8∈P\/14∈P)->(9∈P\/15∈P)->k .none (σ++[.dict (gD (gT (gT P 8) 9))]):=fun a b=>L _ (vn (vn nd)) (fun p X=>qT.mpr (.inl (qT.mpr (.inl X)))) fun p X=>(qT.mp X).elim (fun X=>(qT.mp X).elim .inl fun e=>.inr (.inl ⟨e,a⟩)) fun e=>.inr (.inr ⟨e,b⟩);have U:σ.length≠0:=ax 691524489222 rfl A;have l2:(gT P 8).length<av:=by
  unfold gT av;split;.exact ax 951133426241537 rfl O
  .rw[aT,qh];exact ax 0xd843408045a0001 rfl O
 have H:i7 (σ++[.dict (gD P)]) σ.length (.int 8) (.int 1)=D (σ++[.dict (gD (gT P 8))]):=(yO (p:=8) aR (ax 951133426241537 rfl O) U).trans (by rw[qV]);have Q:i7 (σ++[.dict (gD (gT P 8))]) σ.length (.int 9) (.int 1)=D (σ++[.dict (gD (gT (gT P 8) 9))]):=(yO (p:=9) aR l2 U).trans (by rw[qV]);apply o (mR (p:=8) aR);refine bE (fun a=>?_) fun a=>?_
 .apply o (mR (p:=9) aR);refine bE (fun b=>?_) fun b=>?_;.apply o H;apply o Q;exact bS (.inl a) (.inl b)
  .apply o (mR (p:=15) aR);refine bE (fun b=>?_) fun b=>E;apply o H;apply o Q;exact bS (.inl a) (.inr b)
 .apply o (mR (p:=14) aR);refine bE (fun a=>?_) fun a=>E;apply o (mR (p:=9) aR);refine bE (fun b=>?_) fun b=>?_;.apply o H;apply o Q;exact bS (.inr a) (.inl b)
  .apply o (mR (p:=15) aR);refine bE (fun b=>?_) fun b=>E;apply o H;apply o Q;exact bS (.inr a) (.inr b)
structure sQ(T:List aa)(t:Nat)(l:List Nat):Prop where
nd:l.Nodup
pa:Pa T t l
lt:t<T.length
hd:∀d,l=[t]->T[t]?=D d->E2 fun(g:Nat)(r:List aa)=>A3 (d=.ab (.int g::r)) (r.length<=7) (g≠6)
theorem KR.yR(Z:cG<+:T)(h:KR c T K t):E2 fun l q=>A3 (sQ T t l) (PR T K.m l q) (dB c T K.s l q):=by obtain⟨l,q,a,b,d⟩:=h.pa;exact⟨l,q,⟨b.nd,a,h.gR Z,KR.head b d⟩,b,d⟩
inductive ol(T:List aa):List Nat->List (List Nat)->Prop|nil:ol T [] []|cons{t ts l ls}:sQ T t l->ol T ts ls->ol T (t::ts) (l::ls)
theorem Py:∀m,m<8192->decide (m&&&6144=0->cZ m=m->(m.testBit 0=Y\/m.testBit 1=Y->m.testBit 2=ai)/\(m.testBit 3=Y\/m.testBit 4=Y->m.testBit 5=ai))=true:=kQ (by decide+kernel)
theorem Pz:∀m,m<8192->decide ((m.testBit 12=Y->cZ m=4096)/\(m.testBit 12=ai->m.testBit 11=Y->cZ m=2048)/\(m.testBit 12=ai->m.testBit 11=ai->m&&&6144=0))=true:=kQ (by decide+kernel)
theorem PA:eF (pu K)=true:=by show(Y&&(kG 4 (aY K)&&Y))=Y;rw[KS,lj];induction K with|nil=>rfl|cons x r Z=>exact Z
end
section
theorem Tb.pos(h:Tb A b T σ):0<σ.length:=by have:=(bo.mp h.cr).1;exact aC 709778608129 rfl this
structure PB(T:List aa)(ls:List (List Nat))(m:Nat)(q:Option Nat):Prop where
ps:PS T ls.flatten q
lt:m<8192
dW:∀i,i<13->(m.testBit i=Y↔∃p∈ls.flatten,At T p i)PC:m&&&6144=0->cZ m=m
def pE(T:List aa)(m:Nat)(q:Option Nat)(t:Nat):Prop:=∃l,A3 (Pa T t l) (PR T (cZ m) l (if cZ m&&&6144≠0 then I else q)) (∀p,(if cZ m&&&6144≠0 then I else q)=D p->p∈l)
theorem yS(h:Tb A (b+1) T σ)(C:PB T ls m q)(hL:ol T ts ls)(PD:sz (σ++[.dict []]) H=D (aY ts,gg))(yT:∀x,lH gg (σ++[x]))(hk:∀t T' X,Tb A b T' X->T<+:T'->Fr A.aP σ X->pE T' m q t->k (.int t) X):CW (n+3) 26 [.ref A.az,H] σ k:=by
 have PE:σ.length≠0:=by have:=h.pos;exact ax 691524489222 rfl this
 have Y?:σ[σ.length]?=none:=jp (aE _);refine Nz ?_;apply o PD;refine j4 (fun r lc X=>E5 fun v3 v4 P z s=>A6 (r=aY z) (ol T z s) (lc=[D (.ref A.az),D H,D (.ref σ.length),v3,v4,I,I,I]) (X=σ++[.dict (gD P)]) P.Nodup (∀p,(p∈P\/p∈s.flatten)↔p∈ls.flatten)) ?_ ?_ ?_ ⟨I,I,[],ts,ls,rfl,hL,rfl,rfl,jQ,fun p=>⟨fun x=>x.elim (nomatch·) id,.inr⟩⟩;.rintro r lc X⟨v3,v4,P,z,s,_,_,_,rfl,_⟩;exact yT _
 .rintro lc X⟨v3,v4,P,z,s,E,Z,rfl,rfl,nd,U⟩;induction Z using ol.casesOn with|cons=>cases E|nil=>
  have U:∀p,p∈P↔p∈ls.flatten:=fun p=>⟨fun x=>(U p).mp (.inl x),fun x=>((U p).mpr x).elim id (nomatch·)⟩;have nF:∀t:Nat,(∀i,i<13->∀f,f<2->T[t]?≠D (bm i f))->(∀ps rt pd fl,T[t]?≠D (eA ps rt pd fl))->t∉P:=fun t h1 h2 ht=>by
   rcases C.ps.all t ((U t).mp ht)with⟨i,hi,f,hf,e⟩|e;.exact h1 i hi f hf e
   .obtain⟨_,_,_,_,_,e⟩:=C.ps.dY t e;exact h2 _ _ _ _ e
  have yU:m.testBit 12=Y↔0∈P:=(C.dW 12 (by decide)).trans ⟨(by rintro⟨p,Z,f,_,e⟩;exact(U 0).mpr (Tb.yQ h.base h.nd (i:=0) e rfl▸Z)),fun Z=>⟨0,(U 0).mp Z,0,by decide,bV h.base rfl⟩⟩;have FJ:m.testBit 11=Y↔1∈P:=(C.dW 11 (by decide)).trans ⟨(by rintro⟨p,Z,f,_,e⟩;exact(U 1).mpr (Tb.yQ h.base h.nd (i:=1) e rfl▸Z)),fun Z=>⟨1,(U 1).mp Z,0,by decide,bV h.base rfl⟩⟩;have dy:=cJ (Pz m C.lt);have PF:13∉P:=nF 13 (fun i hi f hf e=>by have:=fL h.base e rfl;exact(by decide+kernel:∀i,i<13->∀f,f<2->bm i f≠dI "error") i hi f hf this) fun ps rt pd fl e=>gQ (fL h.base e rfl) rfl;have FK:∀i,i<13->cZ m=2^i->2^i&&&6144≠0->∀t,At T t i->pE T m q t:=fun i hi e ht t Q=>by unfold pE;rw[e,af ht];obtain⟨l,x,y⟩:=(qR (c:=ai)).mpr (qQ hi h.base Q);exact⟨l,x,y,nofun⟩
  apply Pv aR PF;.intro h0;exact hk 0 T _ (h.le (dg b)).cm (df T) .new (FK 12 (by decide) (dy.1 (yU.mpr h0)) (by decide) 0 ⟨0,by decide,bV h.base rfl⟩)
  .intro h0 h1;have PG:m.testBit 12=false:=jK.mpr fun e=>h0 (yU.mp e);exact hk 1 T _ (h.le (dg b)).cm (df T) .new (FK 11 (by decide) (dy.2.1 PG (FJ.mpr h1)) (by decide) 1 ⟨0,by decide,bV h.base rfl⟩)
  .intro h0 h1;have PH:m.testBit 11=false:=jK.mpr fun e=>h1 (FJ.mp e);have m0:=dy.2.2 (jK.mpr fun e=>h0 (yU.mp e)) PH;have nm:=C.PC m0;have nl:=cJ (Py m C.lt) m0 nm;have eT:∀{i:Nat}{d:aa},cG[i]?=D d->T[i]?=D d:=fun e=>bV h.base e;have yV:∀{T':List aa}{t:Nat}{K:List Nat},Pa T' t K->PR T' m K q->(∀p,q=D p->p∈K)->pE T' m q t:=fun a b d=>by unfold pE;rw[nm,am (fun q=>q m0:¬(m&&&6144≠0))];exact⟨_,a,b,d⟩
   apply Px (C.ps.len h.nd nd fun p Z=>(U p).mp Z) nd h.pos;intro P' FL sR FM;have a6:∀{t},t=8\/t=14->At T t 6:=fun e=>e.elim (fun e=>e▸⟨0,by decide,eT rfl⟩) fun e=>e▸⟨1,by decide,eT rfl⟩;have a7:∀{t},t=9\/t=15->At T t 7:=fun e=>e.elim (fun e=>e▸⟨0,by decide,eT rfl⟩) fun e=>e▸⟨1,by decide,eT rfl⟩;have g:PS T P' q:={
    all:=fun p Z=>(FM p Z).elim (fun Z=>C.ps.all p ((U p).mp Z)) fun x=>.inl (x.elim (fun x=>⟨6,by decide,a6 (.inl x.1)⟩) fun x=>⟨7,by decide,a7 (.inl x.1)⟩)
    dY:=fun p e=>⟨sR p ((U p).mpr (C.ps.dY p e).1),(C.ps.dY p e).2⟩};have FN:∀i,i<13->(m.testBit i=Y↔∃p∈P',At T p i):=fun i hi=>(C.dW i hi).trans ⟨(by rintro⟨p,Z,Q⟩;exact⟨p,sR p ((U p).mpr Z),Q⟩),fun⟨p,Z,Q⟩=>by
    rcases FM p Z with Z|⟨rfl,x⟩|⟨rfl,x⟩;.exact⟨p,(U p).mp Z,Q⟩
    .cases At.cU hi (by decide) Q (a6 (.inl rfl));exact x.elim (fun x=>⟨8,(U 8).mp x,Q⟩) fun x=>⟨14,(U 14).mp x,a6 (.inr rfl)⟩
    .cases At.cU hi (by decide) Q (a7 (.inl rfl));exact x.elim (fun x=>⟨9,(U 9).mp x,Q⟩) fun x=>⟨15,(U 15).mp x,a7 (.inr rfl)⟩⟩;have FO:=g.len h.nd FL fun _ x=>x;have bt:∀{t i:Nat},i<13->At T t i->t∈P'->m.testBit i=true:=fun{t i}hi Q ht=>(FN i hi).mpr ⟨t,ht,Q⟩;have n6:∀w:Nat,(6:Int)=w->m.testBit 2=ai->w∉P':=fun w e x hw=>by have e:w=6:=ax 697993351170 rfl e;subst e;rw[bt (i:=2) (by decide) ⟨0,by decide,eT rfl⟩ hw]at x;cases x
   have n7:∀w:Nat,(7:Int)=w->m.testBit 5=ai->w∉P':=fun w e x hw=>by have e:w=7:=ax 699067125762 rfl e;subst e;rw[bt (i:=5) (by decide) ⟨0,by decide,eT rfl⟩ hw]at x;cases x
   have hn:∀t∈P',∀i,i<13->At T t i->∀w:Nat,wh i=w->w∉P':=fun t ht i hi Q w hw=>by
    have hb:=bt hi Q ht;clear Q;induction i,hi using pC;.exact n6 w hw (nl.1 (.inl hb))
    .exact n6 w hw (nl.1 (.inr hb))
    case h3=>exact n7 w hw (nl.2 (.inl hb))
    case h4=>exact n7 w hw (nl.2 (.inr hb))
    all_goals exact u9 hw
   obtain⟨S,hS,PI⟩:=Pl (aR) (ax 0x1b08681007820d001 rfl FO);apply p PI;have PJ:S.length<=27:=by rw[hS.length_eq];exact FO
   apply o (kL aR (by rw[jC];exact ax 951133426241537 rfl PJ));have h3:Tb A (b+1) T (σ++[.dict (gD P')]++[.list (aY S)]):=(h.cm).cm;refine qS (fun a r lc X=>E3 fun v7 K v=>A8 (a=aY K) (r=aY v) (lc=[D (.ref A.az),D H,D (.ref σ.length),v3,v4,D (.int (-1)),I,v7]) (X=σ++[.dict (gD P')]++[.list (aY S)]) ((K++v).Nodup) (∀p,p∈K\/p∈v->p∈P') (∀p∈K,∀i,i<13->eX i=Y->T[p]?=D (bm i 1)->∀t'∈P',T[t']?≠D (bm i 0)) (∀p∈P',p∈K\/p∈v\/∃i,A4 (i<13) (eX i=Y) (T[p]?=D (bm i 1)) (∃t'∈P',T[t']?=D (bm i 0)))) ?_ ?_ ?_ ⟨I,[],S,rfl,rfl,rfl,rfl,hS.nodup_iff.mpr FL,fun p Z=>Z.elim (nomatch·) hS.mem_iff.mp,fun p Z=>(nomatch Z),fun p Z=>.inr (.inl (hS.mem_iff.mpr Z))⟩;.rintro a r lc X⟨_,_,_,_,_,_,rfl,_⟩;exact aR
   .rintro a lc X⟨v7,K,v,rfl,E,rfl,rfl,M,J,sU,O⟩;induction v using eQ with|cons=>cases E|nil=>
    rw[bK]at M;have J:∀p∈K,p∈P':=fun p Z=>J p (.inl Z);have O:∀p∈P',p∈K\/∃i,A4 (i<13) (eX i=Y) (T[p]?=D (bm i 1)) (∃t'∈K,T[t']?=D (bm i 0)):=fun p Z=>(O p Z).imp_right fun x=>x.elim (nomatch·) fun⟨i,hi,hl,e,t',yW,e'⟩=>⟨i,hi,hl,e,t',by
      rcases O t' yW with x|x|⟨j,hj,yX,e2,_⟩;.exact x
      .cases x
      .rw[e']at e2;exact(Fw hj hi yX (b8 e2).symm).elim,e'⟩;have sV:PR T m K q:={
     nd:=M
     lt:=C.lt
     dW:=fun i hi=>(FN i hi).trans ⟨fun⟨p,Z,Q⟩=>(O p Z).elim (fun x=>⟨p,x,Q⟩) fun⟨j,hj,_,e,t',yW,e'⟩=>⟨t',yW,by cases At.cU hi hj Q ⟨1,by decide,e⟩;exact⟨0,by decide,e'⟩⟩,fun⟨p,Z,Q⟩=>⟨p,J p Z,Q⟩⟩
     all:=fun p Z=>g.all p (J p Z)
     tw:=fun i hi hl p Z e p' jA=>sU p Z i hi hl e p' (J p' jA)};have hq:∀p,q=D p->E4 fun ps rt pd fl=>T[p]?=D (eA ps rt pd fl):=fun p e=>(g.dY p e).2;have yY:∀p,q=D p->p∈K:=fun p e=>(O p (g.dY p e).1).elim id fun⟨i,hi,_,e',_⟩=>by obtain⟨_,_,_,_,e2⟩:=hq p e;rw[e']at e2;exact ae (b8 e2) (mQ hi)
    have FP:=g.len h.nd M J;have u:(aY K).length<av:=by rw[jC];exact ax 951133426241537 rfl FP
    have h4:Tb A (b+1) T (σ++[.dict (gD P')]++[.list (aY S)]++[.list (aY K)]):=h3.cm;have fr:Fr A.aP σ (σ++[.dict (gD P')]++[.list (aY S)]++[.list (aY K)]):=Fr.cm (Fr.cm .new);apply o (kM aR u);clear sU M J O;rcases K with _|⟨x,_|⟨y,K⟩⟩;.exact hk 2 T _ (h4.le (dg b)) (df T) fr (yV (.inl ⟨rfl,rfl⟩) sV yY)
    .apply p (du aR u);apply o ((hU (d:=.int 0) aR).trans (gJ (i:=0) (l:=aY [x]) rfl u));refine hk x T _ (h4.le (dg b)) (df T) fr (yV (.inr (.inr ⟨fun e=>?_,rfl,fun y e=>?_⟩)) sV yY)
     .subst e;rcases sV.all 2 aV with⟨i,hi,f,hf,e⟩|e;.exact(by decide+kernel:∀i,i<13->∀f,f<2->bm i f≠dI "never") i hi f hf (fL h.base e rfl)
      .obtain⟨_,_,_,_,e⟩:=hq 2 e;exact gQ (fL h.base e rfl) rfl
     .rcases sV.all x aV with⟨i,hi,f,hf,e2⟩|e2;.rw[e]at e2;exact vg hi (b8 e2).symm
      .obtain⟨_,_,_,_,e2⟩:=hq x e2;rw[e]at e2;exact gQ (b8 e2) rfl
    .obtain⟨L,hL,l2,PL⟩:∃L,A3 ((aY (x::y::K)).length=L) (2<=L) (L<=27):=⟨_,rfl,by rw[jC,iF,iF];exact aB 177838495744 rfl,by rw[jC];exact FP⟩;apply p ((du aR u).trans (by rw[hL]));refine bD (fun e=>ae e (hQ 0x2d04aa18202d01e rfl l2 e)) fun _=>?_;apply p ((du aR u).trans (by rw[hL]));refine bD (fun e=>ae e (ax 0x1b08681051901040d rfl PL)) fun _=>?_;apply p (show iJ .tuple _ _=D (.ab (aY (x::y::K)),_)by show(((nZ _ _).bind _:Option aa).map _)=_;rw[ez aR,qi,af u];rfl);apply mS h4 PA rfl;intro t T' X h5 Z E hf;refine hk t T' X h5 Z (fr.trans hf) (yV (.inr (.inl ⟨fun e=>?_,E,by simp⟩)) (sV.aq Z hq) yY);subst e;exact gQ (fL (h.base.trans Z) E rfl) rfl
   .rintro x r a lc X K'⟨v7,K,v,rfl,E,rfl,rfl,M,J,sU,O⟩sW;rcases v with _|⟨y,v⟩;.cases E
    cases E;apply Pu h3 g (dt aR) (J y (.inr aV)) hn;intro bb PM PN;rcases bb with _|_
    .refine sW _ _ _ ⟨_,K,v,rfl,rfl,rfl,rfl,M.sublist (aw0 (ax0 K) (List.sublist_cons_self y v)),fun p Z=>J p (Z.imp_right (cH _)),sU,fun p Z=>?_⟩;rcases O p Z with a|a|a;.exact .inl a
     .exact(cc.mp a).elim (fun a=>.inr (.inr (by rw[a];exact PM rfl))) fun a=>.inr (.inl a)
     .exact .inr (.inr a)
    refine sW _ _ _ ⟨_,K++[y],v,vo,rfl,rfl,rfl,by rw[dx];exact M,fun p Z=>J p ?_,fun p Z=>(dH.mp Z).elim (sU p) fun a=>by rw[aZ.mp a];exact PN rfl,fun p Z=>?_⟩
    .rw[dH,aZ]at Z;rw[cc];rcases Z with(a|a)|a;.exact .inl a
     .exact .inr (.inl a)
     .exact .inr (.inr a)
    .rw[dH,aZ];rcases O p Z with a|a|a;.exact .inl (.inl a)
     .exact(cc.mp a).elim (fun a=>.inl (.inr a)) fun a=>.inr (.inl a)
     .exact .inr (.inr a)
 .rintro x r lc X K⟨v3,v4,P,z,s,E,Z,rfl,rfl,nd,U⟩hK;induction Z using ol.casesOn with|nil=>cases E|@cons t PO l vp hv Z=>
  cases E;apply yN (h.le (dg b)).cm hv.pa hv.hd hv.lt;have fl:∀{p},p∈(l::vp).flatten↔p∈l\/p∈vp.flatten:=fun{p}=>by rw[BN,dH]
  apply o (hW (by rw[jC];exact ax 951133426241537 rfl (C.ps.len h.nd hv.nd fun p Z=>(U p).mp (.inr (fl.mpr (.inl Z))))));refine j4 (fun r lc X=>E3 fun v4 P l'=>A5 (r=aY l') (lc=[D (.ref A.az),D H,D (.ref σ.length),D (.int t),v4,I,I,I]) (X=σ++[.dict (gD P)]) P.Nodup (∀p,(p∈P\/p∈l'\/p∈vp.flatten)↔p∈ls.flatten)) ?_ ?_ ?_ ⟨v4,P,l,rfl,rfl,rfl,nd,fun p=>by rw[<-U p,fl]⟩;.exact fun _ _ _ _=>trivial
  .rintro lc X⟨v4,P,l',E,rfl,rfl,nd,U⟩;rcases l' with _|⟨_,_⟩;.exact hK _ _ ⟨_,_,P,PO,vp,rfl,Z,rfl,rfl,nd,fun p=>(or_congr_right (by rw[List.mem_nil_iff,false_or])).trans (U p)⟩
   cases E
  .rintro x r lc X K⟨v4,P,l',E,rfl,rfl,nd,U⟩hK;rcases l' with _|⟨y,l'⟩;.cases E
   cases E;apply o ((yO (p:=y) aR (ax 951133426241537 rfl (C.ps.len h.nd nd fun p Z=>(U p).mp (.inl Z))) PE).trans (by rw[qV]));exact hK _ _ ⟨_,_,l',rfl,rfl,rfl,vn nd,fun p=>by rw[<-U p,qT,cc,or_assoc,or_assoc]⟩
end
theorem PP:∀m,m<8192->decide (cZ m=m->(m|||512)&&&6144=0->cZ (m|||512)=m|||512)=true:=kQ (by decide+kernel)
theorem FQ:∀m,m<8192->decide (m<2048->m&&&6144=0)=true:=kQ (by decide+kernel)
section
theorem pE.kr(h:pE T' m q t)(Z:dB c T s l q)(X:T<+:T'):KR c T' (.mk (cZ m) (if cZ m&&&6144≠0 then I else s)) t:=by
 obtain⟨l',a,b,d⟩:=h;by_cases e:cZ m&&&6144≠0;.rw[af e]at b⊢;exact⟨l',I,a,b,rfl⟩
 .rw[am e]at b d⊢;rcases s with _|x;.exact⟨l',q,a,b,Z⟩
  refine cps fun P U=>?_;obtain⟨p,rfl,_,J⟩:=Z;refine U ?_;exact⟨l',D p,a,b,p,rfl,d p rfl,J.aq X⟩
theorem aS.kT(h:aS V n (.mk m s))(Z:m&&&6144≠0):s=none:=by
 rcases n with _|n;.exact h.2
 induction s using cM with|none=>rfl|some x=>exact ae (cJ (FQ m h.1.1) (h.2 x rfl).1.1) Z
theorem PS.of(b:PR T m l q)(d:dB c T s l q):PS T l q:=⟨b.all,fun p e=>⟨by
rcases s with _|x;.rw[show q=I from d]at e;cases e
obtain⟨Q,J,h,_⟩:=d;rw[J]at e;clear J;cases e;exact h,dB.dY (T:=T) d p e⟩⟩
theorem FS(h:Tb A (b+1) T σ)(U:aS V u K)(E:KR c T K t)(J:sz (σ++[.dict []]) X=D (aY [t],C))(H:∀x,lH C (σ++[x]))(M:∀t T' Z,Tb A b T' Z->T<+:T'->Fr A.aP σ Z->KR c T' K t->k (.int t) Z):CW (n+3) 26 [.ref A.az,X] σ k:=by
 refine cps fun P L=>?_;obtain⟨m,s⟩:=K;obtain⟨l,q,a,b,d⟩:=E.yR h.base;refine L ?_;have Q:([l]:List (List Nat)).flatten=l:=by rw[BN,Zm,bK]
 refine yS h ⟨by rw[Q];exact PS.of b d,b.lt,by rw[Q];exact b.dW,fun _=>U.nm.2⟩ (.cons a .nil) J H fun t T' Z g O j r=>M t T' Z g O j ?_;have this:KR c T' (.mk (cZ m) (if cZ m&&&6144≠0 then I else s)) t:=r.kr d O;rw[show cZ m=m from U.nm.2]at this;by_cases e:m&&&6144≠0;.rw[af e]at this;rw[U.kT e];exact this
 .rw[am e]at this;exact this
theorem FT(h:Tb A (b+1) T σ)(E:aS V lv K)(C:KR c T K t)(M:∀t T' Z,Tb A b T' Z->T<+:T'->Fr A.aP σ Z->KR c T' (jn K 512) t->k (.int t) Z):CW (n+4) 27 [.ref A.az,.int t] σ k:=by
 refine cps fun P L=>?_;obtain⟨m,s⟩:=K;obtain⟨l,q,a,b,d⟩:=C.yR h.base;refine L ?_;refine NA ?_;have A4:At T 4 9:=⟨0,by decide,bV h.base rfl⟩;have g:KR c T (.mk (2^9) I) 4:=qQ (by decide) h.base A4;obtain⟨l4,j,r,H,u⟩:=g.yR h.base;cases show j=I from u;have Q:([l,l4]:List (List Nat)).flatten=l++l4:=by rw[BN,BN,Zm,bK]
 have w:∀p∈l++l4,(∃i,i<13/\At T p i)\/q=D p:=fun p v=>(dH.mp v).elim (b.all p) fun x=>.inl ((H.all p x).elim id nofun);have f:∀p,q=D p->p∈l++l4/\E4 fun ps rt pd fl=>T[p]?=D (eA ps rt pd fl):=fun p e=>⟨mi _ ((PS.of b d).dY p e).1,((PS.of b d).dY p e).2⟩;have x3:∀i,i<13->((m|||512).testBit i=Y↔∃p∈l++l4,At T p i):=fun i hi=>by
  have y:=H.dW i hi;rw[jS,jT];constructor
  .rintro(x|x);.obtain⟨p,x,y⟩:=(b.dW i hi).mp x;exact⟨p,mi _ x,y⟩
   .obtain⟨p,x,y⟩:=y.mp x;exact⟨p,jP _ x,y⟩
  .rintro⟨p,x,z⟩;exact(dH.mp x).imp (fun x=>(b.dW i hi).mpr ⟨p,x,z⟩) fun x=>y.mpr ⟨p,x,z⟩
 exact yS (ts:=[t,4]) (m:=m|||512) h ⟨by rw[Q];exact⟨w,f⟩,ve b.lt (by decide),by rw[Q];exact x3,cJ (PP m b.lt) E.nm.2⟩ (.cons a (.cons r .nil)) (hW (xs:=[.int t,.int (4:Nat)]) (show 2<2^24-100 by decide)) (fun _=>trivial) fun t T' Z h1 O h3 h4=>M t T' Z h1 O h3 (h4.kr d O)
def Se(T:List aa)(t:Nat):Prop:=∀i f,i<13->f<2->T[t]?=D (bm i f)->eX i=Y->f=0
theorem Se.aq(Z:t<T.length)(X:T<+:T')(h:Se T t):Se T' t:=fun i f hi U e l=>h i f hi U (by have:=fL X e (dK Z);rw[dK Z,this]) l
theorem PQ{t i f:Nat}(h:Tb A b T σ)(e:T[t]?=D (bm i f))(hi:i<13)(U:eX i=Y)(J:f=1->k (.bool Y) σ)(H:f≠1->k (.bool ai) σ):CW (n+1) 29 [.ref A.az,.int t] σ k:=by
 refine NB ?_;refine h.eC e ?_;have Z:k (.bool (decide ((f:Int)=1))) σ:=by
  by_cases q:f=1;.rw[aN (by exact ax 193309364234 rfl q)];exact J q
  .rw[bQ (by exact(gl q).elim (fun X=>ax 193308315678 rfl X) fun X=>ax 692598263822 rfl X)];exact H q
 clear e;induction i,hi using pC<;>first|exact Z|cases U
theorem PW:∀i,i<13->eX i=Y->bm i 0∈Fm:=by decide+kernel
theorem PX{t i f:Nat}(h:Tb A b T σ)(e:T[t]?=D (bm i f))(hi:i<13)(X:f<2)(U:eX i=Y)(J:∀(t':Nat)T' Z,Tb A b T' Z->T<+:T'->Fr A.aP σ Z->T'[t']?=D (bm i 0)->k (.int t') Z):CW (n+2) 30 [.ref A.az,.int t] σ k:=by
 refine NC ?_;apply PQ h e hi U;.intro X;subst X;refine cps fun P Q=>?_;obtain⟨f,K,O⟩:=h.ct;refine Q ?_;refine h.eC e ?_;have H:dr WD (CW (n+1)) 7 A.az σ σ [bm i 0] k:=FH (u:=0) h (fun q=>OO q (PW i hi U)) (qU hi (by decide)).1 (qU hi (by decide)).2 fun t T' Z E C M L=>J t T' Z E C L M;clear J e;induction i,hi using pC<;>first|exact H|cases U
 .intro q;induction f,X using yx;.exact J t T σ h (df T) .rfl e
  .exact ae rfl q
theorem FU{t:Nat}(h:Tb A b T σ)(hK:KR c T K t)(hk:∀t' T' au,Tb A b T' au->T<+:T'->Fr A.aP σ au->KR c T' K t'->Se T' t'->(∀x,T'[t']?=D (.ab [.int 6,x])->T[t]?=D (.ab [.int 6,x]))->k (.int t') au):CW (n+3) 82 [.ref A.bd,.int t] σ k:=by
 refine yq ?_;refine eD h ?_;apply o h.az;have keep:Se T t->k (.int t) σ:=fun q=>hk t T σ h (df T) .rfl hK q fun _ e=>e;have nl:∀{d:aa},T[t]?=D d->2<=1\/jc d=6\/jc d=13->Se T t:=fun{d}e q i f hi hf e' l=>by
  rw[e]at e';clear e;cases e';have:=pA (i:=i) (f:=f);rcases q with q|q|q;.exact ae q (by decide)
  all_goals rw[q]at this;exact ae this (by decide)
 induction hK.vk using TV.casesOn with
|jB e=>clear nl hK hk;subst e;refine qK ?_;apply o h.fW;apply o (h.row (bV h.base rfl));refine keep fun i f hi hf e l=>?_;have:=fL h.base e rfl;exact ae this ((by decide+kernel:∀i,i<13->∀f,f<2->bm i f≠dI "never") i hi f hf)|lQ i f hi hf ne e=>
  apply Pg h e hi;rcases hl:eX i with _|_;.refine keep fun j g hj hg e' l=>?_;rw[e]at e';have:=(yP hj hi hg hf l (b8 e')).2;clear hi e hK hk e';subst this;rw[hl]at l;cases l
  apply o h.az;refine PX h e hi hf hl fun t' T' au h1 h2 h3 h4=>hk t' T' au h1 h2 h3 (qQ hi h1.base ⟨0,by decide,h4⟩) (fun j g hj hg e' l=>?_) fun x e=>?_;.rw[h4]at e';exact(yP hj hi hg (by decide) l (b8 e')).1
  .rw[h4]at e;exact ae (b8 e) (vg hi)|dY x ne hS=>obtain⟨_,_,_,_,e⟩:=hS.row;refine qK ?_;refine h.eC e ?_;exact keep (nl e (.inr (.inr rfl)))|sN l q m s ne e l2 hP hs=>refine qK ?_;refine h.eC e ?_;exact keep (nl e (.inr (.inl rfl)))
end
noncomputable def bv(k:Nat×Nat):aa:=.ab [.int k.1,.int k.2]
noncomputable def eN(c:Nat):aa:=.ab [.int c,.int 0]
noncomputable def lR(A:Ad)(R V dp tr:Nat):List (Nat×aa):=[(35,.ref A.bd),(34,.int V),(33,.ref (R+1)),(32,.ref (R+2)),(31,.ref (R+3)),(30,.ref tr),(29,.ref (R+5)),(19,.int dp),(28,.ref (R+6)),(27,.bool Y),(26,.none),(25,.str (S0 "")),(24,.int 0)]
noncomputable def eY(l:List (Nat×Nat)):List (aa×aa):=l.map fun k=>(bv k,.int 1)
structure St(A:Ad)(R b:Nat)(T:List aa)(V dp:Nat)(N:List Nat)(es:List (aa×aa))(As Tr:List (Nat×Nat))(tr:Nat)(σ:AH):Prop where
tb:Tb A b T σ
c0:σ[R]?=D (.bj 7 (lR A R V dp tr))c1:σ[R+1]?=D (.dict [(.int 3,.ref (R+8)),(.int 8,.ref (R+9))])c2:σ[R+2]?=D (.dict (eY As))c3:σ[R+3]?=D (.dict es)ct:σ[tr]?=D (.list (Tr.map bv))c6:σ[R+6]?=D (.bj 3 [(6,.ref (R+7))])c7:σ[R+7]?=D (.list (N.map eN))c8:σ[R+8]?=D (.bj 8 [])c9:σ[R+9]?=D (.bj 9 [])lo:A.az<R/\A.r<R/\A.ix<R/\A.bd<R
ht:tr=R+4\/R+9<tr
structure Fq(A:Ad)(R tr:Nat)(σ:AH)(jD:Nat)(au:AH):Prop where
keep:∀(i:Nat)o,σ[i]?=D o->i∉A.aP->(i<R\/(R+9<i/\i≠tr))->au[i]?=D o
tr:jD=tr\/σ.length<=jD
len:σ.length<=au.length
section
variable{R b b' dp vq V tr jD FV j:Nat}
theorem Fr.len(h:Fr O σ Z)(X:∀i∈O,i<Z.length):σ.length<=Z.length:=by
 rcases Zn σ.length with e|l;.rw[e];exact bP _
 .have U:σ.length-1<σ.length:=Nat.sub_lt l (fe 0);by_cases m:σ.length-1∈O;.exact Zo (X _ m)
  .exact Zo (bo.mp (h _ _ (dK U) m)).1
theorem Fq.rfl:Fq A R tr σ tr σ:=⟨fun _ _ h _ _=>h,.inl (Eq.refl tr),aE _⟩
theorem Fq.trans(h:Fq A R tr σ jD au)(h':Fq A R jD au FV yC):Fq A R tr σ FV yC where
keep i o a b c:=h'.keep i o (h.keep i o a b c) b (c.imp_right fun c=>⟨c.1,fun e=>by
 have:=(bo.mp a).1;rcases h.tr with q|q;.exact c.2 (e.trans q)
 .exact ae (iX this q) (fun r=>oX _ (e▸r))⟩);tr:=by
 have:=h.len;rcases h.tr with q|q<;>rcases h'.tr with q'|q';.exact .inl (q'.trans q)
 .exact .inr (bh this q')
 .exact .inr (bh q (gG q'.symm))
 .exact .inr (bh this q')
len:=bh h.len h'.len
theorem St.fr(h:St A R b T V dp N es X U tr σ)(J:Tb A b' T' au)(x:Fr A.aP σ au):St A R b' T' V dp N es X U tr au:=by
 have g:∀{i o},R<=i->σ[i]?=D o->au[i]?=D o:=fun{i o}l e=>x i o e fun m=>by
  have:=h.lo;rcases cc.mp m with e|m;.exact fj 0xb5422a5821ad02021003 rfl l this.2.1 e
  .exact fj 0xb5422a5821ad02021003 rfl l this.2.2.1 (aZ.mp m)
 have H:=h.ht;exact⟨J,g (aE R) h.c0,g (aB 188764160 rfl) h.c1,g (aB 222318592 rfl) h.c2,g (aB 255873024 rfl) h.c3,g (H.elim (fun Z=>aC 303487810981888 rfl Z) fun Z=>aC 753852695105536 rfl Z) h.ct,g (aB 356536320 rfl) h.c6,g (aB 390090752 rfl) h.c7,g (aB 423645184 rfl) h.c8,g (aB 457199616 rfl) h.c9,h.lo,h.ht⟩
theorem St.fq(h:Tb A b' T' au)(x:Fr A.aP σ au):Fq A R tr σ tr au:=⟨fun i o a b _=>x i o a b,.inl rfl,x.len fun i m=>by
rcases cc.mp m with rfl|m;.exact(bo.mp h.cr).1
.rw[aZ.mp m];exact(bo.mp h.cx).1⟩
theorem St.cm(h:St A R b T V dp N es Z X tr σ):St A R b T V dp N es Z X tr (σ++g):=h.fr h.tb.cm .new
theorem St.le(h:St A R b T V dp N es Z X tr σ)(l:b'<=b):St A R b' T V dp N es Z X tr σ:={h with tb:=h.tb.le l}
theorem Fq.cm(h:Fq A R tr σ jD Z):Fq A R tr σ jD (Z++g):=⟨fun i o a b c=>dt (h.keep i o a b c),h.tr,by rw[aT];exact bh h.len (b7 _ _)⟩
theorem qW(h:Tb A b T σ)(lo:A.az<R/\A.r<R/\A.ix<R/\A.bd<R)(Z:R<=j):Tb A b T (σ.set j x):=h.fr (O:=[j]) (Fr.rfl.set aV) (fun m=>by have:=aZ.mp m;exact fj 0xb5032b5420ad02121003 rfl lo.1 Z this) (fun m=>by have:=aZ.mp m;exact fj 0xb5032b5420ad02121003 rfl lo.2.2.2 Z this) (fun m=>by have:=aZ.mp m;exact fj 0xb5032b5420ad02121003 rfl lo.2.1 Z this) fun m=>by have:=aZ.mp m;exact fj 0xb5032b5420ad02121003 rfl lo.2.2.1 Z this
theorem Fq.aP(X:(R<=j/\j<=R+9)\/j=tr)(U:R<=j):Fq A R tr σ tr (σ.set j x):=⟨fun i o a _ c=>bl a fun e=>c.elim (fun c=>ae (e▸U) (xz.mpr c)) fun c=>X.elim (fun q=>ae (e▸q.2) (xz.mpr c.1)) fun q=>c.2 (e.symm.trans q),.inl (Eq.refl tr),by rw[oY];exact aE _⟩
theorem St.FW(h:St A R b T V dp N es X U tr σ):St A R b T V vq N es X U tr (σ.set R (.bj 7 (lR A R V vq tr))):=have:=h.ht;{h with tb:=qW h.tb h.lo (aE R),c0:=eV h.c0,c1:=bl h.c1 (aB 188764182 rfl),c2:=bl h.c2 (aB 222318614 rfl),c3:=bl h.c3 (aB 255873046 rfl),ct:=bl h.ct (this.elim (fun Z=>aC 303487810981910 rfl Z) fun Z=>aC 753852695105558 rfl Z),c6:=bl h.c6 (aB 356536342 rfl),c7:=bl h.c7 (aB 390090774 rfl),c8:=bl h.c8 (aB 423645206 rfl),c9:=bl h.c9 (aB 457199638 rfl)}
theorem St.vr(h:St A R b T V dp N es U X tr σ):St A R b T V dp N es vt X tr (σ.set (R+2) (.dict (eY vt))):=have:=h.ht;{h with tb:=qW h.tb h.lo (aB 222318592 rfl),c0:=bl h.c0 (aB 678035462 rfl),c1:=bl h.c1 (aB 193280475142 rfl),c2:=eV h.c2,c3:=bl h.c3 (aB 261999951894 rfl),ct:=bl h.ct (this.elim (fun Z=>aC 0x450150caa6a0016 rfl Z) fun Z=>aC 0xab680086a6a0016 rfl Z),c6:=bl h.c6 (aB 365079166998 rfl),c7:=bl h.c7 (aB 399438905366 rfl),c8:=bl h.c8 (aB 433798643734 rfl),c9:=bl h.c9 (aB 468158382102 rfl)}
theorem St.FX(h:St A R b T V dp N es U J tr σ):St A R b T V dp N Z U J tr (σ.set (R+3) (.dict Z)):=have:=h.ht;{h with tb:=qW h.tb h.lo (aB 255873024 rfl),c0:=bl h.c0 (aB 679084038 rfl),c1:=bl h.c1 (aB 193281523718 rfl),c2:=bl h.c2 (aB 227641262086 rfl),c3:=eV h.c3,ct:=bl h.ct (this.elim (fun X=>aC 0x450150caa7a0016 rfl X) fun X=>aC 0xab680086a7a0016 rfl X),c6:=bl h.c6 (aB 365080215574 rfl),c7:=bl h.c7 (aB 399439953942 rfl),c8:=bl h.c8 (aB 433799692310 rfl),c9:=bl h.c9 (aB 468159430678 rfl)}
theorem St.yZ(h:St A R b T V dp N es X U tr σ):St A R b T V dp N es X vv tr (σ.set tr (.list (vv.map bv))):=have:=h.ht;{h with tb:=qW h.tb h.lo (this.elim (fun Z=>aC 303487810981888 rfl Z) fun Z=>aC 753852695105536 rfl Z),c0:=bl h.c0 (this.elim (fun Z=>aC 304586248867846 rfl Z) fun Z=>aC 718702682755078 rfl Z),c1:=bl h.c1 (this.elim (fun Z=>aC 0x454140c8b505006 rfl Z) fun Z=>aC 0xa36a0084b505006 rfl Z),c2:=bl h.c2 (this.elim (fun Z=>aC 0x454140c8d505006 rfl Z) fun Z=>aC 0xa36a0084d505006 rfl Z),c3:=bl h.c3 (this.elim (fun Z=>aC 0x454140c8f505006 rfl Z) fun Z=>aC 0xa36a0084f505006 rfl Z),ct:=eV h.ct,c6:=bl h.c6 (this.elim (fun Z=>aC 0x454140895505016 rfl Z) fun Z=>aC 0xa36a00855505006 rfl Z),c7:=bl h.c7 (this.elim (fun Z=>aC 0x454140897505016 rfl Z) fun Z=>aC 0xa36a00857505006 rfl Z),c8:=bl h.c8 (this.elim (fun Z=>aC 0x454140899505016 rfl Z) fun Z=>aC 0xa36a00859505006 rfl Z),c9:=bl h.c9 (this.elim (fun Z=>aC 0x45414089b505016 rfl Z) fun Z=>aC 0xa36a0085b505006 rfl Z)}
theorem St.y5(h:St A R b T V dp N es X U tr σ):St A R b T V dp J es X U tr (σ.set (R+7) (.list (J.map eN))):=have:=h.ht;{h with tb:=qW h.tb h.lo (aB 390090752 rfl),c0:=bl h.c0 (aB 683278342 rfl),c1:=bl h.c1 (aB 193285718022 rfl),c2:=bl h.c2 (aB 227645456390 rfl),c3:=bl h.c3 (aB 262005194758 rfl),ct:=bl h.ct (this.elim (fun Z=>aC 0x4501508aaba0006 rfl Z) fun Z=>aC 0xab680086aba0016 rfl Z),c6:=bl h.c6 (aB 365084409862 rfl),c7:=eV h.c7,c8:=bl h.c8 (aB 433803886614 rfl),c9:=bl h.c9 (aB 468163624982 rfl)}
theorem St.PY(h:St A R b T V dp N es U H tr σ):St A R b T V dp N es U [] σ.length ((σ++[AO.list []]).set R (.bj 7 (lR A R V dp σ.length))):=have X:=(bo.mp h.c9).1;have h:=h.cm (g:=[AO.list []]);{h with tb:=qW h.tb h.lo (aE R),c0:=eV h.c0,c1:=bl h.c1 (aB 188764182 rfl),c2:=bl h.c2 (aB 222318614 rfl),c3:=bl h.c3 (aB 255873046 rfl),ct:=bl (aR) (aC 753852695105558 rfl X),c6:=bl h.c6 (aB 356536342 rfl),c7:=bl h.c7 (aB 390090774 rfl),c8:=bl h.c8 (aB 423645206 rfl),c9:=bl h.c9 (aB 457199638 rfl),ht:=.inr X}
theorem St.eZ(h:St A R b T V dp N es Z X tr σ):eU WD σ (.ref R) 34=D (.int V):=fK h.c0 rfl rfl
theorem St.cQ(h:St A R b T V dp N es Z X tr σ):eU WD σ (.ref R) 35=D (.ref A.bd):=fK h.c0 rfl rfl
theorem St.om(h:St A R b T V dp N es X U tr σ){p:aa->Prop}(Z:p (.ref A.az)):gO (eU WD σ (.ref R) 35) fun y=>gO (eU WD σ y 20) p:=o h.cQ (o h.tb.az Z)
theorem St.eC(h:St A R b T V dp N es X U tr σ){t:Nat}{p:aa->Prop}(e:T[t]?=D d)(Z:p d):gO (eU WD σ (.ref R) 35) fun y=>gO (eU WD σ y 20) fun y=>gO (eU WD σ y 6) fun y=>gO (cY σ y (.int t)) p:=h.om (h.tb.eC e Z)
theorem St.qX(h:St A R b T V dp N es Z X tr σ):eU WD σ (.ref R) 33=D (.ref (R+1)):=fK h.c0 rfl rfl
theorem St.qY(h:St A R b T V dp N es Z X tr σ):eU WD σ (.ref R) 32=D (.ref (R+2)):=fK h.c0 rfl rfl
theorem St.qZ(h:St A R b T V dp N es Z X tr σ):eU WD σ (.ref R) 31=D (.ref (R+3)):=fK h.c0 rfl rfl
theorem St.on(h:St A R b T V dp N es Z X tr σ):eU WD σ (.ref R) 30=D (.ref tr):=fK h.c0 rfl rfl
theorem St.y6(h:St A R b T V dp N es Z X tr σ):eU WD σ (.ref R) 19=D (.int dp):=fK h.c0 rfl rfl
theorem St.mT(h:St A R b T V dp N es Z X tr σ):eU WD σ (.ref R) 28=D (.ref (R+6)):=fK h.c0 rfl rfl
theorem St.pF(h:St A R b T V dp N es Z X tr σ):eU WD σ (.ref (R+6)) 6=D (.ref (R+7)):=fK h.c6 rfl rfl
end
section
theorem St.pos(h:St A R b T V Z N es X U tr σ):0<R:=by have:=h.lo;exact aC 709778608129 rfl this.2.2.2
theorem FY{c:Nat}(h:St A R b T V X N es U J tr σ)(H:N.length<av)(Q:∀Z,St A R b T V X (N++[c]) es U J tr Z->Fq A R tr σ tr Z->k .none Z):dr WD (CW (n+2)) 40 R σ σ [.int c] k:=by
 have O:=h.pos;apply o h.c0;refine⟨rfl,?_⟩;refine NR ?_;apply o (fK h.c0 rfl rfl);apply o h.mT;apply o (fK h.c0 rfl rfl);apply o h.c6;refine⟨rfl,?_⟩;refine Nj ?_;apply o h.pF;apply o h.c7;apply o (ez h.c7);apply p (gz (v:=eN c) (by rw[aJ];exact H) (aB 146407430 rfl));have e:N.map eN++[eN c]=(N++[c]).map eN:=by rw[g8];rfl
 rw[e];exact Q _ h.y5 (.aP (.inl (⟨aB 390090752 rfl,aB 468163624960 rfl⟩)) (aB 390090752 rfl))
theorem y7(h:St A R b T V X N es U J tr σ)(Z:N.length<av):iJ .len σ [.ref (R+7)]=D (.int N.length,σ):=(du h.c7 (by rw[aJ];exact Z)).trans (by rw[aJ])
theorem y8(h:St A R b T V U N es J Z tr σ)(X:Z.length<av):iJ .len σ [.ref tr]=D (.int Z.length,σ):=(du h.ct (by rw[aJ];exact X)).trans (by rw[aJ])
theorem vw(h:St A R b T V H N es Q Z tr σ)(X:N.length<av)(U:Z.length<av)(J:k (.ab [.int N.length,.int Z.length]) σ):dr WD (CW (n+1)) 39 R σ σ [] k:=by apply o h.c0;refine⟨rfl,?_⟩;refine NS ?_;apply o h.mT;apply o h.pF;apply p (y7 h X);apply o h.on;apply p (y8 h U);exact J
theorem vx(h:bv a=bv b):a=b:=BK (tn h 0 rfl rfl) (tn h 1 rfl rfl)
theorem sX:dc (eY l) (bv x)=true:=by unfold dc eY;rw[KO];exact eK.mpr ⟨rfl,fQ.mpr fun _ _=>rfl⟩
theorem y9:∀{l:List (Nat×Nat)}{x:Nat×Nat},(b9 (eY l) (bv x)).isSome=decide (x∈l):=by intro l;induction l with|nil=>intro x;rw[bQ (nomatch·)];rfl|cons y r Z=>
intro x;show(if bv y=bv x then D (aa.int 1)else b9 (eY r) (bv x)).isSome=_;by_cases e:y=x;.rw[af (aI bv e),aN (e▸aV)];rfl
.rw[am fun q=>e (vx q),Z];exact iG.mpr ⟨cH _,fun q=>(cc.mp q).elim (fun q=>ae q.symm e) id⟩
theorem FZ:∀{l:List (Nat×Nat)}{x:Nat×Nat},x∉l->eR (eY l) (bv x) (.int 1)=eY (l++[x]):=by intro l;induction l with|nil=>intro x _;exact rfl|cons y r Z=>intro x h;show(if bv y=bv x then _ else(bv y,aa.int 1)::eR (eY r) (bv x) (.int 1))=_;rw[am (fun q=>h (by rw[vx q];exact aV)),Z fun q=>h (cH _ q)];rfl
theorem PZ:∀{l r:List (Nat×Nat)}{x:Nat×Nat},x∉l->o8 (eY (l++x::r)) (bv x)=eY (l++r):=by intro l;induction l with|nil=>intro r x _;exact af rfl|cons y l Z=>intro r x h;show(if bv y=bv x then _ else(bv y,aa.int 1)::o8 (eY (l++x::r)) (bv x))=_;rw[am (fun q=>h (by rw[vx q];exact aV)),Z fun q=>h (cH _ q)];rfl
theorem F0(h:σ[j]?=D (.dict (eY (l++x::r))))(O:x∉l)(E:(l++x::r).length<av)(C:j≠0):uX σ j (bv x)=D (σ.set j (.dict (eY (l++r)))):=by show(match σ[j]? with|some (.dict es)=>_|_=>I)=_;rw[h];show(if(dc (eY _) (bv x)&&cg (bv x)==2&&(b9 (eY _) (bv x)).isSome&&decide ((eY _).length<av)&&j !=0)=Y then _ else _)=_;rw[sX,y9,aN (jP _ aV),PZ O,af];unfold eY;rw[aJ,aN E,fx.mpr C];rfl
theorem za(al:Nat->Lc->AH->Prop)(X:∀m lc σ(K:Kn),al (m+1) lc σ->(∀lc σ,al m lc σ->K lc σ)->t lc σ fun c σ=>br c (Z lc σ K) (kn lc σ))(U:∀lc σ(K:Kn),al 0 lc σ->t lc σ fun c σ=>br c (Z lc σ K) (kn lc σ)):∀{m:Nat}{lc:Lc}{σ:AH},al m lc σ->qG t Z (m+1) lc σ kn:=by intro m;induction m with|zero=>intro lc σ h;exact U lc σ _ h|succ m J=>intro lc σ h;exact X m lc σ _ h fun lc σ h=>J h
theorem F1(h:St A R b T V j (N++C) es (U++J) (U++J) tr σ)(nd:(U++J).Nodup)(M:(N++C).length<av)(H:(U++J).length<av)(r:∀Z,St A R b T V j N es U U tr Z->Fq A R tr σ tr Z->k .none Z):CW (n+1) 81 [.ref R,.ab [.int N.length,.int U.length]] σ k:=by
 have w:=h.pos;have E:=h.ht;have L:N.length<av:=by rw[aT]at M;exact aC 94145717817345 rfl M
 refine NU ?_;apply o h.mT;apply o h.pF;have e:(N++C).take N.length=N:=List.take_left;apply o (show pe σ (R+7) (.int N.length)=D (σ.set (R+7) (.list (N.map eN)))by show(match σ[R+7]? with|some (.list xs)=>_|_=>I)=_;rw[h.c7];show(if(decide ((0:Int)<=N.length)&&small N.length&&decide (((N++C).map eN).length<av)&&R+7 !=0)=Y then _ else _)=_;rw[jx L,aJ,aN M,aN (by exact aB 659464 rfl),af (by rw[fx.mpr (by exact aB 146407430 rfl)];rfl),ie,<-Zp,e]);refine⟨J.length+1,za (fun m lc Z=>∃J,A6 (J.length=m) (lc=[D (.ref R),D (.ab [.int N.length,.int U.length])]) (St A R b T V j N es (U++J) (U++J) tr Z) ((U++J).Nodup) ((U++J).length<av) (Fq A R tr σ tr Z)) ?_ ?_ ⟨J,rfl,rfl,h.y5,nd,H,.aP (.inl (⟨aB 390090752 rfl,aB 468163624960 rfl⟩)) (aB 390090752 rfl)⟩⟩
 .rintro m lc Z K⟨J,Q,rfl,h,nd,H,g⟩u;apply o h.on;apply p (y8 h H);refine bD (fun _=>?_) fun q=>ae (show(U.length:Int)<(U++J).length by rw[aT];exact c5 0x2d8150cab405009 rfl Q) q;obtain⟨X,x,rfl⟩:E2 fun X x=>J=X++[x]:=⟨J.dropLast,J.getLast (by intro e;rw[e]at Q;cases Q),(BO _).symm⟩;rw[<-dx]at h nd H;apply o h.qY;apply o h.on;apply o h.ct;apply o (ez h.ct);have e1:((U++X)++[x]).map bv=(U++X).map bv++[bv x]:=by rw[g8];rfl
  apply p (show qF 2 tr (((U++X)++[x]).map bv) Z []=D (bv x,Z.set tr (.list ((U++X).map bv)))by show(match(((U++X)++[x]).map bv).getLast? with|some v=>_|none=>I)=_;rw[aJ,e1,List.getLast?_concat];show(if(decide (((U++X)++[x]).length<av)&&tr !=0)=Y then _ else _)=_;rw[aN H,af (by rw[fx.mpr (E.elim (fun O=>aC 304586248310790 rfl O) fun O=>aC 718702682198022 rfl O)];rfl),Zq]);have d:=h.yZ (vv:=U++X);apply o (F0 d.c2 (fun q=>(oW.mp nd).2.2 x q x aV rfl) H (aB 141164550 rfl));rw[bK];exact u _ _ ⟨X,by rw[aT]at Q;simpa using Q,rfl,d.vr,(oW.mp nd).1,by rw[aT]at H;exact ax 77828518289952769 rfl H,(g.trans (.aP (.inr rfl) (E.elim (fun O=>aC 303487810981888 rfl O) fun O=>aC 753852695105536 rfl O))).trans (.aP (.inl (⟨aB 222318592 rfl,aB 468158382080 rfl⟩)) (aB 222318592 rfl))⟩
 .rintro lc Z K⟨J,Q,rfl,h,nd,H,g⟩;have:=nH Q;subst this;rw[bK]at h nd H;apply o h.on;apply p (y8 h H);refine bD (fun q=>ae q (Int.lt_irrefl _)) fun _=>?_;exact r _ h g
end
mutual noncomputable def cK:Kd->Nat|.mk _ s=>F3 s noncomputable def F3:Option (jy Kd)->Nat|none=>0|some s=>jE s+1 noncomputable def jE:jy Kd->Nat|⟨ps,_,_,res,_,_⟩=>max (sY ps) (cK res)noncomputable def sY:List (Kd×Bool)->Nat|[]=>0|k::r=>max (P0 k) (sY r)noncomputable def P0:Kd×Bool->Nat|(k,_)=>cK k end
noncomputable def ak(V:Nat)(a b:Kd):Int:=vf V 3 a b
noncomputable def cV(v:Int):List Nat:=(if v.toNat.testBit 0=Y then[1]else[])++((if v.toNat.testBit 1=Y then[2]else[])++(if v.toNat.testBit 2=Y then[11]else[]))
structure cB(V:Nat)(T:List aa)(key:Nat×Nat)(K1 K2:Kd)(c:Bool)(n:Nat):Prop where
le:n<=2
w1:aS V n K1
w2:aS V n K2
r1:KR c T K1 key.1
r2:KR (!c) T K2 key.2
noncomputable def vz(d:aa):Bool:=match d with|.ab l=>decide (l=[.int 6,l.getD 1 .none])|.none=>ai|.bool _=>ai|.int _=>ai|.str _=>ai|.ref _=>ai
theorem P1:vz d=Y↔∃x,d=.ab [.int 6,x]:=by induction d using aa.casesOn with|ab l=>exact⟨fun h=>⟨_,aI aa.ab (cJ h)⟩,fun⟨x,e⟩=>by cases e;exact aN rfl⟩|_=>exact⟨nofun,nofun⟩
noncomputable def uT(T:List aa)(t:Nat):Nat:=if T[t]?.any vz=Y then 1 else 0
noncomputable def eE(T:List aa)(key:Nat×Nat)(K1 K2:Kd):Nat:=4*(cK K1+cK K2)+uT T key.1+uT T key.2
def oo(V:Nat)(v:Int)(L:List Nat):Prop:=V=1->∀x∈cV v,x∈L
def j7(T:List aa)(V:Nat)(es:List (aa×aa)):Prop:=∀e∈es,E6 fun key v K1 K2 c n=>A4 (e=(bv key,.bool v)) (cB V T key K1 K2 c n) (v=decide (0<=ak V K1 K2)) (v=Y->oo V (ak V K1 K2) [])
def j8(T:List aa)(V m:Nat)(L:List Nat)(Z:List (Nat×Nat)):Prop:=∀key∈Z,E4 fun K1 K2 c n=>cB V T key K1 K2 c n/\(m<=eE T key K1 K2\/(0<=ak V K1 K2/\oo V (ak V K1 K2) L))
def mU(T:List aa)(V:Nat)(L:List Nat)(Z:List (Nat×Nat)):Prop:=∀key∈Z,E4 fun K1 K2 c n=>A3 (cB V T key K1 K2 c n) (0<=ak V K1 K2) (oo V (ak V K1 K2) L)
structure Rs where
T:List aa
N:List Nat
es:List (aa×aa)Tr:List (Nat×Nat)tr:Nat
σ:AH
structure Iv(A:Ad)(R W V b dp m b0:Nat)(S:Rs):Prop where
st:St A R b S.T V dp S.N S.es S.Tr S.Tr S.tr S.σ
lN:S.N.length+b<av
lK:S.es.length+S.Tr.length+b<W
wl:W<=av
nd:S.Tr.Nodup
kn:j7 S.T V S.es
tk:j8 S.T V m (S.N.drop b0) S.Tr
b0:b0<=S.N.length
dp:dp+m<=60
structure Pw(A:Ad)(R W V b dp m b0:Nat)(v:Int)(S S':Rs):Prop where
iv:Iv A R W V b dp m b0 S'
pre:S.T<+:S'.T
fq:Fq A R S.tr S.σ S'.tr S'.σ
out:E2 fun ja j9=>A5 (S'.N=S.N++ja) (S'.Tr=S.Tr++j9) (S.Tr=[]->j9=[]) (mU S'.T V (S'.N.drop b0) j9) (0<=v->V=1->(∀x∈ja,x∈cV v)/\∀x∈cV v,x∈S'.N.drop b0)
structure Pq(A:Ad)(R W V b dp m b0:Nat)(v:Int)(S S':Rs):Prop extends Pw A R W V b dp m b0 v S S' where cl:v<0->S'.N=S.N/\S'.Tr=S.Tr
section
variable{R W V b b' dp m b0:Nat}
theorem cB.aq(h:T<+:T')(x:cB V T key K1 K2 c n):cB V T' key K1 K2 c n:={x with r1:=x.r1.aq h,r2:=x.r2.aq h}
theorem cB.cU(x:cB V T key K1 K2 c n)(y:cB V T key Z sZ X U):K1=Z/\K2=sZ:=⟨(KR.cU (x.w1.aq x.le) (y.w1.aq y.le) x.r1 y.r1).1,(KR.cU (x.w2.aq x.le) (y.w2.aq y.le) x.r2 y.r2).1⟩
theorem oo.aq(h:∀x∈L,x∈L')(x:oo V v L):oo V v L':=fun e y Z=>h y (x e y Z)
theorem j7.aq(h:T<+:T')(x:j7 T V es):j7 T' V es:=fun e Z=>(by obtain⟨key,v,K1,K2,c,n,a,b,d,X⟩:=x e Z;exact⟨key,v,K1,K2,c,n,a,b.aq h,d,X⟩)
theorem mU.aq(h:T<+:T')(Z:∀x∈L,x∈X)(x:mU T V L Tr):mU T' V X Tr:=fun e U=>(by obtain⟨K1,K2,c,n,a,b,d⟩:=x e U;exact⟨K1,K2,c,n,a.aq h,b,d.aq Z⟩)
theorem ka(h:T<+:T')(Z:t<T.length):uT T' t=uT T t:=by unfold uT;rw[bV h (List.getElem?_eq_getElem Z),List.getElem?_eq_getElem Z]
theorem j8.aq(Z:cG<+:T)(h:T<+:T')(X:∀x∈L,x∈U)(x:j8 T V m L Tr):j8 T' V m U Tr:=fun e J=>(by obtain⟨K1,K2,c,n,a,b⟩:=x e J;exact⟨K1,K2,c,n,a.aq h,by unfold eE;rw[ka h (a.r1.gR Z),ka h (a.r2.gR Z)];exact b.imp_right fun d=>⟨d.1,d.2.aq X⟩⟩)
theorem j8.P2(h:m'<=m)(x:j8 T V m L Tr):j8 T V m' L Tr:=fun e Z=>let⟨K1,K2,c,n,a,b⟩:=x e Z;⟨K1,K2,c,n,a,b.imp_left (bh h)⟩
theorem mU.ok(x:mU T V L Tr):j8 T V m L Tr:=fun e Z=>let⟨K1,K2,c,n,a,b,d⟩:=x e Z;⟨K1,K2,c,n,a,.inr ⟨b,d⟩⟩
theorem Iv.le(h:Iv A R W V b dp m b0 S)(l:b'<=b):Iv A R W V b' dp m b0 S:={h with st:=h.st.le l,lN:=by have:=h.lN;exact pn 0x15a80086d508055a0001 rfl l this,lK:=by have:=h.lK;exact sD 0xbe2b400021c5820bdab400001 rfl l this}
theorem Iv.lS(h:Iv A R W V b dp m b0 S):S.N.length<av:=by have:=h.lN;exact aC 94145717817345 rfl this
theorem Iv.pG(h:Iv A R W V b dp m b0 S):S.Tr.length<av:=dL (bh (KT _ _) (b7 _ _)) (iX h.lK h.wl)
theorem Iv.az(h:Iv A R W V b dp m b0 S)(l:b'<=b)(U:Tb A b' T' Z)(X:S.T<+:T')(J:Fr A.aP S.σ Z):Iv A R W V b' dp m b0 ⟨T',S.N,S.es,S.Tr,S.tr,Z⟩where st:=h.st.fr U J;lN:=(h.le l).lN;lK:=(h.le l).lK;wl:=h.wl;nd:=h.nd;kn:=h.kn.aq X;tk:=h.tk.aq h.st.tb.base X fun _ x=>x;b0:=h.b0;dp:=h.dp
theorem Pw.refl(h:Iv A R W V b dp m b0 S)(J:0<=v->oo V v (S.N.drop b0)):Pw A R W V b dp m b0 v S S:=⟨h,df _,.rfl,[],[],(bK _).symm,(bK _).symm,fun _=>rfl,fun _ q=>(nomatch q),fun q e=>⟨fun _ q=>(nomatch q),J q e⟩⟩
theorem Pw.F4(X:S.T<+:T')(U:Fq A R S.tr S.σ S.tr Z)(h:Pw A R W V b dp m b0 v ⟨T',S.N,S.es,S.Tr,S.tr,Z⟩ s0):Pw A R W V b dp m b0 v S s0:=⟨h.iv,X.trans h.pre,U.trans h.fq,h.out⟩
theorem F5:∀{es:List (aa×aa)}{k v:aa},b9 es k=D v->(k,v)∈es
|(Z,X)::r,k,v,h=>by
 change(if Z=k then D X else b9 r k)=D v at h;by_cases e:Z=k;.rw[af e]at h;cases h;rw[e];exact aV
 .rw[am e]at h;exact cH _ (F5 h)
theorem F6:∀{es:List (aa×aa)}{k v:aa},∀e∈eR es k v,e∈es\/e=(k,v):=by intro es;induction es with|nil=>intro k v e h;exact .inr (aZ.mp h)|cons X r U=>
obtain⟨Z,J⟩:=X;intro k v e h;change e∈(if Z=k then(Z,v)::r else(Z,J)::eR r k v)at h;by_cases q:Z=k;.rw[af q]at h;exact(cc.mp h).elim (fun h=>.inr (by rw[h,q])) fun h=>.inl (cH _ h)
.rw[am q]at h;exact(cc.mp h).elim (fun h=>.inl (h▸aV)) fun h=>(U e h).imp_left (cH _)
theorem F7:∀{es:List (aa×aa)}{k v:aa},(eR es k v).length<=es.length+1:=by intro es;induction es with|nil=>intro k v;exact aE 1|cons X r U=>
obtain⟨Z,J⟩:=X;intro k v;show(if Z=k then(Z,v)::r else(Z,J)::eR r k v).length<=_;by_cases q:Z=k;.rw[af q];exact dg _
.rw[am q];exact mj U
theorem j7.ok(h:j7 T V es):dc es (bv key)=true:=by unfold dc;refine eK.mpr ⟨rfl,fQ.mpr fun e X=>?_⟩;obtain⟨Z,v,_,_,_,_,rfl,_⟩:=h e X;rfl
end
section
theorem P3(h:St A R b T V m N es Tr Tr tr σ)(nd:Tr.Nodup)(t:∀e∈es,cg e.1=2)(M:es.length+Tr.length<av)(s:∀Z Q X,St A R b T V m N Z [] [] Q X->Fq A R tr σ Q X->(∀e∈Z,e∈es\/(cl=Y/\∃key∈Tr,e=(bv key,.bool Y)))->Z.length<=es.length+Tr.length->k .none X):CW (n+1) 85 [.ref R,.bool cl] σ k:=by
 have hp:=h.pos;have mV:=h.ht;refine NW ?_;apply o h.on;apply o (kL h.ct (by rw[aJ];exact aC 93080565927937 rfl M));refine j4 (fun r lc X=>E4 fun j Z d q=>A7 (r=q.map bv) (Tr=d++q) (lc=[D (.ref R),D (.bool cl),j]) (St A R b T V m N Z q Tr tr X) (Fq A R tr σ tr X) (∀e∈Z,e∈es\/(cl=Y/\∃key∈Tr,e=(bv key,.bool Y))) (Z.length<=es.length+d.length)) ?_ ?_ ?_ ⟨I,es,[],Tr,rfl,rfl,rfl,h,.rfl,fun _=>.inl,aE _⟩;.rintro r lc X⟨_,_,_,_,_,_,_,h,_⟩;exact h.ct
 .clear h nd M;rintro lc X⟨j,Z,d,q,L,rfl,rfl,h,O,U,J⟩;induction q using eQ with|cons=>cases L|nil=>apply o (vc (v:=.ref X.length) (dt h.c0) rfl (ax 691524489222 rfl hp));exact s Z _ _ h.PY ⟨fun i o a b c=>bl (dt (O.keep i o a b c)) (c.elim (fun u=>aC 709778657286 rfl u) fun u=>aC 753852695105558 rfl u.1),.inr O.len,by rw[oY,aT];have:=O.len;exact aC 0xad0202901505000 rfl this⟩ U (by rw[bK];exact J)
 .rintro x r lc X K⟨j,Z,d,q,L,H,rfl,h,O,U,J⟩f;rcases q with _|⟨y,q⟩;.cases L
  cases L;have z:(y::q).length+d.length=Tr.length:=by rw[H,aT];exact bA 0x2d015054b400002 rfl
  have E:=z;rw[iF]at E;apply o h.qY;apply o (F0 (l:=[]) (r:=q) (x:=y) h.c2 (nomatch·) (by rw[xA];exact oa 0xb5cb40002215aa008445a0001 rfl M z) (aB 141164550 rfl));have g:=h.vr (vt:=q);have C:Fq A R tr σ tr (X.set (R+2) (.dict (eY q))):=O.trans (.aP (.inl (⟨aB 222318592 rfl,aB 468158382080 rfl⟩)) (aB 222318592 rfl));have hy:y∈Tr:=by rw[H];exact jP _ aV
  rcases cl with _|_;.exact f _ _ ⟨_,Z,d++[y],q,rfl,by rw[H,dx];rfl,rfl,g,C,U,by rw[aT];exact c5 0xb5414080a40581505000 rfl J⟩
  apply o g.qZ;have w:dc Z (bv y)=true:=eK.mpr ⟨rfl,fQ.mpr fun e H=>by
  rcases U e H with q|⟨_,key,_,rfl⟩;.rw[t e q];rfl
  .rfl⟩;apply o (mN (v:=.bool Y) g.c3 w (mM 0xb5cb800022bd41408056a802115001 rfl M J E) (aB 142213126 rfl));exact f _ _ ⟨_,eR Z (bv y) (.bool Y),d++[y],q,rfl,by rw[H,dx];rfl,rfl,g.FX,C.trans (.aP (.inl (⟨aB 255873024 rfl,aB 468159430656 rfl⟩)) (aB 255873024 rfl)),fun e H=>(F6 e H).elim (U e) fun q=>.inr ⟨rfl,y,hy,q⟩,by have:=F7 (es:=Z) (k:=bv y) (v:=.bool Y);rw[aT,qh];exact oa 0x2dc14082d505c202d81505000 rfl J this⟩
theorem j7.k2(h:j7 T V es):∀e∈es,cg e.1=2:=fun e Q=>by obtain⟨key,v,_,_,_,_,rfl,_⟩:=h e Q;rfl
theorem P4(h:Iv A R W V (b+b'+1) dp m b0 S)(ht:cB V S.T (s,t) K1 K2 c n')(hr:eE S.T (s,t) K1 K2<m)(q6:∀S1 F8 k',Iv A R W V (b+b') (dp+1) (eE S1.T (s,t) K1 K2) F8 S1->cB V S1.T (s,t) K1 K2 c n'->S1.T=S.T->(∀S2,Pw A R W V b (dp+1) (eE S1.T (s,t) K1 K2) F8 (ak V K1 K2) S1 S2->k' (.bool (decide (0<=ak V K1 K2))) S2.σ)->CW (n+2) (if V=3 then 98 else 92) [.ref R,.int s,.int t] S1.σ k')(E:∀S',Pq A R W V b dp m b0 (ak V K1 K2) S S'->k (.bool (decide (0<=ak V K1 K2))) S'.σ):CW (n+3) 84 [.ref R,.int s,.int t] S.σ k:=by obtain⟨T,N,es,Tr,tr,σ⟩:=S;have hp:=h.st.pos;have mV:tr=R+4\/R+9<tr:=h.st.ht;have hr:eE T (s,t) K1 K2<m:=hr;have wl:W<=av:=h.wl;have lK:es.length+Tr.length+(b+b'+1)<W:=h.lK;have lN:N.length+(b+b'+1)<av:=h.lN;have st:St A R (b+b'+1) T V dp N es Tr Tr tr σ:=h.st;have F9:=h.dp;have K:b0<=N.length:=h.b0;refine NV ?_;apply o st.qZ;have J:=h.kn.ok (key:=(s,t));apply o (pp st.c3 J);induction hl:b9 es (bv (s,t))using cM with|some d=>obtain⟨key,v,zb,sZ,c',P5,e1,e2,e3,e4⟩:=h.kn _ (F5 hl);injection e1 with e5 e6;have e5:=vx e5;subst e5 e6;obtain⟨rfl,rfl⟩:=ht.cU e2;subst e3;apply o st.qZ;apply o ((Fg st.c3 J rfl).trans hl);exact E _ ⟨.refl (h.le (bA 195018379264 rfl)) fun L=>(e4 (aN L)).aq fun x(q:x∈[])=>ae q bJ,fun _=>⟨rfl,rfl⟩⟩|none=>
 apply o st.qY;apply o (pp st.c2 (sX (x:=(s,t))));rw[y9];refine bE (fun hm=>?_) fun hm=>?_
 .refine cps fun P hP=>?_;obtain⟨zb,sZ,c',P5,e1,e2⟩:=h.tk _ hm;obtain⟨rfl,rfl⟩:=ht.cU e1;refine hP ?_;rcases e2 with e2|⟨e2,e3⟩;.exact ae (iX hr e2) (oX _)
  .have:=E _ ⟨.refl (h.le (bA 195018379264 rfl)) fun _=>e3,fun q=>ae q (ii.mpr e2)⟩;rw[aN e2]at this;exact this
 have hm:(s,t)∉Tr:=hm;apply o st.y6;refine bD (fun q=>ae (nD.mp q) (xz.mpr (iX (KM (Nat.zero_lt_of_lt hr)) F9))) fun _=>?_;apply vw st h.lS h.pG;apply o st.qY;apply o ((mN (v:=.int 1) st.c2 (sX (x:=(s,t))) (by unfold eY;rw[aJ];exact sD 0xa971700296000211542015001 rfl wl lK) (aB 141164550 rfl)).trans (by rw[FZ hm]));have s2:=st.vr (vt:=Tr++[(s,t)]);apply o s2.on;apply o s2.ct;apply o (ez s2.ct);have em:Tr.map bv++[bv (s,t)]=(Tr++[(s,t)]).map bv:=by rw[g8];rfl
 apply p ((gz (v:=bv (s,t)) (by rw[aJ];exact sD 0xa971700296000211542015001 rfl wl lK) (mV.elim (fun w3=>aC 304586248310790 rfl w3) fun w3=>aC 718702682198022 rfl w3)).trans (by rw[em]));have s3:=s2.yZ (vv:=Tr++[(s,t)]);apply o s3.y6;apply o (show pb WD _ (.ref R) 19 (.int ((dp:Int)+1))=D (((σ.set (R+2) (.dict (eY (Tr++[(s,t)])))).set tr (.list ((Tr++[(s,t)]).map bv))).set R (.bj 7 (lR A R V (dp+1) tr)))from vc s3.c0 rfl (ax 691524489222 rfl hp));have s4:=s3.FW (vq:=dp+1);have f4:=((Fq.aP (A:=A) (R:=R) (tr:=tr) (σ:=σ) (x:=.dict (eY (Tr++[(s,t)]))) (j:=R+2) (.inl (⟨aB 222318592 rfl,aB 468158382080 rfl⟩)) (aB 222318592 rfl)).trans (.aP (x:=.list ((Tr++[(s,t)]).map bv)) (j:=tr) (.inr rfl) (mV.elim (fun w3=>aC 303487810981888 rfl w3) fun w3=>aC 753852695105536 rfl w3))).trans (.aP (x:=.bj 7 (lR A R V (dp+1) tr)) (j:=R) (.inl (⟨aB 675840 rfl,aB 457199616 rfl⟩)) (aE R));generalize((σ.set (R+2) (.dict (eY (Tr++[(s,t)])))).set tr (.list ((Tr++[(s,t)]).map bv))).set R (.bj 7 (lR A R V (dp+1) tr))=jd at s4 f4;clear s2 s3;have Ga:(Tr++[(s,t)]).Nodup:=oW.mpr ⟨h.nd,fg.mpr ⟨bJ,jQ⟩,fun a ha b hb e=>hm (by rw[aZ.mp hb]at e;exact e▸ha)⟩;have l:(Tr++[(s,t)]).length=Tr.length+1:=by rw[aT];rfl
 obtain⟨b1,C,u⟩:∃b1,b1<=N.length/\((Tr=[]/\b1=N.length)\/(Tr≠[]/\b1=b0)):=by
  by_cases e:Tr=[];.exact⟨N.length,aE _,.inl ⟨e,rfl⟩⟩
  .exact⟨b0,K,.inr ⟨e,rfl⟩⟩
 have Gb:Iv A R W V (b+b') (dp+1) (eE T (s,t) K1 K2) b1 ⟨T,N,es,Tr++[(s,t)],tr,jd⟩:={
  st:=s4.le (bA 0xb5a0015a0000 rfl)
  lN:=by show N.length+(b+b')<av;exact c5 0x45b5400a002115aa0a0001 rfl lN
  lK:=by show es.length+(Tr++[(s,t)]).length+(b+b')<W;exact yB 0x2e41508b05bd800cd00008717b02b400001 rfl lK l
  wl:=wl
  nd:=Ga
  kn:=h.kn
  tk:=fun key P6=>by
   rcases dH.mp P6 with q|q
   .rcases u with⟨e,_⟩|⟨_,e⟩;.rw[e]at q;cases q
    .rw[e];exact h.tk.P2 (lk hr) key q
   .rw[aZ.mp q];exact⟨K1,K2,c,n',ht,.inl (aE _)⟩
  b0:=C
  dp:=bh (by rw[eL,nA 1];exact eP hr dp) F9};apply o s4.eZ;have hf:(if(V:Int)=3 then 98 else 92)=if V=3 then 98 else 92:=by
  by_cases q:V=3;.rw[af q,af (aI kt q)]
  .rw[am q,am fun e=>q (KN.mp e)]
 refine Nh (A:=fun f=>CW (n+2) f [.ref R,.int s,.int t] jd _) ?_;rw[hf];apply q6 ⟨T,N,es,Tr++[(s,t)],tr,jd⟩ b1 _ Gb ht rfl;rintro⟨T2,N2,oq,zc,U,fE⟩⟨i5,i,f5,Q,j9,rfl,rfl,_,M,O⟩;have i:T<+:T2:=i;have s5:St A R b T2 V (dp+1) (N++Q) oq ((Tr++[(s,t)])++j9) ((Tr++[(s,t)])++j9) U fE:=i5.st;have g:((Tr++[(s,t)])++j9).Nodup:=i5.nd;have w:(N++Q).length+b<av:=i5.lN;have H:oq.length+((Tr++[(s,t)])++j9).length+b<W:=i5.lK;have k5:j7 T2 V oq:=i5.kn;have y:=ht.aq i;have s8:cG<+:T:=h.st.tb.base;have M:mU T2 V ((N++Q).drop b1) j9:=M;rw[dx,List.singleton_append]at s5 g H;apply o s5.y6;have hz:(((dp+1:Nat):Int)-1)=dp:=pj dp;apply o (show pb WD fE (.ref R) 19 (.int (((dp+1:Nat):Int)-1))=D (fE.set R (.bj 7 (lR A R V dp U)))from(vc s5.c0 rfl (ax 691524489222 rfl hp)).trans (by rw[hz];rfl));have z:=s5.FW (vq:=dp);have f6:Fq A R tr σ U (fE.set R (.bj 7 (lR A R V dp U))):=(f4.trans (f5)).trans (.aP (.inl (⟨aB 675840 rfl,aB 457199616 rfl⟩)) (aE R));generalize fE.set R (.bj 7 (lR A R V dp U))=vA at z f6;have Z':=z.ht;by_cases L:0<=ak V K1 K2
 .obtain O:=O L;have X:V=1->(∀x∈Q,x∈cV (ak V K1 K2))/\∀x∈cV (ak V K1 K2),x∈(N++Q).drop b1:=O;rw[aN L]at E⊢;refine bD (fun e=>?_) fun e=>?_
  .have e:Tr=[]:=nH (ax 158957981698 rfl e);clear ht q6 lK st J hm em s4 Ga l Gb i5 s5 O;subst e;have C:b1=N.length:=u.elim (fun x=>x.2) fun x=>ae rfl x.1;subst C;rw[KU]at X M;apply o z.mT;apply o z.pF;apply p (y7 z (aC 94145717817345 rfl w));rw[xA]at z g H;apply P3 (cl:=decide (((N++Q).length:Int)=N.length)) z g k5.k2 (oa 0x2d72d4140002115820116a0a0001 rfl wl H);intro Z jD au s7 f7 he yX;have P7:decide (((N++Q).length:Int)=N.length)=Y->Q=[]:=fun e=>nH (by have:=cJ e;rw[aT]at this;exact aC 761583645118466 rfl this);have key:∀key∈(s,t)::j9,E4 fun K1 K2 c n=>A3 (cB V T2 key K1 K2 c n) (0<=ak V K1 K2) (oo V (ak V K1 K2) Q):=fun key E=>by
    rcases cc.mp E with rfl|E;.exact⟨K1,K2,c,n',y,L,fun q=>(X q).2⟩
    .exact M key E
   refine E ⟨T2,N++Q,Z,[],jD,au⟩ ⟨⟨⟨s7,w,by show Z.length+0+b<W;exact sD 0xb805c14082d52e01700021b549400001 rfl H yX,wl,jQ,fun e hq=>?_,fun _ q=>ae q bJ,by show b0<=(N++Q).length;rw[aT];exact c5 760897166397440 rfl K,h.dp⟩,i,f6.trans f7,Q,[],rfl,rfl,fun _=>rfl,fun _ q=>ae q bJ,fun _ q=>⟨(X q).1,fun x hx=>?_⟩⟩,fun q=>ae L (cX.mpr q)⟩
   .rcases he e hq with q|⟨P8,ky,J,rfl⟩;.exact k5 e q
    .obtain⟨zb,sZ,c',n2,a,b,d⟩:=key ky J;refine⟨ky,Y,zb,sZ,c',n2,rfl,a,(aN b).symm,fun _=>?_⟩;rw[P7 P8]at d;exact d
   .rw[show(Rs.mk T2 (N++Q) Z [] jD au).N.drop b0=(N++Q).drop b0 from rfl,xB K];exact jP _ ((X q).2 x hx)
  .have e:Tr≠[]:=fun q=>e (by rw[q];rfl);have C:b1=b0:=u.elim (fun x=>ae x.1 e) fun x=>x.2;clear u;subst C;refine E ⟨T2,N++Q,oq,Tr++(s,t)::j9,U,vA⟩ ⟨⟨⟨z,w,H,wl,g,k5,fun key J=>?_,by show b1<=(N++Q).length;rw[aT];exact c5 760897166397440 rfl C,h.dp⟩,i,f6,Q,(s,t)::j9,rfl,rfl,fun q=>ae q e,fun key J=>?_,fun _=>X⟩,fun q=>ae L (cX.mpr q)⟩
   .rcases dH.mp J with q|q;.refine h.tk.aq s8 i (fun x hx=>?_) key q;show x∈(N++Q).drop b1;rw[xB K];exact mi _ hx
    .clear J;rcases cc.mp q with rfl|q;.exact⟨K1,K2,c,n',y,.inr ⟨L,fun q=>(X q).2⟩⟩
     .exact M.ok key q
   .rcases cc.mp J with rfl|q;.exact⟨K1,K2,c,n',y,L,fun q=>(X q).2⟩
    .exact M key q
 .rw[bQ L]at E⊢;apply F1 z g (aC 94145717817345 rfl w) (oa 0xade96000211542015001 rfl wl H);intro ta s7 f7;have P9:∀{Z au},St A R b T2 V dp N Z Tr Tr U au->Z.length<=oq.length+1->j7 T2 V Z->Iv A R W V b dp m b0 ⟨T2,N,Z,Tr,U,au⟩:=fun{Z au}st hl E=>{
   st:=st
   lN:=by show N.length+b<av;exact c5 0x116d50028008455a0001 rfl lN
   lK:=by show Z.length+Tr.length+b<W;rw[aT,iF]at H;exact yB 0x2f62e41506000084b805020bdab400001 rfl hl H
   wl:=wl
   nd:=h.nd
   kn:=E
   tk:=h.tk.aq s8 i fun _ x=>x
   b0:=K
   dp:=h.dp};have r:∀{Z au},St A R b T2 V dp N Z Tr Tr U au->Z.length<=oq.length+1->j7 T2 V Z->Fq A R tr σ U au->k (.bool ai) au:=fun{Z au}st hl Qa hf=>E ⟨T2,N,Z,Tr,U,au⟩ ⟨⟨P9 st hl Qa,i,hf,[],[],(bK _).symm,(bK _).symm,fun _=>rfl,fun _ q=>ae q bJ,fun q=>ae q L⟩,fun _=>⟨rfl,rfl⟩⟩;have iS:E2 fun Z au=>A5 (i7 ta (R+3) (bv (s,t)) (.bool ai)=D au) (St A R b T2 V dp N Z Tr Tr U au) (Z.length<=oq.length+1) (j7 T2 V Z) (Fq A R tr σ U au):=by
   refine⟨eR oq (bv (s,t)) (.bool ai),_,mN s7.c3 k5.ok (oa 0xaded4000211542015001 rfl wl H) (aB 142213126 rfl),s7.FX,F7,fun e he=>?_,(f6.trans f7).trans (.aP (.inl (⟨aB 255873024 rfl,aB 468159430656 rfl⟩)) (aB 255873024 rfl))⟩;rcases F6 e he with q|rfl;.exact k5 e q
   .exact⟨(s,t),ai,K1,K2,c,n',rfl,y,(bQ L).symm,nofun⟩
  refine cps fun P hP=>?_;obtain⟨Z,au,e1,e2,e3,e4,e5⟩:=iS;refine hP ?_;refine bD (fun _=>?_) fun _=>?_;.apply o s7.qZ;apply o e1;exact r e2 e3 e4 e5
  .apply o s7.eZ;refine bN (bD (fun _=>?_) fun _=>?_);.exact r s7 (dg _) k5 (f6.trans f7)
   .apply o s7.qZ;apply o e1;exact r e2 e3 e4 e5
end
noncomputable def di(x:Nat):Nat:=match x with|13=>1|14=>13|15=>6|x=>gA x
noncomputable def ot(c:Nat):Nat:=match c with|0=>12|1=>11|2=>13|3=>10|4=>9|5=>8|6=>2|7=>5|_=>16
structure Co(T:List aa)(t x:Nat):Prop where
lt:x<16
row:∃r,T[t]?=D (.ab (.int (di x)::r))/\r.length<=7
id:∀c,(c<8\/c=10\/c=13)->(t=c↔x=ot c)lQ:x<13->At T t x
structure KC(x:Nat)(K:Kd):Prop where
a:x<13->K=.mk (2^x) I
n:x=13->K=.mk 0 I
s:x=14->∃y,K=.mk 0 (D y)u:x=15->K.m&&&6144=0/\K.m≠0/\(K.s=I->∀i,i<13->K.m≠2^i)
section
variable{R b dp V tr:Nat}{n s t x y:Nat}
theorem Co.eq(h:Co T t x)(c:Nat)(hz:z=(c:Int))(Q:c<8\/c=10\/c=13):((t:Int)=z)↔x=ot c:=by subst hz;exact Iff.trans ⟨dq,aI _⟩ (h.id c Q)
theorem bC(h:Co T t x)(c:Nat)(hz:z=(c:Int))(Z:c<8\/c=10\/c=13)(X:x=ot c->A)(U:x≠ot c->B):br (decide ((t:Int)=z)) A B:=bD (fun q=>X ((h.eq c hz Z).mp q)) fun q=>U fun e=>q ((h.eq c hz Z).mpr e)
noncomputable def vR:List aa:=[.int 1,.int 2,.int 3,.int 4,.int 5]
noncomputable def dR:List aa:=[.int 10,.int 14,.int 15,.int 16,.int 17,.int 18,.int 19]
theorem Qb:WD.mI 71=D (.ab dR):=rfl
theorem Qc:WD.mI 72=D (.ab (.int 6::.int 7::dR)):=rfl
theorem Qd:∀x,x<16->vR.contains (.int (di x))=decide (x<14):=by decide+kernel
theorem Gc:∀x,x<16->dR.contains (.int (di x))=false:=by decide+kernel
theorem Gd:∀x,x<16->(aa.int 6::.int 7::dR).contains (.int (di x))=decide (x=15):=by decide+kernel
theorem vC(h:l.all cf=Y):ip σ (.int z) (.ab l)=D (l.contains (.int z)):=af (show(cf (.int z)&&_)=Y by rw[h];rfl)
theorem Qe(h:x<16):ip σ (.int (di x)) (.ab dR)=D false:=(vC rfl).trans (aI D (Gc x h))
theorem Qf(h:x<16):ip σ (.int (di x)) (.ab (.int 6::.int 7::dR))=D (decide (x=15)):=(vC rfl).trans (aI D (Gd x h))
theorem Ge:∀{l:List Nat},(aY l).all cf=true:=by intro l;induction l with|nil=>exact rfl|cons _ l Z=>exact Z
theorem Qg:∀{l:List Nat}{z:Int},(aY l).contains (.int z)=decide (∃p:Nat,p∈l/\(p:Int)=z):=by intro l;induction l with|nil=>intro z;exact(bQ (by rintro⟨_,h,_⟩;exact nomatch h)).symm|cons p l Z=>
intro z;show(aa.int z==aa.int p||(aY l).contains (.int z))=_;rw[Z];by_cases e:(p:Int)=z;.rw[aN (⟨p,aV,e⟩:∃q:Nat,q∈p::l/\(q:Int)=z),aU.mpr (aI aa.int e.symm)];rfl
.rw[gm.mpr fun q=>e (aa.int.inj q).symm,KV];exact iG.mpr ⟨(by rintro⟨q,a,b⟩;exact⟨q,cH _ a,b⟩),(by rintro⟨q,a,b⟩;exact⟨q,(cc.mp a).resolve_left fun a=>e (a▸b),b⟩)⟩
theorem ou:ip σ (.int z) (.ab (aY l))=D (decide (∃p:Nat,p∈l/\(p:Int)=z)):=(vC Ge).trans (aI D Qg)
theorem Co.dh(h:Co T t x)(e:T[t]?=D d):cY σ d (.int 0)=D (.int (di x)):=by obtain⟨r,a,b⟩:=h.row;rw[a]at e;cases e;exact Mine.dh rfl b
theorem Co.iu(h:Co T t x):∃d,T[t]?=D d:=(by obtain⟨_,a,_⟩:=h.row;exact⟨_,a⟩)
noncomputable def dy(V x y:Nat):Int:=if y=12 then 1 else if x=13 then 1 else if x=12/\V=4 then 0 else if y=11 then 1 else if x=12 then(if y=13 then 0 else 2)else if x=11 then 0 else if y=13/\x≠15 then 0 else-1
theorem Qh{s:Option Sg}(X:cG<+:T)(U:PR T m l q)(J:dB c T s l q)(hz:z=11):¬∃p:Nat,p∈l/\(p:Int)=z:=by
 rintro⟨p,H,e⟩;have e:p=11:=KN.mp (e.trans hz);subst e;have:=bV X (show cG[11]?=D Fl from rfl);rcases U.all 11 H with⟨i,hi,f,_,e⟩|e;.rw[this]at e;have Z:=pA (i:=i) (f:=f);rw[<-b8 e]at Z;exact ae (show(8:Int)<6 from Z) (by decide)
 .obtain⟨_,_,_,_,e⟩:=dB.dY (T:=T) J 11 e;rw[this]at e;exact gQ (b8 e) rfl
theorem bM(c:Nat)(hz:a=(c:Int))(Z:V=c->A)(X:V≠c->B):br (decide ((V:Int)=a)) A B:=by subst hz;exact bD (fun q=>Z (dq q)) fun q=>X fun e=>q (aI _ e)
theorem Qi(h:St A R b T V dp N es v m tr σ)(f:N.length<av)(Z:Co T s x)(H:Co T t y)(i:KR c T K t)(X:∀r,dy V x y=r->r≠2->k (.int r) σ)(a:dy V x y=2->∀U,St A R b T V dp (N++[1]) es v m tr U->Fq A R tr σ tr U->k (.int 1) U):CW (n+3) 87 [.ref R,.int s,.int t] σ k:=by
 have O:∀{x:Nat},x<16->x≠16:=fun h e=>lh h e;refine ED ?_;refine bC H 0 rfl (.inl (by decide)) (fun q=>X 1 (af q) (by decide)) fun C=>?_;refine bC H 13 rfl (.inr (.inr rfl)) (fun q=>ae q (O H.lt)) fun _=>?_;have C:y≠12:=C;refine bC Z 2 rfl (.inl (by decide)) (fun q=>X 1 ((am C).trans (af q)) (by decide)) fun q1=>?_;refine bC Z 13 rfl (.inr (.inr rfl)) (fun q=>ae q (O Z.lt)) fun _=>?_;have e1:∀{r},(if x=12/\V=4 then 0 else if y=11 then 1 else if x=12 then(if y=13 then 0 else 2)else if x=11 then 0 else if y=13/\x≠15 then 0 else-1)=r->dy V x y=r:=fun e=>((am C).trans (am (q1))).trans e;by_cases Q:x=12
 .by_cases M:V=4;.refine bC Z 0 rfl (.inl (by decide)) (fun _=>?_) fun q=>ae Q q;apply o h.eZ;exact bM 4 rfl (fun _=>X 0 (e1 (af ⟨Q,M⟩)) (by decide)) fun q=>ae M q
  .refine bC Z 0 rfl (.inl (by decide)) (fun _=>?_) fun q=>ae Q q;apply o h.eZ;refine bM 4 rfl (fun q=>ae q M) fun _=>?_;have e2:∀{r},(if y=11 then 1 else if x=12 then(if y=13 then 0 else 2)else if x=11 then 0 else if y=13/\x≠15 then 0 else-1)=r->dy V x y=r:=fun e=>e1 ((am fun q=>M q.2).trans e);refine bC H 1 rfl (.inl (by decide)) (fun q=>X 1 (e2 (af q)) (by decide)) fun L=>?_;refine bC Z 0 rfl (.inl (by decide)) (fun _=>?_) fun q=>ae Q q;refine bC H 2 rfl (.inl (by decide)) (fun J=>X 0 (e2 ((am L).trans ((af Q).trans (af J)))) (by decide)) fun J=>?_;apply FY (c:=1) h f;intro U h' hf;exact a (e2 ((am L).trans ((af Q).trans (am J)))) U h' hf
 .refine bC Z 0 rfl (.inl (by decide)) (fun q=>ae q Q) fun _=>bf rfl ?_;have e2:∀{r},(if y=11 then 1 else if x=12 then(if y=13 then 0 else 2)else if x=11 then 0 else if y=13/\x≠15 then 0 else-1)=r->dy V x y=r:=fun e=>e1 ((am fun q=>Q q.1).trans e);refine bC H 1 rfl (.inl (by decide)) (fun q=>X 1 (e2 (af q)) (by decide)) fun L=>?_;refine bC Z 0 rfl (.inl (by decide)) (fun q=>ae q Q) fun _=>?_;have e3:∀{r},(if x=11 then 0 else if y=13/\x≠15 then 0 else-1)=r->dy V x y=r:=fun e=>e2 ((am L).trans ((am Q).trans e));obtain⟨d,u⟩:=H.iu;refine bC Z 1 rfl (.inl (by decide)) (fun J=>?_) fun J=>?_;.have w:=e3 (af J);refine NX ?_;refine h.eC u ?_;apply o (H.dh u);apply o Qb;apply o (Qe H.lt);refine h.om ?_;apply pD h.tb i;intro l q _ hP hS;apply o h.eZ;refine bM 4 rfl (fun _=>X 0 w (by decide)) fun _=>?_;apply o (ou (l:=l) (z:=11));rw[bQ (Qh h.tb.base hP hS rfl)];exact X 0 w (by decide)
  .have J:x≠11:=J;refine bC H 2 rfl (.inl (by decide)) (fun j=>?_) fun j=>X (-1) (e3 ((am J).trans (am fun q=>j q.1))) (by decide);obtain⟨d',E⟩:=Z.iu;refine h.eC E ?_;apply o (Z.dh E);apply o Qc;apply o (Qf Z.lt);by_cases g:x=15;.rw[aN g];exact X (-1) (e3 ((am J).trans (am fun q=>q.2 g))) (by decide)
   .rw[bQ g];exact X 0 (e3 ((am J).trans (af ⟨j,g⟩))) (by decide)
end
noncomputable def lT(x:Nat):Nat:=match x with|0=>2|1=>2|3=>5|4=>5|_=>16
noncomputable def pH(V x y:Nat):Int:=if x=9 then(if y=10 then 1 else 0)else if y=lT x then 1 else if V=2/\x=lT y then 1 else 0
noncomputable def dC(V x y:Nat):Int:=if dy V x y≠-1 then dy V x y else if x=15\/y=15 then-1 else if y<14 then(if x<14 then pH V x y else 0)else if x=9\/x=8\/x=10 then 0 else-1
theorem ke{i:Decidable c}(Z:a≠z)(X:b≠z):(if c then a else b)≠z:=by cases i;exact X;exact Z
theorem zd{i:Decidable c}(Z:-1<=a/\a<=2)(X:-1<=b/\b<=2):-1<=(if c then a else b)/\(if c then a else b)<=2:=by cases i;exact X;exact Z
theorem Gf:-1<=dy V x y/\dy V x y<=2:=by
 unfold dy;repeat' refine zd ?_ ?_
 all_goals decide
section
variable{n s t x y:Nat}
theorem Gg(h:x<16)(Z:x=15->A)(X:x≠15->B):br ((aa.int 6::aa.int 7::dR).contains (.int (di x))==Y) A B:=by rw[Gd x h];exact bE Z X
theorem vD(h:x<16)(Z:x<14->A)(X:¬x<14->B):br (vR.contains (.int (di x))==Y) A B:=by rw[Qd x h];exact bE Z X
theorem Gh(O:x<13)(h:Co T t y):wh x=(t:Int)↔y=lT x:=by have X:¬y=16:=fun e=>oX _ (e▸h.lt);have U:=h.eq (z:=6) 6 rfl (.inl (by decide));have J:=h.eq (z:=7) 7 rfl (.inl (by decide));have H:(6:Int)=t↔y=2:=⟨fun q=>U.mp q.symm,fun q=>(U.mpr q).symm⟩;have Q:(7:Int)=t↔y=5:=⟨fun q=>J.mp q.symm,fun q=>(J.mpr q).symm⟩;have Z:(-1:Int)=t↔y=16:=⟨fun q=>by have:=ib t;rw[<-q]at this;exact ae this (by decide),fun q=>ae q X⟩;exact vj (p:=fun x=>wh x=(t:Int)↔y=lT x) H H Z Q Q Z Z Z Z Z Z Z Z x O
theorem Qj(X:x<13)(h:y=lT x)(Z:y<16):wh x>=0:=vj (p:=fun x=>y=lT x->wh x>=0) (fun _=>by decide) (fun _=>by decide) (fun q=>ae (q▸Z) (by decide)) (fun _=>by decide) (fun _=>by decide) (fun q=>ae (q▸Z) (by decide)) (fun q=>ae (q▸Z) (by decide)) (fun q=>ae (q▸Z) (by decide)) (fun q=>ae (q▸Z) (by decide)) (fun q=>ae (q▸Z) (by decide)) (fun q=>ae (q▸Z) (by decide)) (fun q=>ae (q▸Z) (by decide)) (fun q=>ae (q▸Z) (by decide)) x X h
theorem bW(Z:x<13)(h:Co T t y)(X:y=lT x->A)(U:y≠lT x->B):br (decide (wh x=(t:Int))) A B:=bD (fun q=>X ((Gh Z h).mp q)) fun q=>U fun e=>q ((Gh Z h).mpr e)
theorem ov:(gA x:Int)≠5:=by rcases x with _|_|_|_|_|_|_|_|x<;>exact cJ rfl
theorem Qk(h:St A R b T V r N es u w tr σ)(O:Co T s x)(H:Co T t y)(J:x<13)(Q:y<13)(Z:k (.int (pH V x y)) σ):CW (n+3) 90 [.ref R,.int s,.int t] σ k:=by
 refine cps fun P d=>?_;obtain⟨f,_,e1⟩:=O.lQ J;obtain⟨g,_,e2⟩:=H.lQ Q;obtain⟨v,X,U⟩:=qP (f:=f) J;obtain⟨m,E,C⟩:=qP (f:=g) Q;refine d ?_;refine NY ?_;unfold pH at Z;by_cases q:x=9
 .rw[af q]at Z;refine bC O 4 rfl (.inl (by decide)) (fun _=>?_) fun e=>ae q e;by_cases K:y=10;.rw[af K]at Z;exact bC H 3 rfl (.inl (by decide)) (fun _=>Z) fun e=>ae K e
  .rw[am K]at Z;exact bC H 3 rfl (.inl (by decide)) (fun e=>ae e K) fun _=>Z
 rw[am q]at Z;refine bC O 4 rfl (.inl (by decide)) (fun e=>ae e q) fun _=>?_;refine h.eC e1 ?_;refine h.eC e2 ?_;apply sP J;by_cases M:y=lT x;.rw[af M]at Z;refine bW J H (fun _=>?_) fun e=>ae M e;apply sP J;exact bD (fun _=>Z) fun e=>ae (Qj J M H.lt) e
 rw[am M]at Z;refine bW J H (fun e=>ae e M) fun _=>?_;apply o h.eZ;by_cases L:V=2/\x=lT y;.rw[af L]at Z;refine bM 2 rfl (fun _=>?_) fun e=>ae L.1 e;apply sP Q;exact bW Q O (fun _=>Z) fun e=>ae L.2 e
 rw[am L]at Z;by_cases j:V=2;.refine bM 2 rfl (fun _=>?_) fun e=>ae j e;apply sP Q;refine bW Q O (fun e=>ae ⟨j,e⟩ L) fun _=>?_;apply o (dh X (ax 227667202048 rfl U));refine bD (fun e=>ae e ov) fun _=>?_;apply o (dh X (ax 227667202048 rfl U));refine bD (fun e=>ae e ov) fun _=>?_;refine EF ?_;apply o h.eZ;refine bM 4 rfl (fun _=>Z) fun _=>?_;refine EE ?_;apply o (dh E (ax 227667202048 rfl C));exact bD (fun e=>ae e ov) fun _=>bN (bD (fun e=>ae e ov) fun _=>Z)
 .refine bM 2 rfl (fun e=>ae e j) fun _=>?_;apply o (dh X (ax 227667202048 rfl U));refine bD (fun e=>ae e ov) fun _=>?_;apply o (dh X (ax 227667202048 rfl U));refine bD (fun e=>ae e ov) fun _=>?_;refine EF ?_;apply o h.eZ;refine bM 4 rfl (fun _=>Z) fun _=>?_;refine EE ?_;apply o (dh E (ax 227667202048 rfl C));exact bD (fun e=>ae e ov) fun _=>bN (bD (fun e=>ae e ov) fun _=>Z)
theorem Gi(h:St A R b T V f N es z l tr σ)(i:N.length<av)(X:Co T s x)(J:Co T t y)(a:KR c T K t)(U:∀r,dC V x y=r->r≠2->k (.int r) σ)(hn:dC V x y=2->∀Z,St A R b T V f (N++[1]) es z l tr Z->Fq A R tr σ tr Z->k (.int 1) Z):CW (n+4) 86 [.ref R,.int s,.int t] σ k:=by
 refine EC ?_;apply Qi h i X J a
 .intro r O r2;by_cases q:r=-1
  .refine bD (fun e=>ae e (by rw[q];decide)) fun _=>?_;have e1:∀{r},(if x=15\/y=15 then-1 else if y<14 then(if x<14 then pH V x y else 0)else if x=9\/x=8\/x=10 then 0 else-1)=r->dC V x y=r:=fun e=>(am fun e'=>e' (O.trans q)).trans e;refine cps fun P hP=>?_;obtain⟨d,m⟩:=X.iu;obtain⟨d',E⟩:=J.iu;refine hP ?_;apply o h.cQ;apply o h.tb.az;apply o h.tb.fW;apply o (h.tb.row m);apply o (X.dh m);apply o (h.tb.row E);apply o (J.dh E);refine Gg X.lt (fun M=>U (-1) (e1 (af (.inl M))) (by decide)) fun M=>?_;refine Gg J.lt (fun L=>U (-1) (e1 (af (.inr L))) (by decide)) fun L=>?_;have e2:∀{r},(if y<14 then(if x<14 then pH V x y else 0)else if x=9\/x=8\/x=10 then 0 else-1)=r->dC V x y=r:=fun e=>e1 ((am fun q=>q.elim M L).trans e);refine bC J 10 rfl (.inr (.inl rfl)) (fun q=>ae J.lt (by rw[q];exact oX _)) fun _=>?_;refine vD J.lt (fun C=>?_) fun C=>?_
   .refine vD X.lt (fun H=>?_) fun H=>U 0 (e2 ((af C).trans (am H))) (by decide);have hv:pH V x y≠2:=ke (ke (by decide) (by decide)) (ke (by decide) (ke (by decide) (by decide)));have g:x≠13:=fun e=>by refine ae (O.trans q) (ke (by decide) ?_);rw[af e];decide
    have j:y≠13:=fun e=>by refine ae (O.trans q) (ke (by decide) (ke (by decide) (ke (by decide) (ke (by decide) (ke (ke (by decide) (by decide)) (ke (by decide) ?_))))));rw[af ⟨e,M⟩];decide
    exact Qk h X J ((gl g).elim (fun Q=>ax 605625569281 rfl Q) fun Q=>hQ 0x95041a44218d001 rfl Q H) ((gl j).elim (fun Q=>ax 605625569281 rfl Q) fun Q=>hQ 0x95041a44218d001 rfl Q C) (U _ (e2 ((af C).trans (af H))) hv)
   .have e3:∀{r},(if x=9\/x=8\/x=10 then 0 else-1)=r->dC V x y=r:=fun e=>e2 ((am C).trans e);refine bC X 4 rfl (.inl (by decide)) (fun H=>U 0 (e3 (af (.inl H))) (by decide)) fun H=>?_;refine bC X 5 rfl (.inl (by decide)) (fun u=>U 0 (e3 (af (.inr (.inl u)))) (by decide)) fun u=>?_;refine bC X 3 rfl (.inl (by decide)) (fun w=>U 0 (e3 (af (.inr (.inr w)))) (by decide)) fun w=>?_;exact U (-1) (e3 (am fun q=>q.elim H fun q=>q.elim u w)) (by decide)
  .have v:r>=0:=Int.add_one_le_of_lt (KW.mpr ⟨O▸Gf.1,g9 q⟩);exact bD (fun _=>U r ((af (by rw[O];exact q)).trans O) r2) fun e=>ae v e
 .intro e Z h' hf;exact hn ((af (by rw[e];decide)).trans e) Z h' hf
end
noncomputable def kf(V ma mb:Nat)(sa sb:Bool)(fp:Int):Int:=if mb&&&4096≠0\/(ma==0&&!sa)=Y then 0 else if ma&&&4096≠0/\V=4 then-1 else if mb&&&2048≠0 then 0 else if ma&&&4096≠0 then(if(mb==0&&!sb)=Y then-1 else 1)else if V=2 then(if ma&&&j3 mb (mb==0&&!sb)≠0\/0<=fp then 0 else-1)else if ma&&&gM mb≠ma then-1 else if(!sa)=Y then 0 else fp
theorem Gj:∀{a b:Kd},gK g V a b=kf V a.m b.m a.s.isSome b.s.isSome (iO g a.s b.s)|.mk _ I,.mk _ I=>rfl|.mk _ I,.mk _ (D _)=>rfl|.mk _ (D _),.mk _ I=>rfl|.mk _ (D _),.mk _ (D _)=>rfl
noncomputable def aM(x:Nat):Nat:=if x<13 then 2^x else 0
noncomputable def bS(r:Int):Bool:=r==1||r==2
noncomputable def vE(V x y:Nat):Bool:=bS (dC V x y)||(decide (V=2/\y≠13)&&bS (dC V y x))
noncomputable def dZ(V x y:Nat):Int:=kf V (aM x) (aM y) (x==14) (y==14) (-1)
noncomputable def Gk(V x y:Nat):Bool:=x==y||(vE V x y==decide (0<=dZ V x y)&&(V !=1||!bS (dC V x y)||cV (dZ V x y)==if dC V x y=2 then[1]else[]))
theorem Ql:∀V∈[1,2,4],∀x,x<15->∀y,y<15->Gk V x y=true:=by decide+kernel
theorem Gl(Z:V∈[1,2,4])(U:x<15)(J:y<15)(H:x≠y):vE V x y=decide (0<=dZ V x y)/\(V=1->bS (dC V x y)=Y->cV (dZ V x y)=if dC V x y=2 then[1]else[]):=by have f:=Ql V Z x U y J;unfold Gk at f;rw[gm.mpr H,KV,gH]at f;refine⟨aU.mp f.1,fun e1 e2=>?_⟩;have X:=f.2;clear Z f;subst e1;rw[e2]at X;exact aU.mp X
theorem q7:∀V∈[1,2,4],∀x,x<16->(dC V x 15=if x=13 then 1 else if x=12 then(if V=4 then 0 else 2)else if x=11 then 0 else-1)/\(dC V 15 x=if x=12 then 1 else if x=11 then 1 else-1):=by decide+kernel
theorem Gn:∀mb,mb<8192->decide (mb&&&6144=0->mb&&&4096=0/\mb&&&2048=0/\2048&&&gM mb≠2048/\2048&&&j3 mb ai≠0)=true:=kQ (by decide+kernel)
section
theorem vF(h:V≠3):ak V K1 K2=kf V K1.m K2.m K1.s.isSome K2.s.isSome (iO (fun x y=>gS V 3 x y ai) K1.s K2.s):=(am h).trans Gj
theorem KC.kT(h:KC x K)(U:x<15):K.m=aM x/\K.s.isSome=(x==14):=by
 by_cases Z:x<13;.rw[h.a Z];exact⟨(af Z).symm,(gm.mpr (ax 605625602070 rfl Z)).symm⟩
 .by_cases e:x=13;.rw[h.n e];clear h U Z;subst e;exact⟨rfl,rfl⟩
  .obtain⟨y,J⟩:=h.s ((gl e).elim (fun X=>fw (ax 674345078784 rfl U) (hQ 0x8d0458d021a4800 rfl X Z)) fun X=>fw (ax 674345078784 rfl U) (ax 705483655168 rfl X));have:x=14:=(gl e).elim (fun X=>fw (ax 674345078784 rfl U) (hQ 0x8d0458d021a4800 rfl X Z)) fun X=>fw (ax 674345078784 rfl U) (ax 705483655168 rfl X);clear h U Z e;subst this;rw[J];exact⟨rfl,rfl⟩
theorem Go(Z:V∈[1,2,4])(X:KC x K1)(U:KC y K2)(J:x<15)(H:y<15)(Q:¬(x=14/\y=14)):ak V K1 K2=dZ V x y:=by
 unfold dZ;have e1:=X.kT J;have e2:=U.kT H;rw[vF (by rintro rfl;revert Z;decide),e1.1,e1.2,e2.1,e2.2];congr 1;by_cases q:x=14;.have:y≠14:=fun e=>Q ⟨q,e⟩;have e3:=e2.2;rw[gm.mpr this]at e3;rw[KX,nJ]at e3;rw[e3];cases K1.s<;>rfl
 .have e3:=e1.2;rw[gm.mpr q]at e3;rw[KX,nJ]at e3;rw[e3];rfl
structure Qm(V x y:Nat)(v:Int):Prop where
y1:bS (dC V x y)=Y->0<=v/\(V=1->cV v=if dC V x y=2 then[1]else[])y2:V=2->y≠13->bS (dC V y x)=Y->0<=v
no:dC V x y=0->¬(V=2/\y≠13/\bS (dC V y x)=Y)->v<0
theorem Qo(hm:V∈[1,2,4])(h1:KC x K1)(h2:KC y K2)(hx:x<16)(hy:y<16)(l1:K1.m<8192)(l2:K2.m<8192)(ne:x≠y\/14<=x):Qm V x y (ak V K1 K2):=by
 by_cases q:x=y
 .clear h2 hy;subst q;rcases n9 14 hx (ne.resolve_left fun q=>q rfl)with rfl|rfl;.have:=(by decide+kernel:∀V∈[1,2,4],dC V 14 14=-1) V hm;exact⟨fun e=>(by rw[this]at e;cases e),fun _ _ e=>(by rw[this]at e;cases e),fun e=>(by rw[this]at e;cases e)⟩
  .have:=(q7 V hm 15 (by decide)).1;rewrite[am (by decide),am (by decide),am (by decide)]at this;exact⟨fun e=>(by rw[this]at e;cases e),fun _ _ e=>(by rw[this]at e;cases e),fun e=>(by rw[this]at e;cases e)⟩
 by_cases lo:x<15/\y<15
 .have f:=Gl hm lo.1 lo.2 q;rw[<-Go hm h1 h2 lo.1 lo.2 (fun e=>q (e.1.trans e.2.symm))]at f;unfold vE at f;refine⟨fun e=>?_,fun e1 e2 e3=>?_,fun e1 e2=>?_⟩;.have f1:=f.1;rw[e,Bool.true_or]at f1;exact⟨cJ f1.symm,fun e1=>f.2 e1 e⟩
  .have f1:=f.1;rw[aN ⟨e1,e2⟩,e3,lj,KY]at f1;exact cJ f1.symm
  .have f1:=f.1;have f2:(decide (V=2/\y≠13)&&bS (dC V y x))=false:=by rw[<-KZ,gH];exact fun e=>e2 ⟨(cJ e.1).1,(cJ e.1).2,e.2⟩
   rw[f2,e1]at f1;exact cX.mp (of_decide_eq_false f1.symm)
 .have n3:V≠3:=by rintro rfl;revert hm;decide
  by_cases tc:x=15
  .clear hx ne lo;subst tc;have hu:=(q7 V hm y hy).2;have lU:=(q7 V hm y hy).1;have ze:y<15:=(gl q).elim (fun w3=>hQ 0x2010d041a4c219d001 rfl w3 hy) fun w3=>ax 674345111553 rfl w3;have e2:=h2.kT ze;have f1:=cJ (Gn K1.m l1) (h1.u rfl).1;rw[vF n3];have nv:(K1.m==0&&!K1.s.isSome)=false:=by rw[gm.mpr (h1.u rfl).2.1];rfl
   unfold kf;rw[nv,f1.1];by_cases zf:y=12;.subst zf;rw[af rfl]at hu;rw[e2.1,af (.inl (by decide))];refine⟨fun _=>⟨fR 0,fun _=>by rw[hu];rfl⟩,fun _ _ _=>fR 0,fun e=>(by rw[hu]at e;cases e)⟩
   .rw[am zf]at hu;by_cases tf:y=11;.subst tf;rw[af rfl]at hu;rw[e2.1,am (fun q=>q.elim (by decide) nofun),am (fun q=>q.1 rfl),af (by decide)];refine⟨fun _=>⟨fR 0,fun _=>by rw[hu];rfl⟩,fun _ _ _=>fR 0,fun e=>(by rw[hu]at e;cases e)⟩
    .rw[am tf]at hu;refine⟨fun e=>(by rw[hu]at e;cases e),fun _ a e=>?_,fun e=>(by rw[hu]at e;cases e)⟩;rw[am a,am zf,am tf]at lU;rw[lU]at e;cases e
  .have ze:y=15:=fw (oV hy) (hE.mp fun r=>lo ⟨xC (oV hx) tc,r⟩);clear hy ne q lo;subst ze;have hu:=(q7 V hm x hx).1;have lU:=(q7 V hm x hx).2;have tc:x<15:=(gl tc).elim (fun w3=>ax 674345111553 rfl w3) fun w3=>hQ 0x2010d041a4c219d001 rfl w3 hx;have e2:=h1.kT tc;have f1:=cJ (Gn K2.m l2) (h2.u rfl).1;rw[vF n3];have nv:(K2.m==0&&!K2.s.isSome)=false:=by rw[gm.mpr (h2.u rfl).2.1];rfl
   unfold kf;rw[nv,f1.1,f1.2.1,e2.1,e2.2];by_cases Gp:x=13;.subst Gp;rw[af rfl]at hu;rw[af (.inr rfl)];exact⟨fun _=>⟨fR 0,fun _=>by rw[hu];rfl⟩,fun _ _ _=>fR 0,fun e=>(by rw[hu]at e;cases e)⟩
   rw[am Gp]at hu;by_cases uM:x=12
   .subst uM;rw[af rfl]at hu lU;rw[am (fun q=>q.elim (fun q=>q rfl) (by decide))];by_cases m4:V=4;.clear hm n3 lU;subst m4;rw[af ⟨by decide,rfl⟩];exact⟨fun e=>(by rw[hu]at e;cases e),fun e=>(nomatch e),fun _ _=>by decide⟩
    .rw[am m4]at hu;rw[am (fun q=>m4 q.2),am (fun q=>q rfl),af (by decide),am nofun];exact⟨fun _=>⟨by decide,fun _=>by rw[hu];rfl⟩,fun _ _ _=>by decide,fun e=>(by rw[hu]at e;cases e)⟩
   rw[am uM]at hu lU;by_cases vG:x=11
   .subst vG;rw[af rfl]at hu lU;rw[am (fun q=>q.elim (fun q=>q rfl) (by decide)),am (fun q=>q.1 (by decide)),am (fun q=>q rfl),am (by decide)];by_cases m2:V=2;.rw[af m2,af (.inl f1.2.2.2)];exact⟨fun e=>(by rw[hu]at e;cases e),fun _ _ _=>by decide,fun _ q=>ae ⟨m2,by decide,by rw[lU];rfl⟩ q⟩
    .rw[am m2,af (show aM 11&&&gM K2.m≠aM 11 from f1.2.2.1)];exact⟨fun e=>(by rw[hu]at e;cases e),fun q=>ae q m2,fun _ _=>by decide⟩
   .rw[am vG]at hu lU;exact⟨fun e=>(by rw[hu]at e;cases e),fun _ _ e=>(by rw[lU]at e;cases e),fun e=>(by rw[hu]at e;cases e)⟩
theorem Qp(Z:V∈[1,2,4])(H:KC x K1)(Q:KC y K2)(X:x<15)(U:y<15)(J:x≠y)(e1:bS (dC V x y)=ai)(e2:¬(V=2/\y≠13/\bS (dC V y x)=Y)):ak V K1 K2<0:=by
 have f:=(Gl Z X U J).1;rw[<-Go Z H Q X U (fun e=>J (e.1.trans e.2.symm))]at f;unfold vE at f;have O:(decide (V=2/\y≠13)&&bS (dC V y x))=false:=by rw[<-KZ,gH];exact fun e=>e2 ⟨(cJ e.1).1,(cJ e.1).2,e.2⟩
 rw[O,e1]at f;exact cX.mp (of_decide_eq_false f.symm)
end
noncomputable def pI:List Nat:=[0,1,2,3,4,5,6,7,10,13]
theorem mW(h:c<8\/c=10\/c=13):c∈pI:=by
 rcases h with h|rfl|rfl;.exact(by decide:∀c,c<8->c∈pI) c h
 .decide
 .decide
theorem Qq:∀c∈pI,∀i,i<13->∀f,f<2->(cG[c]?=D (bm i f)↔i=ot c):=by decide+kernel
theorem zg:∀c∈pI,(2=c↔13=ot c)/\14≠ot c/\15≠ot c:=by decide+kernel
theorem zh:∀c∈pI,∃d,cG[c]?=D d/\jc d<12/\jc d≠6:=fun c h=>by
 have:=(by decide+kernel:∀c∈pI,((cG[c]?).map fun d=>decide (jc d<12/\jc d≠6))=D Y) c h;rcases e:cG[c]? with _|d;.rw[e]at this;cases this
 rw[e]at this;exact⟨d,rfl,cJ (b8 this)⟩
theorem Qr:∀m,m<8192->decide (cZ m=m->m&&&6144≠0->m=2^11\/m=2^12)=true:=kQ (by decide+kernel)
theorem Qs:∀i,i<13->eX i=ai->∀f,f<2->bm i f=bm i 0:=by decide+kernel
theorem vH(hi:i<13)(Z:f<2)(X:eX i=ai):bm i f=bm i 0:=Qs i hi X f Z
section
variable{T:List aa}{t s:Nat}
theorem th(nd:T.Nodup)(a:T[s]?=D d)(b:T[t]?=D d):s=t:=by obtain⟨v,x⟩:=bo.mp a;obtain⟨w,y⟩:=bo.mp b;exact(xy nd).mp (x.trans y.symm)
theorem PR.inj(h:PR T m l q)(nd:T.Nodup){i p p':Nat}(hi:i<13)(C:p∈l)(Z:p'∈l)(a:At T p i)(M:At T p' i):p=p':=by
 obtain⟨f,O,e⟩:=a;obtain⟨g,J,X⟩:=M;by_cases q:f=g;.clear J;subst q;exact th nd e X
 .rcases H:eX i with _|_;.rw[vH hi O H]at e;rw[vH hi J H]at X;exact th nd e X
  rcases(by exact(gl q).elim (fun U=>.inr (⟨fw (bZ 0x35421ad02125000 rfl U J) (aB 659456 rfl),fw (ax 227668054016 rfl J) (aC 709778609152 rfl U)⟩)) fun U=>.inl (⟨fw (ax 227668054016 rfl O) (aC 709778609152 rfl U),fw (bZ 0x35421ad02125000 rfl U O) (aB 659456 rfl)⟩):(f=1/\g=0)\/(f=0/\g=1))with⟨rfl,rfl⟩|⟨rfl,rfl⟩;.exact ae X (h.tw i hi H p C e p' Z)
  .exact ae e (h.tw i hi H p' Z X p C)
theorem zj(M:cG<+:T)(nd:T.Nodup)(L:KR c T K t)(u:aS V n K):∃x,Co T t x/\KC x K:=by
 have J:∀{c d z},c∈pI->cG[c]?=D d->T[t]?=D z->jc z≠jc d->t≠c:=fun Z e b h q=>by clear Z;subst q;rw[bV M e]at b;exact h (aI jc (b8 b).symm)
 induction L.vk using TV.casesOn with
|jB e=>clear J L;subst e;refine⟨13,⟨by decide,⟨_,bV M (d:=dI "never") rfl,ck rfl⟩,fun c Z=>(zg c (mW Z)).1,fun h=>ae h (by decide)⟩,⟨fun h=>ae h (by decide),fun _=>rfl,fun h=>ae h (by decide),fun h=>ae h (by decide)⟩⟩|lQ i f hi a ne e=>
  obtain⟨r,e1,e2⟩:=qP (f:=f) hi;refine⟨i,⟨ax 620160529518593 rfl hi,⟨r,?_,ax 227667202048 rfl e2⟩,fun c Z=>?_,fun _=>⟨f,a,e⟩⟩,⟨fun _=>rfl,fun h=>ae h (ax 605625569302 rfl hi),fun h=>ae h (ax 605625602070 rfl hi),fun h=>ae h (ax 605625634838 rfl hi)⟩⟩;.rw[e,e1];unfold di;split<;>first|rfl|exact ae hi (by decide)
  .rw[<-Qq c (mW Z) i hi f a];constructor;.intro q;subst q;obtain⟨d,O,_⟩:=zh t (mW Z);rw[O,e.symm,<-bV M O]
   .intro q;exact th nd e (bV M q)|dY y ne hS=>obtain⟨ps,rt,pd,fl,e⟩:=hS.row;refine⟨14,⟨by decide,⟨_,e,ck rfl⟩,fun c Z=>⟨fun q=>?_,fun q=>ae q (zg c (mW Z)).2.1⟩,fun h=>ae h (by decide)⟩,⟨fun h=>ae h (by decide),fun h=>ae h (by decide),fun _=>⟨y,rfl⟩,fun h=>ae h (by decide)⟩⟩;obtain⟨d,O,A,_⟩:=zh c (mW Z);exact ae q (J (mW Z) O e fun q=>by rw[q.symm]at A;exact ae (show(13:Int)<12 from A) (by decide))|sN l q m s ne e l2 H w=>
  refine⟨15,⟨by decide,⟨_,e,ck rfl⟩,fun c Z=>⟨fun q=>?_,fun q=>ae q (zg c (mW Z)).2.2⟩,fun h=>ae h (by decide)⟩,⟨fun h=>ae h (by decide),fun h=>ae h (by decide),fun h=>ae h (by decide),fun _=>?_⟩⟩;.obtain⟨d,O,_,A⟩:=zh c (mW Z);exact ae q (J (mW Z) O e fun q=>A q.symm)
  .clear e;obtain⟨X,p2,r,rfl⟩:E3 fun X p2 r=>l=X::p2::r:=by
    rcases l with _|⟨X,_|⟨p2,r⟩⟩;.cases l2
    .exact ae (show 2<=1 from l2) (by decide)
    .exact⟨_,_,_,rfl⟩
   have U:X≠p2:=fun e=>(fg.mp H.nd).1 (e▸aV);have m1:X∈X::p2::r:=aV;have m2:p2∈X::p2::r:=cH _ aV;have Q:∀i,i<13->q=I->m≠2^i:=fun i hi hq E=>by
    have f:∀p∈X::p2::r,At T p i:=fun p C=>by
     rcases H.all p C with⟨j,v,g⟩|e;.have:=(H.dW j v).mpr ⟨p,C,g⟩;rw[E,jo]at this;rw[cJ this];exact g
     .rw[hq]at e;cases e
    exact U (H.inj nd hi m1 m2 (f X m1) (f p2 m2))
   refine⟨nK fun h=>?_,fun E=>?_,fun e i hi=>Q i hi (by clear L u;subst e;exact w)⟩
   .have k:=u.kT h;clear L;subst k;rcases cJ (Qr m H.lt) u.nm.2 h with e|e;.exact Q 11 (by decide) w e
    .exact Q 12 (by decide) w e
   .have E:m=0:=E;have f:∀p∈X::p2::r,q=D p:=fun p C=>(H.all p C).resolve_left fun⟨j,v,g⟩=>by have:=(H.dW j v).mpr ⟨p,C,g⟩;rw[E,nI]at this;cases this
    exact U (b8 ((f X m1).symm.trans (f p2 m2)))
theorem Qt(nd:T.Nodup)(h:Co T s x)(h':Co T t x)(Z:x<14)(Q:Se T s)(O:Se T t):s=t:=by
 by_cases e:x=13;.have a:=(h.id 2 (.inl (by decide))).mpr e;rw[a,((h'.id 2 (.inl (by decide))).mpr e)]
 .have Z:x<13:=(gl e).elim (fun U=>ax 605625569281 rfl U) fun U=>hQ 0x95041a44218d001 rfl U Z;obtain⟨f,J,e1⟩:=h.lQ Z;obtain⟨g,H,e2⟩:=h'.lQ Z;rcases X:eX x with _|_;.rw[vH Z J X]at e1;rw[vH Z H X]at e2;exact th nd e1 e2
  rw[Q x f Z J e1 X]at e1;rw[O x g Z H e2 X]at e2;exact th nd e1 e2
end
section
theorem pJ(T:List aa)(t:Nat):(uT T t=0/\∀x,T[t]?≠D (.ab [.int 6,x]))\/(uT T t=1/\∃x,T[t]?=D (.ab [.int 6,x])):=by
 have e:T[t]?.any vz=Y↔∃x,T[t]?=D (.ab [.int 6,x]):=by
  rcases T[t]? with _|d;.exact⟨nofun,nofun⟩
  exact P1.trans ⟨(by rintro⟨x,e⟩;exact⟨x,aI D e⟩),(by rintro⟨x,e⟩;exact⟨x,b8 e⟩)⟩
 unfold uT;by_cases h:T[t]?.any vz=Y;.exact .inr ⟨af h,e.mp h⟩
 .exact .inl ⟨am h,fun x q=>h (e.mpr ⟨x,q⟩)⟩
theorem Gq(h:∀x,T'[t]?=D (.ab [.int 6,x])->T[s]?=D (.ab [.int 6,x])):uT T' t<=uT T s:=by
 rcases pJ T' t with⟨e,_⟩|⟨e,x,Z⟩;.rw[e];exact bP _
 .rcases pJ T s with⟨_,f⟩|⟨f,_⟩;.exact ae (h x Z) (f x)
  .rw[e,f];exact aE 1
theorem Gr(Q:V≠3):∀{n:Nat},n<=3->aS V n a->aS V n b->gK (fun x y=>gS V n x y ai) V a b=gK (fun x y=>gS V 3 x y ai) V a b:=fun{n}h Z X=>by
 have s:∀{n},aS V n a->aS V n b->gK (fun x y=>gS V n x y ai) V a b=gK (fun x y=>gS V (n+1) x y ai) V a b:=fun Z X=>Fv Q Z X;have h:=BP h;induction n,h using qM;.exact(s Z X).trans ((s (Z.aq (bP 1)) (X.aq (bP 1))).trans (s (Z.aq (bP 2)) (X.aq (bP 2))))
 .exact(s Z X).trans (s (Z.aq (dg 1)) (X.aq (dg 1)))
 .exact s Z X
 .rfl
theorem cB.same(h:cB V T (s,s) K1 K2 c n):ak V K1 K2=0:=by
 obtain⟨rfl,e⟩:=KR.cU h.w1 h.w2 h.r1 h.r2;unfold ak vf;by_cases q:V=3;.rw[af q,af rfl]
 .rw[am q,<-Gr q (ln h.le) h.w1 h.w2];exact e (by clear e h;cases c<;>nofun) V q
theorem Qu(h:cA K1=cA K2):K1.m=K2.m/\K1.s.isSome=K2.s.isSome:=by
 obtain⟨m,s⟩:=K1;obtain⟨m',s'⟩:=K2;injection h with h;injection h with X Z;injection Z with Z _;refine⟨j5 X,?_⟩;rcases s with _|x;.induction s' using cM with|none=>rfl|some y=>obtain⟨_,_,_,_,_,_⟩:=y;exact nomatch Z
 induction s' using cM with|none=>obtain⟨_,_,_,_,_,_⟩:=x;exact nomatch Z|some y=>rfl
theorem Qv:∀x,x<15->∀y,y<15->aM x=aM y->(x==14)=(y==14)->x=y:=by decide+kernel
theorem Qx:∀x,x<15->aM x≠0->x<13/\aM x=2^x:=by decide+kernel
theorem Gs(O:KC x K1)(E:KC y K2)(U:x<16)(C:y<16)(M:x≠y):ak 3 K1 K2<0:=by
 show(if cA K1=cA K2 then(0:Int)else-1)<0;rw[am];.decide
 intro e;have e:=Qu e;have L:∀{K Q:Kd}{x:Nat},KC 15 K->KC x Q->x<15->K.m=Q.m->K.s.isSome=Q.s.isSome->False:=fun{K Q x}h h' U e1 e2=>by
  have f:=h'.kT U;have g:=h.u rfl;rw[f.1]at e1;rw[f.2]at e2;have p:=Qx x U (by rw[e1.symm];exact g.2.1);have w:K.s=none:=by rw[gm.mpr (show x≠14 by exact ax 605625602070 rfl p.1),KX,nJ]at e2;exact e2
  exact g.2.2 w x p.1 (e1.trans p.2)
 by_cases q:x=15;.clear U;subst q;exact L O E ((gl M).elim (fun Z=>hQ 0x2010d041a4c219d001 rfl Z C) fun Z=>ax 674345111553 rfl Z) e.1 e.2
 .by_cases A:y=15;.clear C M;subst A;exact L E O ((gl q).elim (fun Z=>ax 674345111553 rfl Z) fun Z=>hQ 0x2010d041a4c219d001 rfl Z U) e.1.symm e.2.symm
  .have j:x<15:=(gl q).elim (fun Z=>ax 674345111553 rfl Z) fun Z=>hQ 0x2010d041a4c219d001 rfl Z U;have l2:y<15:=(gl A).elim (fun Z=>ax 674345111553 rfl Z) fun Z=>hQ 0x2010d041a4c219d001 rfl Z C;have d:=O.kT j;have r:=E.kT l2;rw[d.1,r.1,d.2,r.2]at e;exact M (Qv x j y l2 e.1 e.2)
theorem Pq.Gu(U:S.T<+:T')(J:Fq A R S.tr S.σ S.tr Z)(h:Iv A R W V b H m Q ⟨T',S.N,S.es,S.Tr,S.tr,Z⟩)(O:0<=v->V=1->cV v=[]):Pq A R W V b H m Q v S ⟨T',S.N,S.es,S.Tr,S.tr,Z⟩:=⟨.F4 U J (.refl h fun q e x X=>by rw[O q e]at X;exact nomatch X),fun _=>⟨rfl,rfl⟩⟩
theorem Pq.Gv(C:Fq A R S.tr S.σ S.tr X)(h:Iv A R W V (b+1) H m Z S)(Q:St A R b S.T V H (S.N++[1]) S.es S.Tr S.Tr S.tr X)(M:0<=v)(L:V=1->cV v=[1]):Pq A R W V b H m Z v S ⟨S.T,S.N++[1],S.es,S.Tr,S.tr,X⟩:=by
 have K:=h.lN;have J:=h.lK;have O:Z<=S.N.length:=h.b0;have E:(S.N++[1]).drop Z=S.N.drop Z++[1]:=xB O;refine⟨⟨⟨Q,?_,?_,h.wl,h.nd,h.kn,?_,?_,h.dp⟩,df _,C,[1],[],rfl,(bK _).symm,fun _=>rfl,fun _ q=>(nomatch q),fun _ e=>?_⟩,fun q=>ae M (cX.mpr q)⟩;.show(S.N++[1]).length+b<av;rw[aT,qh];exact(r5 _ 1 b▸K:S.N.length+1+b<av)
 .have J:S.es.length+S.Tr.length+(b+1)<W:=J;exact dL (dg _) J
 .show j8 S.T V m ((S.N++[1]).drop Z) S.Tr;rw[E];exact j8.aq Q.tb.base (df _) (fun x U=>mi _ U) h.tk
 .show Z<=(S.N++[1]).length;rw[aT];exact aC 0xad0202901505000 rfl O
 .rw[L e];refine⟨fun x U=>U,fun x U=>?_⟩;show x∈(S.N++[1]).drop Z;rw[E];exact jP _ U
end
section
theorem vI(X:dc es d=Y)(U:cg d=1):uV 3 es σ [d]=D ((b9 es d).getD .none,σ):=by show(if(dc es d&&cg d==1)=Y then D ((b9 es d).getD .none,σ)else I)=_;rw[X,U];exact af rfl
theorem Qy(h:St A R b T V H N es Q O tr σ)(X:Z≠3)(U:Z≠8)(J:k (.bool ai) σ):CW (n+1) 77 [.ref R,.int Z,a,d] σ k:=by refine EA ?_;apply o h.qX;apply o h.c1;apply o (pq h.c1);have e:b9 [(aa.int 3,aa.ref (R+8)),(aa.int 8,aa.ref (R+9))] (.int Z)=none:=(am fun e=>X (aa.int.inj e).symm).trans (am fun e=>U (aa.int.inj e).symm);apply p ((vI rfl rfl).trans (by rw[e]));exact J
theorem Qz:∀x,x<16->[aa.int 11,aa.int 12].contains (.int (di x))=false:=by decide+kernel
theorem q8(hx:x<16):∀g∈[7,11,12,5,8,9],di x≠g:=(by decide+kernel:∀x,x<16->∀g∈[7,11,12,5,8,9],di x≠g) x hx
theorem je:∀x,x<16->(di x=6↔x=15):=by decide+kernel
theorem vJ:∀x,x<16->(di x=13↔x=14):=by decide+kernel
theorem bT(g:Nat)(hz:z=(g:Int))(Z:di x=g->P)(X:di x≠g->Q):br (decide ((di x:Int)=z)) P Q:=by subst hz;exact bD (fun q=>Z (dq q)) fun q=>X fun e=>q (aI _ e)
theorem zk(Z:x<16)(X:Q):br (dR.contains (.int (di x))==Y) P Q:=by rw[Gc x Z];exact X
theorem Gw(Z:x<16)(X:Q):br ([aa.int 11,aa.int 12].contains (.int (di x))==Y) P Q:=by rw[Qz x Z];exact X
theorem zl(Z:x<16)(U:y<16)(X:k (.int (if x=14/\y=14 then 3 else 5)) σ):CW (n+1) 93 [.int (di x),.int (di y)] σ k:=by
 refine NZ ?_;refine bT 7 rfl (fun e=>ae e (q8 Z 7 (by decide))) fun _=>?_;refine bT 7 rfl (fun e=>ae e (q8 U 7 (by decide))) fun _=>?_;refine zk Z (zk U ?_);by_cases q:x=14/\y=14;.rw[af q]at X;refine bT 13 rfl (fun _=>?_) fun e=>ae ((vJ x Z).mpr q.1) e;exact bT 13 rfl (fun _=>X) fun e=>ae ((vJ y U).mpr q.2) e
 .rw[am q]at X;refine bT 13 rfl (fun e1=>?_) fun e1=>?_;.refine bT 13 rfl (fun e2=>ae ⟨(vJ x Z).mp e1,(vJ y U).mp e2⟩ q) fun _=>?_;exact Gw Z X
  .exact Gw Z X
theorem QA:-1<=dC V x y/\dC V x y<=2:=by
 unfold dC;refine zd Gf ?_;unfold pH;repeat' refine zd ?_ ?_
 all_goals decide
theorem QB(Q:V=3\/V∈[1,2,4])(h:V≠3):V∈[1,2,4]:=Q.resolve_left h
theorem Gx(hm:V=3\/V∈[1,2,4])(h:Iv A R W V (b+u+1) dp m b0 S)(Q:cB V S.T (s,t) K1 K2 c n')(z:eE S.T (s,t) K1 K2<m)(q6:∀S1 s' t' x y l k',S.T<+:S1.T->Iv A R W V (b+u) (dp+1) (eE S1.T (s',t') K1 K2) l S1->cB V S1.T (s',t') K1 K2 c n'->eE S1.T (s',t') K1 K2<=eE S.T (s,t) K1 K2->Co S1.T s' x->Co S1.T t' y->KC x K1->KC y K2->(x=15\/y=15\/(x=14/\y=14))->(V≠3->dC V x y=-1)->(∀S2,Pw A R W V b (dp+1) (eE S1.T (s',t') K1 K2) l (ak V K1 K2) S1 S2->k' (.bool (decide (0<=ak V K1 K2))) S2.σ)->CW (n+3) (if V=3 then 98 else 92) [.ref R,.int s',.int t'] S1.σ k')(hk:∀S',Pq A R W V b dp m b0 (ak V K1 K2) S S'->k (.bool (decide (0<=ak V K1 K2))) S'.σ):CW (n+5) 83 [.ref R,.int s,.int t] S.σ k:=by
 refine EB ?_;have hb:b<=b+u+1:=bA 195018379264 rfl;refine bD (fun e=>?_) fun _=>?_;.clear z q6;cases dq e;have Z:ak V K1 K2=0:=Q.same;have:=hk _ (Pq.Gu (df _) .rfl (h.le hb) fun _ _=>by rw[Z];rfl);rw[Z]at this;exact this
 apply o h.st.cQ;apply FU h.st.tb Q.r1;intro s' T1 bX t1 p1 f1 r1 zm u1;have h1:=h.az (aE _) t1 p1 f1;apply o h1.st.cQ;have Gy:=Q.aq p1;apply FU t1 Gy.r2;intro t' T2 cy i p2 f2 r2 Gz u2;have O:=h1.az (aE _) i p2 f2;have q9:=p1.trans p2;have zm:Se T2 s':=zm.aq (r1.gR t1.base) p2;have zn:KR c T2 K1 s':=r1.aq p2;have zo:cB V T2 (s',t') K1 K2 c n':=⟨Q.le,Q.w1,Q.w2,zn,r2⟩;have pK:eE T2 (s',t') K1 K2<=eE S.T (s,t) K1 K2:=by
  have a1:uT T2 s'<=uT S.T s:=by rw[ka p2 (r1.gR t1.base)];exact Gq u1
  have a2:uT T2 t'<=uT S.T t:=by refine bh (Gq u2) ?_;rw[ka p1 (Q.r2.gR (h.st.tb.base))];exact aE _
  unfold eE;exact jM (jM (aE _) a1) a2
 have E:∀S',Pq A R W V b dp m b0 (ak V K1 K2) ⟨T2,S.N,S.es,S.Tr,S.tr,cy⟩ S'->k (.bool (decide (0<=ak V K1 K2))) S'.σ:=fun S' q=>hk S' ⟨q.toPw.F4 q9 (St.fq i (f1.trans f2)),q.cl⟩;clear hk;have zp:=i.nd;obtain⟨x,c1,k1⟩:=zj i.base zp zn Q.w1;obtain⟨y,X,k2⟩:=zj i.base zp r2 Q.w2;have GA:=O.le hb;have C:∀{v:Int}{bb:Bool},(0<=v->V=1->cV v=[])->ak V K1 K2=v->decide (0<=v)=bb->k (.bool bb) cy:=fun{v bb}q e e2=>by have:=E _ (Pq.Gu (df _) .rfl GA (by rw[e];exact q));rw[e,e2]at this;exact this
 refine bD (fun e=>?_) fun ne=>?_;.clear r2 Gz u2 pK X;cases dq e;exact C (fun _ _=>rfl) zo.same rfl
 have ne:s'≠t':=fun e=>ne (aI _ e);have vK:x≠y\/14<=x:=by
  by_cases q:x=y;.clear k2;subst q;exact .inr (nK fun q=>ne (Qt zp c1 X (ax 706560479233 rfl q) zm Gz))
  .exact .inl q
 have M:(x=15\/y=15\/(x=14/\y=14)\/(V≠3/\ak V K1 K2<0))->(V≠3->dC V x y=-1)->CW (n+4) 84 [.ref R,.int s',.int t'] cy k:=fun hc QC=>by
  refine P4 (n:=n+1) (b:=b) (b':=u) (S:=⟨T2,S.N,S.es,S.Tr,S.tr,cy⟩) O zo (dL pK z) ?_ E;intro S1 l k' K QD eT g;have eT:S1.T=T2:=eT;by_cases U:x=15\/y=15\/(x=14/\y=14);.refine q6 S1 s' t' x y l k' (by rw[eT];exact q9) K QD (by rw[eT];exact pK) (by rw[eT];exact c1) (by rw[eT];exact X) k1 k2 U QC g
  .have Z:=(hc.resolve_left fun q=>U (.inl q)).resolve_left (fun q=>U (.inr (.inl q)));have Z:=Z.resolve_left fun q=>U (.inr (.inr q));rw[am Z.1];have g:=g S1 (.refl (K.le (b7 b u)) fun q=>ae q (cX.mpr Z.2));rw[bQ (cX.mpr Z.2)]at g;refine EG ?_;have K:=K.st;rw[eT]at K;obtain⟨d,hd⟩:=c1.iu;obtain⟨d',j⟩:=X.iu;apply o K.cQ;apply o K.tb.az;apply o K.tb.fW;apply o (K.tb.row hd);apply o (c1.dh hd);apply o (K.tb.row j);apply o (X.dh j);refine bT 6 rfl (fun e=>ae (.inl ((je x c1.lt).mp e)) U) fun _=>?_;refine bT 6 rfl (fun e=>ae (.inr (.inl ((je y X.lt).mp e))) U) fun _=>?_;apply zl c1.lt X.lt;rw[am fun q=>U (.inr (.inr q))];exact Qy K (by decide) (by decide) g
 apply o O.st.eZ;refine bM 3 rfl (fun e3=>?_) fun e3=>?_
 .clear hm h Q q6 h1 Gy zo E GA;subst e3;obtain⟨d,hd⟩:=c1.iu;obtain⟨d',j⟩:=X.iu;apply o O.st.cQ;apply o i.az;apply o i.fW;refine bC c1 13 rfl (.inr (.inr rfl)) (fun q=>ae c1.lt (by rw[q];decide)) fun _=>?_;refine bC X 13 rfl (.inr (.inr rfl)) (fun q=>ae X.lt (by rw[q];decide)) fun _=>?_;apply o (i.row hd);apply o (c1.dh hd);have no:x≠y->k (.bool ai) cy:=fun q=>by have Z:=Gs k1 k2 c1.lt X.lt q;exact C (v:=ak 3 K1 K2) (fun q=>ae q (cX.mpr Z)) rfl (bQ (cX.mpr Z))
  refine vD c1.lt (fun q=>no fun e=>?_) fun q=>?_;.have:=vK.resolve_left fun q=>q e;exact vK.elim (fun w=>(gl w).elim (fun w2=>bZ 0xad032ad02121003 rfl w2 e) fun w2=>bZ 0xa5422ad02121003 rfl w2 e) fun w=>hQ 0x95021a482021003 rfl w q
  apply o (i.row j);apply o (X.dh j);refine vD X.lt (fun H=>no fun e=>?_) fun H=>?_;.exact OK 0xad022954219502521003 rfl q H e
  exact M ((n9 14 c1.lt (hE.mp q)).elim (fun a=>(n9 14 X.lt (hE.mp H)).elim (fun b=>.inr (.inr (.inl ⟨a,b⟩))) fun b=>.inr (.inl b)) .inl) fun q=>ae rfl q
 have hm:=QB hm e3;have L:=Qo hm k1 k2 c1.lt X.lt (Q.w1.nm).1 (Q.w2.nm).1 vK;have GB:b+1<=b+u+1:=bA 0xb5a0005a0000 rfl;apply Gi (n:=n) O.st O.lS c1 X r2
 .intro r z f;refine bD (fun e1=>?_) fun e1=>?_;.clear f;subst e1;have:=L.y1 (by rw[z];rfl);exact C (v:=ak V K1 K2) (fun _ e=>by rw[this.2 e,z];rfl) rfl (aN this.1)
  have ny:bS (dC V x y)=false:=by rw[z];unfold bS;rw[gm.mpr e1,gm.mpr f];rfl
  have rest:¬(V=2/\y≠13/\bS (dC V y x)=Y)->br (decide (r<0)) (CW (n+4) 84 [.ref R,.int s',.int t'] cy k) (k (.bool (decide (r<0))) cy):=fun q=>by
   have rd:-1<=r/\r<=2:=by rw[z.symm];exact QA
   refine bD (fun H=>?_) fun H=>?_
   .have QE:r=-1:=BQ (Int.le_sub_one_of_lt H) rd.1;clear f e1 rd H;subst QE;refine M ?_ fun _=>z;by_cases hx:x=15;.exact .inl hx
    by_cases hy:y=15;.exact .inr (.inl hy)
    refine .inr (.inr ?_);by_cases e:x=y;.clear X k2 M L ny q z hy;subst e;exact .inl (by have:=(n9 14 c1.lt (vK.resolve_left fun q=>q rfl)).resolve_right hx;exact⟨this,this⟩)
    .exact .inr ⟨e3,Qp hm k1 k2 (by have:=c1.lt;exact(gl hx).elim (fun w=>ax 674345111553 rfl w) fun w=>hQ 0x2010d041a4c219d001 rfl w this) (by have:=X.lt;exact(gl hy).elim (fun w=>ax 674345111553 rfl w) fun w=>hQ 0x2010d041a4c219d001 rfl w this) e ny q⟩
   .have QF:r=0:=BQ (Zr (show r<0+1 from KW.mpr ⟨Zr (show r<1+1 from KW.mpr ⟨rd.2,f⟩),e1⟩)) (ii.mp H);clear f e1 rd H;subst QF;have Z:=L.no z q;exact C (v:=ak V K1 K2) (fun q=>ae q (cX.mpr Z)) rfl (bQ (cX.mpr Z))
  apply o O.st.eZ;refine bM 2 rfl (fun e2=>?_) fun e2=>rest fun q=>e2 q.1;refine bN (bC X 2 rfl (.inl (by decide)) (fun q=>rest fun H=>H.2.1 q) fun q=>?_);have q:y≠13:=q;apply Gi (n:=n) O.st O.lS X c1 zn
  .intro r' J GC;refine bD (fun e1=>?_) fun e1=>rest fun H=>?_;.clear GC;subst e1;have Z:=L.y2 e2 q (by rw[J];rfl);exact C (v:=ak V K1 K2) (fun _ e=>by rw[e2]at e;cases e) rfl (aN Z)
   .have:=H.2.2;rw[J]at this;unfold bS at this;rw[gm.mpr e1,gm.mpr GC]at this;cases this
  .intro J eb lV f3;have Z:=L.y2 e2 q (by rw[J];rfl);have:=E _ (Pq.Gv (S:=⟨T2,S.N,S.es,S.Tr,S.tr,cy⟩) f3 (O.le GB) (lV.le hb) Z fun e=>by rw[e2]at e;cases e);rw[aN Z]at this;exact this
 .intro J eb lV f3;have Z:=L.y1 (by rw[J];rfl);have:=E _ (Pq.Gv (S:=⟨T2,S.N,S.es,S.Tr,S.tr,cy⟩) f3 (O.le GB) (lV.le hb) Z.1 fun e=>by rw[Z.2 e,J];rfl);rw[aN Z.1]at this;exact this
end
noncomputable def ti(b x:Nat):Bool:=b.testBit x||(b.testBit 2&&(x==0||x==1))||(b.testBit 5&&(x==3||x==4))||(b.testBit 10&&x==9)
noncomputable def vL(b x:Nat):Bool:=ti b x||(x==2&&(b.testBit 0||b.testBit 1))||(x==5&&(b.testBit 3||b.testBit 4))||(x==10&&b.testBit 9)
theorem QG(Z:a<8192):a&&&r=a↔∀i,i<13->a.testBit i=Y->r.testBit i=true:=by
 constructor;.intro e i _ h;rw[<-e,BR,gH]at h;exact h.2
 .intro h;refine pB (dL ux Z) Z fun i hi=>?_;rw[BR,gH];exact⟨fun q=>q.1,fun q=>⟨q,h i hi q⟩⟩
theorem zq(Z:a<8192):a&&&r≠0↔∃i,i<13/\a.testBit i=Y/\r.testBit i=true:=by
 constructor;.intro e;refine nK fun q=>e (pB (dL ux Z) (by decide) fun i hi=>?_);rw[BR,gH,nI];exact⟨fun h=>ae ⟨i,hi,h⟩ q,nofun⟩
 .rintro⟨i,_,a,b⟩e;have:(0:Nat).testBit i=true:=by rw[<-e,BR,a,b];rfl
  rw[nI]at this;cases this
theorem rf(h:m&&&r≠0↔b=Y):(if m&&&r≠0 then v else 0).testBit x=(b&&v.testBit x):=by
 rcases b with _|_;.rw[am (fun q=>(by have h:=h.mp q;contradiction)),nI,Zs]
 rw[af (h.mpr rfl)];rfl
theorem tj(Z:m<8192)(j:Nat)(X:j<13):m&&&2^j≠0↔m.testBit j=true:=(zq Z).trans ⟨by rintro⟨i,_,a,b⟩;rw[jo]at b;rw[cJ b];exact a,fun h=>⟨j,X,h,by rw[jo];exact aN rfl⟩⟩
theorem GD(Z:m<8192)(j l:Nat)(X:j<13)(U:l<13):m&&&(2^j|||2^l)≠0↔(m.testBit j||m.testBit l)=true:=(zq Z).trans ⟨by rintro⟨i,_,a,b⟩;rw[jS,jo,jo,jT]at b;rw[jT];exact b.imp (fun b=>by rw[cJ b];exact a) fun b=>by rw[cJ b];exact a,fun h=>(r9.mp h).elim (fun h=>⟨j,X,h,by rw[jS,jo,aN rfl];rfl⟩) fun h=>⟨l,U,h,by rw[jS,jo,jo,aN (rfl:l=l),KY]⟩⟩
theorem cb:∀x,x<11->(3).testBit x=(x==0||x==1)/\(24).testBit x=(x==3||x==4)/\(512).testBit x=(x==9)/\(4).testBit x=(x==2)/\(32).testBit x=(x==5)/\(1024).testBit x=(x==10)/\(2048).testBit x=false:=by decide+kernel
theorem GE(Z:m<8192)(X:x<11):(gM m).testBit x=ti m x:=by unfold gM ti;have c:=cb x X;rw[jS,jS,jS,rf (tj Z 2 (by decide)),rf (tj Z 5 (by decide)),rf (tj Z 10 (by decide)),c.1,c.2.1,c.2.2.1]
theorem QH(Z:m<8192)(X:x<11):(j3 m U).testBit x=vL m x:=by
 unfold j3 vL;have c:=cb x X;have e:(if U=Y then 0 else 2048:Nat).testBit x=false:=by cases U;exact c.2.2.2.2.2.2;exact nI x
 rw[jS,jS,jS,jS,GE Z X,rf (r:=3) (GD Z 0 1 (by decide) (by decide)),rf (r:=24) (GD Z 3 4 (by decide) (by decide)),rf (tj Z 9 (by decide)),c.2.2.2.1,c.2.2.2.2.1,c.2.2.2.2.2.1,e,xD,K0 (m.testBit 0||m.testBit 1),K0 (m.testBit 3||m.testBit 4),K0 (m.testBit 9)]
noncomputable def iw(V:Nat)(Z:Bool)(b x:Nat):Bool:=if V=2 then(j3 b Z).testBit x else(gM b).testBit x
theorem zr:∀m,m<8192->decide (m&&&6144=0->m.testBit 11=ai/\m.testBit 12=ai/\m&&&4096=0/\m&&&2048=0)=true:=kQ (by decide+kernel)
noncomputable def pL(x j:Nat):Bool:=x==j||(j==2&&(x==0||x==1))||(j==5&&(x==3||x==4))||(j==10&&x==9)
noncomputable def rl(V x j:Nat):Bool:=pL x j||(V==2&&pL j x)
theorem GF(Z:x<13):ti b x=Y↔∃j,j<13/\b.testBit j=Y/\pL x j=true:=by
 unfold ti pL;simp only[jT,gH,aU];constructor
 .rintro(((h|h)|h)|h);.exact⟨x,Z,h,.inl (.inl (.inl rfl))⟩
  .exact⟨2,by decide,h.1,.inl (.inl (.inr ⟨rfl,h.2⟩))⟩
  .exact⟨5,by decide,h.1,.inl (.inr ⟨rfl,h.2⟩)⟩
  .exact⟨10,by decide,h.1,.inr ⟨rfl,h.2⟩⟩
 .rintro⟨j,X,h,((e|e)|e)|e⟩;.clear X;subst e;exact .inl (.inl (.inl h))
  .exact .inl (.inl (.inr ⟨e.1▸h,e.2⟩))
  .exact .inl (.inr ⟨e.1▸h,e.2⟩)
  .exact .inr ⟨e.1▸h,e.2⟩
theorem QI(X:x<13):vL b x=Y↔∃j,j<13/\b.testBit j=Y/\(pL x j=Y\/pL j x=Y):=by
 unfold vL;rw[jT,jT,jT,GF X];unfold pL;simp only[jT,gH,aU];constructor
 .rintro(((⟨j,a,b,c⟩|h)|h)|h);.exact⟨j,a,b,.inl c⟩
  .exact h.2.elim (fun q=>⟨0,by decide,q,.inr (.inl (.inl (.inr ⟨h.1,.inl rfl⟩)))⟩) fun q=>⟨1,by decide,q,.inr (.inl (.inl (.inr ⟨h.1,.inr rfl⟩)))⟩
  .exact h.2.elim (fun q=>⟨3,by decide,q,.inr (.inl (.inr ⟨h.1,.inl rfl⟩))⟩) fun q=>⟨4,by decide,q,.inr (.inl (.inr ⟨h.1,.inr rfl⟩))⟩
  .exact⟨9,by decide,h.2,.inr (.inr ⟨h.1,rfl⟩)⟩
 .rintro⟨j,Z,h,e|((e|e)|e)|e⟩;.exact .inl (.inl (.inl ⟨j,Z,h,e⟩))
  .exact .inl (.inl (.inl ⟨j,Z,h,.inl (.inl (.inl e.symm))⟩))
  .exact .inl (.inl (.inr ⟨e.1,e.2.imp (fun q=>by rw[q]at h;exact h) fun q=>by rw[q]at h;exact h⟩))
  .exact .inl (.inr ⟨e.1,e.2.imp (fun q=>by rw[q]at h;exact h) fun q=>by rw[q]at h;exact h⟩)
  .exact .inr ⟨e.1,by rw[e.2]at h;exact h⟩
theorem vM(X:b<8192)(Z:x<11):iw V U b x=Y↔∃j,j<13/\b.testBit j=Y/\rl V x j=true:=by
 unfold iw rl;by_cases q:V=2;.rw[af q,aU.mpr q];rw[QH X Z,QI (gZ Z (by decide))];simp only[KS,jT]
 .rw[am q,gm.mpr q,GE X Z,GF (gZ Z (by decide))];simp only[Zs,xD]
theorem GG(Z:j<13)(X:x<11):iw V U (2^j) x=rl V x j:=by
 rw[uw,vM (xx (by decide) Z) X];constructor;.rintro⟨J,_,h,e⟩;rw[jo]at h;rw[cJ h];exact e
 .intro e;exact⟨j,Z,by rw[jo];exact aN rfl,e⟩
theorem QJ(Z:x<11):iw V X 0 x=false:=by rw[jK,Ne,vM (by decide) Z];rintro⟨j,_,h,_⟩;rw[nI]at h;cases h
section
noncomputable def fM(K:Kd):Bool:=K.m==0&&!K.s.isSome
noncomputable def fp(V:Nat)(a b:Kd):Int:=iO (fun x y=>gS V 3 x y ai) a.s b.s
structure Lo(K:Kd):Prop where
lt:K.m<8192
lo:K.m&&&6144=0
theorem tm(J:V≠3)(X:Lo K1)(U:Lo K2)(Z:fM K1=ai):ak V K1 K2=if V=2 then(if K1.m&&&j3 K2.m (fM K2)≠0\/0<=fp V K1 K2 then 0 else-1)else if K1.m&&&gM K2.m≠K1.m then-1 else if(!K1.s.isSome)=Y then 0 else fp V K1 K2:=by have a:=cJ (zr _ X.lt) X.lo;have b:=cJ (zr _ U.lt) U.lo;have Z:(K1.m==0&&!K1.s.isSome)=false:=Z;rw[vF J];unfold kf;rw[b.2.2.1,b.2.2.2,a.2.2.1,Z,am (fun q=>q.elim (fun q=>q rfl) nofun),am (fun q=>q.1 rfl),am (fun q=>q rfl),am (fun q=>q rfl)];rfl
theorem GH(U:V≠3)(Z:V≠2)(X:Lo K1)(l2:Lo K2)(J:fM K1=ai):(0<=ak V K1 K2↔(∀i,i<13->K1.m.testBit i=Y->iw V (fM K2) K2.m i=Y)/\(K1.s.isSome=Y->0<=fp V K1 K2))/\(0<=ak V K1 K2->ak V K1 K2=if(!K1.s.isSome)=Y then 0 else fp V K1 K2):=by
 rw[tm U X l2 J,am Z];have e:(∀i,i<13->K1.m.testBit i=Y->iw V (fM K2) K2.m i=Y)↔K1.m&&&gM K2.m=K1.m:=by rw[QG X.lt];unfold iw;simp only[am Z]
 rw[e];by_cases q:K1.m&&&gM K2.m=K1.m
 .rw[am (fun H=>H q)];refine⟨?_,fun _=>rfl⟩;rcases K1.s.isSome with _|_;.exact⟨fun _=>⟨q,nofun⟩,fun _=>fR 0⟩
  exact⟨fun h=>⟨q,fun _=>h⟩,fun h=>h.2 rfl⟩
 .rw[af q];exact⟨⟨fun h=>ae h (by decide),fun h=>ae h.1 q⟩,fun h=>ae h (by decide)⟩
theorem GI(U:Lo K1)(l2:Lo K2)(J:fM K1=ai):(0<=ak 2 K1 K2↔(∃i,i<13/\K1.m.testBit i=Y/\iw 2 (fM K2) K2.m i=Y)\/0<=fp 2 K1 K2)/\(0<=ak 2 K1 K2->ak 2 K1 K2=0):=by
 rw[tm (by decide) U l2 J,af rfl];rw[((zq U.lt).symm)];by_cases q:K1.m&&&j3 K2.m (fM K2)≠0\/0<=fp 2 K1 K2;.rw[af q];exact⟨⟨fun _=>q,fun _=>fR 0⟩,fun _=>rfl⟩
 .rw[am q];exact⟨⟨fun h=>ae h (by decide),fun h=>ae h q⟩,fun h=>ae h (by decide)⟩
theorem vN(H:V≠3)(hi:i<11)(l2:Lo K2):ak V (.mk (2^i) I) K2=if iw V (fM K2) K2.m i=Y then 0 else-1:=by
 have X:Lo (.mk (2^i) I):=⟨(xx (a:=2) (m:=i) (n:=13) (by decide) (gZ hi (by decide))),(by decide:∀i,i<11->2^i&&&6144=0) i hi⟩;have U:fM (.mk (2^i) I)=false:=by show(2^i==0&&Y)=ai;rw[gm.mpr (jm (ur i))];rfl
 have b:∀j,((Kd.mk (2^i) I).m).testBit j=Y↔i=j:=fun j=>by show(2^i).testBit j=Y↔_;rw[jo];exact decide_eq_true_iff
 have M:¬(0<=fp V (.mk (2^i) I) K2):=by show¬((0:Int)<=-1);decide
 by_cases Q:V=2
 .clear H;subst Q;have h:=GI X l2 U;by_cases q:iw 2 (fM K2) K2.m i=Y;.rw[af q];exact h.2 (h.1.mpr (.inl ⟨i,gZ hi (by decide),(b i).mpr rfl,q⟩))
  .rw[am q];have O:ak 2 (.mk (2^i) I) K2=0\/ak 2 (.mk (2^i) I) K2=-1:=by
    rw[tm (by decide) X l2 U,af rfl];split;.exact .inl rfl
    .exact .inr rfl
   refine O.resolve_left fun e=>?_;rcases h.1.mp (by rw[e];exact fR 0)with⟨j,_,E,C⟩|L;.rw[<-(b j).mp E]at C;exact q C
   .exact M L
 .have h:=GH H Q X l2 U;by_cases q:iw V (fM K2) K2.m i=Y;.rw[af q];exact h.2 (h.1.mpr ⟨fun j _ E=>by rw[<-(b j).mp E];exact q,nofun⟩)
  .rw[am q];have O:ak V (.mk (2^i) I) K2=0\/ak V (.mk (2^i) I) K2=-1:=by
    rw[tm H X l2 U,am Q];split;.exact .inr rfl
    .exact .inl rfl
   refine O.resolve_left fun e=>?_;exact q ((h.1.mp (by rw[e];exact fR 0)).1 i (gZ hi (by decide)) ((b i).mpr rfl))
theorem pM(U:V≠3)(l2:Lo K2):ak V (.mk 0 (D y)) K2=if V=2 then(if 0<=fp V (.mk 0 (D y)) K2 then 0 else-1)else fp V (.mk 0 (D y)) K2:=by
 rw[tm U (K1:=.mk 0 (D y)) ⟨(by decide:0<8192),BS 6144⟩ l2 rfl];by_cases Z:V=2
 .rw[af Z,af Z];have e:(Kd.mk 0 (D y)).m&&&j3 K2.m (fM K2)=0:=BS _;by_cases q:0<=fp V (.mk 0 (D y)) K2;.rw[af q,af (.inr q)]
  .rw[am q,am (fun X=>X.elim (fun X=>X e) q)]
 .rw[am Z,am Z,am (fun q=>q (BS _)),am nofun]
end
def dj(K Z:Kd):Prop:=(∃i,A3 (i<11) (K.m.testBit i=Y) (Z=.mk (2^i) I))\/∃y,K.s=D y/\Z=.mk 0 (D y)
theorem QK:∀i,i<13->cZ (2^i)=2^i:=by decide+kernel
theorem zt:∀i,i<11->2^i<8192/\2^i&&&6144=0:=by decide+kernel
section
variable{t p m:Nat}
theorem zu(h:i<11):Lo (.mk (2^i) I):=⟨(zt i h).1,(zt i h).2⟩
theorem zv:Lo (.mk 0 (D y)):=⟨(by decide:0<8192),BS 6144⟩
theorem dj.lo(h:dj K K'):Lo K':=by
 rcases h with⟨i,hi,_,rfl⟩|⟨y,_,rfl⟩;.exact zu hi
 .exact zv
theorem tp(h:Lo K)(hi:i<13)(Z:K.m.testBit i=Y):i<11:=by
 have:=cJ (zr _ h.lt) h.lo;by_cases q:i<11;.exact q
 .rcases n9 11 hi (hE.mp q)with rfl|rfl;.rw[this.1]at Z;cases Z
  .rw[this.2.1]at Z;cases Z
theorem dj.wf(Z:aS V n K)(h:dj K K'):aS V n K':=by
 rcases h with⟨i,hi,_,rfl⟩|⟨y,e,rfl⟩;.exact aS.aq (n:=0) ⟨⟨(zt i hi).1,QK i (gZ hi (by decide))⟩,rfl⟩ (bP n)
 .obtain⟨m,s⟩:=K;rcases n with _|n;.rw[show s=I from Z.2]at e;cases e
  have:=Z.2 y e;exact⟨⟨by decide,rfl⟩,fun x e=>by cases e;exact⟨⟨by decide,this.1.2⟩,this.2⟩⟩
theorem dj.dp(h:dj K Z):cK Z<=cK K:=by
 obtain⟨m,s⟩:=K;rcases h with⟨i,hi,_,rfl⟩|⟨y,e,rfl⟩;.exact bP _
 .rw[show s=D y from e];exact aE _
theorem zw(e:T[p]?=D d)(h:jc d≠6):uT T p=0:=by
 rcases pJ T p with⟨a,_⟩|⟨_,x,Z⟩;.exact a
 .rw[e]at Z;clear e;cases Z;exact ae rfl h
theorem vO(Q:cG<+:T)(X:PR T K.m l q)(Z:dB c T K.s l q)(L:Lo K)(O:p∈l):∃U,A4 (dj K U) (KR c T U p) (uT T p=0) (U.s.isSome=Y->q=D p):=by
 rcases X.all p O with⟨i,hi,J⟩|e;.have E:=(X.dW i hi).mpr ⟨p,O,J⟩;refine⟨_,.inl ⟨i,tp L hi E,E,rfl⟩,qQ hi Q J,?_,nofun⟩;obtain⟨f,_,e⟩:=J;exact zw e fun q=>by have:=pA (i:=i) (f:=f);rw[q]at this;exact ae this (by decide)
 .rcases H:K.s with _|y;.rw[H]at Z;rw[show q=I from Z]at e;cases e
  rw[H]at Z;obtain⟨A,C,_,M⟩:=Z;rw[e]at C;cases C;clear X;subst e;obtain⟨_,_,_,_,e⟩:=M.row;exact⟨_,.inr ⟨y,H,rfl⟩,vm Q M,zw e (show(13:Int)≠6 by decide),fun _=>rfl⟩
theorem rg(Q:cG<+:T)(E:PR T K.m l q)(O:dB c T K.s l q)(h:dj K C):∃p∈l,KR c T C p:=by
 rcases h with⟨i,hi,M,rfl⟩|⟨y,e,rfl⟩;.have hi:i<13:=gZ hi (by decide);obtain⟨p,X,L⟩:=(E.dW i hi).mp M;exact⟨p,X,qQ hi Q L⟩
 .rw[e]at O;obtain⟨p,_,X,A⟩:=O;exact⟨p,X,vm Q A⟩
theorem pN(Z:V≠3)(hi:i<11)(l2:Lo K2):0<=ak V (.mk (2^i) I) K2↔iw V (fM K2) K2.m i=true:=by
 rw[vN Z hi l2];by_cases q:iw V (fM K2) K2.m i=Y;.rw[af q];exact⟨fun _=>q,fun _=>fR 0⟩
 .rw[am q];exact⟨fun h=>ae h (by decide),fun h=>ae h q⟩
theorem VU(Z:V≠3)(H:V≠2)(Q:Lo K1)(l2:Lo K2)(C:fM K1=ai):(0<=ak V K1 K2↔∀U,dj K1 U->0<=ak V U K2)/\(0<=ak V K1 K2->ak V K1 K2=match K1.s with|some y=>ak V (.mk 0 (D y)) K2|none=>0):=by
 have h:=GH Z H Q l2 C;have e:∀y,K1.s=D y->ak V (.mk 0 (D y)) K2=fp V K1 K2:=fun y e=>by rw[pM Z l2,am H];unfold fp;rw[e];rfl
 refine⟨h.1.trans ⟨fun q U M=>?_,fun q=>⟨fun i hi X=>?_,fun J=>?_⟩⟩,fun q=>(h.2 q).trans ?_⟩
 .rcases M with⟨i,hi,X,rfl⟩|⟨y,O,rfl⟩;.exact(pN Z hi l2).mpr (q.1 i (gZ hi (by decide)) X)
  .rw[e y O];exact q.2 (by rw[O];rfl)
 .have hi:=tp Q hi X;exact(pN Z hi l2).mp (q _ (.inl ⟨i,hi,X,rfl⟩))
 .obtain⟨y,E⟩:=BU.mp J;rw[<-e y E];exact q _ (.inr ⟨y,E,rfl⟩)
 .rcases J:K1.s with _|y;.rfl
  exact(e y J).symm
theorem GJ(O:Lo K1)(l2:Lo K2)(C:fM K1=ai):0<=ak 2 K1 K2↔∃H,dj K1 H/\0<=ak 2 H K2:=by
 have h:=GI O l2 C;have e:∀y,K1.s=D y->(0<=ak 2 (.mk 0 (D y)) K2↔0<=fp 2 K1 K2):=fun y e=>by
  rw[pM (by decide) l2,af rfl];unfold fp;rw[e];show 0<=ite (0<=iO _ (D y) K2.s) _ _↔_;split;.exact⟨fun _=>by assumption,fun _=>fR 0⟩
  .exact⟨fun h=>ae h (by decide),fun h=>ae h (by assumption)⟩
 refine h.1.trans ⟨?_,?_⟩
 .rintro(⟨i,hi,J,M⟩|q);.have hi:=tp O hi J;exact⟨_,.inl ⟨i,hi,J,rfl⟩,(pN (by decide) hi l2).mpr M⟩
  .rcases X:K1.s with _|y;.rw[show fp 2 K1 K2=-1 by unfold fp;rw[X];rfl]at q;exact ae q (by decide)
   exact⟨_,.inr ⟨y,X,rfl⟩,(e y X).mpr q⟩
 .rintro⟨H,⟨i,hi,J,rfl⟩|⟨y,X,rfl⟩,q⟩;.exact .inl ⟨i,gZ hi (by decide),J,(pN (by decide) hi l2).mp q⟩
  .exact .inr ((e y X).mp q)
theorem VT(X:V≠3)(E:(∃i,i<11/\K1=.mk (2^i) I)\/∃y,K1=.mk 0 (D y))(l2:Lo K2):(∀J,dj K2 J->0<=ak V K1 J->ak V K1 K2=ak V K1 J)/\(0<=ak V K1 K2->∃J,dj K2 J/\0<=ak V K1 J):=by
 rcases E with⟨i,hi,rfl⟩|⟨y,rfl⟩
 .constructor
  .intro J Q q;have U:=(pN X hi Q.lo).mp q;rw[vN X hi Q.lo,af U,vN X hi l2,af];clear q;rcases Q with⟨j,Z,H,rfl⟩|⟨y,e,rfl⟩;.have U:iw V _ (2^j) i=true:=U;rw[GG (gZ Z (by decide)) hi]at U;exact(vM l2.lt hi).mpr ⟨j,gZ Z (by decide),H,U⟩
   .have U:iw V _ 0 i=true:=U;rw[QJ hi]at U;cases U
  .intro q;refine cps fun P C=>?_;obtain⟨j,Z,H,e⟩:=(vM l2.lt hi).mp ((pN X hi l2).mp q);refine C ?_;have Z:=tp l2 Z H;refine⟨_,.inl ⟨j,Z,H,rfl⟩,(pN X hi (zu Z)).mpr ?_⟩;show iw V _ (2^j) i=Y;rw[GG (gZ Z (by decide)) hi];exact e
 .have e:∀z,K2.s=D z->ak V (.mk 0 (D y)) K2=ak V (.mk 0 (D y)) (.mk 0 (D z)):=fun z e=>by rw[pM X l2,pM X zv];unfold fp;rw[e];rfl
  constructor
  .rintro J(⟨j,Z,H,rfl⟩|⟨z,hz,rfl⟩)q;.rw[pM X (zu Z)]at q;have q:(0:Int)<=if V=2 then(if(0:Int)<=-1 then 0 else-1)else-1:=q;rw[am (by decide:¬(0:Int)<=-1),ite_self]at q;exact ae q (by decide)
   .exact e z hz
  .intro q;rcases O:K2.s with _|z;.rw[pM X l2,show fp V (.mk 0 (D y)) K2=-1 by unfold fp;rw[O];rfl,am (by decide:¬(0:Int)<=-1),ite_self]at q;exact ae q (by decide)
   exact⟨_,.inr ⟨z,O,rfl⟩,e z O▸q⟩
end
section
variable{R W W' V b b' dp m b0:Nat}{c d:Nat}
theorem bF{p:Prop}{i:Decidable p}(Z:¬p->A)(X:p->B):br (decide p==ai) A B:=bI (fun h=>Z fun q=>by rw[aN q]at h;cases h) fun h=>X (nK fun q=>by rw[bQ q]at h;cases h)
theorem tq:x∈cV (c:Int)↔(c.testBit 0=Y/\x=1)\/(c.testBit 1=Y/\x=2)\/(c.testBit 2=Y/\x=11):=by
 have f:∀{b:Bool}{y:Nat},x∈(if b=Y then[y]else[])↔b=Y/\x=y:=fun{b y}=>by
  cases b;.exact⟨fun h=>ae h bJ,fun h=>(by have h:=h.1;contradiction)⟩
  .exact⟨fun h=>⟨rfl,aZ.mp h⟩,fun h=>aZ.mpr h.2⟩
 show x∈_++(_++_)↔_;rw[dH,dH,f,f,f];rfl
theorem GK:x∈cV ((c|||d:Nat):Int)↔x∈cV (c:Int)\/x∈cV (d:Int):=by
 rw[tq,tq,tq,jS,jS,jS,jT,jT,jT];constructor
 .rintro(⟨a|a,e⟩|⟨a|a,e⟩|⟨a|a,e⟩);.exact .inl (.inl ⟨a,e⟩)
  .exact .inr (.inl ⟨a,e⟩)
  .exact .inl (.inr (.inl ⟨a,e⟩))
  .exact .inr (.inr (.inl ⟨a,e⟩))
  .exact .inl (.inr (.inr ⟨a,e⟩))
  .exact .inr (.inr (.inr ⟨a,e⟩))
 .rintro((⟨a,e⟩|⟨a,e⟩|⟨a,e⟩)|(⟨a,e⟩|⟨a,e⟩|⟨a,e⟩));.exact .inl ⟨.inl a,e⟩
  .exact .inr (.inl ⟨.inl a,e⟩)
  .exact .inr (.inr ⟨.inl a,e⟩)
  .exact .inl ⟨.inr a,e⟩
  .exact .inr (.inl ⟨.inr a,e⟩)
  .exact .inr (.inr ⟨.inr a,e⟩)
theorem vP{a Z:List Nat}(h:x∈a.drop b0):x∈(a++Z).drop b0:=by rw[List.drop_append];exact mi _ h
theorem Iv.w(h:Iv A R W V b dp m b0 S)(Z:S.es.length+S.Tr.length+b'<W')(X:W'<=av)(U:b'<=b):Iv A R W' V b' dp m b0 S:={h.le U with lK:=Z,wl:=X}
theorem Pw.w(h:Pw A R W V b dp m b0 v S S')(Z:S'.es.length+S'.Tr.length+b<W')(X:W'<=av):Pw A R W' V b dp m b0 v S S':=⟨h.iv.w Z X (aE b),h.pre,h.fq,h.out⟩
theorem Pw.fail(h:Pw A R W V b dp m b0 v S S')(Z:u<0):Pw A R W V b dp m b0 u S S':=let⟨X,U,a1,J,H,Q,_⟩:=h.out;⟨h.iv,h.pre,h.fq,X,U,a1,J,H,Q,fun q=>ae q (cX.mpr Z)⟩
theorem Pq.zero(h:Pq A R W V b dp m b0 v S S')(Z:v<0):Pw A R W V b dp m b0 (0:Nat) S S':=⟨h.iv,h.pre,h.fq,[],[],by rw[bK];exact(h.cl Z).1,by rw[bK];exact(h.cl Z).2,fun _=>rfl,fun _ q=>ae q bJ,fun _ _=>⟨fun _ q=>ae q bJ,fun _ q=>nomatch q⟩⟩
theorem Pw.trans(h:Pw A R W V b' dp m b0 (c:Int) S Z)(h':Pw A R W V b dp m b0 (d:Int) Z s0):Pw A R W V b dp m b0 ((c|||d:Nat):Int) S s0:=by
 refine cps fun P C=>?_;obtain⟨M,L,a1,J,K,g,O⟩:=h.out;obtain⟨H,Q,e1,e2,e3,j,E⟩:=h'.out;refine C ?_;refine⟨h'.iv,h.pre.trans h'.pre,h.fq.trans h'.fq,M++H,L++Q,by rw[e1,a1,dx],by rw[e2,J,dx],fun q=>by rw[K q]at J⊢;rw[e3 (by rw[J,q];rfl)];rfl,?_,fun _ U=>⟨fun x X=>?_,fun x X=>?_⟩⟩
 .intro key r;rcases dH.mp r with q|q;.exact g.aq h'.pre (fun x X=>by rw[e1];exact vP X) key q
  .exact j key q
 .rw[GK];exact(dH.mp X).imp ((O (ib c) U).1 x) ((E (ib d) U).1 x)
 .rcases GK.mp X with q|q;.rw[e1];exact vP ((O (ib c) U).2 x q)
  .exact(E (ib d) U).2 x q
theorem Pw.toNat(h:Pw A R W V b dp m b0 v S S')(Q:0<=v):Pw A R W V b dp m b0 (v.toNat:Int) S S':=by rw[lr Q];exact h
noncomputable def cR(qa Z:Nat)(K1 K2:Kd):Nat:=qa+if(K1.s.isSome&&K2.s.isSome)=Y then Z else 0
noncomputable def sm(f:Nat->Nat):List Nat->Nat|[]=>0|p::l=>sm f l+f p
def db(A:Ad)(R V F L qa X U:Nat):Prop:=∀⦃n W b dp m b0:Nat⦄⦃S:Rs⦄⦃s t:Nat⦄⦃K1 K2:Kd⦄⦃c:Bool⦄⦃k:Po⦄,Iv A R W V (b+cR qa X K1 K2) dp m b0 S->cB V S.T (s,t) K1 K2 c L->eE S.T (s,t) K1 K2<m->uT S.T s+uT S.T t<=U->(∀Z,Pq A R W V b dp m b0 (ak V K1 K2) S Z->k (.bool (decide (0<=ak V K1 K2))) Z.σ)->CW (n+F+1) 83 [.ref R,.int s,.int t] S.σ k
theorem db.aQ{c:Bool}(ask:db A R V F L qa X U)(h:Iv A R W V (b+cR qa X K1 K2) dp m b0 S)(J:cB V S.T (s,t) K1 K2 c L)(H:eE S.T (s,t) K1 K2<m)(Q:uT S.T s+uT S.T t<=U)(O:∀Z,Pq A R W V b dp m b0 (ak V K1 K2) S Z->k (.bool (decide (0<=ak V K1 K2))) Z.σ):dr WD (CW (n+F+2)) 36 R S.σ S.σ [.int s,.int t] k:=o h.st.c0 ⟨rfl,Ez (ask h J H Q O)⟩
theorem QL:∀{l:List Nat},(∀p∈l,f p=qa+if q=D p then w else 0)->(∀p∈l,q≠D p)->sm f l=l.length*qa:=by intro l;induction l with|nil=>intro _ _;exact(rW qa).symm|cons p l X=>intro h h';show sm f l+f p=_;rw[X (fun p Z=>h p (cH _ Z)) fun p Z=>h' p (cH _ Z),h p aV,am (h' p aV),iF,oU,rX];rfl
theorem QM:∀{l:List Nat},(∀p∈l,f p=qa+if q=D p then w else 0)->l.Nodup->sm f l<=l.length*qa+if q.isSome=Y then w else 0:=by intro l;induction l with|nil=>intro _ _;exact bP _|cons p l U=>
intro h nd;have nd:=fg.mp nd;show sm f l+f p<=_;rw[h p aV,iF,oU,rX];by_cases e:q=D p;.rw[QL (fun p Z=>h p (cH _ Z)) fun J Z X=>nd.1 (by rw[e]at X;cases X;exact Z),af e,af (show q.isSome=Y by rw[e];rfl),eL];exact aE _
.rw[am e];have:=U (fun p Z=>h p (cH _ Z)) nd.2;exact E1 0x2f605020bd6c0012a0a0000 rfl this
theorem GL(h:St A R b T V dp (N++J) es (X++U) (X++U) tr σ)(nd:(X++U).Nodup)(H:(N++J).length<av)(Q:(X++U).length<av)(O:∀Z,St A R b T V dp N es X X tr Z->Fq A R tr σ tr Z->k .none Z):dr WD (CW (n+2)) 41 R σ σ [.ab [.int N.length,.int X.length]] k:=o h.c0 ⟨rfl,NT (F1 h nd H Q fun Z a b=>O Z a b)⟩
theorem GM(hi:σ[i]?=D (.list ys))(Z:xs.length+ys.length<av)(X:j≠i)(U:j≠0):qF 1 j xs σ [.ref i]=D (.none,σ.set j (.list (xs++ys))):=by show(match σ[i]? with|some (.list ys)=>_|_=>I)=_;rw[hi];exact af (by rw[aN Z,fx.mpr X,fx.mpr U];rfl)
theorem QN(h:St A R b T V dp N es U U tr σ)(ha:σ[a]?=D (.list (O.map eN)))(C:σ[e]?=D (.list (M.map bv)))(la:R+9<a)(L:R+9<e/\e≠tr)(nd:(U++M).Nodup)(h2:∀e∈es,cg e.1=2)(hN:(N++O).length<av)(j:(U++M).length<av)(hk:∀Z X,St A R b T V dp (N++O) es (U++Z) (U++Z) tr X->(∀x∈Z,x∈M)->Z.length<=M.length->(U++Z).Nodup->Fq A R tr σ tr X->k .none X):CW (n+1) 96 [.ref R,.ab [.ref a,.ref e]] σ k:=by
 have hp:=h.pos;have u:=h.ht;refine N4 ?_;apply o h.mT;apply o h.pF;apply o h.c7;apply o (ez h.c7);have z:N.map eN++O.map eN=(N++O).map eN:=g8.symm;apply p ((GM ha (by rw[aT.symm,z,aJ];exact hN) (aC 0xab680086aba0016 rfl la) (aB 146407430 rfl)).trans (by rw[z]));have J:Fq A R tr σ tr (σ.set (R+7) (.list ((N++O).map eN))):=.aP (.inl (⟨aB 390090752 rfl,aB 468163624960 rfl⟩)) (aB 390090752 rfl);apply o (kL (J.keep e _ C (fun q=>by have:=h.lo;rcases cc.mp q with q|q;exact fj 0x2d508a96086ada002121003 rfl L.1 this.2.1 q;exact fj 0x2d508a96086ada002121003 rfl L.1 this.2.2.1 (aZ.mp q)) (.inr L)) (by rw[aJ];rw[aT]at j;exact aC 93080565927937 rfl j));refine j4 (fun r lc X=>E4 fun w d Z q=>A8 (r=q.map bv) (M=d++q) (lc=[D (.ref R),D (.ab [.ref a,.ref e]),w]) (St A R b T V dp (N++O) es (U++Z) (U++Z) tr X) (Fq A R tr σ tr X) (∀x∈Z,x∈d) (Z.length<=d.length) ((U++Z).Nodup)) ?_ ?_ ?_ ⟨I,[],[],M,rfl,rfl,rfl,by rw[bK];exact h.y5,J,fun _ q=>ae q bJ,aE _,by rw[bK];exact(oW.mp nd).1⟩;.rintro r lc X⟨_,_,_,_,_,_,_,_,J,_⟩;exact J.keep e _ C (fun q=>by have:=h.lo;rcases cc.mp q with q|q;exact fj 0x2d508a96086ada002121003 rfl L.1 this.2.1 q;exact fj 0x2d508a96086ada002121003 rfl L.1 this.2.2.1 (aZ.mp q)) (.inr L)
 .clear C nd j;rintro lc X⟨w,d,Z,q,t,rfl,rfl,h,J,s,g,H⟩;induction q using eQ with|cons=>cases t|nil=>rw[bK]at hk;exact hk Z X h s g H J
 .clear C nd hk;rintro x r lc X K⟨w,d,Z,q,t,rfl,rfl,h,J,s,g,H⟩hK;rcases q with _|⟨y,q⟩;.cases t
  cases t;have lq:(U++(d++y::q)).length=U.length+(d.length+(q.length+1)):=by rw[aT,aT,iF]
  have f:(U++Z).length=U.length+Z.length:=aT;have Q:∀(B:Prop),(E4 fun w d' Z q'=>A8 (q.map bv=q'.map bv) (d++y::q=d'++q') ([D (.ref R),D (.ab [.ref a,.ref e]),D (bv y)]=[D (.ref R),D (.ab [.ref a,.ref e]),w]) (St A R b T V dp (N++O) es (U++Z) (U++Z) tr X) (Fq A R tr σ tr X) (∀x∈Z,x∈d') (Z.length<=d'.length) ((U++Z).Nodup)):=fun _=>⟨_,d++[y],Z,q,rfl,by rw[dx];rfl,rfl,h,J,fun x l=>mi _ (s x l),by rw[aT];exact aC 0xad0202901505000 rfl g,H⟩;apply o h.qY;apply o (pp h.c2 (sX (x:=y)));rw[y9];refine bF (fun hy=>?_) fun _=>hK _ _ (Q True);apply o h.qZ;apply o (pp h.c3 (eK.mpr ⟨rfl,fQ.mpr fun e C=>by rw[h2 e C];rfl⟩));refine bI (fun _=>?_) fun _=>hK _ _ (Q True);apply o h.qY;apply o ((mN (v:=.int 1) h.c2 (sX (x:=y)) (by unfold eY;rw[aJ];exact E9 0xae014088b90581805c3215c21b542015001 rfl g j lq f) (aB 141164550 rfl)).trans (by rw[FZ hy]));have i:=h.vr (vt:=U++Z++[y]);apply o i.on;apply o i.ct;apply o (ez i.ct);have z:(U++Z).map bv++[bv y]=(U++Z++[y]).map bv:=by rw[g8 (l₂:=[y])];rfl
  apply p ((gz (v:=bv y) (by rw[aJ];exact E9 0xae014088b90581805c3215c21b542015001 rfl g j lq f) (u.elim (fun E=>aC 304586248310790 rfl E) fun E=>aC 718702682198022 rfl E)).trans (by rw[z]));have s3:=i.yZ (vv:=U++Z++[y]);rw[dx]at s3;refine hK _ _ ⟨_,d++[y],Z++[y],q,rfl,by rw[dx];rfl,rfl,by rw[dx];exact s3,J.trans ((Fq.aP (.inl (⟨aB 222318592 rfl,aB 468158382080 rfl⟩)) (aB 222318592 rfl)).trans (.aP (.inr rfl) (u.elim (fun E=>aC 303487810981888 rfl E) fun E=>aC 753852695105536 rfl E))),fun x l=>?_,by rw[aT,aT];exact uy g _,?_⟩;.rw[dH]at l⊢;exact l.imp_left (s x)
  .rw[<-dx];exact oW.mpr ⟨H,fg.mpr ⟨bJ,jQ⟩,fun a ha b hb e=>hy (by rw[aZ.mp hb]at e;exact e▸ha)⟩
end
def tu(R W V b U:Nat)(S:Rs)(v:Int)(T:List aa)(es:List (aa×aa))(tr:Nat)(σ:AH)(d:aa):Prop:=E4 fun a e Z X=>Fe (d=.ab [.ref a,.ref e]) (σ[a]?=D (.list (Z.map eN))) (σ[e]?=D (.list (X.map bv))) (R+9<a/\a≠tr) (R+9<e/\e≠tr) ((S.Tr++X).Nodup) ((S.N++Z).length+b<av) (es.length+S.Tr.length+X.length+b<W) (S.Tr=[]->X=[]) (mU T V ((S.N++Z).drop U) X) (0<=v->V=1->(∀x∈Z,x∈cV v)/\∀x∈cV v,x∈(S.N++Z).drop U)
section
variable{A:Ad}
theorem iT(lo:A.az<R/\A.r<R/\A.ix<R/\A.bd<R)(h:R<=i):i∉A.aP:=fun q=>by
 rcases cc.mp q with q|q;.exact ae (q▸lo.2.1) (hE.mpr h)
 .exact ae (aZ.mp q▸lo.2.2.1) (hE.mpr h)
theorem tu.keep(h:tu R W V b M S v T es tr σ d)(lo:A.az<R/\A.r<R/\A.ix<R/\A.bd<R)(L:T<+:T')(O:Fq A R tr σ jD Z)(K:b'<=b)(j:X.length+b'<=es.length+b):tu R W V b' M S v T' X jD Z d:=by
 obtain⟨a,e,u,w,e1,e2,e3,U,J,k,m,f,y,H,Q⟩:=h;have E:∀{i o},σ[i]?=D o->i≠tr->i≠jD:=fun{i o}h q C=>by
  have:=(bo.mp h).1;rcases O.tr with e|e;.exact q (C.trans e)
  .exact fj 0xad820b5021ad03221003 rfl C this e
 have g:∀{i o},σ[i]?=D o->R+9<i/\i≠tr->Z[i]?=D o:=fun{i o}h q=>O.keep i o h (iT lo (aC 753852695105536 rfl q.1)) (.inr q);exact⟨a,e,u,w,e1,g e2 U,g e3 J,⟨U.1,E e2 U.2⟩,⟨J.1,E e3 J.2⟩,k,pn 0x15a80086d508055a0001 rfl K m,Fa 0xc6ad5c80000875905e8008317b568000001 rfl j f,y,H.aq L fun _ x=>x,Q⟩
theorem GN(h:i<av):bound m u (.int i)=D (min i m):=by show(if small i=Y then D (if(i:Int)<0 then((i:Int)+m).toNat else min (i:Int).toNat m)else I)=_;rw[af (jx h),am (ii.mpr (ib _)),ie]
theorem GO(h:σ[i]?=D (.list (xs++ys)))(X:(xs++ys).length<av):qD σ (.ref i) (.int xs.length) .none=D (.ref σ.length,σ++[.list ys]):=by
 have l2:xs.length<=(xs++ys).length:=by rw[aT];exact b7 _ _
 have e:dS (xs++ys) (.int xs.length) .none=D ys:=by unfold dS;rw[af X,GN (dL l2 X),mq l2];show D (((xs++ys).take _).drop _)=_;rw[sd,KU]
 show(match σ[i]? with|some (.list xs)=>_|_=>I)=_;rw[h];show(match dS (xs++ys) _ _ with|some r=>_|none=>I)=_;rw[e]
theorem GP(f:Nat->Nat)(ask:db A R V F L qa qs U)(h:Iv A R W V (b+sm f l) dp m b0 S)(hl:l.length<av)(hp:∀p∈l,∃X,A4 (cB V S.T (s,p) K1 X c L) (eE S.T (s,p) K1 X<m) (uT S.T s+uT S.T p<=U) (cR qa qs K1 X<=f p))(hy:∀p∈l,∀X S',cB V S.T (s,p) K1 X c L->0<=ak V K1 X->Pw A R W V b dp m b0 (ak V K1 X) S S'->k (.bool Y) S'.σ)(hn:∀S',(∀p∈l,∀X,cB V S.T (s,p) K1 X c L->ak V K1 X<0)->Pq A R W V b dp m b0 (-1) S S'->k (.bool ai) S'.σ):CW (n+F+3) 95 [.ref R,.int s,.ab (aY l)] S.σ k:=by
 obtain⟨T,N,es,Tr,tr,σ⟩:=S;have s8:cG<+:T:=h.st.tb.base;have zz:b0<=N.length:=h.b0;have lo:=h.st.lo;have wl:=h.wl;refine N3 ?_;apply o (hW (xs:=aY l) (by rw[jC];exact hl));refine j4 (fun r lc Q=>E8 fun v3 v4 v5 T1 Z H dn q=>A7 (r=aY q) (l=dn++q) (lc=[D (.ref R),D (.int s),D (.ab (aY l)),D v3,v4,v5]) (Iv A R W V (b+sm f q) dp m b0 ⟨T1,N,Z,Tr,H,Q⟩) (T<+:T1) (Fq A R tr σ H Q) ((v3=.none/\∀p∈dn,∀X,cB V T (s,p) K1 X c L->ak V K1 X<0)\/∃p∈l,∃X,A3 (cB V T (s,p) K1 X c L) (0<=ak V K1 X) (tu R W V (b+sm f q) b0 ⟨T,N,es,Tr,tr,σ⟩ (ak V K1 X) T1 Z H Q v3))) ?_ ?_ ?_ ⟨.none,I,I,T,es,tr,[],l,rfl,rfl,rfl,h,df T,.rfl,.inl ⟨rfl,fun _ q=>ae q bJ⟩⟩;.exact fun _ _ _ _=>trivial
 .rintro lc Q⟨v3,v4,v5,T1,Z,H,dn,q,hr,hl,rfl,O,p1,f1,hd⟩;induction q using eQ with|cons=>cases hr|nil=>
  rw[bK]at hl;subst hl;have O:Iv A R W V b dp m b0 ⟨T1,N,Z,Tr,H,Q⟩:=O;rcases hd with⟨rfl,hd⟩|⟨p,hp,X,ht,hv,a,e,v,u,rfl,e2,e3,e4,e5,e6,e7,e8,e9,QO,QP⟩;.exact hn ⟨T1,N,Z,Tr,H,Q⟩ hd ⟨⟨O,p1,f1,[],[],(bK _).symm,(bK _).symm,fun _=>rfl,fun _ q=>ae q bJ,fun q=>ae q (by decide)⟩,fun _=>⟨rfl,rfl⟩⟩
  .have e7:(N++v).length+b<av:=e7;have e8:Z.length+Tr.length+u.length+b<W:=e8;apply QN O.st e2 e3 e4.1 e5 e6 O.kn.k2 (dL (b7 _ _) e7) (by show(Tr++u).length<av;rw[aT];exact dL (bh (uy (KT _ _) _) (b7 _ _)) (iX e8 wl));intro vQ cy s2 hs zA QQ f2;have GQ:mU T1 V ((N++v).drop b0) vQ:=fun key hk=>QO key (hs key hk);refine hy p hp X ⟨T1,N++v,Z,Tr++vQ,H,cy⟩ ht hv ⟨⟨s2,e7,?_,wl,QQ,O.kn,fun key hk=>?_,by show b0<=(N++v).length;rw[aT];exact c5 760897166397440 rfl zz,O.dp⟩,p1,f1.trans f2,v,vQ,rfl,rfl,fun q=>?_,GQ,QP⟩;.show Z.length+(Tr++vQ).length+b<W;rw[aT,<-eL];exact dL (uy (eP zA _) b) e8
   .rcases dH.mp hk with q|q;.exact O.tk.aq O.st.tb.base (df _) (fun x hx=>vP hx) key q
    .exact GQ.ok key q
   .rw[e9 q]at zA;exact nH (Zt.mp zA)
 .rintro x r lc Q K⟨v3,v4,v5,T1,Z,H,dn,q,hr,hq,rfl,O,p1,f1,hd⟩hK;rcases q with _|⟨y,q⟩;.cases hr
  cases hr;have pO:y∈l:=by rw[hq];exact jP _ aV
  obtain⟨X,ht,pK,hu,hc⟩:=hp y pO;have vs:=ht.r1.gR s8;have vy:=ht.r2.gR s8;rw[sm,<-eL]at O hd;have tz:Z.length+Tr.length+(b+sm f q+f y)<W:=O.lK;apply vw O.st O.lS O.pG;apply db.aQ ask (S:=⟨T1,N,Z,Tr,H,Q⟩) (O.w (b':=b+sm f q+cR qa qs K1 X) (W':=Z.length+Tr.length+(b+sm f q+f y)+1) (BP (eP (eP hc _) _)) (bh tz wl) (eP hc _)) (ht.aq p1) (by unfold eE at pK⊢;rw[ka p1 vs,ka p1 vy];exact pK) (by rw[ka p1 vs,ka p1 vy];exact hu);rintro⟨T2,N2,J,zc,M,cy⟩⟨hw,t⟩;have j:J.length+zc.length+(b+sm f q)<Z.length+Tr.length+(b+sm f q+f y)+1:=hw.iv.lK;have hw:=hw.w (iX j tz) wl;have p2:T1<+:T2:=hw.pre;have f2:Fq A R H Q M cy:=hw.fq;have q9:=p1.trans p2;have GR:=f1.trans f2;have pP:l=(dn++[y])++q:=by rw[hq,dx];rfl
  refine bD (fun hv=>?_) fun hv=>?_
  .clear t;obtain⟨v,u,rfl,rfl,g1,g2,g3⟩:=hw.out;have i2:=hw.iv;have i:(N++v).length+(b+sm f q)<av:=i2.lN;have GS:J.length+(Tr++u).length+(b+sm f q)<W:=i2.lK;have j:J.length+(Tr++u).length+(b+sm f q)<Z.length+Tr.length+(b+sm f q+f y)+1:=j;rw[aT]at j;have E:St A R (b+sm f q) T2 V dp (N++v) J (Tr++u) (Tr++u) M cy:=i2.st;apply o E.mT;apply o E.pF;apply p (y7 E (c5 97566951031787521 rfl i));refine bD (fun e=>?_) fun ne=>?_;.exact hy y pO X ⟨T2,N++v,J,Tr++u,M,cy⟩ ht hv ⟨i2.le (bA 725635072 rfl),q9,GR,v,u,rfl,rfl,g1,g2,g3⟩
   have fk:∀{eb v3},St A R (b+sm f q) T2 V dp (N++v) J (Tr++u) (Tr++u) M eb->Fq A R H Q M eb->(∃p∈l,∃X,A3 (cB V T (s,p) K1 X c L) (0<=ak V K1 X) (tu R W V (b+sm f q) b0 ⟨T,N,es,Tr,tr,σ⟩ (ak V K1 X) T2 J M eb v3))->dr WD (CW (n+F+2)) 41 R eb eb [.ab [.int N.length,.int Tr.length]] fun d σ=>br (iK d) (K [D (.ref R),D (.int s),D (.ab (aY l)),D v3,D (.int y),D (.ab [.int N.length,.int Tr.length])] σ) False:=fun{eb v3}lV f3 hL=>by
    apply GL lV i2.nd (c5 97566951031787521 rfl i) i2.pG;intro jd QR f4;refine cps fun P hP=>?_;obtain⟨p,hp,z,C,tA,hL⟩:=hL;refine hP ?_;refine hK _ _ ⟨v3,_,_,T2,J,M,dn++[y],q,rfl,pP,rfl,⟨QR,?_,?_,wl,O.nd,i2.kn,O.tk.aq O.st.tb.base p2 fun _ x=>x,zz,O.dp⟩,q9,f1.trans (f3.trans f4),.inr ⟨p,hp,z,C,tA,hL.keep lo (df _) f4 (aE _) (aE _)⟩⟩;.show N.length+(b+sm f q)<av;rw[aT]at i;exact E1 0x56a82f40002115aa0a0001 rfl i
    .show J.length+Tr.length+(b+sm f q)<W;rw[aT]at GS;exact Fb 0x2eaf6002b900017b0375050000871abd800ae40008717b02b400001 rfl tz j
   rcases hd with⟨rfl,hd⟩|⟨p',jA,z,C,tA,hL⟩
   .apply o E.mT;apply o E.pF;have em:(N++v).map eN=N.map eN++v.map eN:=g8;have GT:(Tr++u).map bv=Tr.map bv++u.map bv:=g8;have c7:=E.c7;rw[em]at c7;have s1:=GO c7 (by rw[em.symm,aJ];exact c5 97566951031787521 rfl i);rw[aJ]at s1;apply p s1;have lV:=E.cm (g:=[.list (v.map eN)]);apply o lV.on;have ct:=lV.ct;rw[GT]at ct;have s2:=GO ct (by rw[GT.symm,aJ];exact i2.pG);rw[aJ]at s2;apply p s2;have l9:=(bo.mp E.c9).1;have lt:=(bo.mp E.ct).1;refine fk (lV.cm (g:=[.list (u.map bv)])) f2.cm.cm ⟨y,pO,X,ht,hv,cy.length,_,v,u,rfl,dt aR,aR,⟨l9,jm lt⟩,⟨?_,?_⟩,i2.nd,i,?_,g1,g2,g3⟩;.rw[aT];exact aC 0xab680084a40540da0001 rfl l9
    .rw[aT];exact aC 0xa5421a9480a0006 rfl lt
    .rw[aT]at GS;show J.length+Tr.length+u.length+_<W;exact Fb 0xbbc5c00ae800062e0b541400021cef17002ba00021ce2e0b568000001 rfl tz j
   .refine bE (fun q=>?_) fun _=>?_;.obtain⟨_,_,_,_,rfl,_⟩:=hL;cases q
    .exact fk E f2 ⟨p',jA,z,C,tA,hL.keep lo p2 f2 (b7 _ _) (by show J.length+(b+sm f q)<=Z.length+(b+sm f q+f y);exact ON 0x2e2d50033700016a83590500008716a801705aa0a0000 rfl j)⟩
  .have t:=t (cX.mp hv);have e1:N2=N:=t.1;have e2:zc=Tr:=t.2;clear h hp hy hn zz O pK hu tz t;subst e1 e2;refine hK _ _ ⟨v3,_,_,T2,J,M,dn++[y],q,rfl,pP,rfl,hw.iv,q9,GR,?_⟩;rcases hd with⟨rfl,hd⟩|⟨p',jA,z,C,tA,hL⟩
   .refine .inl ⟨rfl,fun p hp z C=>?_⟩;rcases dH.mp hp with q|q;.exact hd p q z C
    .rw[aZ.mp q]at C;rw[(C.cU ht).2];exact cX.mp hv
   .exact .inr ⟨p',jA,z,C,tA,hL.keep lo p2 f2 (b7 _ _) (by show J.length+(b+sm f q)<=Z.length+(b+sm f q+f y);exact OM 0xb8b5400cdc0005aa0cd00008716a801705aa0a0000 rfl j)⟩
end
section
variable{K1 K2 K' dP:Kd}
theorem Pw.any(h:Pw A R W V b Z m X v S S')(U:V≠1):Pw A R W V b Z m X u S S':=let⟨J,H,a1,Q,O,E,_⟩:=h.out;⟨h.iv,h.pre,h.fq,J,H,a1,Q,O,E,fun _ q=>ae q U⟩
theorem Pw.le(h:Pw A R W V b Z m X v S S')(l:b'<=b):Pw A R W V b' Z m X v S S':=⟨h.iv.le l,h.pre,h.fq,h.out⟩
theorem Pw.at(h:Pw A R W V b Z m X v S S')(e:v=U):Pw A R W V b Z m X U S S':=e▸h
theorem rh(nd:T.Nodup)(b:PR T K1.m l q)(d:dB c T K1.s l q):l.length<=27:=(PS.of b d).len nd b.nd fun _ x=>x
theorem QS(h:a=0\/a=u)(h':e=0\/e=u):a|||e=0\/a|||e=u:=by
 rcases h with rfl|rfl<;>rcases h' with rfl|rfl;.exact .inl rfl
 .exact .inr (K4 _)
 .exact .inr (mu _)
 .exact .inr (K5 _)
theorem GU(h:a=0\/a=u):a|||u=u:=by
 rcases h with rfl|rfl;.exact K4 _
 .exact K5 _
theorem QT(h':e=0\/e=u):u|||e=u:=by rw[Nat.or_comm];exact GU h'
theorem cB.pR(h:cB V T (s,t) K1 K2 c n)(Z:dj K1 K'){p:Nat}(r:KR c T K' p):cB V T (p,t) K' K2 c n:=⟨h.le,Z.wf h.w1,h.w2,r,h.r2⟩
theorem cB.pS(h:cB V T (s,t) K1 K2 c n)(Z:dj K2 K'){p:Nat}(r:KR (!c) T K' p):cB V T (s,p) K1 K' c n:=⟨h.le,h.w1,Z.wf h.w2,h.r1,r⟩
theorem QU:∀x,x<16->[aa.int 8,aa.int 9].contains (.int (di x))=false:=by decide+kernel
theorem QV(Z:x<16)(X:Q):br ([aa.int 8,aa.int 9].contains (.int (di x))==Y) P Q:=by rw[QU x Z];exact X
theorem vT(nd:T.Nodup)(b:PR T K1.m l q)(d:dB c T K1.s l q):∃f:Nat->Nat,(∀p,f p=qa+if q=D p then w else 0)/\sm f l<=27*qa+if K1.s.isSome=Y then w else 0:=by
 refine⟨fun p=>qa+if q=D p then w else 0,fun _=>rfl,bh (QM (fun _ _=>rfl) b.nd) (jM (ut qa (rh nd b d)) ?_)⟩;rcases Z:K1.s with _|x;.rw[Z]at d;rw[show q=I from d];exact aE _
 show(if q.isSome=Y then w else 0)<=w;split<;>first|exact aE _|exact bP _
theorem GV{qa Z p:Nat}(h:K'.s.isSome=Y->q=D p):cR qa Z K' K2<=qa+if q=D p then(if K2.s.isSome=Y then Z else 0)else 0:=by
 unfold cR;rcases e:K'.s.isSome with _|_;.exact b7 _ _
 rw[af (h e)];exact aE _
theorem GW{qa H p:Nat}(h:K'.s.isSome=Y->q=D p):cR qa H K1 K'<=qa+if q=D p then(if K1.s.isSome=Y then H else 0)else 0:=by unfold cR;rw[Bool.and_comm];exact GV h
noncomputable def mX(V:Nat)(K1 K2:Kd):Int:=match K1.s with|some y=>ak V (.mk 0 (D y)) K2|none=>0
theorem QW(hm:V≠3)(ask:db A R V F L qa qs u')(h:Iv A R W V (b+cR (27*qa) qs K1 K2) dp m b0 S)(u:cB V S.T (s,t) K1 K2 c L)(hr:eE S.T (s,t) K1 K2<=m)(hs:uT S.T s=1)(hu:uT S.T t<=u')(l1:Lo K1)(l2:Lo K2)(nv:fM K1=ai)(hk:∀M,Pw A R W V b dp m b0 (ak V K1 K2) S M->k (.bool (decide (0<=ak V K1 K2))) M.σ):CW (n+F+3) 94 [.ref R,.int s,.int t] S.σ k:=by
 have O:=h.st.tb.base;refine N0 ?_;refine h.st.om ?_;apply pD h.st.tb u.r1;intro l qq zB z hS;apply o (hW (xs:=aY l) (by rw[jC];exact ax 951133426241537 rfl (rh h.st.tb.nd z hS)));have pt:=fun p g=>vO O z hS l1 (p:=p) g;obtain⟨f,hf,zC⟩:=vT (qa:=qa) (w:=if K2.s.isSome=Y then qs else 0) h.st.tb.nd z hS;have bS:∀M,Pw A R W V b dp m b0 (ak V K1 K2) S M->0<=ak V K1 K2->k (.bool Y) M.σ:=fun M a e=>by have:=hk M a;rw[aN e]at this;exact this
 have no:∀M,Pw A R W V b dp m b0 (ak V K1 K2) S M->¬0<=ak V K1 K2->k (.bool ai) M.σ:=fun M a e=>by have:=hk M a;rw[bQ e]at this;exact this
 refine j4 (fun r lc au=>E5 fun v3 S1 a dn q=>A7 (r=aY q) (l=dn++q) (lc=[D (.ref R),D (.int s),D (.int t),v3]) (S1.σ=au) (Pw A R W V (b+sm f q) dp m b0 ((a:Nat):Int) S S1) (V=2->∀p∈dn,∀K',cB V S.T (p,t) K' K2 c L->ak 2 K' K2<0) (V≠2->(a=0\/a=(mX V K1 K2).toNat)/\∀p∈dn,∀K',dj K1 K'->cB V S.T (p,t) K' K2 c L->0<=ak V K' K2/\(∀y,K'=.mk 0 (D y)->a=(mX V K1 K2).toNat))) ?_ ?_ ?_ ⟨I,S,0,[],l,rfl,rfl,rfl,rfl,(Pw.refl (v:=0) (h.le (eP (bh zC (by unfold cR;cases K1.s.isSome<;>exact aE _)) b)) fun _ _ q j=>nomatch j),fun _ _ q=>ae q bJ,fun _=>⟨.inl rfl,fun _ q=>ae q bJ⟩⟩;.exact fun _ _ _ _=>trivial
 .rintro lc au⟨v3,S1,a,dn,q,hr,hl,rfl,rfl,J,h2,U⟩;induction q using eQ with|cons=>cases hr|nil=>
  rw[bK]at hl;subst hl;have J:Pw A R W V b dp m b0 ((a:Nat):Int) S S1:=J;apply o J.iv.st.eZ;by_cases e2:V=2;.clear hm ask h hk bS U;subst e2;refine no S1 (J.any (by decide)) fun q=>?_;obtain⟨K',d,H⟩:=(GJ l1 l2 nv).mp q;obtain⟨p,g,r⟩:=rg O z hS d;exact ae H (cX.mpr (h2 rfl p g K' (u.pR d r)))
  .have U:=U e2;have H:=VU hm e2 l1 l2 nv;have Q:0<=ak V K1 K2:=H.1.mpr fun K' d=>by obtain⟨p,g,r⟩:=rg O z hS d;exact(U.2 p g K' d (u.pR d r)).1
   have e:(!decide ((V:Int)=2))=true:=by rw[bQ (fun q:(V:Int)=2=>e2 (dq q))];rfl
   have hy:=bS S1 (J.at ?_) Q;.rw[<-e]at hy;exact hy
   have es:ak V K1 K2=mX V K1 K2:=H.2 Q;rw[es]at Q⊢;rw[<-lr Q];congr 1;rcases hy:K1.s with _|y
   .have e0:(mX V K1 K2).toNat=0:=by unfold mX;rw[hy];rfl
    rw[e0]at U⊢;exact U.1.elim id id
   obtain⟨p,g,r⟩:=rg O z hS (.inr ⟨y,hy,rfl⟩);exact(U.2 p g _ (.inr ⟨y,hy,rfl⟩) (u.pR (.inr ⟨y,hy,rfl⟩) r)).2 y rfl
 .rintro x r lc au K⟨v3,S1,a,dn,q,vi,j,rfl,rfl,J,h2,U⟩d;rcases q with _|⟨y,q⟩;.cases vi
  cases vi;have pO:y∈l:=by rw[j];exact jP _ aV
  refine cps fun P z=>?_;obtain⟨K',E,r,u0,iq⟩:=pt y pO;refine z ?_;have C:=u.pR E r;rw[sm,<-eL]at J;have e1:uT S1.T y=0:=(ka J.pre (r.gR O)).trans u0;have e2:uT S1.T t=uT S.T t:=ka J.pre (u.r2.gR O);have hd:=E.dp;have pP:l=(dn++[y])++q:=by rw[j,dx];rfl
  have GX:b<=b+sm f q:=b7 _ _;have hc:cR qa qs K' K2<=f y:=by rw[hf y];exact GV iq
  apply db.aQ ask (J.iv.le (eP hc _)) (C.aq J.pre) (by show 4*(cK K'+cK K2)+uT S1.T y+uT S1.T t<m;rw[e1,e2];exact E7 0xcd080bdb15c8083000202e032bd895a008300001 rfl hs (hr) hd) (by rw[e1,e2,gk];exact hu);intro S2 j;refine bD (fun H=>?_) fun H=>?_
  .have Z:=J.trans (j.toPw.toNat H);apply o Z.iv.st.eZ;refine bM 2 rfl (fun e=>?_) fun e=>?_;.clear hm ask h u hk no h2 U J d C j;subst e;have:=(GJ l1 l2 nv).mpr ⟨K',E,H⟩;exact bS S2 ((Z.any (by decide)).le GX) this
   .have U:=U e;have hc:(ak V K' K2).toNat=0\/(ak V K' K2).toNat=(mX V K1 K2).toNat:=by
     clear r iq C hd hc j H Z;rcases E with⟨i,hi,_,rfl⟩|⟨y,e,rfl⟩;.rw[vN hm hi l2];exact .inl (by split<;>rfl)
     .right;unfold mX;rw[e]
    refine d _ _ ⟨_,S2,_,dn++[y],q,rfl,pP,rfl,rfl,Z,fun q=>ae q e,fun _=>⟨QS U.1 hc,fun p g dP ri X=>?_⟩⟩;rcases dH.mp g with q|q;.exact⟨(U.2 p q dP ri X).1,fun y ey=>by rw[(U.2 p q dP ri X).2 y ey];exact QT hc⟩
    .rw[aZ.mp q]at X;have:=(X.cU C).1;clear E r iq C hd j Z hc;subst this;refine⟨H,fun y ey=>?_⟩;subst ey;rcases ri with⟨i,_,_,e⟩|⟨y',e,e'⟩;.injection e with _ e;cases e
     .cases e';have:(ak V (.mk 0 (D y)) K2).toNat=(mX V K1 K2).toNat:=by unfold mX;rw[e]
      rw[this];exact GU U.1
  .have H:=cX.mp H;have Z:=J.trans (j.zero H);apply o Z.iv.st.eZ;refine bN (bM 2 rfl (fun e=>?_) fun e=>?_)
   .clear hm ask h u hk bS no U J j;subst e;refine d _ _ ⟨_,S2,_,dn++[y],q,rfl,pP,rfl,rfl,Z,fun _ p g dP X=>?_,fun q=>ae rfl q⟩;rcases dH.mp g with q|q;.exact h2 rfl p q dP X
    .rw[aZ.mp q]at X;rw[(X.cU C).1];exact H
   .have hn:¬0<=ak V K1 K2:=fun q=>ae ((VU hm e l1 l2 nv).1.mp q K' E) (cX.mpr H);exact no S2 ((Z.fail (cX.mp hn)).le GX) hn
theorem QX(hm:V≠3)(ask:db A R V F L qa qs 0)(h:Iv A R W V (b+cR (27*qa) qs K1 K2) dp m b0 S)(E:cB V S.T (s,t) K1 K2 c L)(y:eE S.T (s,t) K1 K2<=m)(hs:uT S.T s=0)(hu:uT S.T t=1)(l2:Lo K2)(U:Co S.T s x)(i:x<11\/x=14)(C:KC x K1)(M:∀J,Pw A R W V b dp m b0 (ak V K1 K2) S J->k (.bool (decide (0<=ak V K1 K2))) J.σ):CW (n+F+4) 97 [.ref R,.int s,.int t] S.σ k:=by
 have K:=h.st.tb.base;have hV:=VT hm (i.imp (fun q=>⟨x,q,C.a (gZ q (by decide))⟩) fun q=>C.s q) l2;refine N5 ?_;refine h.st.om ?_;apply pD h.st.tb E.r2;intro l qq zB Q j;have pt:=fun p H=>vO K Q j l2 (p:=p) H;obtain⟨f,hf,zC⟩:=vT (qa:=qa) (w:=if K1.s.isSome=Y then qs else 0) h.st.tb.nd Q j;have bS:∀J K' p,dj K2 K'->cB V S.T (s,p) K1 K' c L->Pw A R W V b dp m b0 (ak V K1 K') S J->0<=ak V K1 K'->k (.bool Y) J.σ:=fun J K' p Z H a e=>by have e':=hV.1 K' Z e;have:=M J (by rw[e'];exact a);rw[e',aN e]at this;exact this
 apply o (ou (l:=l) (z:=s));refine bE (fun q=>?_) fun _=>?_;.obtain⟨p,H,e⟩:=q;cases dq e;obtain⟨K',Z,r,_⟩:=pt s H;have X:=E.pS Z r;have e0:=X.same (V:=V);exact bS S K' s Z X (.refl (h.le (b7 _ _)) fun _ _ x U=>by rw[e0]at U;exact nomatch U) (by rw[e0];exact fR 0)
 apply GP (n:=n) (b:=b) (m:=m) f ask (h.le (eP (bh zC (by unfold cR;cases K1.s.isSome<;>cases K2.s.isSome<;>exact aE _)) b)) (ax 951133426241537 rfl (rh h.st.tb.nd Q j)) (fun p H=>by obtain⟨K',Z,r,u0,iq⟩:=pt p H;have u:=Z.dp;exact⟨K',E.pS Z r,by show 4*(cK K1+cK K')+uT S.T s+uT S.T p<m;have y:4*(cK K1+cK K2)+uT S.T s+uT S.T t<=m:=y;rw[hs,u0];exact E7 0xb5f38a008300020c54802dc32b1095a008300001 rfl hu u y,by rw[hs,u0];exact aE _,by rw[hf p];exact GW iq⟩);.intro p H K' J X v O;refine cps fun P Q=>?_;obtain⟨dP,Z,r,u0⟩:=pt p H;refine Q ?_;rw[(X.cU (E.pS Z r)).2]at v O X;exact bS J dP p Z X O v
 .intro J g O;have hn:¬0<=ak V K1 K2:=fun q=>by obtain⟨K',Z,v⟩:=hV.2 q;obtain⟨p,H,r⟩:=rg K Q j Z;exact ae v (cX.mpr (g p H K' (E.pS Z r)))
  have M:=M J (O.toPw.fail (cX.mp hn));rw[bQ hn]at M;have st:=O.iv.st;have U:=U;obtain⟨d,u⟩:=U.iu;apply o st.tb.fW;apply o (st.tb.row (bV O.pre u));apply o (U.dh u);refine zk U.lt ?_;refine bT 7 rfl (fun e=>ae e (q8 U.lt 7 (by decide))) fun _=>?_;refine bT 7 rfl (fun e=>ae e (q8 U.lt 7 (by decide))) fun _=>?_;refine QV U.lt ?_;refine bT 12 rfl (fun e=>ae e (q8 U.lt 12 (by decide))) fun q=>?_;show k (.bool (decide ((di x:Int)=12))) J.σ;rw[bQ fun e:(di x:Int)=12=>q (dq e)];exact M
end
section
theorem V3:0<=ak 3 K1 K2↔cA K1=cA K2:=by
 show 0<=(if cA K1=cA K2 then(0:Int)else-1)↔_;by_cases q:cA K1=cA K2;.rw[af q];exact⟨fun _=>q,fun _=>fR 0⟩
 .rw[am q];exact⟨fun h=>ae h (by decide),fun h=>ae h q⟩
theorem pT(h:cA (.mk m s)=cA (.mk m' s')):m=m'/\jb s=jb s':=by injection h with h;injection h with X Z;injection Z with Z _;exact⟨j5 X,Z⟩
theorem QY(h:jb s=.none):s=none:=by
 rcases s with _|y;.rfl
 obtain⟨_,_,_,_,_,_⟩:=y;cases h
theorem GY(h:cA K1=cA K2)(U:dj K1 J):∃dP,dj K2 dP/\0<=ak 3 J dP:=by
 obtain⟨m,s⟩:=K1;obtain⟨m',s'⟩:=K2;obtain⟨rfl,e⟩:=pT h;rcases U with⟨i,hi,H,rfl⟩|⟨y,Z,rfl⟩;.exact⟨_,.inl ⟨i,hi,H,rfl⟩,V3.mpr rfl⟩
 .have Z:s=D y:=Z;clear h;subst Z;rcases s' with _|X;. (have h:=QY e;contradiction)
  exact⟨_,.inr ⟨X,rfl,rfl⟩,V3.mpr (by show aa.ab [_,jb (D y)]=aa.ab [_,jb (D X)];rw[e])⟩
theorem GZ(hi:i<13)(h:(2:Nat)^i=2^j):i=j:=by
 have:(2^i:Nat).testBit j=true:=by rw[h,jo];exact aN rfl
 rw[jo]at this;exact cJ this
theorem QZ(Q:Lo K1)(l2:Lo K2)(O:∀X,dj K1 X->∃Z,dj K2 Z/\0<=ak 3 X Z)(E:∀X,dj K2 X->∃Z,dj K1 Z/\0<=ak 3 X Z):cA K1=cA K2:=by
 have U:∀{K1 K2:Kd},Lo K1->(∀X,dj K1 X->∃Z,dj K2 Z/\0<=ak 3 X Z)->∀i,i<13->K1.m.testBit i=Y->K2.m.testBit i=true:=fun{K1 K2}l h i hi K=>by
  have C:=tp l hi K;obtain⟨Z,⟨j,d,J,rfl⟩|⟨y,_,rfl⟩,H⟩:=h _ (.inl ⟨i,C,K,rfl⟩);.rw[GZ hi (pT (V3.mp H)).1];exact J
  .exact ae (pT (V3.mp H)).1 (jm (ur i))
 have A:∀{K1 K2:Kd},(∀X,dj K1 X->∃Z,dj K2 Z/\0<=ak 3 X Z)->∀y,K1.s=D y->jb K1.s=jb K2.s:=fun{K1 K2}h y g=>by
  obtain⟨Z,⟨j,d,J,rfl⟩|⟨r,M,rfl⟩,H⟩:=h _ (.inr ⟨y,g,rfl⟩);.exact ae (pT (V3.mp H)).1.symm (jm (ur j))
  .rw[g,M];exact(pT (V3.mp H)).2
 have L:K1.m=K2.m:=pB Q.lt l2.lt fun i hi=>⟨U Q O i hi,U l2 E i hi⟩;have es:jb K1.s=jb K2.s:=by
  rcases e1:K1.s with _|y;.induction e2:K2.s using cM with|none=>rfl|some y=>have:=A E y e2;rw[e1,e2]at this;exact this.symm
  rw[e1.symm];exact A O y e1
 clear Q O E;obtain⟨m,s⟩:=K1;obtain⟨m',s'⟩:=K2;have L:m=m':=L;have es:jb s=jb s':=es;show aa.ab [_,jb s]=aa.ab [_,jb s'];rw[L,es]
theorem G0(ask:db A R 3 F L qa qs 0)(h:Iv A R W 3 (b+cR (27*(27*qa)) qs K1 K2) dp m b0 S)(l:cB 3 S.T (s,t) K1 K2 c L)(hr:4*(cK K1+cK K2)<m)(Q0:Lo K1)(Q1:Lo K2)(p1:PR S.T K1.m l1 q1)(s1:dB c S.T K1.s l1 q1)(p2:PR S.T K2.m l2 q2)(s2:dB (!c) S.T K2.s l2 q2)(hy:∀O,(∀Z,dj K1 Z->∃dP,dj K2 dP/\0<=ak 3 Z dP)->Pw A R W 3 b dp m b0 (0:Nat) S O->k (.bool Y) O.σ)(hn:∀O,¬(∀Z,dj K1 Z->∃dP,dj K2 dP/\0<=ak 3 Z dP)->Pw A R W 3 b dp m b0 (0:Nat) S O->k (.bool ai) O.σ):CW (n+F+4) 99 [.ref R,.ab (aY l1),.ab (aY l2)] S.σ k:=by
 have X:=h.st.tb.base;have n1:=rh h.st.tb.nd p1 s1;have n2:=rh h.st.tb.nd p2 s2;obtain⟨f,hf,E⟩:=vT (qa:=27*qa) (w:=if K2.s.isSome=Y then qs else 0) h.st.tb.nd p1 s1;have E:b+sm f l1<=b+cR (27*(27*qa)) qs K1 K2:=eP (bh E (by unfold cR;cases K1.s.isSome<;>exact aE _)) b;refine N7 ?_;apply o (hW (xs:=aY l1) (by rw[jC];exact ax 951133426241537 rfl n1));refine j4 (fun r lc C=>E4 fun v3 S1 v q=>A6 (r=aY q) (l1=v++q) (lc=[D (.ref R),D (.ab (aY l1)),D (.ab (aY l2)),v3]) (S1.σ=C) (Pw A R W 3 (b+sm f q) dp m b0 (0:Nat) S S1) (∀p∈v,∀Z,dj K1 Z->KR c S.T Z p->∃dP,dj K2 dP/\0<=ak 3 Z dP)) ?_ ?_ ?_ ⟨I,S,[],l1,rfl,rfl,rfl,rfl,(Pw.refl (h.le E) fun _ _ q hq=>nomatch hq),fun _ q=>ae q bJ⟩;.exact fun _ _ _ _=>trivial
 .rintro lc C⟨v3,S1,v,q,hr,hl,rfl,rfl,J,hd⟩;induction q using eQ with|cons=>cases hr|nil=>rw[bK]at hl;subst hl;exact hy S1 (fun Z hK=>(by obtain⟨p,i,r⟩:=rg X p1 s1 hK;exact hd p i Z hK r)) J
 .rintro x r lc C K⟨v3,S1,v,q,a,hq,rfl,rfl,J,hd⟩hK;rcases q with _|⟨y,q⟩;.cases a
  cases a;have pO:y∈l1:=by rw[hq];exact jP _ aV
  rw[sm,<-eL]at J;have pP:l1=(v++[y])++q:=by rw[hq,dx];rfl
  obtain⟨z,U,r0,u0,i0⟩:=vO X p1 s1 Q0 pO;have w0:=U.wf l.w1;have Q2:=U.dp;have pt:=fun p i=>vO X p2 s2 Q1 (p:=p) i;have e1:uT S1.T y=0:=(ka J.pre (r0.gR X)).trans u0;obtain⟨g,hg,M⟩:=vT (qa:=qa) (w:=if z.s.isSome=Y then qs else 0) h.st.tb.nd p2 s2;have M:b+sm f q+sm g l2<=b+sm f q+f y:=eP (bh M (by
   rw[hf y];refine eP ?_ _;rcases e:z.s.isSome with _|_;.exact bh (by split<;>exact bP _) (bP _)
   rw[af (i0 e)];exact aE _)) _;have rj:∀p∈l2,∀dP,cB 3 S1.T (y,p) z dP c L->dj K2 dP:=fun p H dP j=>by obtain⟨K3,Q,r3,_⟩:=pt p H;rw[(j.cU (((l.pR U r0).pS Q r3).aq J.pre)).2];exact Q
  apply GP (c:=c) (K1:=z) (b:=b+sm f q) (m:=m) g ask (J.iv.le M) (ax 951133426241537 rfl n2) (fun p H=>by refine cps fun P hP=>?_;obtain⟨K3,Q,r3,u3,i3⟩:=pt p H;refine hP ?_;have e2:uT S1.T p=0:=(ka J.pre (r3.gR X)).trans u3;have Q3:=Q.dp;refine⟨K3,((l.pR U r0).pS Q r3).aq J.pre,?_,by rw[e1,e2];exact aE 0,by rw[hg p];exact GW i3⟩;show 4*(cK z+cK K3)+uT S1.T y+uT S1.T p<m;rw[e1,e2];exact mM 0xc5480bd080b62e020c21b1095a008300001 rfl hr Q2 Q3)
  .intro p H dP O j hv d;refine hK _ _ ⟨_,O,v++[y],q,rfl,pP,rfl,rfl,J.trans (d.any (u:=(0:Nat)) (by decide)),fun p' jA Z sW r'=>?_⟩;rcases dH.mp jA with e|e;.exact hd p' e Z sW r'
   .rw[aZ.mp e]at r';rw[(KR.cU (sW.wf l.w1) w0 r' r0).1];exact⟨dP,rj p H dP j,hv⟩
  .intro O pU d;refine hn O (fun q=>?_) ((J.trans (d.toPw.any (u:=(0:Nat)) (by decide))).le (b7 _ _));obtain⟨dP,ri,hv⟩:=q z U;obtain⟨p,i,r⟩:=rg X p2 s2 ri;exact ae hv (cX.mpr (pU p i dP (((l.pR U r0).pS ri r).aq J.pre)))
end
def fY(A:Ad)(R V F L P w:Nat):Prop:=∀⦃n W b Z m X:Nat⦄⦃S:Rs⦄⦃s t:Nat⦄⦃x y:Sg⦄⦃c ay:Bool⦄⦃k:Po⦄,Iv A R W V (b+w) Z m X S->SR c S.T x s->SR (!c) S.T y t->bn V L x->bn V L y->x.ps.length<=P->y.ps.length<=P->4*(jE x+jE y)+2<m->(∀U,Pw A R W V b Z m X (gS V 3 x y ay) S U->k (.bool (decide (0<=gS V 3 x y ay))) U.σ)->CW (n+F) 118 [.ref R,.int s,.int t,.bool ay] S.σ k
section
theorem vU(h:Co T t x)(J:KR c T K t)(O:cG<+:T):(x=15->uT T t=1)/\(x≠15->uT T t=0):=by
 obtain⟨r,e,_⟩:=h.row;have U:∀{d},T[t]?=D d->jc d≠6->x≠15/\uT T t=0:=fun{d}X H=>by refine⟨fun q=>?_,zw X H⟩;rw[e]at X;cases X;clear h e;subst q;exact H rfl
 have Z:x≠15/\uT T t=0->(x=15->uT T t=1)/\(x≠15->uT T t=0):=fun h=>⟨fun q=>ae q h.1,fun _=>h.2⟩;induction J.vk using TV.casesOn with|jB e=>clear h J;subst e;exact Z (U (bV O (d:=dI "never") rfl) (show(1:Int)≠6 by decide))|lQ i f hi C Q e=>exact Z (U e fun q=>by have:=pA (i:=i) (f:=f);rw[q]at this;exact ae this (by decide))|dY y Q E=>obtain⟨_,_,_,_,e⟩:=E.row;exact Z (U e (show(13:Int)≠6 by decide))|sN l q m s Q X l2 M L=>
  refine⟨fun _=>?_,fun q=>?_⟩
  .rcases pJ T t with⟨_,f⟩|⟨f,_⟩;.exact ae X (f _)
   .exact f
  .rw[X]at e;have:aa.int 6=.int (di x):=by have e:=b8 e;injection e with e;injection e
   exact ae ((je x h.lt).mp (j5 this).symm) q
theorem KC.G1(h:KC 15 K)(Z:K.m<8192):Lo K/\fM K=false:=⟨⟨Z,(h.u rfl).1⟩,by unfold fM;rw[gm.mpr (h.u rfl).2.1];rfl⟩
theorem KC.Q4(h:KC x K)(Q:x<16)(U:x≠11)(J:x≠12)(O:K.m<8192):Lo K:=by
 by_cases e:x=15;.clear Q U J;subst e;exact(h.G1 O).1
 .refine⟨O,?_⟩;rw[(h.kT ((gl e).elim (fun X=>ax 674345111553 rfl X) fun X=>hQ 0x2010d041a4c219d001 rfl X Q)).1];exact(by decide:∀x,x<15->x≠11->x≠12->aM x&&&6144=0) x ((gl e).elim (fun X=>ax 674345111553 rfl X) fun X=>hQ 0x2010d041a4c219d001 rfl X Q) U J
theorem Q5(h:St A R b T V X N es U J tr σ)(Z:CW n 118 [.ref R,a,d,.bool ai] σ k):CW (n+2) 77 [.ref R,.int 3,a,d] σ k:=by refine EA ?_;apply o h.qX;apply o h.c1;apply o (pq h.c1);apply p ((vI (d:=.int 3) rfl rfl).trans (by rw[show b9 [(aa.int 3,aa.ref (R+8)),(aa.int 8,aa.ref (R+9))] (.int 3)=D (.ref (R+8))from af rfl]));apply o h.c8;exact⟨rfl,Oh Z⟩
theorem Q6(U:V≠3):(0<=ak V (.mk 0 (D Z)) (.mk 0 (D X))↔0<=gS V 3 Z X ai)/\(V=1->ak V (.mk 0 (D Z)) (.mk 0 (D X))=gS V 3 Z X ai):=by
 rw[pM U zv];have J:fp V (.mk 0 (D Z)) (.mk 0 (D X))=gS V 3 Z X false:=rfl;rw[J];by_cases e:V=2
 .rw[af e];refine⟨?_,fun H=>ae (H.symm.trans e) (by decide)⟩;by_cases q:0<=gS V 3 Z X ai;.rw[af q];exact⟨fun _=>q,fun _=>fR 0⟩
  .rw[am q];exact⟨fun h=>ae h (by decide),fun h=>ae h q⟩
 .rw[am e];exact⟨BG,fun _=>rfl⟩
theorem Q7:0<=ak 3 (.mk 0 (D Z)) (.mk 0 (D y2))↔0<=gS 3 3 Z y2 false:=by
 rw[V3];show _↔0<=(if dG Z=dG y2 then(0:Int)else-1);have:cA (.mk 0 (D Z))=cA (.mk 0 (D y2))↔dG Z=dG y2:=⟨fun h=>(pT h).2,fun h=>by show aa.ab [_,dG Z]=aa.ab [_,dG y2];rw[h]⟩;rw[this];by_cases q:dG Z=dG y2;.rw[af q];exact⟨fun _=>fR 0,fun _=>q⟩
 .rw[am q];exact⟨fun h=>ae h q,fun h=>ae h (by decide)⟩
theorem Pw.conv(h:Pw A R W V b U m J v S S')(H:0<=u->0<=v)(Q:V=1->u=v):Pw A R W V b U m J u S S':=let⟨O,E,a1,C,M,L,K⟩:=h.out;⟨h.iv,h.pre,h.fq,O,E,a1,C,M,L,fun q e=>by rw[Q e];exact K (H q) e⟩
theorem G2(X:∀O,L=O+1->fY A R V F O 2 w)(h:Iv A R W V (b+cR 0 w K1 K2) j m d S)(U:cB V S.T (s,t) K1 K2 c L)(r:eE S.T (s,t) K1 K2<=m)(u:KC 14 K1)(v:KC 14 K2)(M:∀E,Pw A R W V b j m d (ak V K1 K2) S E->k (.bool (decide (0<=ak V K1 K2))) E.σ):CW (n+F+2) 77 [.ref R,.int 3,.int s,.int t] S.σ k:=by
 refine cps fun P z=>?_;obtain⟨x,rfl⟩:=u.s rfl;obtain⟨y,rfl⟩:=v.s rfl;refine z ?_;refine Q5 h.st ?_;have Z:=U.w1;have J:=U.w2;rcases L with _|O;. (have h:=Z.2;contradiction)
 have Z:=Z.2 x rfl;have J:=J.2 y rfl;have K:∀{c t y},KR c S.T (.mk 0 (D y)) t->SR c S.T y t:=fun{c t y}hK=>by
  obtain⟨l,q,a,b,p,rfl,H,hS⟩:=hK;rcases a with⟨_,e⟩|⟨_,e,e2⟩|⟨_,e,_⟩;.rw[e]at H;cases H
  .exfalso;have f:∀C∈l,C=p:=fun C Q=>(b.all C Q).elim (by rintro⟨i,hi,hA⟩;have:=(b.dW i hi).mpr ⟨C,Q,hA⟩;rw[nI]at this;cases this) fun e=>(b8 e).symm;clear e;rcases l with _|⟨p1,_|⟨p2,l⟩⟩;.cases H
   .exact ae e2 (by decide:¬2<=1)
   .exact(fg.mp b.nd).1 (by rw[f p1 aV,<-f p2 (cH _ aV)];exact aV)
  .rw[e]at H;rw[<-aZ.mp H];exact hS
 have e:cR 0 w (.mk 0 (D x)) (.mk 0 (D y))=w:=gk w;rw[e]at h;have g:(0<=ak V (.mk 0 (D x)) (.mk 0 (D y))↔0<=gS V 3 x y ai)/\(V=1->ak V (.mk 0 (D x)) (.mk 0 (D y))=gS V 3 x y ai):=by
  by_cases e:V=3;.clear M X U Z J h;subst e;exact⟨Q7,fun e=>ae e (by decide)⟩
  .exact Q6 e
 refine X O rfl h (K U.r1) (K U.r2) Z.2 J.2 Z.1.2 J.1.2 (yA 0x2d8b96a02d00020c00082c6ad00418001 rfl (r)) fun E hw=>?_;have:=M E (hw.conv g.1.mp g.2);rw[iG.mpr g.1]at this;exact this
end
section
theorem db.le(h:db A R V F L qa Z U)(l:U'<=U):db A R V F L qa Z U':=by intro n W b E m C S s t K1 K2 c k X J H Q O;exact h X J H (bh Q l) O
theorem G3(a b w:Nat):b+cR (a+1) w K1 K2=b+cR a w K1 K2+1:=by unfold cR;exact fy 0x2daa0a00162d400a0002 rfl
theorem Q8(a w:Nat):cR 0 w K1 K2<=cR a w K1 K2:=uy (bP a) _
theorem KC.vV(h:KC x K)(Z:x=15)(X:K.m<8192):Lo K/\fM K=false:=by subst Z;exact h.G1 X
theorem G4(h:eE T' (s',t') K1 K2<=eE T (s,t) K1 K2)(J:uT T s+uT T t<=U):uT T' s'+uT T' t'<=U:=by exact Fa 0xc5f59010600569ac808300020b62e0082d5a0000 rfl J (h)
theorem Q9(hm:V∈[1,2,4])(C:∀L',L=L'+1->fY A R V F L' 2 w)(Z:0<U->db A R V (F+d) L qa w (U-1))(h:Iv A R W V (b+cR (27*qa) w K1 K2) dp m b0 S)(X:cB V S.T (s,t) K1 K2 c L)(a:eE S.T (s,t) K1 K2<=m)(v:uT S.T s+uT S.T t<=U)(c1:Co S.T s x)(J:Co S.T t y)(k1:KC x K1)(k2:KC y K2)(f:x=15\/y=15\/(x=14/\y=14))(z:dC V x y=-1)(i:∀S',Pw A R W V b dp m b0 (ak V K1 K2) S S'->k (.bool (decide (0<=ak V K1 K2))) S'.σ):CW (n+(F+d)+5) 92 [.ref R,.int s,.int t] S.σ k:=by
 have n3:V≠3:=by clear C Z h X z i;rintro rfl;revert hm;decide
 have O:=h.st;have M:=O.tb.base;have u1:=vU c1 X.r1 M;have u2:=vU J X.r2 M;have su:=q7 V hm;refine EG ?_;obtain⟨e,hd⟩:=c1.iu;obtain⟨e',K⟩:=J.iu;apply o O.cQ;apply o O.tb.az;apply o O.tb.fW;apply o (O.tb.row hd);apply o (c1.dh hd);apply o (O.tb.row K);apply o (J.dh K);refine bT 6 rfl (fun e=>?_) fun e=>?_
 .have H:=(je x c1.lt).mp e;have su:=(su y J.lt).2;rw[<-H,z]at su;have g:y≠12:=fun e=>by rw[af e]at su;cases su
  have tf:y≠11:=fun e=>by rw[am g,af e]at su;cases su
  have l1:=k1.vV H X.w1.nm.1;have j:=u1.1 H;rw[j]at v;rw[show n+(F+d)+4=n+1+(F+d)+3 by exact fy 0xf6a80b400008b541400002 rfl];exact QW (n:=n+1) (u':=U-1) n3 (Z (aC 726949018865665 rfl v)) h X a j (uz (by rw[nA];exact v)) l1.1 (k2.Q4 J.lt tf g X.w2.nm.1) l1.2 i
 .have H:x≠15:=fun q=>e ((je x c1.lt).mpr q);refine bT 6 rfl (fun e=>?_) fun e=>?_
  .have E:=(je y J.lt).mp e;have su:=(su x c1.lt).1;rw[<-E,z]at su;have Q:x≠13:=fun e=>by rw[af e]at su;cases su
   have r:x≠12:=fun e=>by rw[am Q,af e]at su;split at su<;>cases su
   have vG:x≠11:=fun e=>by rw[am Q,am r,af e]at su;cases su
   have u:=u2.1 E;exact QX (n:=n) n3 (db.le (Z (iX (by rw[u];exact fe _) v)) (bP _)) h X a (u1.2 H) u (k2.vV E X.w2.nm.1).1 c1 ((qg x 11).imp_right fun l=>(n9 14 c1.lt (xC (xC (xC l (g9 vG)) (g9 r)) (g9 Q))).resolve_right H) k1 i
  .have E:y≠15:=fun q=>e ((je y J.lt).mpr q);have f:=(f.resolve_left H).resolve_left E;apply zl c1.lt J.lt;rw[af f];clear c1 J z u1 u2 H e E;obtain⟨rfl,rfl⟩:=f;rw[show n+(F+d)+4=n+d+2+F+2 by exact fy 0xd535a8000008b541400002 rfl];exact G2 (n:=n+d+2) C (h.le (eP (Q8 _ _) _)) X a k1 k2 i
theorem zD(H:V∈[1,2,4])(J:∀C,L=C+1->fY A R V F C 2 w)(Z:0<U->db A R V (F+d) L qa w (U-1)):db A R V (F+d+6) L (27*qa+1) w U:=by
 intro n W b i m e S s t K1 K2 c k h M j r K;rw[G3]at h;have g:V≠3:=by clear J Z h M K;rintro rfl;revert H;decide
 rw[show n+(F+d+6)+1=n+(F+d)+2+5 by exact fy 0x49ad50500001556a801400002 rfl];refine Gx (n:=n+(F+d)+2) (.inr H) h M j ?_ K;intro S1 s' t' x y u a hp v Q O c1 f z k2 q l E;rw[am g];refine Q9 (n:=n) H J Z v Q (aE _) ?_ c1 f z k2 q (l g) E;exact G4 O r
theorem G5(U:cG<+:T)(Z:uT T t=1)(X:KR c T K t):E2 fun l q=>A3 (T[t]?=D (pu l)) (PR T K.m l q) (dB c T K.s l q):=by
 obtain⟨l,q,a,b,d⟩:=X.pa;rcases pJ T t with⟨e,_⟩|⟨_,x,e⟩;.rw[Z]at e;cases e
 rcases a with⟨a,_⟩|⟨_,a,_⟩|⟨_,_,a⟩;.clear Z X;subst a;exact gQ (fL U e rfl) rfl
 .exact⟨l,q,a,b,d⟩
 .exact ae e (a x)
theorem cB.swap(h:cB V T (s,t) K1 K2 c n):cB V T (t,s) K2 K1 (!c) n:=⟨h.le,h.w2,h.w1,h.r2,by rw[K6];exact h.r1⟩
theorem Ra:b+cR (1458*qa) (2*w) K1 K2=b+cR (27*(27*qa)) w K2 K1+cR (27*(27*qa)) w K1 K2:=by
 have z:1458*qa=27*(27*qa)+27*(27*qa):=by rw[<-Zd,<-oU]
 unfold cR;rw[Bool.and_comm K2.s.isSome,z];generalize 27*(27*qa)=z;split;.exact fy 0xb5416a828005843ad400a0002 rfl
 .exact bA 0x95012a0a0004ad400a0002 rfl
theorem Rb:∀x,x<16->[aa.int 6,aa.int 7].contains (.int (di x))=decide (x=15):=by decide+kernel
theorem bU(h:x<16)(Z:x=15->P)(X:x≠15->Q):br ([aa.int 6,aa.int 7].contains (.int (di x))==Y) P Q:=by rw[Rb x h];exact bE Z X
theorem Rd(dY:∀L',L=L'+1->fY A R 3 F L' 2 w)(a:0<U->db A R 3 (F+d) L qa w 0)(h:Iv A R W 3 (b+cR (1458*qa) (2*w) K1 K2) dp m b0 S)(E:cB 3 S.T (s,t) K1 K2 c L)(l:eE S.T (s,t) K1 K2<=m)(hu:uT S.T s+uT S.T t<=U)(c1:Co S.T s x)(X:Co S.T t y)(k1:KC x K1)(k2:KC y K2)(hc:x=15\/y=15\/(x=14/\y=14))(hk:∀g,Pw A R W 3 b dp m b0 (ak 3 K1 K2) S g->k (.bool (decide (0<=ak 3 K1 K2))) g.σ):CW (n+(F+d)+5) 98 [.ref R,.int s,.int t] S.σ k:=by
 have i:=h.st;have C:=i.tb.base;have u1:=vU c1 E.r1 C;have u2:=vU X E.r2 C;refine N6 ?_;refine cps fun P hP=>?_;obtain⟨e,M⟩:=c1.iu;obtain⟨e',J⟩:=X.iu;refine hP ?_;apply o i.cQ;apply o i.tb.az;apply o i.tb.fW;apply o (i.tb.row M);apply o (i.tb.row J);apply o (c1.dh M);apply o (X.dh J);have Q:x≠y->k (.bool ai) S.σ:=fun ne=>by have hv:=Gs k1 k2 c1.lt X.lt ne;have:=hk S ((Pw.refl (v:=(0:Nat)) (h.le (b7 _ _)) fun _ _ q hq=>nomatch hq).any (by decide));rw[bQ (cX.mpr hv)]at this;exact this
 have j:∀{bb:Bool}{g},Pw A R W 3 b dp m b0 (0:Nat) S g->decide (0<=ak 3 K1 K2)=bb->k (.bool bb) g.σ:=fun{bb g}hw e=>by rw[<-e];exact hk g (hw.any (by decide))
 by_cases Z:x=15
 .by_cases H:y=15
  .obtain⟨l1,q1,a1,a2,a3⟩:=G5 C (u1.1 Z) E.r1;obtain⟨l2,q2,b1,b2,b3⟩:=G5 C (u2.1 H) E.r2;have a1:S.T[s]?=D (pu l1):=a1;have b1:S.T[t]?=D (pu l2):=b1;cases M.symm.trans a1;cases J.symm.trans b1;have r:=(k1.vV Z E.w1.nm.1).1;have u:=(k2.vV H E.w2.nm.1).1;have l:4*(cK K1+cK K2)+uT S.T s+uT S.T t<=m:=l;rw[u1.1 Z,u2.1 H]at l;rw[Ra]at h;have K:(di x:Int)=di y:=aI kt (((je x c1.lt).mpr Z).trans ((je y X.lt).mpr H).symm);refine bD (fun _=>?_) fun e=>ae K e;have ask:=a (iX (by rw[u1.1 Z,nA];exact fe _) hu);refine G0 (n:=n) ask h E (c5 0xb14b5a008300020b568020c01 rfl l) r u a2 a3 b2 b3 (fun S1 Re O=>?_) (fun S1 hn O=>?_)
   .refine G0 (n:=n) ask O.iv (E.aq O.pre).swap (c5 0xb14b4a808300020b568020c01 rfl l) u r (b2.aq O.pre (dB.dY (T:=S.T) b3)) (b3.aq O.pre) (a2.aq O.pre (dB.dY (T:=S.T) a3)) (by rw[K6];exact a3.aq O.pre) (fun S2 Rf w2=>?_) (fun S2 hn w2=>?_);.exact j (O.trans w2) (aN (V3.mpr (QZ r u Re Rf)))
    .exact j (O.trans w2) (bQ fun q=>hn fun K' hK=>GY (V3.mp q).symm hK)
   .exact j (O.le (b7 _ _)) (bQ fun q=>hn fun K' hK=>GY (V3.mp q) hK)
  .refine bD (fun e=>ae ((je y X.lt).mp ((j5 (aI aa.int e)).symm.trans ((je x c1.lt).mpr Z))) H) fun _=>?_;apply o (c1.dh M);exact bU c1.lt (fun _=>Q fun e=>H (e▸Z)) fun q=>ae Z q
 .by_cases H:y=15;.refine bD (fun e=>ae ((je x c1.lt).mp ((j5 (aI aa.int e)).trans ((je y X.lt).mpr H))) Z) fun _=>?_;apply o (c1.dh M);refine bU c1.lt (fun q=>ae q Z) fun _=>?_;apply o (X.dh J);exact bU X.lt (fun _=>Q fun e=>Z (e▸H)) fun q=>ae H q
  .obtain⟨f,z⟩:=(hc.resolve_left Z).resolve_left H;have K:(di x:Int)=di y:=by rw[f,z]
   refine bD (fun _=>?_) fun e=>ae K e;apply o (c1.dh M);refine bT 6 rfl (fun e=>ae ((je x c1.lt).mp e) Z) fun _=>?_;apply o (c1.dh M);refine bT 7 rfl (fun e=>ae e (q8 c1.lt 7 (by decide))) fun _=>?_;apply o (c1.dh M);refine bU c1.lt (fun q=>ae q Z) fun _=>?_;apply o (X.dh J);refine bU X.lt (fun q=>ae q H) fun _=>?_;apply o (c1.dh M);apply o (X.dh J);apply zl c1.lt X.lt;rw[af ⟨f,z⟩];clear c1 X hc u1 u2 Q Z H K;subst f z;rw[show n+(F+d)+4=n+d+2+F+2 by exact fy 0xd535a8000008b541400002 rfl];exact G2 (n:=n+d+2) dY (h.le (eP (by unfold cR;split;exact bA 706012113928192 rfl;exact aB 158918115328 rfl) _)) E l k1 k2 hk
theorem G6(X:∀O,L=O+1->fY A R 3 F O 2 w)(Z:0<U->db A R 3 (F+d) L qa w 0):db A R 3 (F+d+6) L (1458*qa+1) (2*w) U:=by intro n W b f m z S s t K1 K2 c k h E C M K;rw[G3]at h;rw[show n+(F+d+6)+1=n+(F+d)+2+5 by exact fy 0x49ad50500001556a801400002 rfl];refine Gx (n:=n+(F+d)+2) (.inl rfl) h E C ?_ K;intro S1 s' t' x y g q l j J H c1 r u k2 v i Q;rw[af rfl];exact Rd (n:=n) X Z j J (aE _) (G4 H M) c1 r u k2 v Q
end
theorem lW(al:Nat->Lc->AH->Prop)(J:∀lc σ,al n lc σ->kn lc σ)(U:∀j lc σ(K:Kn),j<n->al j lc σ->(∀lc σ,al (j+1) lc σ->K lc σ)->gO (fi lc t (.int (j:Nat))) fun X=>H X σ K)(h:al 0 lc σ):pg I t H ((iW n).map fun i=>.int (kt i)) lc σ kn:=by
 refine j4 (g:=I) (fun r lc σ=>E2 fun j m=>A3 (j+m=n) (r=(K7 j m).map (fun i=>aa.int (kt i))) (al j lc σ)) (fun _ _ _ _=>trivial) ?_ ?_ ⟨0,n,gk n,by rw[K8],h⟩
 .rintro lc σ⟨j,m,e,Z,h⟩;rcases m with _|m;.clear U;subst e;exact J lc σ h
  cases Z
 .rintro x r lc σ K⟨j,m,e,Z,h⟩Q;rcases m with _|m;.cases Z
  cases Z;exact U j lc σ K (c5 0xa96c0a0022ad001 rfl e) h fun lc σ h=>Q lc σ ⟨j+1,m,c5 0xb16a0a0022b54b400002 rfl e,rfl,h⟩
section
theorem dX.len:∀{ps:List (Kd×Bool)}{pl:List (Nat×Bool)},dX c T ps pl->ps.length=pl.length:=by intro ps;induction ps with|nil=>intro pl h;rw[show pl=[]from h];rfl|cons p r Z=>intro pl h;obtain⟨i,X,rfl,_,h⟩:=h;exact aI (·+1) (Z h)
theorem dX.at:∀{ps:List (Kd×Bool)}{pl:List (Nat×Bool)}{i:Nat}{q:Kd×Bool},dX c T ps pl->ps[i]?=D q->∃t,pl[i]?=D (t,q.2)/\KR c T q.1 t:=by intro ps;induction ps with|nil=>intro pl i q h e;cases e|cons p r Z=>
intro pl i q h e;obtain⟨t,X,rfl,a,h⟩:=h;rcases i with _|i;.cases e;exact⟨t,rfl,by obtain⟨_,_⟩:=p;exact a⟩
exact Z (i:=i) h e
theorem Rg:∀{ps:List (Kd×Bool)}{p:Kd×Bool},p∈ps->cK p.1<=sY ps:=by intro ps;induction ps with|nil=>intro p h;cases h|cons q r ih=>
intro p h;obtain⟨k,o⟩:=q;show _<=max (cK k) (sY r);rcases cc.mp h with rfl|h;.exact Zu _ _
.exact bh (ih h) (Zv _ _)
theorem zE{p:Kd×Bool}(h:p∈x.ps):cK p.1<=jE x:=by obtain⟨ps,sp,rest,X,Z,U⟩:=x;exact bh (Rg h) (Zu _ _)
theorem tC:cK x.res<=jE x:=by obtain⟨ps,sp,rest,H,U,O⟩:=x;exact Zv _ _
theorem SR.same{p:Nat}(hT:cG<+:T)(l2:L<=2)(Z:bn V L x)(r:bn V L y)(r1:SR c T x p)(r2:SR (!c) T y p):gS V 3 x y ay=0:=by
 have u:=r2;have w:=r1;obtain⟨ps,sp,rest,v,O,fl⟩:=x;obtain⟨k,E,U,C,J,yI⟩:=y;obtain⟨pl,e,rt,pd,tl,h1,h2,h3,h4,h5,f⟩:=r1;obtain⟨M,e',oh,oi,iR,H,K,t,yM,s,A⟩:=r2;rw[h1]at H;obtain⟨ep,er,ed,ef⟩:=Fz (b8 H);clear s H;subst er ed ef;obtain⟨ea,et,en⟩:=FB f A ep;subst et;obtain⟨g,i⟩:=en (by cases c<;>nofun);have z:∀{c l rest e},fD c T l rest e tl->l=[]/\rest=none:=fun h=>by
  rcases h.cases with⟨a,b,_⟩|⟨_,a⟩;.exact⟨a,b⟩
  .rw[i]at a;cases a
 have n:pl=[]:=by rw[<-kw sp pl,g,(z f).1];rfl
 have j:M=[]:=by rw[<-kw E M,ea.symm,g,(z A).1];rfl
 have p0:ps=[]:=nH (by rw[h2.len,n];rfl);have Rh:k=[]:=nH (by rw[K.len,j];rfl);clear h2 K;subst p0 Rh;have w1:aS V (L+1) (.mk 0 (D ⟨[],sp,rest,v,O,fl⟩)):=⟨⟨by decide,rfl⟩,fun x e=>by cases e;exact⟨⟨by decide,bP _⟩,Z⟩⟩;have w2:aS V (L+1) (.mk 0 (D ⟨[],E,U,C,J,fl⟩)):=⟨⟨by decide,rfl⟩,fun x e=>by cases e;exact⟨⟨by decide,bP _⟩,r⟩⟩;have eu:=KR.cU w1 w2 (vm hT w) (vm hT u);cases eu.1;by_cases d:V=3;.clear Z w1 r w2;subst d;exact(af rfl).trans (af rfl)
 .rw[yH d ⟨Z.1,fun p hp=>ae hp bJ,Z.2.2.aq l2⟩ ⟨Z.1,fun p hp=>ae hp bJ,Z.2.2.aq l2⟩];refine FD rfl (z f).2 ?_ (fun m q=>sJ q.1 fun x e=>nomatch e) Z.1;rw[<-Gr d (ln l2) Z.2.2 Z.2.2];exact((KR.cU Z.2.2 r.2.2 h3 t).2 (by cases c<;>nofun)) V d
theorem ox(ask:db A R V F L qa H 2)(h:Iv A R W V (b+(qa+H)) Q m O S)(l2:L<=2)(E:aS V L K1)(C:aS V L K2)(M:KR c S.T K1 s)(K:KR (!c) S.T K2 t)(g:4*(cK K1+cK K2)+2<m)(j:∀X,Pq A R W V b Q m O (ak V K1 K2) S X->k (.bool (decide (0<=ak V K1 K2))) X.σ):dr WD (CW (n+F+2)) 36 R S.σ S.σ [.int s,.int t] k:=by have U:uT S.T s<=1:=(pJ S.T s).elim (fun q=>by rw[q.1];exact bP 1) fun q=>gG q.1;have J:uT S.T t<=1:=(pJ S.T t).elim (fun q=>by rw[q.1];exact bP 1) fun q=>gG q.1;refine db.aQ ask (h.le (eP (eP (by split;exact aE _;exact bP _) _) _)) ⟨l2,E,C,M,K⟩ ?_ (jM U J) j;show 4*(cK K1+cK K2)+uT S.T s+uT S.T t<m;exact mM 0xb7080b608306ad00418021c5ed5a008300001 rfl g U J
noncomputable def mY(V:Nat):Option (Int×Option Nat×Int)->Option (Int×Option Nat×Int)->Int
|some (p0,Z,U),D (J,X,H)=>if p0≠J\/U≠H then-1 else match Z,X with|none,I=>0|some Z,D X=>ak V (.mk Z I) (.mk X I)|_,_=>-1
|_,_=>-1
def tD(p:Option (Int×Option Nat×Int)):Prop:=∀a k b,p=D (a,k,b)->∀m,k=D m->Nm m
theorem mZ(h:Nm m):aS V n (.mk m I):=aS.aq (n:=0) ⟨h,rfl⟩ (bP n)
theorem fN{i:Decidable (a=e)}(Z:a≠e->P)(X:a=e->Q):br (!decide (a=e)) P Q:=bN (bD X Z)
theorem G7{p q:Option (Int×Option Nat×Int)}(ask:db A R V F L qa K 2)(h:Iv A R W V (b+(qa+K)) d m r S)(l2:L<=2)(u:2<m)(E:hX S.T p C)(J:hX S.T q M)(o1:tD p)(o2:tD q)(v:q≠I)(H:∀Q,Pw A R W V b d m r (mY V p q) S Q->k (.bool (decide (0<=mY V p q))) Q.σ):CW (n+F+3) 113 [.ref R,C,M] S.σ k:=by
 have g:b<=b+(qa+K):=b7 _ _;have Z:mY V p q=-1->k (.bool ai) S.σ:=fun e=>by have:=H S (by rw[e];exact .refl (h.le g) fun q=>ae q (by decide));rw[e]at this;exact this
 have bS:mY V p q=0->k (.bool Y) S.σ:=fun e=>by have:=H S (by rw[e];exact .refl (h.le g) fun _ _ x f=>nomatch f);rw[e]at this;exact this
 refine Od ?_;rcases q with _|⟨y,U,z⟩;.exact ae rfl v
 rcases p with _|⟨p0,O,l⟩;.cases show C=_ from E;exact Z rfl
 have j:∀{t:Nat},¬(t:Int)=-1:=fun q=>(fun q=>ae (ib _) (cX.mpr q)) (q▸(by decide:(-1:Int)<0));rcases O with _|O
 .cases show C=_ from E;rcases U with _|U;.cases show M=_ from J;refine fN (fun e=>Z (af (.inl e))) fun X=>fN (fun e=>Z (af (.inr e))) fun e2=>?_;exact bS (am fun q=>q.elim (fun q=>q X) fun q=>q e2)
  obtain⟨t,rfl,_⟩:=J;refine fN (fun e=>Z (af (.inl e))) fun X=>fN (fun e=>Z (af (.inr e))) fun e2=>?_;show k (.bool (decide ((-1:Int)=t))) S.σ;rw[bQ fun q:(-1:Int)=t=>j q.symm];exact Z (am fun q=>q.elim (fun q=>q X) fun q=>q e2)
 obtain⟨s,rfl,i⟩:=E;rcases U with _|U;.cases show M=_ from J;refine fN (fun e=>Z (af (.inl e))) fun X=>fN (fun e=>Z (af (.inr e))) fun e2=>?_;show k (.bool (decide ((s:Int)=-1))) S.σ;rw[bQ fun q:(s:Int)=-1=>j q];exact Z (am fun q=>q.elim (fun q=>q X) fun q=>q e2)
 obtain⟨t,rfl,a⟩:=J;refine fN (fun e=>Z (af (.inl e))) fun X=>fN (fun e=>Z (af (.inr e))) fun e2=>?_;have ev:mY V (D (p0,D O,l)) (D (y,D U,z))=ak V (.mk O I) (.mk U I):=am fun q=>q.elim (fun q=>q X) fun q=>q e2;rw[ev]at H;exact ox (c:=Y) ask h l2 (mZ (o1 _ _ _ rfl _ rfl)) (mZ (o2 _ _ _ rfl _ rfl)) (qR.mp i) (qR.mp a) u fun Q w=>H Q w.toPw
end
theorem Ri:∀a:Nat,a<8->∀e:Nat,e<8->(decide (ko (KJ (a:Int) (e:Int)) (qe 2 4)=0))=decide (a&&&6=e&&&6):=by decide+kernel
theorem vW:∀{l:List (Nat×Bool)}{j i:Nat}{q:Nat×Bool},l[i]?=D q->(bg c j l)[i]?=D (iQ c (j+i) q):=by intro l;induction l with|nil=>intro j i q h;cases h|cons p l Z=>
intro j i q h;rcases i with _|i;.cases h;rfl
.rw[show j+(i+1)=j+1+i by exact bA 0xa9680016a0a0002 rfl];exact Z (j:=j+1) (i:=i) h
theorem eh:∀{l:List (Nat×Bool)}{j:Nat},(bg c j l).length=l.length:=by intro l;induction l with|nil=>intro _;exact rfl|cons _ l Z=>intro j;exact aI (·+1) (Z)
theorem oz:∀{ps:List (Kd×Bool)},gC ps=ps.map j2:=by intro ps;induction ps with|nil=>exact rfl|cons _ r Z=>exact aI _ (Z)
section
theorem Pq.z3(h:Pq A R W 3 b Z m X v S S'):Pw A R W 3 b Z m X (0:Nat) S S':=h.toPw.any (by decide)
theorem Rj:nW .ne σ (eB o1) (eB o2)=D (o1 !=o2):=by cases o1<;>cases o2<;>rfl
theorem G8(h:j2 (K1,o1)=j2 (K2,o2)):cA K1=cA K2/\o1=o2:=by have h:aa.ab [cA K1,eB o1]=aa.ab [cA K2,eB o2]:=h;injection h with h;injection h with U h;injection h with h _;exact⟨U,yJ h⟩
theorem oA{i:Nat}(h:l[i]?=D d)(Z:l.length<av):cY σ (.ab l) (.int i)=D d:=gJ h Z
theorem Rk(ask:db A R 3 F L qa M 2)(h:Iv A R W 3 (b+ps.length*(qa+M)) r m u S)(l2:L<=2)(w:ps.length<=4)(lq:kU.length<=4)(k1:dX c S.T ps pl)(k2:dX (!c) S.T kU v)(w1:∀p∈ps,aS 3 L p.1)(w2:∀p∈kU,aS 3 L p.1)(hm:∀p∈ps,∀q∈kU,4*(cK p.1+cK q.1)+2<m)(hy:∀O,gC ps=gC kU->Pw A R W 3 b r m u (0:Nat) S O->k (.bool Y) O.σ)(f:∀O,¬gC ps=gC kU->Pw A R W 3 b r m u (0:Nat) S O->k (.bool ai) O.σ):CW (n+F+3) 119 [.ref R,.ab (bg c 0 pl),.ab (bg (!c) 0 v)] S.σ k:=by
 have e1:=k1.len;have e2:=k2.len;have y:(bg c 0 pl).length<av:=by rw[eh,e1.symm];exact ax 296386383873 rfl w
 have n2:(bg (!c) 0 v).length<av:=by rw[eh,e2.symm];exact ax 296386383873 rfl lq
 have hb:b<=b+ps.length*(qa+M):=b7 _ _;have fO:gC ps=gC kU->ps.length=kU.length:=fun e=>by have:=aI r6 e;rw[oz,oz,aJ,aJ]at this;exact this
 refine Oe ?_;apply p (ir y);apply p (ir n2);rw[eh,eh,e1.symm,e2.symm];refine fN (fun e=>f S (fun q=>e (aI _ (fO q))) (.refl (h.le hb) fun _ _ _ q=>nomatch q)) fun e=>?_;have e:=dq e;apply p ((ir y).trans (by rw[eh,e1.symm]));refine⟨by rw[jx (ax 296386383873 rfl w),aN (by exact ax 0x8a041e848040d009 rfl w)];rfl,?_⟩;rw[ie];refine lW (fun j lc J=>E2 fun v3 S1=>A5 (lc=[D (.ref R),D (.ab (bg c 0 pl)),D (.ab (bg (!c) 0 v)),v3]) (S1.σ=J) (j<=ps.length) (Pw A R W 3 (b+(ps.length-j)*(qa+M)) r m u (0:Nat) S S1) (∀i,i<j->(ps[i]?).map j2=(kU[i]?).map j2)) ?_ ?_ ⟨I,S,rfl,rfl,bP _,(Pw.refl h fun _ _ _ q=>nomatch q),fun _ q=>ae q (xw _)⟩
 .rintro lc J⟨v3,S1,rfl,rfl,_,U,g⟩;rw[jO,rW]at U;refine hy S1 ?_ U;rw[oz,oz];refine Zw fun i=>?_;rw[gp,gp];by_cases q:i<ps.length;.exact g i q
  .rw[jp (ku q),jp (e▸ku q)]
 .rintro j lc J K E⟨v3,S1,rfl,rfl,z,U,g⟩hK;have C:j<kU.length:=e▸E;have Z:=dK E;have X:=dK C;generalize ps[j]=q1 at Z;generalize kU[j]=q2 at X;refine Zx (k1.at Z) fun t1 t=>Zx (k2.at X) fun t2 s=>?_;have g1:=t.1;have g2:=s.1;have m1:=jR Z;have m2:=jR X;have a1:=oA (σ:=S1.σ) (vW (c:=c) (j:=0) g1) y;have a:=oA (σ:=S1.σ) (vW (c:=!c) (j:=0) g2) n2;rw[mK E,oU,rX,<-eL]at U;have H:b<=b+(ps.length-(j+1))*(qa+M):=b7 _ _;induction q1 using K9 with|mk K1 o1=>induction q2 using K9 with|mk K2 o2=>
  have fail:(j2 (K1,o1)≠j2 (K2,o2))->¬gC ps=gC kU:=fun x q=>x (by rw[oz,oz]at q;have:=aI (fun l=>l[j]?) q;simp only[gp,Z,X]at this;exact b8 this);apply o a1;apply o a;apply o (Rj (o1:=o1) (o2:=o2));refine bI (fun x=>?_) fun d=>?_;.exact f S1 (fail fun q=>fx.mp x (G8 q).2) (U.le (bh H (b7 _ _)))
  .have d:o1=o2:=nK fun q=>by rw[fx.mpr q]at d;cases d
   apply o a1;apply o a;apply ox (c:=c) (K1:=K1) (K2:=K2) ask U.iv l2 (w1 _ m1) (w2 _ m2) ((t.2).aq U.pre) ((s.2).aq U.pre) (hm _ m1 _ m2);intro S2 hq;have Q:=U.trans hq.z3;refine bN (bD (fun hv=>?_) fun hv=>?_)
   .refine hK _ _ ⟨_,S2,rfl,rfl,E,Q,fun i hi=>?_⟩;by_cases q:i<j;.exact g i q
    .have:i=j:=fw (aC 0xb505021ad000 rfl hi) (aC 709782851584 rfl q);clear E z g hK C U H t g1 a1 s g2 a hq Q hi q;subst this;rw[Z,X,d];show D (aa.ab [cA K1,_])=D (aa.ab [cA K2,_]);rw[V3.mp hv]
   .exact f S2 (fail fun q=>hv (V3.mpr (G8 q).1)) (Q.le H)
end
section
theorem Rl(h:eO a=eO e):a=e:=by
 rcases a with _|a;.induction e using cM with|none=>rfl|some e=>exact nomatch h
 induction e using cM with|none=>exact nomatch h|some e=>injection h with h;injection h with h _;rw[j5 h]
theorem Rn{p q:Option (Int×Option Nat×Int)}(h:dF p=dF q):p=q:=by
 rcases p with _|⟨p0,Z,X⟩<;>rcases q with _|⟨U,J,H⟩;.rfl
 .exact nomatch h
 .exact nomatch h
 .have h:aa.ab [.int p0,eO Z,.int X]=aa.ab [.int U,eO J,.int H]:=h;rw[aa.int.inj (td h 0 rfl rfl),Rl (td h 1 rfl rfl),aa.int.inj (td h 2 rfl rfl)]
theorem G9{p q:Option (Int×Option Nat×Int)}(J:p≠I):0<=mY 3 p q↔p=q:=by
 rcases p with _|⟨p0,U,X⟩;.exact ae rfl J
 rcases q with _|⟨q0,Z,q2⟩;.exact⟨fun h=>ae h (show¬(0:Int)<=-1 by decide),nofun⟩
 show 0<=(if p0≠q0\/X≠q2 then(-1:Int)else _)↔_;by_cases e:p0≠q0\/X≠q2;.rw[af e];exact⟨fun h=>ae h (by decide),fun h=>by cases h;exact ae e fun q=>q.elim (fun q=>q rfl) fun q=>q rfl⟩
 .rw[am e];have H:p0=q0:=nK fun q=>e (.inl q);have e2:X=q2:=nK fun q=>e (.inr q);clear e;subst H e2;rcases U with _|U;.induction Z using cM with|none=>exact⟨fun _=>rfl,fun _=>fR 0⟩|some Z=>exact⟨fun h=>ae h (show¬(0:Int)<=-1 by decide),fun h=>nomatch h⟩
  induction Z using cM with|none=>exact⟨fun h=>ae h (show¬(0:Int)<=-1 by decide),fun h=>nomatch h⟩|some Z=>exact V3.trans ⟨fun h=>by rw[(pT h).1],fun h=>by cases h;rfl⟩
theorem Ro{p q:Option (Int×Option Nat×Int)}(ask:db A R 3 F L qa j 2)(h:Iv A R W 3 (b+(qa+j)) O m E S)(l2:L<=2)(d:2<m)(C:hX S.T p U)(J:hX S.T q M)(o1:tD p)(o2:tD q)(K:∀Z,p=q->Pw A R W 3 b O m E (0:Nat) S Z->k (.bool Y) Z.σ)(H:∀Z,¬p=q->Pw A R W 3 b O m E (0:Nat) S Z->k (.bool ai) Z.σ):CW (n+F+4) 120 [.ref R,U,M] S.σ k:=by
 have g:Pw A R W 3 b O m E (0:Nat) S S:=.refl (h.le (b7 _ _)) fun _ _ _ q=>nomatch q;have X:∀{p:Option (Int×Option Nat×Int)}{U},hX S.T p U->p≠I->E3 fun a z e=>U=.ab [.int a,.int z,.int e]:=fun{p U}h w=>by
  rcases p with _|⟨p0,v,f⟩;.exact ae rfl w
  rcases v with _|_;.exact⟨_,_,_,h⟩
  obtain⟨t,e,_⟩:=h;exact⟨_,_,_,e⟩
 refine Of ?_;by_cases e1:p=I
 .clear o1;subst e1;cases show U=_ from C;by_cases e2:q=I;.clear o2 H;subst e2;cases show M=_ from J;exact K S rfl g
  .obtain⟨a,z,e,rfl⟩:=X J e2;exact H S (fun q=>e2 q.symm) g
 .obtain⟨a,z,e,rfl⟩:=X C e1;by_cases e2:q=I;.clear o2 K;subst e2;cases show M=_ from J;exact H S e1 g
  .obtain⟨y,c,s,rfl⟩:=X J e2;refine G7 (n:=n) ask h l2 d C J o1 o2 e2 fun Z Q=>?_;have Q:=Q.any (u:=(0:Nat)) (by decide);by_cases q:p=q;.rw[aN ((G9 e1).mpr q)];exact K Z q Q
   .rw[bQ fun r=>q ((G9 e1).mp r)];exact H Z q Q
theorem SR.plain{p:Nat}(h:SR c T x p)(Q:x.rest=I/\x.sp=x.ps.length):E3 fun pl rt Z=>A4 (T[p]?=D (eA (bg c 0 pl) rt Z x.fl)) (dX c T x.ps pl) (KR c T x.res rt) (hX T x.pred Z):=by obtain⟨ps,sp,rest,O,J,L⟩:=x;obtain⟨pl,e,rt,Z,tl,X,U,E,C,M,H⟩:=h;clear C;obtain⟨rfl,rfl⟩:rest=I/\sp=ps.length:=Q;rw[U.len,sd]at X;rw[U.len,BV]at H;rw[show tl=[]from H,bK]at X;exact⟨pl,rt,Z,X,U,E,M⟩
theorem kN.pr(h:kN V x):tD x.pred:=fun a k b e=>(h.pred a k b e).2.2.2.2
theorem tF:dG x=dG y↔gC x.ps=gC y.ps/\x.pred=y.pred/\cA x.res=cA y.res/\x.fl&&&6=y.fl&&&6:=by
 obtain⟨ps,sp,rest,J,X,K⟩:=x;obtain⟨H,A,E,U,Z,Q⟩:=y;show aa.ab [.ab (gC ps),cA J,dF X,.int (K&&&6:Nat)]=aa.ab [.ab (gC H),cA U,dF Z,.int (Q&&&6:Nat)]↔gC ps=gC H/\X=Z/\cA J=cA U/\K&&&6=Q&&&6;constructor;.intro h;injection h with h;injection h with O h;injection h with C h;injection h with M h;injection h with L _;injection O with O;exact⟨O,Rn M,C,j5 L⟩
 .rintro⟨O,C,M,L⟩;rw[O,C,M,L]
theorem zF(ask:db A R 3 F L qa J 2)(l2:L<=2)(i:P<=4)(C:(P+2)*(qa+J)<=w):fY A R 3 (F+6) L P w:=by
 intro n W b g m j S s t x y c ay k h a r2 Q O p1 p2 d hk;have u:gS 3 3 x y ay=if dG x=dG y then 0 else-1:=af rfl;have bS:∀{Z},dG x=dG y->Pw A R W 3 b g m j (0:Nat) S Z->k (.bool Y) Z.σ:=fun{Z}e C=>by have:=hk Z (C.any (by decide));rw[u,af e]at this;exact this
 have K:∀{Z},¬dG x=dG y->Pw A R W 3 b g m j (0:Nat) S Z->k (.bool ai) Z.σ:=fun{Z}e C=>by have:=hk Z (C.any (by decide));rw[u,am e]at this;exact this
 have w0:Pw A R W 3 b g m j (0:Nat) S S:=.refl (h.le (b7 _ _)) fun _ _ _ q=>nomatch q;show CW (n+F+6) 118 _ _ _;refine u7 ?_;refine bD (fun e=>?_) fun ne=>?_;.cases dq e;refine bS ?_ w0;have:=SR.same (ay:=ay) (h.st.tb.base) l2 Q O a r2;rw[u]at this;exact nK fun q=>by rw[am q]at this;cases this
 apply o h.st.eZ;obtain⟨pl,rt,pd,g1,g2,g3,g4⟩:=a.plain (Q.1.pl rfl);obtain⟨ql,oh,oi,e1,e2,e3,e4⟩:=r2.plain (O.1.pl rfl);have E:=h.st;refine Og ?_;apply o E.cQ;apply o E.tb.az;apply o E.tb.fW;apply o (E.tb.row g1);refine E.tb.dv e1 ?_;refine E.tb.dv g1 ?_;refine bN ?_;show br (decide (ko (KJ (x.fl:Int) (y.fl:Int)) (qe 2 4)=0)) _ _;rw[(Ri x.fl Q.1.fl y.fl O.1.fl)];refine bD (fun v=>?_) fun v=>K (fun q=>v (tF.mp q).2.2.2) w0;have hx:=ut (qa+J) (uy p1 2);have hb:b+(qa+J)+(qa+J)+x.ps.length*(qa+J)<=b+w:=by rw[oU,Nat.two_mul]at hx;exact yB 0xcdaa0b5400b8020c6420c5017b5416a828000000 rfl C hx
 have M:n+F+4=n+1+F+3:=bA 0xf52d000022b400002 rfl;rw[M];refine Rk (n:=n+1) (b:=b+(qa+J)+(qa+J)) ask (h.le hb) l2 (bh p1 i) (bh p2 i) g2 e2 Q.2.1 O.2.1 (fun p hp q hq=>?_) (fun S1 hy H=>?_) (fun S1 f H=>K (fun q=>f (tF.mp q).1) (H.le (fy 0xb5416a828005000 rfl)));.have q1:=zE hp;exact mM 0xc5480bd080b1b1701060086c6ad00418001 rfl d q1 (zE hq)
 rw[M.symm];refine Ro (n:=n) ask H.iv l2 (c5 0x286b540418021a1801 rfl d) (g4.aq H.pre) (e4.aq H.pre) Q.1.pr O.1.pr (fun S2 z l=>?_) (fun S2 f l=>K (fun q=>f (tF.mp q).2.1) ((H.trans l).le (fy 778483814400 rfl)));have X:=H.trans l;rw[show n+F+4=n+2+F+2 by exact bA 0xd535000022b400002 rfl];refine ox (n:=n+2) ask X.iv l2 Q.2.2 O.2.2 (g3.aq X.pre) (e3.aq X.pre) (mM 0xc5480bd080b1b1701060086c6ad00418001 rfl d (tC (x:=x)) (tC (x:=y))) fun S3 h3=>?_;have U:=X.trans h3.z3;by_cases q:cA x.res=cA y.res;.rw[aN (V3.mpr q)];exact bS (tF.mpr ⟨hy,z,q,v⟩) U
 .rw[bQ fun r=>q (V3.mp r)];exact K (fun r=>q (tF.mp r).2.2.1) U
end
theorem rk(f:aa->Bool)(g:aa->aa)(P:Lc->Prop)(L:P lc)(H:∀x∈xs,∀lc,P lc->∃Z,A4 (fi lc t x=D Z) (P Z) (∀Q:Bool->AH->Prop,Q (f x) σ->c Z σ Q) (f x=Y->∀dZ:Po,dZ (g x) σ->e Z σ dZ))(O:k (.ref σ.length) (σ++[.list ((xs.filter f).map g)])):jZ I t c e xs [] lc σ k:=by
 refine qS (g:=I) (fun a r lc X=>X=σ/\P lc/\(∀x∈r,x∈xs)/\a++(r.filter f).map g=(xs.filter f).map g) (fun _ _ _ _ _=>trivial) ?_ ?_ ⟨rfl,L,fun _ h=>h,rfl⟩;.clear H;rintro a lc X⟨rfl,_,_,e⟩;rw[Zy,uA,bK]at e;rw[e];exact O
 .clear O;rintro x r a lc X K⟨rfl,A,E,e⟩C;obtain⟨Z,j,M,d,u⟩:=H x (E x aV) lc A;refine o j (d _ ?_);have U:=fun y(w:y∈r)=>E y (cH _ w);rcases J:f x with _|_;.refine C _ _ _ ⟨rfl,M,U,?_⟩;rw[La (jK.mp J)]at e;exact e
  refine u J _ (C _ _ _ ⟨rfl,M,U,?_⟩);rw[BW J,ij]at e;rw[dx];exact e
structure Sv(c:Bool)(T:List aa)(x:Sg)(p:Nat)(pl:List (Nat×Bool))(e rt:Nat)(pd:aa)(tl:List aa):Prop where
row:T[p]?=D (eA (bg c 0 (pl.take x.sp)++tl) rt pd x.fl)ks:dX c T x.ps pl
res:KR c T x.res rt
rest:mP T x.rest e
pred:hX T x.pred pd
tail:fD c T (pl.drop x.sp) x.rest e tl
sp:x.sp<=pl.length
lp:pl.length<=4
section
variable{b p e rt n:Nat}
theorem SR.sv(h:SR c T x p)(U:kN V x):E5 fun pl e rt Z tl=>Sv c T x p pl e rt Z tl:=by obtain⟨ps,sp,rest,H,J,L⟩:=x;obtain⟨pl,e,rt,Z,tl,Q,X,O,E,C,M⟩:=h;exact⟨pl,e,rt,Z,tl,Q,X,O,E,C,M,X.len▸U.sp,X.len▸U.len⟩
theorem Sv.aq(h:Sv c T x p pl e rt X tl)(Z:T<+:T'):Sv c T' x p pl e rt X tl:=⟨bV Z h.row,h.ks.aq Z,h.res.aq Z,h.rest.aq Z,h.pred.aq Z,h.tail.aq Z,h.sp,h.lp⟩
noncomputable def zG(d:aa):Int:=match d with|.ab [_,_,.int z]=>z|_=>2
theorem Ha:∀{l:List (Nat×Bool)}{j:Nat},∀d∈bg c j l,E2 fun a q=>d=.ab [a,.int (q:Nat×Bool).1,eB q.2]:=by intro l;induction l with|nil=>intro j d h;cases h|cons q l Z=>
intro j d h;rcases cc.mp h with rfl|h;.exact⟨_,q,rfl⟩
.exact Z d h
theorem vX{o:Bool}:nW .ne σ (eB o) (.int 2)=D true:=by cases o<;>rfl
theorem Rp:∀{l:List (Nat×Bool)}{j:Nat},(bg c j l).filter (fun d=>zG d !=2)=bg c j l:=by intro l;induction l with|nil=>intro _;exact rfl|cons Z l X=>obtain⟨i,o⟩:=Z;intro j;show Zz _ (iQ c j (i,o)::bg c (j+1) l)=_;rw[BW (by cases o<;>rfl),X];rfl
theorem Rq(h:fD c T dl rest e tl):tl.filter (fun d=>zG d !=2)=[]:=by rcases h.cases with⟨_,_,rfl⟩|⟨Z,rfl⟩<;>rfl
theorem Rr(h:fD c T dl rest e tl):∀d∈bg c j l++tl,E3 fun a i q=>d=.ab [a,.int (i:Nat),q]/\((∃o,q=eB o)\/q=.int 2):=fun d Z=>by
 rcases dH.mp Z with q|q;.clear Z;obtain⟨a,r,rfl⟩:=Ha (j:=j) d q;exact⟨a,r.1,_,rfl,.inl ⟨_,rfl⟩⟩
 .clear Z;rcases h.cases with⟨_,_,rfl⟩|⟨X,rfl⟩;.cases q
  .rw[aZ.mp q];exact⟨_,X,_,rfl,.inr rfl⟩
theorem pV(h:fD c T dl rest e tl)(U:l.length<=4)(O:∀Z,Fr [] σ Z->k (.int l.length) Z):CW (n+1) 56 [eA (bg c 0 l++tl) rt E b] σ k:=by
 have C:tl.length<=1:=by rcases h.cases with⟨_,_,rfl⟩|⟨A,rfl⟩;exact bP 1;exact aE 1
 refine Ev ?_;apply o (hW (by rw[aT,eh];exact bZ 0xb50811408055a0001 rfl U C));refine rk (fun d=>zG d !=2) id (fun lc=>∃v,lc=[D (eA (bg c 0 l++tl) rt E b),v]) ⟨I,rfl⟩ ?_ ?_
 .rintro d J lc⟨v,rfl⟩;obtain⟨a,i,q,rfl,M⟩:=Rr h d J;refine⟨_,rfl,⟨_,rfl⟩,fun g H=>?_,fun _ dZ L=>L⟩;clear J;rcases M with⟨o1,rfl⟩|rfl;.cases o1<;>exact H
  .exact H
 .rw[Lb,Rp,Rq h,bK,ZA];apply p (du aR (by rw[eh];exact ax 296386383873 rfl U));rw[eh];exact O _ .new
theorem fD.row(h:fD c T dl rest e tl)(Z:tl=[dd c U]):(dl=[]/\rest≠I/\T[U]?=D (lO e 0))\/(dl≠[]/\T[U]?=D (iN (dl.map ba++bu rest e) 0)):=by
 rcases dl with _|⟨q,r⟩;.induction rest using cM with|none=>rw[show tl=[]from h]at Z;cases Z|some m=>obtain⟨X,a,b⟩:=h;rw[Z]at a;rw[(sH (gY a).1).1];exact .inl ⟨rfl,nofun,b⟩
 obtain⟨X,a,b⟩:=h;rw[Z]at a;rw[(sH (gY a).1).1];exact .inr ⟨nofun,b⟩
theorem kW(Z:(l++[d]).length<av):lF (l++[d]) (-1)=D d:=by rw[aT,qh]at Z;show(if(Y&&decide ((l++[d]).length<av))=Y then(if(0:Int)<=-1 then _ else if 0<=(-1:Int)+(l++[d]).length then _ else I)else I)=_;rw[aT,qh,aN Z,af (show(Y&&Y)=Y from rfl),am (by decide),af (by rw[EZ];exact ib _),yw,ZB,jN (aE _),jO];rfl
theorem zH(X:l≠[]):E4 fun r a i o=>bg c j l=r++[aa.ab [a,.int (i:Nat),eB o]]:=by have Z:bg c j l≠[]:=fun q=>X (nH (by rw[<-eh (c:=c) (j:=j),q];rfl));obtain⟨a,q,e⟩:=Ha (c:=c) (l:=l) (j:=j) _ (List.getLast_mem Z);exact⟨_,a,q.1,q.2,by rw[e.symm];exact(BO Z).symm⟩
theorem zI(h:l≠[]):(bg c j l).isEmpty=false:=by induction l using eQ with|nil=>exact ae rfl h|cons=>rfl
theorem vY{Z:Nat}(h:Tb A b T σ)(e:T[Z]?=D d)(X:d=lO p 0\/∃es,d=iN es 0)(U:k (.ab [.int Z]) σ):CW (n+1) 20 [.ref A.az,.int Z] σ k:=by
 have J:Z≠2:=fun q=>by clear U;subst q;have:=fL h.base e rfl;clear e;rcases X with rfl|⟨_,rfl⟩<;>exact gQ this rfl
 refine yN (l:=[Z]) h (.inr (.inr ⟨J,rfl,fun x q=>?_⟩)) (fun H _ q=>?_) (bo.mp e).1 U;.rw[e]at q;clear e;rcases X with rfl|⟨_,rfl⟩<;>exact gQ (b8 q) rfl
 .rw[e]at q;cases q;clear e;rcases X with rfl|⟨es,rfl⟩;.exact⟨11,_,rfl,ck rfl,by decide⟩
  .exact⟨12,_,rfl,ck rfl,by decide⟩
theorem fF(c:Nat)(hz:z=(c:Int))(J:t=c->P)(H:t≠c->Q):br (decide ((t:Int)=z)) P Q:=by subst hz;exact bD (fun q=>J (dq q)) fun q=>H fun e=>q (aI _ e)
theorem tG{tl:List aa}(h:Tb A b T σ)(E:fD c T dl rest e tl)(Q:l.length<=4)(C:tl=[]->k (.ab []) σ)(M:∀X,tl=[dd c X]->k (.ab [.int X]) σ):CW (n+2) 55 [.ref A.bd,eA (bg c 0 l++tl) rt L p] σ k:=by
 have H:(bg c 0 l).length<av:=by rw[eh];exact ax 296386383873 rfl Q
 refine yp ?_;rcases E.cases with⟨_,_,O⟩|⟨X,Z⟩
 .rw[O,bK];by_cases U:l=[];.clear Q H;subst U;exact C O
  .apply o (qN H);rw[zI U];obtain⟨r,a,i,o1,e1⟩:=zH (c:=c) (j:=0) U;rw[e1]at H⊢;apply o (show cY σ (.ab _) (.int (-1))=_ from kW H);apply o vX;exact C O
 .have J:(bg c 0 l++[dd c X]).length<av:=by rw[aT,eh];unfold av;show l.length+1<_;exact ax 303499642011649 rfl Q
  rw[Z];apply o (qN J);rw[show(bg c 0 l++[dd c X]).isEmpty=ai by clear Q H J;cases l<;>rfl];apply o (show cY σ (.ab _) (.int (-1))=_ from kW J);apply o (show cY σ (.ab _) (.int (-1))=_ from kW J);refine eD h ?_;rcases E.row Z with⟨_,_,e1⟩|⟨_,e1⟩
  .refine fF 2 rfl (fun q=>?_) fun _=>?_;.clear Z J;subst q;exact nomatch fL h.base e1 rfl
   apply o h.az;exact vY (p:=e) h e1 (.inl rfl) (M X Z)
  .refine fF 2 rfl (fun q=>?_) fun _=>?_;.clear Z J;subst q;exact gQ (fL h.base e1 rfl) rfl
   apply o h.az;exact vY (p:=e) h e1 (.inr ⟨_,rfl⟩) (M X Z)
end
noncomputable def k2(d:aa):Int:=match d with|.ab [_,.int z]=>z|_=>3
noncomputable def nd(l:List (Nat×Bool)):Nat:=(l.filter fun q=>!q.2).length
section
variable{pl l dl:List (Nat×Bool)}
theorem tH:∀d∈dl.map ba++bu rest e,(∃q,d=ba q)\/∃i:Nat,d=.ab [.int i,.int 2]:=fun d h=>by
 rcases dH.mp h with h|h;.obtain⟨q,_,rfl⟩:=g7.mp h;exact .inl ⟨q,rfl⟩
 .rcases rest with _|m;.cases h
  rw[aZ.mp h];exact .inr ⟨e,rfl⟩
theorem kX:(dl.map ba++bu rest e).length<=dl.length+1:=by
 rw[aT,aJ];cases rest;.exact dg _
 .exact aE _
theorem Rt:∀{dl:List (Nat×Bool)},((dl.map ba++bu rest e).filter fun d=>k2 d==0).length=nd dl:=by intro dl;induction dl with|nil=>cases rest<;>rfl|cons X dl Z=>
obtain⟨i,o⟩:=X;have Z:=Z;unfold nd at Z⊢;cases o;.exact aI (·+1) Z
.exact Z
theorem Ru(H:dl.length<=4)(Q:∀Z,Fr [] σ Z->k (.int (nd dl)) Z):CW (n+1) 48 [iN (dl.map ba++bu rest e) 0] σ k:=by
 refine NF ?_;apply o (hW (bZ 0xb5050204542015001 rfl H (kX (dl:=dl) (rest:=rest) (e:=e))));refine rk (fun d=>k2 d==0) (fun d=>.int (k2 d)) (fun lc=>E2 fun v w=>lc=[D (iN (dl.map ba++bu rest e) 0),v,w]) ⟨I,I,rfl⟩ ?_ ?_
 .rintro d X lc⟨v,w,rfl⟩;rcases tH d X with⟨⟨i,o1⟩,rfl⟩|⟨i,rfl⟩
  .refine⟨_,rfl,⟨_,_,rfl⟩,fun O U=>?_,fun _ dZ J=>?_⟩;.clear X;cases o1<;>exact U
   .clear X;cases o1<;>exact J
  .exact⟨_,rfl,⟨_,_,rfl⟩,fun O U=>U,fun _ dZ J=>J⟩
 .have e1:(((dl.map ba++bu rest e).filter fun d=>k2 d==0).map fun d=>aa.int (k2 d)).length=nd dl:=by rw[aJ,Rt]
  apply p (du aR (by rw[e1];exact ax 296386383873 rfl (bh (oZ _ _) H)));rw[e1];exact Q _ .new
theorem Rv(Q:dl.length<=4)(U:k (.int (match rest with|none=>(dl.length:Int)|some _=>-1)) σ):CW (n+1) 49 [iN (dl.map ba++bu rest e) 0] σ k:=by
 have J:(dl.map ba++bu rest e).length<av:=bZ 0xb5050204542015001 rfl Q (kX (dl:=dl) (rest:=rest) (e:=e));refine NG ?_;apply o (hW J);refine j4 (g:=I) (fun r lc Z=>Z=σ/\E3 fun v w q=>lc=[D (iN (dl.map ba++bu rest e) 0),v,w]/\r=q.map ba++bu rest e) (fun _ _ _ _=>trivial) ?_ ?_ ⟨rfl,I,I,dl,rfl,rfl⟩
 .rintro lc Z⟨rfl,v,w,q,rfl,X⟩;rcases rest with _|m;.apply p (ir J);rw[show(dl.map ba++bu I e).length=dl.length by rw[aT,aJ];rfl];exact U
  exact ae X.symm (by simp[bu])
 .rintro d r lc Z K⟨rfl,v,w,q,rfl,X⟩H;rcases q with _|⟨q,O⟩;.induction rest using cM with|none=>cases X|some m=>clear H;cases X;exact U
  obtain⟨i,o1⟩:=q;cases X;have:=H _ _ ⟨rfl,D (.int i),D (eB o1),O,rfl,rfl⟩;cases o1<;>exact this
theorem zJ(E:dl.length<=4)(C:k (.int dl.length) σ):CW (n+1) 51 [iN (dl.map ba++bu rest e) 0] σ k:=by
 have Z:=kX (dl:=dl) (rest:=rest) (e:=e);have U:(dl.map ba++bu rest e).length<av:=bZ 0xb5050204542015001 rfl E Z;refine NH ?_;apply p (ir U);refine⟨by rw[jx U,aN (by exact bZ 0x16a0a0408a841e848040d009 rfl E Z)];rfl,?_⟩;rw[ie];refine lW (fun j lc X=>X=σ/\j<=dl.length/\∃v,lc=[D (iN (dl.map ba++bu rest e) 0),v]) ?_ ?_ ⟨rfl,bP _,I,rfl⟩
 .rintro lc X⟨rfl,O,v,rfl⟩;apply p (ir U);rcases rest with _|m;.rw[show(dl.map ba++bu I e).length=dl.length by rw[aT,aJ];rfl];exact C
  exact ae O (by rw[aT,aJ];exact Ld _)
 .rintro j lc X K O⟨rfl,J,v,rfl⟩M;by_cases q:j<dl.length
  .have e1:(dl.map ba++bu rest e)[j]?=D (ba dl[j]):=by rw[ic (by rw[aJ];exact q),gp,dK q];rfl
   apply o (oA e1 U);have:=M _ _ ⟨rfl,q,D (.int j),rfl⟩;cases h:dl[j]with|mk i o1=>clear h;cases o1<;>exact this
  .have:j=dl.length:=fw (aC 743063605248 rfl J) (aC 709782851584 rfl q);clear J M q;subst this;rcases rest with _|m;.exact ae O (by rw[aT,aJ];exact oX _)
   apply o (oA (show(dl.map ba++bu (D m) e)[dl.length]?=D (.ab [.int e,.int 2])by rw[jN (by rw[aJ];exact aE _),aJ,jO];rfl) U);exact C
def Mo(l:List (Nat×Bool)):Prop:=∀i q,l[i]?=D q->(q.2=ai↔i<nd l)
theorem Hb:nd l<=l.length:=oZ _ _
theorem dX.snd:∀{ps:List (Kd×Bool)}{pl:List (Nat×Bool)},dX c T ps pl->pl.map (·.2)=ps.map (·.2):=by intro ps;induction ps with|nil=>intro pl h;rw[show pl=[]from h];rfl|cons p r Z=>intro pl h;obtain⟨i,X,rfl,_,h⟩:=h;exact aI (p.2::·) (Z h)
theorem Rw:∀{l:List (Nat×Bool)},nd l=((l.map (·.2)).filter fun q=>!q).length:=by intro l;induction l with|nil=>exact rfl|cons X l Z=>
obtain⟨i,o1⟩:=X;have Z:=Z;unfold nd at Z⊢;cases o1;.exact aI (·+1) Z
.exact Z
theorem Rx:∀{ps:List (Kd×Bool)},((ps.filter fun p=>!p.2).length)=((ps.map (·.2)).filter fun q=>!q).length:=by intro ps;induction ps with|nil=>exact rfl|cons X l Z=>
obtain⟨i,o1⟩:=X;have Z:=Z;cases o1;.exact aI (·+1) Z
.exact Z
theorem dX.nd(h:dX c T ps pl):nd pl=(ps.filter fun p=>!p.2).length:=by rw[Rw,h.snd,Rx]
theorem zK:∀{ps:List (Kd×Bool)}{pl:List (Nat×Bool)},fC ps=Y->dX c T ps pl->Mo pl:=by intro ps;induction ps with|nil=>intro pl _ h;rw[show pl=[]from h];exact fun i q e=>nomatch e|cons U r X=>
  obtain⟨K,o1⟩:=U;intro pl Z h;obtain⟨t,is,rfl,_,h⟩:=h;have Z:((!o1||r.all (·.2))&&fC r)=true:=Z;rw[gH]at Z;have X:=X Z.2 h;intro i q e;rcases o1 with _|_
  .have en:nd ((t,ai)::is)=nd is+1:=rfl;rcases i with _|i;.cases e;rw[en];exact⟨fun _=>fe _,fun _=>rfl⟩
   rw[en];exact(X i q e).trans Nat.succ_lt_succ_iff.symm
  have z:nd is=0:=by rw[h.nd,List.length_eq_zero_iff,ZC];intro p J;rw[fQ.mp (Z.1) p J];nofun
  have en:nd ((t,Y)::is)=nd is:=rfl;rw[en,z];rcases i with _|i;.cases e;exact⟨nofun,fun q=>ae q (oX _)⟩
  have:=X i q e;rw[z]at this;exact this.trans ⟨fun q=>ae q (xw _),fun q=>ae q (xw _)⟩
theorem Ry:nd (a++dl)=nd a+nd dl:=by unfold nd;rw[Lb,aT]
end
section
theorem Rz(ht:fD c T dl rest e tl)(hl:l.length<=4)(hm:∀i q,l[i]?=D q->(q.2=ai↔i<w))(hk:k (.int (min w l.length:Nat)) σ):CW (n+1) 60 [eA (bg c 0 l++tl) rt pd fl] σ k:=by
 have lt:tl.length<=1:=by rcases ht.cases with⟨_,_,rfl⟩|⟨tt,rfl⟩;exact bP 1;exact aE 1
 have jf:(bg c 0 l++tl).length=l.length+tl.length:=by rw[aT,eh]
 have lm:(bg c 0 l++tl).length<av:=fj 0x2d5050222d8204542015001 rfl hl lt jf;refine NN ?_;apply p (ir lm);refine⟨by rw[jx lm,aN (by exact fj 0x5aa0a0445b0408a841e848040d009 rfl hl lt jf)];rfl,?_⟩;rw[ie];refine lW (fun j lc au=>au=σ/\∃v,lc=[D (eA (bg c 0 l++tl) rt pd fl),D (.int (min j (min w l.length):Nat)),v]) ?_ ?_ ⟨rfl,I,by rw[Nat.zero_min];rfl⟩;.rintro lc au⟨rfl,v,rfl⟩;rw[jf,se (bh (jU _ _) (b7 _ _))];exact hk
 .clear hk;rintro j lc au K hj⟨rfl,v,rfl⟩hK;by_cases q:j<l.length;.have e1:=vW (c:=c) (j:=0) (dK q);have e2:=hm j _ (dK q);induction h:l[j]using K9 with|mk i o1=>
   rw[h]at e1 e2;apply o (oA (show(bg c 0 l++tl)[j]?=_ from(ic (by rw[eh];exact q)).trans e1) lm);rcases o1 with _|_;.have:j<w:=e2.mp rfl;refine hK _ _ ⟨rfl,D (.int j),?_⟩;rw[mq (Nat.le_min.mpr ⟨this,q⟩)];rfl
   have:¬j<w:=fun q=>(by have h:=e2.mpr q;contradiction);refine hK _ _ ⟨rfl,D (.int j),?_⟩;rw[(se (bh (uB _ _) (ln (ku this)))).trans (se (bh (uB w l.length) (ku this))).symm];rfl
  .clear lt;rcases ht.cases with⟨_,_,rfl⟩|⟨tt,rfl⟩;.exact ae hj (by rw[jf];exact q)
   .have:j=l.length:=by rw[jf]at hj;exact fw (oV hj) (ku q)
    clear q hj;subst this;apply o (oA (show(bg c 0 l++[dd c tt])[l.length]?=D (dd c tt)by rw[jN (by rw[eh];exact aE _),eh,jO];rfl) lm);refine hK _ _ ⟨rfl,D (.int l.length),?_⟩;rw[(se (ln (jU _ _))).trans (se (jU w l.length)).symm];rfl
theorem RA(h:Mo (a++dl))(O:0<nd dl):nd a=a.length:=by refine nK fun E=>?_;obtain⟨q,C,X⟩:=List.length_filter_lt_length_iff_exists.mp (xC Hb E);obtain⟨j,J⟩:=Le C;have H:=(bo.mp J).1;have M:nd (a++dl)<=j:=ku fun r=>X (by rw[(h j q (by rw[ic H];exact J)).mpr r];rfl);obtain⟨Q,U⟩:=List.exists_mem_of_length_pos O;have Z:=ZD.mp U;obtain⟨i,hi⟩:=Le Z.1;have:=(h (a.length+i) Q (by rw[jN (b7 _ _),xE];exact hi)).mp (by have:=Z.2;induction e:Q.2 using xF with|false=>rfl|true=>rw[e]at this;cases this);exact ae (iX this M) (hE.mpr (bh (lk H) (b7 _ _)))
theorem Sv.aP(h:Sv c T x s pl e rt Z tl):(pl.take x.sp).length=x.sp:=by rw[ig,mq h.sp]
theorem Sv.m7(h:Sv c T x s pl e rt Z tl):x.sp+(pl.drop x.sp).length=pl.length:=by rw[sf];exact uC h.sp
theorem Sv.l4(h:Sv c T x s pl e rt Z tl):(pl.take x.sp).length<=4:=by rw[h.aP];exact bh h.sp h.lp
theorem Sv.d4(h:Sv c T x s pl e rt Z tl):(pl.drop x.sp).length<=4:=by rw[sf];exact bh (qj _ _) h.lp
theorem Sv.mo(h:Sv c T x s pl e rt X tl)(Z:kN V x):Mo pl:=zK Z.aq h.ks
theorem tI(h:σ[i]?=D (.list [.int v])):iJ .min σ [.ref i]=D (.int v,σ):=by show(x9 σ (.ref i)).map _=_;unfold x9;rw[ez h];rfl
theorem RB(h:Tb A b T σ)(hv:Sv c T x s pl e rt pd tl)(hm:Mo pl)(hk:∀au,Fr [] σ au->k (.int (nd pl)) au):CW (n+3) 62 [.ref A.bd,.int s] σ k:=by
 have h1:Tb A b T (σ++[.list []]):=h.cm;have hs:nd (pl.take x.sp)+nd (pl.drop x.sp)=nd pl:=by rw[Ry.symm,kw]
 have mt:∀i q,(pl.take x.sp)[i]?=D q->(q.2=ai↔i<nd pl):=fun i q e=>hm i q (by have:=(bo.mp e).1;rw[hv.aP]at this;rw[e.symm,BX this]);have zL:∀{au}{kf:Po},nd (pl.drop x.sp)=0->kf (.int (nd pl)) au->CW (n+2) 60 [eA (bg c 0 (pl.take x.sp)++tl) rt pd x.fl] au kf:=fun{au kf}e0 RC=>by refine Rz hv.tail hv.l4 mt ?_;rw[mq (by rw[hs.symm,e0];exact Hb)];exact RC
 have pos:=h.pos;refine NP ?_;refine h.dv hv.row ?_;apply tG h1 hv.tail hv.l4
 .intro ht;rw[ht]at hv;have d0:pl.drop x.sp=[]:=by
   rcases hv.tail.cases with⟨a,_,_⟩|⟨_,a⟩;.exact a
   .cases a
  refine⟨trivial,?_⟩;apply o (kM aR (by decide));exact zL (by rw[d0];rfl) (hk _ .new)
 .intro tt ht;have ap:qF 0 σ.length [] (σ++[.list []]) [.int 0]=D (.none,σ++[.list [.int 0]]):=(gz (by decide) (ax 691524489222 rfl pos)).trans (by rw[qV];rfl);refine⟨trivial,?_⟩;rcases hv.tail.row ht with⟨d0,_,e1⟩|⟨d0,e1⟩;.refine h1.dv e1 ?_;apply o aR;apply o (ez aR);apply p ap;refine⟨trivial,?_⟩;apply o (kM aR (by decide));apply p (tI aR);exact zL (by rw[d0];rfl) (hk _ .new)
  .refine h1.dv e1 ?_;apply Ru hv.d4;intro cy f2;have h2:=h1.fV f2;have g2:cy[σ.length]?=D (.list []):=f2 _ _ aR bJ;apply o aR;apply o (ez g2);apply p (gz (v:=.int (nd (pl.drop x.sp))) (show([]:List aa).length<av by decide) (ax 691524489222 rfl pos));have g3:(cy.set σ.length (.list ([]++[.int (nd (pl.drop x.sp))])))[σ.length]?=D (.list [.int (nd (pl.drop x.sp))]):=eV g2;have f3:Fr [] σ (cy.set σ.length (.list ([]++[.int (nd (pl.drop x.sp))]))):=(Fr.new.trans f2).kK (jp (aE _));refine⟨trivial,?_⟩;apply o (kM g3 (show 1<av by decide));apply p (tI g3);refine bD (fun q=>?_) fun q=>?_;.apply pV hv.tail hv.l4;intro jd f4;have:=RA (by rw[kw];exact hm) (mc.mp q);rw[this]at hs;have:=hk jd (f3.trans f4);rw[hs.symm]at this;exact this
   .exact zL (Nat.eq_zero_of_not_pos fun r=>q (mc.mpr r)) (hk _ f3)
end
noncomputable def zM(r:Option Nat)(a:Int):Int:=match r with|none=>a|some _=>-1
section
theorem Sv.rm(h:Sv c T x s pl e rt X tl)(Z:tl=[]):pl.drop x.sp=[]/\x.rest=I/\pl.length=x.sp:=by
 rcases h.tail.cases with⟨a,r,_⟩|⟨_,a⟩;.have:=h.m7;rw[a]at this;exact⟨a,r,this.symm⟩
 .rw[Z]at a;cases a
theorem zN(h:Tb A b T σ)(X:Sv c T x s pl e rt E tl)(U:∀Z,Fr [] σ Z->k (.int (zM x.rest pl.length)) Z):CW (n+3) 63 [.ref A.bd,.int s] σ k:=by
 refine Ew ?_;refine h.dv X.row ?_;apply tG h X.tail X.l4;.intro H;refine cps fun P O=>?_;obtain⟨_,e1,e2⟩:=X.rm H;refine O ?_;refine⟨trivial,?_⟩;apply pV X.tail X.l4;intro Z f;have:=U Z f;rw[e1,show zM I pl.length=pl.length from rfl,e2,X.aP.symm]at this;exact this
 .intro C H;refine⟨trivial,?_⟩;rcases X.tail.row H with⟨Q,r,e1⟩|⟨Q,e1⟩
  .refine h.dv e1 ?_;rcases J:x.rest with _|m;.exact ae J r
   rw[J]at U;exact U σ .rfl
  .refine h.dv e1 ?_;apply Rv X.d4;rcases J:x.rest with _|m;.rw[J]at U;have pos:0<(pl.drop x.sp).length:=List.length_pos_iff.mpr Q;refine⟨trivial,?_⟩;apply pV X.tail X.l4;intro Z f;have:=U Z f;rw[show zM I pl.length=pl.length from rfl,X.m7.symm]at this;show k (.int (((pl.take x.sp).length:Int)+(if((pl.drop x.sp).length:Int)>0 then((pl.drop x.sp).length:Int)else 0))) Z;rw[X.aP,af (mc.mpr pos)];exact this
   rw[J]at U;exact U σ .rfl
theorem RD(h:Tb A b T σ)(Z:Sv c T x s pl e rt L tl)(U:∀X,Fr [] σ X->k (.int pl.length) X):CW (n+3) 64 [.ref A.bd,.int s] σ k:=by
 have Q:Tb A b T (σ++[.list []]):=h.cm;have pos:=h.pos;have K:=Z.m7;refine Ey ?_;refine h.dv Z.row ?_;apply tG Q Z.tail Z.l4;.intro O;obtain⟨_,_,e2⟩:=Z.rm O;refine⟨trivial,?_⟩;apply pV Z.tail Z.l4;intro X f;apply o (kM (f _ _ aR bJ) (by decide));have:=U X (Fr.new.trans f);rw[e2,Z.aP.symm]at this;exact this
 .intro j O;refine⟨trivial,?_⟩;have H:∀{d:Nat}cy,d=(pl.drop x.sp).length->Fr [] ((σ++[AO.list []]).set σ.length (.list ([]++[.int d]))) cy->cy[σ.length]?=D (.list [.int d])/\k (.int (((pl.take x.sp).length:Int)+d)) cy:=fun{d}cy E J=>by refine⟨J _ _ (eV (o':=.list ([]++[.int d])) aR) bJ,?_⟩;have:=U cy ((Fr.new.kK (jp (aE _))).trans J);rw[Z.m7.symm,E.symm]at this;rw[Z.aP];exact this
  rcases Z.tail.row O with⟨C,_,e1⟩|⟨C,e1⟩;.refine Q.dv e1 ?_;apply o aR;apply o (ez aR);apply p (gz (v:=.int 0) (show([]:List aa).length<av by decide) (ax 691524489222 rfl pos));refine⟨trivial,?_⟩;apply pV Z.tail Z.l4;intro cy J;obtain⟨g,U⟩:=H cy (d:=0) (by rw[C];rfl) J;apply o (kM g (show 1<av by decide));apply p (tI g);exact U
  .refine Q.dv e1 ?_;apply zJ Z.d4;apply o aR;apply o (ez aR);apply p (gz (v:=.int (pl.drop x.sp).length) (show([]:List aa).length<av by decide) (ax 691524489222 rfl pos));refine⟨trivial,?_⟩;apply pV Z.tail Z.l4;intro cy J;refine cps fun P M=>?_;obtain⟨g,U⟩:=H cy rfl J;refine M ?_;apply o (kM g (show 1<av by decide));apply p (tI g);exact U
end
noncomputable def eG(x:Sg)(n:Nat):Nat:=match x.rest with|none=>n|some _=>n+1
section
variable{pl l dl:List (Nat×Bool)}
theorem Sv.pW(h:Sv c T x s pl e rt U tl)(Z:tl≠[]):∃X,tl=[dd c X]:=by
 rcases h.tail.cases with⟨_,_,a⟩|a;.exact ae a Z
 .exact a
theorem Sv.Hc(h:Sv c T x s pl e rt U tl)(Z:x.rest≠I):∃X,tl=[dd c X]:=h.pW fun q=>Z (h.rm q).2.1
theorem Sv.vZ(h:Sv c T x s pl e rt X tl)(U:tl=[dd c Z]):(bg c 0 (pl.take x.sp)++[dd c Z]).length=x.sp+1/\(bg c 0 (pl.take x.sp)++[dd c Z]).length<av:=by
 have e1:(bg c 0 (pl.take x.sp)++[dd c Z]).length=x.sp+1:=by rw[aT,eh,h.aP];rfl
 exact⟨e1,by rw[e1];exact dL (mj (bh h.sp h.lp)) (ck rfl)⟩
theorem zO(h:Tb A b T σ)(X:Sv c T x s pl e rt f tl)(j:∀H,Fr [] σ H->k (.int (eG x pl.length)) H):CW (n+4) 106 [.ref A.bd,.int s] σ k:=by
 refine EL ?_;apply zN h X;intro bX C;have U:=h.fV C;have Z:=j bX C;unfold eG at Z;rcases O:x.rest with _|m;.rw[O]at Z;exact Z
 rw[O]at Z;obtain⟨M,u⟩:=X.Hc (by rw[O];nofun);subst u;have E:=X.vZ rfl;refine U.dv X.row ?_;apply o U.az;apply o (show cY bX (.ab (bg c 0 (pl.take x.sp)++[dd c M])) (.int (-1))=_ from kW E.2);refine eD U ?_;have Q:∀{z:Int},z=(pl.drop x.sp).length+1->k (.int (((bg c 0 (pl.take x.sp)++[dd c M]).length:Int)-1+z)) bX:=fun{z}e1=>by have:=X.m7;rw[E.1,e1,pj,show(x.sp:Int)+((pl.drop x.sp).length+1)=((pl.length+1:Nat):Int)from aI (fun n:Nat=>((n+1:Nat):Int)) this];exact Z
 rcases X.tail.row rfl with⟨L,r,e1⟩|⟨L,e1⟩;.refine vY (p:=e) U e1 (.inl rfl) ?_;refine⟨trivial,?_⟩;refine U.dv e1 ?_;refine⟨trivial,?_⟩;apply p (ir E.2);exact Q (by rw[L];rfl)
 .refine vY (p:=e) U e1 (.inr ⟨_,rfl⟩) ?_;refine⟨trivial,?_⟩;refine U.dv e1 ?_;have K:((pl.drop x.sp).map ba++bu x.rest e).length=(pl.drop x.sp).length+1:=by rw[O,aT,aJ];rfl
  have w:((pl.drop x.sp).map ba++bu x.rest e).length<av:=by have:=X.d4;rw[K];exact ax 303499642011649 rfl this
  apply p (ir w);refine⟨trivial,?_⟩;apply p (ir E.2);refine Q ?_;rw[K];show(if(((pl.drop x.sp).length+1:Nat):Int)>1 then(((pl.drop x.sp).length+1:Nat):Int)else 1)=_;generalize(pl.drop x.sp).length=d;cases d with|zero=>rfl|succ d=>exact af (cv.mpr (Nat.succ_lt_succ (fe d)))
theorem Hd(h:Tb A b T σ)(X:Sv c T x s pl e rt E tl)(U:k (.int (-1)) σ):CW (n+2) 101 [.ref A.bd,.int s] σ k:=by
 have J:(bg c 0 (pl.take x.sp)).length<av:=by have:=X.l4;rw[eh];exact ax 296386383873 rfl this
 refine EI ?_;refine h.dv X.row ?_;by_cases Q:tl=[]
 .clear X;subst Q;rw[bK];by_cases Z:pl.take x.sp=[];.rw[Z];exact U
  .apply o (qN J);rw[zI Z];obtain⟨r,a,i,o1,e1⟩:=zH (c:=c) (j:=0) Z;rw[e1]at J⊢;apply o (show cY σ (.ab _) (.int (-1))=_ from kW J);apply o vX;exact U
 .obtain⟨O,rfl⟩:=X.pW Q;have H:=X.vZ rfl;apply o (qN H.2);rw[show(bg c 0 (pl.take x.sp)++[dd c O]).isEmpty=ai by cases pl.take x.sp<;>rfl];apply o (show cY σ (.ab _) (.int (-1))=_ from kW H.2);apply o (show cY σ (.ab _) (.int (-1))=_ from kW H.2);refine eD h ?_;apply o h.az;apply o h.fW;rcases X.tail.row rfl with⟨_,_,e1⟩|⟨_,e1⟩;.apply o (h.row e1);exact U
  .apply o (h.row e1);exact U
theorem RE{l:List aa}(Z:l.length<av):qD σ (.ab l) .none (.int (-1))=D (.ab l.dropLast,σ):=by
 have e:dS l .none (.int (-1))=D l.dropLast:=by unfold dS;rw[af Z];show D ((l.take ((-1:Int)+l.length).toNat).drop 0)=_;rw[uD,BY,yw]
 show(match dS l _ _ with|some r=>_|none=>I)=_;rw[e]
theorem He{es:List aa}(X:σ[i]?=D (.list (es.map g)))(h:∀d∈es,∃y:Int,g d=.int y/\y≠z):ip σ (.int z) (.ref i)=D false:=by
 show(match σ[i]? with|some (.list xs)=>_|some (.dict es)=>_|_=>I)=_;rw[X];have e1:(es.map g).all cf=true:=fQ.mpr fun y U=>by obtain⟨d,Z,rfl⟩:=g7.mp U;obtain⟨y,e,_⟩:=h d Z;rw[e];rfl
 have e2:(es.map g).contains (.int z)=false:=by rw[<-KZ,ZE];intro q;obtain⟨d,Z,e⟩:=g7.mp q;obtain⟨y,J,H⟩:=h d Z;rw[J]at e;exact H (aa.int.inj e)
 show(if(cf (.int z)&&(es.map g).all cf)=Y then D ((es.map g).contains (.int z))else I)=_;rw[e1,e2];rfl
theorem Hf:∀d∈(dl.map ba++bu rest e).dropLast,∃q,d=ba q:=fun d h=>by
 rcases rest with _|m;.rw[show bu I e=[]from rfl,bK]at h;obtain⟨q,_,rfl⟩:=g7.mp (ZF _ h);exact⟨q,rfl⟩
 rw[show bu (D m) e=[.ab [.int e,.int 2]]from rfl,Zq]at h;obtain⟨q,_,rfl⟩:=g7.mp h;exact⟨q,rfl⟩
theorem zP:∀{l:List aa},l.filter (fun _=>Y)=l:=by intro l;induction l with|nil=>exact rfl|cons a l Z=>exact aI (a::·) (Z)
theorem zQ(h:Tb A b T σ)(Z:Sv c T x s pl e rt g tl)(Q:∀J,Fr [] σ J->k (.bool ai) J):CW (n+3) 102 [.ref A.bd,.int s] σ k:=by
 have O:(bg c 0 (pl.take x.sp)).length<av:=by have:=Z.l4;rw[eh];exact ax 296386383873 rfl this
 refine EJ ?_;apply Hd h Z;refine h.dv Z.row ?_;by_cases L:tl=[]
 .clear Z;subst L;rw[bK];by_cases U:pl.take x.sp=[];.rw[U];exact Q σ .rfl
  .apply o (qN O);rw[zI U];obtain⟨r,a,i,o1,e1⟩:=zH (c:=c) (j:=0) U;rw[e1]at O⊢;apply o (show cY σ (.ab _) (.int (-1))=_ from kW O);apply o vX;exact Q σ .rfl
 .obtain⟨E,rfl⟩:=Z.pW L;have C:=Z.vZ rfl;apply o (qN C.2);rw[show(bg c 0 (pl.take x.sp)++[dd c E]).isEmpty=ai by cases pl.take x.sp<;>rfl];apply o (show cY σ (.ab _) (.int (-1))=_ from kW C.2);apply o h.az;apply o h.fW;apply o (show cY σ (.ab _) (.int (-1))=_ from kW C.2);refine eD h ?_;rcases Z.tail.row rfl with⟨_,_,e1⟩|⟨_,e1⟩;.apply o (h.row e1);exact Q σ .rfl
  .apply o (h.row e1);have M:((pl.drop x.sp).map ba++bu x.rest e).length<av:=bZ 0x115080b50502015001 rfl (kX (dl:=pl.drop x.sp) (rest:=x.rest) (e:=e)) (Z.d4);apply p (RE M);apply o (hW (dL (by rw[ZG];exact qj _ _) M));refine rk (fun _=>Y) (fun d=>.int (k2 d)) (fun lc=>∃v,lc=[D (.ref A.bd),D (.int s),D (.int (-1)),D (.ab (bg c 0 (pl.take x.sp)++[dd c E])),D (iN ((pl.drop x.sp).map ba++bu x.rest e) 0),v,I]) ⟨I,rfl⟩ ?_ ?_;.rintro d X lc⟨v,rfl⟩;obtain⟨⟨i,o1⟩,rfl⟩:=Hf d X;exact⟨_,rfl,⟨_,rfl⟩,fun K H=>H,fun _ dZ Z=>by clear X;cases o1<;>exact Z⟩
   rw[zP];apply o (He aR fun d X=>by obtain⟨⟨i,o1⟩,rfl⟩:=Hf d X;clear X;cases o1;exact⟨_,rfl,(by decide:(0:Int)≠2)⟩;exact⟨_,rfl,(by decide:(1:Int)≠2)⟩);apply o (hW M);refine rk (fun _=>Y) (fun d=>.int (k2 d)) (fun lc=>∃v,lc=[D (.ref A.bd),D (.int s),D (.int (-1)),D (.ab (bg c 0 (pl.take x.sp)++[dd c E])),D (iN ((pl.drop x.sp).map ba++bu x.rest e) 0),I,v]) ⟨I,rfl⟩ ?_ ?_
   .rintro d X lc⟨v,rfl⟩;rcases tH d X with⟨⟨i,o1⟩,rfl⟩|⟨i,rfl⟩;.exact⟨_,rfl,⟨_,rfl⟩,fun K H=>H,fun _ dZ Z=>by clear X;cases o1<;>exact Z⟩
    .exact⟨_,rfl,⟨_,rfl⟩,fun K H=>H,fun _ dZ Z=>Z⟩
   rw[zP];apply o (He aR fun d X=>by
    rcases tH d X with⟨⟨i,o1⟩,rfl⟩|⟨i,rfl⟩
    .clear X;cases o1;.exact⟨_,rfl,(by decide:(0:Int)≠3)⟩
     .exact⟨_,rfl,(by decide:(1:Int)≠3)⟩
    .exact⟨_,rfl,(by decide:(2:Int)≠3)⟩);exact Q _ (Fr.new.trans .new)
end
noncomputable def jF(x:Sg):Int:=if da x=Y then(if x.rest=D 0 then 2 else 0)else-1
section
theorem KC.is(h:KC x K)(Z:x<16)(hi:i<13):x=i↔K=.mk (2^i) none:=by
 refine⟨fun e=>by subst e;exact h.a hi,fun e=>?_⟩;by_cases q:x<13;.have:=h.a q;rw[e]at this;exact(GZ hi (Kd.mk.inj this).1).symm
 .exfalso;rcases qL 13 Z (hE.mp q)with r|r|r;.have:=h.n r;rw[e]at this;exact ae (Kd.mk.inj this).1 (jm (ur i))
  .obtain⟨y,this⟩:=h.s r;rw[e]at this;exact nomatch(Kd.mk.inj this).2
  .have:=(h.u r).2.2;rw[e]at this;exact this rfl i hi rfl
theorem KC.RF(h:KC x K)(Z:x<16):x=13↔K=.mk 0 none:=by
 refine⟨h.n,fun e=>?_⟩;by_cases q:x<13;.have:=h.a q;rw[e]at this;exact ae (Kd.mk.inj this).1.symm (jm (ur x))
 .rcases qL 13 Z (hE.mp q)with r|r|r;.exact r
  .obtain⟨y,this⟩:=h.s r;rw[e]at this;exact nomatch(Kd.mk.inj this).2
  .exact ae (by rw[e];rfl) (h.u r).2.1
structure RG(K:Kd)(t:Nat):Prop where
any:t=0↔K=.mk 4096 I
RH:t=1↔K=.mk 2048 I
jB:t=2↔K=.mk 0 I
Hg:t=3↔K=.mk 1024 I
theorem zR(h:Tb A b T σ)(U:KR c T K t)(J:aS V n K):RG K t:=by obtain⟨x,Z,X⟩:=zj h.base h.nd U J;exact⟨(Z.id 0 (.inl (by decide))).trans (X.is Z.lt (i:=12) (by decide)),(Z.id 1 (.inl (by decide))).trans (X.is Z.lt (i:=11) (by decide)),(Z.id 2 (.inl (by decide))).trans (X.RF Z.lt),(Z.id 3 (.inl (by decide))).trans (X.is Z.lt (i:=10) (by decide))⟩
theorem Hh{a b z:Nat}:ip σ (.int z) (.ab [.int a,.int b])=D (decide (z=a\/z=b)):=(ou (l:=[a,b])).trans (aI D (iG.mpr ⟨by
rintro⟨p,h,e⟩;have e:=dq e;subst e;rcases cc.mp h with h|h;.exact .inl h
.exact .inr (aZ.mp h),fun h=>h.elim (fun h=>⟨a,aV,aI _ h.symm⟩) fun h=>⟨b,cH _ aV,aI _ h.symm⟩⟩))
theorem RI{z:Nat}:ip σ (.int z) (.ab [.int 0,.int 2])=D (decide (z=0\/z=2)):=Hh (a:=0) (b:=2)
theorem RJ{z:Nat}:ip σ (.int z) (.ab [.int 0,.int 1])=D (decide (z=0\/z=1)):=Hh (a:=0) (b:=1)
theorem Hi{z:Nat}(Z:z=0\/z=2->P)(X:¬(z=0\/z=2)->Q):br ([aa.int 0,aa.int 2].contains (.int z)==Y) P Q:=by rw[show[aa.int 0,aa.int 2].contains (.int z)=decide (z=0\/z=2)from b8 (RI (σ:=[]))];exact bE Z X
theorem wa{z:Nat}(Z:z=0\/z=1->P)(X:¬(z=0\/z=1)->Q):br ([aa.int 0,aa.int 1].contains (.int z)==Y) P Q:=by rw[show[aa.int 0,aa.int 1].contains (.int z)=decide (z=0\/z=1)from b8 (RJ (σ:=[]))];exact bE Z X
theorem Hj{p:Option (Int×Option Nat×Int)}(h:hX T p Z):(p=I/\Z=.ab [])\/(p≠I/\E3 fun a z i=>Z=.ab [.int a,.int z,.int i]):=by
 rcases p with _|⟨p0,X,U⟩;.exact .inl ⟨rfl,h⟩
 .refine .inr ⟨nofun,?_⟩;rcases X with _|_;.exact⟨_,_,_,h⟩
  obtain⟨t,e,_⟩:=h;exact⟨_,_,_,e⟩
theorem wb(h:da x=ai):jF x=-1:=am (by rw[h];nofun)
theorem Sv.wc(h:Sv c T x s pl e rt U tl):x.ps.isEmpty=pl.isEmpty:=by have:=h.ks.len;cases Z:x.ps<;>cases X:pl<;>rw[Z,X]at this<;>first|rfl|cases this
theorem zS(h:Tb A b T σ)(Z:Sv c T x s pl e rt pd tl)(v:bn V w x)(Q:k (.int (jF x)) σ):CW (n+2) 115 [.ref A.bd,.int s] σ k:=by
 have U:da x=ai->k (.int (-1)) σ:=fun q=>by rw[wb q]at Q;exact Q
 refine EP ?_;refine h.dv Z.row ?_;by_cases O:tl=[]
 .obtain⟨H,K,e0⟩:=Z.rm O;have E:da x=false:=by unfold da;rw[K];rfl
  subst O;rw[bK];have n1:(bg c 0 (pl.take x.sp)).length<av:=by have:=Z.l4;rw[eh];exact ax 296386383873 rfl this
  apply p (ir n1);refine fN (fun _=>U E) fun e1=>?_;rw[eh]at e1;obtain⟨q,f⟩:=ZH.mp (dq e1);rw[f];clear f;obtain⟨i,o1⟩:=q;apply o (vX (o:=o1));exact U E
 .obtain⟨tt,rfl⟩:=Z.pW O;have g:=Z.vZ rfl;apply p (ir g.2);rw[g.1];refine fN (fun e1=>U ?_) fun e1=>?_
  .have:pl.isEmpty=false:=by
    rcases J:pl with _|⟨_,_⟩;.have:=Z.sp;rw[J]at this;exact ae (by rw[Zt.mp this];rfl) e1
    rfl
   unfold da;rw[Z.wc,this,Bool.and_false,Bool.false_and]
  have j:x.sp=0:=by have:=dq e1;exact ax 0xa5a002225002 rfl this
  have X:pl.take x.sp=[]:=by rw[j];rfl
  rw[X];rcases Hj Z.pred with⟨J,rfl⟩|⟨J,a,z,i,rfl⟩
  .refine eD h ?_;apply o h.az;apply o h.fW;have t:=zR h Z.res v.2.2;rcases Z.tail.row rfl with⟨H,K,e2⟩|⟨H,e2⟩
   .have d:pl=[]:=by rw[<-kw x.sp pl,X,H];rfl
    apply o (h.row e2);refine eD h ?_;refine eD h ?_;obtain⟨m,C⟩:=sg.mp K;have l:=Z.rest;rw[C]at l;have M:=zR (c:=c) h (qR.mp l) (mZ (V:=V) (n:=0) (v.1.rest m C));have iv:(Kd.mk m I=.mk 4096 I↔m=4096)/\(Kd.mk m I=.mk 0 I↔m=0):=⟨⟨fun q=>(Kd.mk.inj q).1,fun q=>by rw[q]⟩,⟨fun q=>(Kd.mk.inj q).1,fun q=>by rw[q]⟩⟩;have r:da x=(decide (e=0\/e=2)&&decide (rt=0\/rt=1)):=by
     unfold da;rw[C,Z.wc,d,J];show((m==4096||m==0)&&_&&Y&&Y)=_;rw[lj,lj];congr 1;.rw[uw,jT,aU,aU,decide_eq_true_iff,M.any,M.jB,iv.1,iv.2]
     .rw[uw,decide_eq_true_iff,t.any,t.RH];induction x.res using Kd.casesOn with|mk m' s'=>induction s' using cM with|none=>show(m'==4096||m'==2048)=Y↔_;rw[jT,aU,aU];exact⟨fun q=>q.imp (fun q=>by rw[q]) fun q=>by rw[q],fun q=>q.imp (fun q=>(Kd.mk.inj q).1) fun q=>(Kd.mk.inj q).1⟩|some y=>exact⟨nofun,fun q=>q.elim (fun q=>nomatch(Kd.mk.inj q).2) fun q=>nomatch(Kd.mk.inj q).2⟩
    refine Hi (fun L=>?_) fun L=>U (by rw[r,bQ L];rfl);refine wa (fun u=>?_) fun u=>U (by rw[r,bQ u,uE]);have:jF x=e:=by
     unfold jF;rw[af (by rw[r,aN L,aN u];rfl),C];rcases L with q|q;.have:=iv.1.mp (M.any.mp q);rw[this,q];rfl
     .have:=iv.2.mp (M.jB.mp q);rw[this,q];rfl
    rw[this]at Q;exact Q
   .have E:da x=false:=by
     have:pl.isEmpty=false:=by induction J:pl using eQ with|cons=>rfl|nil=>rw[J]at H;exact ae xG H
     unfold da;rw[Z.wc,this,Bool.and_false,Bool.false_and]
    apply o (h.row e2);refine eD h ?_;refine Hi (fun q=>?_) fun _=>U E;clear O g Z;rcases q with rfl|rfl;.exact gQ (fL h.base e2 rfl) rfl
    .exact gQ (fL h.base e2 rfl) rfl
  .exact U (by unfold da;rw[show x.pred.isNone=ai by cases h:x.pred;exact ae h J;rfl,uE])
end
section
variable{pl l dl:List (Nat×Bool)}
theorem RK(h:Tb A (b+1) T σ)(X:KR c T K i)(J:aS V w K)(U:∀t T' Z,Tb A b T' Z->T<+:T'->Fr A.aP σ Z->KR c T' (mO (K,o1)) t->k (.int t) Z):CW (n+5) 50 [.ref A.az,ba (i,o1)] σ k:=by
 refine Eu ?_;rcases o1 with _|_;.exact U i T σ (h.le (dg b)) (df T) .rfl X
 exact FT h J X U
theorem Hk(J:(xs++ys).length<av):qD σ (.ab (xs++ys)) (.int xs.length) .none=D (.ab ys,σ):=by
 have l2:xs.length<=(xs++ys).length:=by rw[aT];exact b7 _ _
 have e:dS (xs++ys) (.int xs.length) .none=D ys:=by unfold dS;rw[af J,GN (dL l2 J),mq l2];show D (((xs++ys).take _).drop _)=_;rw[sd,KU]
 show(match dS (xs++ys) _ _ with|some r=>_|none=>I)=_;rw[e]
theorem RL(h:Tb A (b+1) T σ)(X:dl.length<=4)(U:mP T rest e)(J:∀m,rest=D m->Nm m)(H:rest=I->k (.int (-1)) σ)(Q:∀m,rest=D m->∀t T' Z,Tb A b T' Z->T<+:T'->Fr A.aP σ Z->KR c T' (.mk m I) t->k (.int t) Z):CW (n+5) 52 [.ref A.bd,iN (dl.map ba++bu rest e) 0] σ k:=by
 refine NI ?_;apply zJ X;have e1:=Hk (σ:=σ) (bZ 0xb5050204542015001 rfl X (kX (dl:=dl) (rest:=rest) (e:=e)));rw[aJ]at e1;apply p e1;rcases rest with _|m;.exact H rfl
 apply o h.az;refine⟨trivial,?_⟩;apply o h.az;refine Eu ?_;refine⟨trivial,?_⟩;refine FS (t:=e) (K:=.mk m I) (h.cm) (mZ (V:=1) (n:=0) (J m rfl)) ((qR (c:=c)).mp U) (kL (dt aR) (show 1<av by decide)) (fun y=>dt aR) fun t T' Z a1 O E C=>?_;exact Q m rfl t T' Z a1 O (Fr.new.trans E) C
def PK(c:Bool)(T:List aa)(o:Option Kd)(z:Int):Prop:=match o with|none=>z=-1|some K=>∃t:Nat,z=t/\KR c T K t
theorem zT(h:x.ps[j]?=D q):dJ (bp x) x.rest j=D (mO q):=by unfold dJ bp;rw[List.getElem?_map,h];rfl
theorem rp(h:x.ps.length<=j):dJ (bp x) x.rest j=x.rest.map fun m=>.mk m none:=by unfold dJ bp;rw[List.getElem?_map,List.getElem?_eq_none h];rfl
theorem RM(h:Tb A (b+1) T σ)(X:Sv c T x s pl e rt pd [dd c tt])(v:bn V w x)(E:x.sp<=j)(hz:z'=((j-x.sp:Nat):Int))(J:∀z T' Z,Tb A b T' Z->T<+:T'->Fr A.aP σ Z->PK c T' (dJ (bp x) x.rest j) z->k (.int z) Z):CW (n+7) 58 [.ref A.bd,.int tt,.int z'] σ k:=by
 subst hz;have C:=X.ks.len;have O:=X.m7;have out:pl.length<=j->∀{T'},T<+:T'->PK c T' (dJ (bp x) x.rest j) (match x.rest with|some _=>e|none=>-1):=fun q{T'}hp=>by
  rw[rp (pn 0xad820b5022ad000 rfl C q)];have U:=X.rest;rcases Q:x.rest with _|m;.rfl
  rw[Q]at U;exact⟨e,rfl,((qR (c:=c)).mp U).aq hp⟩
 refine NK ?_;apply o h.az;apply o h.fW;rcases X.tail.row rfl with⟨f,r0,e1⟩|⟨f,e1⟩;.apply o (h.row e1);rw[f]at O;have:=out (by rw[O.symm];exact E) (df T);obtain⟨m,Q⟩:=sg.mp r0;rw[Q]at this;exact J e T σ (h.le (dg b)) (df T) .rfl (by rw[Q];exact this)
 .apply o (h.row e1);refine NJ ?_;apply zJ X.d4;refine bD (fun q=>?_) fun q=>?_;.have q:j-x.sp<(pl.drop x.sp).length:=cv.mp q;obtain⟨r,U⟩:∃r,x.ps[j]?=D r:=⟨_,dK (by rw[X.ks.len,X.m7.symm,nA];exact(Nat.sub_lt_iff_lt_add E).mp q)⟩;obtain⟨i,hi,hK⟩:=X.ks.at U;rw[zT U]at J;have hw:=v.2.1 r (jR U);clear U;obtain⟨K,o1⟩:=r;apply o h.az;apply o (oA (show((pl.drop x.sp).map ba++bu x.rest e)[j-x.sp]?=D (ba (i,o1))by rw[ic (by rw[aJ];exact q),gp,ZI,uC E,hi];rfl) (bZ 0x115080b50502015001 rfl (kX (dl:=pl.drop x.sp) (rest:=x.rest) (e:=e)) (X.d4)));exact RK h hK hw fun t T' Z a1 M L g=>J t T' Z a1 M L ⟨t,rfl,g⟩
  .have q:(pl.drop x.sp).length<=j-x.sp:=ku fun r=>q (cv.mpr r);rw[rp (by rw[X.ks.len,X.m7.symm,nA];exact(Nat.le_sub_iff_add_le E).mp q)]at J;refine RL (c:=c) h X.d4 X.rest v.1.rest (fun U=>?_) fun m Q t T' Z a1 M L g=>?_;.rw[U]at J;exact J (-1) T σ (h.le (dg b)) (df T) .rfl rfl
   .rw[Q]at J;exact J t T' Z a1 M L ⟨t,rfl,g⟩
theorem zU(h:Tb A (b+2) T σ)(Z:Sv c T x s pl e rt pd tl)(L:bn V w x){z':Int}(hj:z'=(j:Nat))(U:∀z T' X,Tb A b T' X->T<+:T'->Fr A.aP σ X->PK c T' (dJ (bp x) x.rest j) z->k (.int z) X):CW (n+8) 59 [.ref A.bd,.int s,.int z'] σ k:=by
 subst hj;have Z?:=Z.ks.len;have E:=Z.l4;have aa0:=Z.m7;have hb:b<=b+2:=b7 b 2;have g:b+1<=b+2:=dg _;refine NL ?_;refine h.dv Z.row ?_;apply pV Z.tail E;intro d f1;have J:=h.fV f1;have H:=f1.nil (O:=A.aP);rw[Z.aP];refine bD (fun q=>?_) fun q=>?_
 .have q:j<x.sp:=cv.mp q;obtain⟨r,C⟩:∃r,x.ps[j]?=D r:=⟨_,dK (by rw[Z.ks.len];exact iX q Z.sp)⟩;obtain⟨i,hi,M⟩:=Z.ks.at C;rw[zT C]at U;have u:=L.2.1 r (jR C);clear C;obtain⟨K,o1⟩:=r;have e1:=vW (c:=c) (j:=0) (show(pl.take x.sp)[j]?=D (i,o1)by rw[BX q];exact hi);have lt:(bg c 0 (pl.take x.sp)++tl).length<av:=by
   have:tl.length<=1:=by rcases Z.tail.cases with⟨_,_,rfl⟩|⟨v,rfl⟩;exact bP 1;exact aE 1
   rw[aT,eh];exact bZ 0xb50811408055a0001 rfl E this
  apply o (oA (show(bg c 0 (pl.take x.sp)++tl)[j]?=_ from(ic (by rw[eh,Z.aP];exact q)).trans e1) lt);refine eD J ?_;rcases o1 with _|_;.exact U i T d (J.le hb) (df T) H ⟨i,rfl,M⟩
  apply o J.az;exact FT (J.le g) u M fun t T' X a1 m f a=>U t T' X a1 m (H.trans f) ⟨t,rfl,a⟩
 .have q:x.sp<=j:=ku fun r=>q (cv.mpr r);have sub:((j:Int)-(x.sp:Nat))=((j-x.sp:Nat):Int):=(BZ q).symm;by_cases ht:tl=[]
  .obtain⟨d0,r0,e0⟩:=Z.rm ht;apply tG J Z.tail E;.intro _;refine⟨trivial,?_⟩;apply o (kL aR (by decide));refine⟨aR,?_⟩;apply o (kM aR (by decide));rw[rp (by rw[Z.ks.len,e0];exact q),r0]at U;exact U (-1) T _ (J.cm.cm.le hb) (df T) (H.trans (Fr.new.trans .new)) rfl
   .intro v h';rw[ht]at h';cases h'
  .obtain⟨v,rfl⟩:=Z.pW ht;apply tG J Z.tail E;.intro h';cases h'
   intro RN RO;obtain rfl:v=RN:=(sH (gY RO).1).1;refine⟨trivial,?_⟩;apply RM (b:=b+1) J Z L q sub;intro z T2 Q h2 p2 f2 hz;refine⟨trivial,?_⟩;apply o (kL (xs:=[.int z]) aR (show 1<av by decide));refine⟨aR,?_⟩;have h3:Tb A (b+1) T2 (Q++[.list [.int z]]):=h2.cm;rcases hs:dJ (bp x) x.rest j with _|K;.rw[hs]at hz U;cases show z=-1 from hz;refine⟨aR,?_⟩;apply o (kM aR (by decide));exact U (-1) T2 _ (h3.cm.le (dg b)) p2 (H.trans (f2.trans (Fr.new.trans .new))) rfl
   rw[hs]at hz U;obtain⟨t,rfl,M⟩:=hz;have u:=pz L hs;refine eD h3 ?_;refine⟨aR,?_⟩;apply o (kM (xs:=[.int t]) aR (show 1<av by decide));have h4:Tb A (b+1) T2 (Q++[.list [.int t]]++[.list [.int t]]):=h3.cm;apply o h4.az;exact FS (n:=n+4) (t:=t) h4 u M (kL (dt aR) (show 1<av by decide)) (fun y=>dt aR) fun t' T' X a1 m f a=>U t' T' X a1 (p2.trans m) (H.trans (f2.trans (Fr.new.trans (Fr.new.trans f)))) ⟨t',rfl,a⟩
end
section
variable{K:Kd}
theorem Hl(h:Tb A b T σ)(X:PR T K.m l' q):(∃p:Nat,p∈l'/\(p:Int)=3)↔K.m&&&1024≠0:=by
 rw[tj X.lt 10 (by decide),X.dW 10 (by decide)];constructor;.rintro⟨p,Z,e⟩;have:p=3:=dq e;clear e;subst this;exact⟨3,Z,(⟨0,by decide,bV h.base rfl⟩)⟩
 .rintro⟨p,Z,f,_,e⟩;have:=Tb.yQ h.base h.nd (i:=3) e rfl;exact⟨p,Z,aI _ this⟩
theorem pX(h:Tb A (b+8) T σ)(Q:Sv c T x s pl e rt pd tl)(C:bn V w x)(O:∀T' Z,Tb A b T' Z->T<+:T'->Fr A.aP σ Z->k (.int (b5 x)) Z):CW (n+10) 61 [.ref A.bd,.int s] σ k:=by
 have wn:nd pl=lP x:=Q.ks.nd;have u:lP x<=x.ps.length:=oZ _ _;have w4:=C.1.len;refine NO ?_;apply RB h Q (Q.mo C.1);intro bX v;have h1:=h.fV v;rw[wn];refine⟨lP x+1,za (fun m lc Z=>∃T',A6 (lc=[D (.ref A.bd),D (.int s),D (.int m)]) (m<=lP x) (kP (bp x) m=b5 x) (Tb A (b+2*m) T' Z) (T<+:T') (Fr A.aP σ Z)) ?_ ?_ ⟨T,rfl,aE _,rfl,h1.le (by exact pn 0x116102d51019405443a0000 rfl u w4),df T,v.nil⟩⟩
 .rintro m lc Z K⟨T',rfl,M,L,U,J,E⟩hK;obtain⟨r,f⟩:∃r,x.ps[m]?=D r:=⟨_,dK (pn 0x2c5a0020ad820ad001 rfl u M)⟩;refine bt (show kH .gt ((m+1:Nat):Int) 0=Y from aN (mc.mpr (fe m))) ?_;apply o U.az;refine zU (b:=b+2*m) (by rw[ZJ,<-eL]at U;exact U) (Q.aq J) C (j:=m) (pj m) fun z y g H i a hz=>?_;rw[zT f]at hz;obtain⟨t,rfl,d⟩:=hz;apply pD H d;intro l q zB hP hS;apply o (ou (l:=l) (z:=3));have hs:(bp x)[m]?=D (mO r):=by unfold bp;rw[gp,f];rfl
  have X:(if(mO r).m&&&1024≠0 then kP (bp x) m else m+1)=b5 x:=by rw[L.symm];show _=(match(bp x)[m]? with|some k=>_|none=>_);rw[hs]
  refine bE (fun q=>?_) fun q=>?_;.rw[af ((Hl H hP).mp q)]at X;exact hK _ _ ⟨y,by rw[pj];rfl,aC 745056601034752 rfl M,X,H,J.trans i,E.trans a⟩
  .rw[am fun r=>q ((Hl H hP).mpr r)]at X;rw[X.symm]at O;exact O y g (H.le (b7 _ _)) (J.trans i) (E.trans a)
 .rintro lc Z K⟨T',rfl,M,L,U,J,E⟩;rw[L.symm]at O;exact O T' Z U J E
end
section
theorem Pw.az(h:Iv A R W V b H m Q S)(X:Tb A b' T' Z)(O:b'<=b)(U:S.T<+:T')(J:Fr A.aP S.σ Z):Pw A R W V b' H m Q (0:Nat) S ⟨T',S.N,S.es,S.Tr,S.tr,Z⟩:=⟨h.az O X U J,U,St.fq X J,[],[],(bK _).symm,(bK _).symm,fun _=>rfl,fun _ q=>ae q bJ,fun _ _=>⟨fun _ q=>ae q bJ,fun _ q=>nomatch q⟩⟩
theorem Pw.iy(h:Iv A R W V b U m J S)(X:Fr [] S.σ Z):Pw A R W V b U m J (0:Nat) S ⟨S.T,S.N,S.es,S.Tr,S.tr,Z⟩:=.az h (h.st.tb.fV X) (aE b) (df _) X.nil
theorem Pw.z(h:Pw A R W V b' X m U (0:Nat) S Z){v:Nat}(h':Pw A R W V b X m U (v:Int) Z S'):Pw A R W V b X m U (v:Int) S S':=by have:=h.trans h';rw[K4]at this;exact this
theorem Pw.neg{v u z:Int}(h:Pw A R W V b' J m H v S Z)(h':Pw A R W V b J m H u Z S')(hz:z<0):Pw A R W V b J m H z S S':=by
 refine cps fun P Q=>?_;obtain⟨O,E,a1,C,M,L,_⟩:=h'.out;obtain⟨X,U,e1,e2,e3,K,_⟩:=h.out;refine Q ?_;refine⟨h'.iv,h.pre.trans h'.pre,h.fq.trans h'.fq,X++O,U++E,by rw[a1,e1,dx],by rw[C,e2,dx],fun r=>by rw[e3 r]at e2⊢;rw[M (by rw[e2,r];rfl)];rfl,fun key g=>?_,fun r=>ae r (cX.mpr hz)⟩;rcases dH.mp g with r|r;.exact K.aq h'.pre (fun z hz=>by rw[a1];exact vP hz) key r
 .exact L key r
theorem Pw.zi(h:Pw A R W V b' X m U (0:Nat) S Z){v:Int}(h':Pw A R W V b X m U v Z S'):Pw A R W V b X m U v S S':=by
 by_cases q:0<=v;.have:=h.z (h'.toNat q);rw[lr q]at this;exact this
 .exact h.neg h' (cX.mp q)
theorem oB{ft v:Nat}(h:Iv A R W V (b+1) E m Z S)(C:cV (v:Int)=[ft])(M:∀J,Pw A R W V b E m Z (v:Nat) S J->k .none J.σ):dr WD (CW (n+2)) 40 R S.σ S.σ [.int ft] k:=by
 refine FY h.st h.lS fun U H f=>?_;have Q:=h.b0;have O:(S.N++[ft]).drop Z=S.N.drop Z++[ft]:=xB Q;refine M ⟨S.T,S.N++[ft],S.es,S.Tr,S.tr,U⟩ ⟨⟨H.le (dg b),?_,?_,h.wl,h.nd,h.kn,?_,?_,h.dp⟩,df _,f,[ft],[],rfl,(bK _).symm,fun _=>rfl,fun _ q=>ae q bJ,fun _ _=>?_⟩;.show(S.N++[ft]).length+b<av;rw[aT,qh];exact aC 0x116a0a0021154b400001 rfl (h.lN)
 .exact(h.le (dg b)).lK
 .show j8 S.T V m ((S.N++[ft]).drop Z) S.Tr;rw[O];exact j8.aq H.tb.base (df _) (fun x X=>mi _ X) h.tk
 .show Z<=(S.N++[ft]).length;rw[aT];exact aC 0xad0202901505000 rfl Q
 .rw[C];exact⟨fun _ X=>X,fun x X=>by show x∈(S.N++[ft]).drop Z;rw[O];exact jP _ X⟩
theorem m8(J:V≠3):ak V K1 K2=gK (fun x y=>gS V 3 x y ai) V K1 K2:=am J
theorem Hm(h:Tb A b T σ)(hK:KR c T K t)(hk:∀au,Fr [] σ au->k (.int (-1)) au):CW (n+2) 107 [.ref A.bd,.int t] σ k:=by
 refine Oa ?_;apply o h.az;apply pD h hK;intro l q zB hP hS;have ll:=rh h.nd hP hS;apply o (hW (xs:=aY l) (by rw[jC];exact ax 951133426241537 rfl ll));refine rk (fun d=>d !=.int 4&&d !=.int 5) id (fun lc=>∃v,lc=[D (.ref A.bd),D (.int t),I,I,I,v]) ⟨I,rfl⟩ ?_ ?_
 .rintro d hd lc⟨v,rfl⟩;obtain⟨p,_,rfl⟩:=g7.mp hd;refine⟨_,rfl,⟨_,rfl⟩,fun kb hb=>?_,fun _ dZ hv=>hv⟩;refine fN (fun e1=>?_) fun e1=>?_
  .show kb (!decide ((p:Int)=5)) σ;rw[fx.mpr fun q=>e1 (aa.int.inj q),KS]at hb;by_cases e2:(p:Int)=5;.rw[e2]at hb;rw[aN e2];exact hb
   .rw[fx.mpr fun q=>e2 (aa.int.inj q)]at hb;rw[bQ e2];exact hb
  .rw[e1]at hb;exact hb
 .rw[ZA];have sR:∀d∈(aY l).filter (fun d=>d !=.int 4&&d !=.int 5),∃p∈l,d=.int (p:Nat):=fun d hd=>by obtain⟨p,hp,e⟩:=g7.mp (ZD.mp hd).1;exact⟨p,hp,e.symm⟩
  have jf:((aY l).filter (fun d=>d !=.int 4&&d !=.int 5)).length<=27:=bh (oZ _ _) (by rw[jC];exact ll);generalize(aY l).filter (fun d=>d !=.int 4&&d !=.int 5)=fl at sR jf;have lt:fl.length<av:=ax 951133426241537 rfl jf;apply p (du aR lt);refine fN (fun _=>hk _ .new) fun e1=>?_;obtain⟨d,rfl⟩:=ZH.mp (dq e1);obtain⟨p,hp,rfl⟩:=sR _ aV;have h2:Tb A b T (σ++[.list [.int p]]):=h.cm;apply o h2.az;apply o h2.fW;apply o ((hU (d:=.int 0) aR).trans (gJ (i:=0) (l:=[.int (p:Nat)]) rfl lt));have dv:E2 fun g r=>A3 (T[p]?=D (.ab (.int (g:Nat)::r))) (r.length<=7) ([aa.int 8,aa.int 9].contains (.int g)=ai):=by
   rcases hP.all p hp with⟨i,hi,f,_,e⟩|e;.obtain⟨r,e',hl⟩:=qP (f:=f) hi;exact⟨gA i,r,by rw[e,e'],ax 227667202048 rfl hl,(by decide+kernel:∀i,i<13->[aa.int 8,aa.int 9].contains (.int (gA i))=ai) i hi⟩
   .obtain⟨ps,rt,pd,fl,e⟩:=dB.dY (T:=T) hS p e;exact⟨13,_,e,ck rfl,by decide⟩
  refine cps fun P hP=>?_;obtain⟨g,r,e,hr,hc⟩:=dv;refine hP ?_;apply o (h2.row e);apply o (dh rfl hr);show br ([aa.int 8,aa.int 9].contains (.int (g:Nat))==ai) _ _;rw[hc];exact hk _ .new
end
section
noncomputable def gN(V:Nat):Sg->Sg->Int:=fun x y=>gS V 3 x y ai
theorem RP(h:Iv A R W V b U m H S)(J:∀Z,St A R b S.T V U S.N S.es S.Tr S.Tr S.tr Z->Fq A R S.tr S.σ S.tr Z->k .none Z):dr WD (CW (n+2)) 41 R S.σ S.σ [.ab [.int S.N.length,.int S.Tr.length]] k:=by have X:=h.st;have l2:=h.pG;rw[<-bK S.N,<-bK S.Tr]at X;exact GL X (by rw[bK];exact(h.nd)) (by rw[bK];exact(h.lS)) (by rw[bK];exact l2) J
theorem Pw.st(h:Iv A R W V b X m U S)(J:St A R b S.T V X S.N S.es S.Tr S.Tr S.tr Z)(f:Fq A R S.tr S.σ S.tr Z):Pw A R W V b X m U (0:Nat) S ⟨S.T,S.N,S.es,S.Tr,S.tr,Z⟩:=⟨⟨J,h.lN,h.lK,h.wl,h.nd,h.kn,h.tk,h.b0,h.dp⟩,df _,f,[],[],(bK _).symm,(bK _).symm,fun _=>rfl,fun _ q=>ae q bJ,fun _ _=>⟨fun _ q=>ae q bJ,fun _ q=>nomatch q⟩⟩
theorem RQ(ask:db A R V F L qa E 2)(h:Iv A R W V (b+(qa+E)) C m M S)(l2:L<=2)(K:aS V L K1)(g:aS V L K2)(Q:KR c S.T K1 s)(O:KR (!c) S.T K2 t)(j:4*(cK K1+cK K2)+2<m)(d:∀J,Pw A R W V b C m M (ak V K1 K2) S J->k (.bool (decide (0<=ak V K1 K2))) J.σ):CW (n+F+3) 109 [.ref R,.int s,.int t] S.σ k:=by
 refine Ob ?_;apply o h.st.cQ;rw[show n+F+2=n+F+1+1 from rfl];refine Hm (n:=n+F) h.st.tb Q fun r u=>?_;have H:=Pw.iy h u;apply o H.iv.st.cQ;refine Hm (n:=n+F) H.iv.st.tb O fun U w=>?_;have X:=H.z (Pw.iy H.iv w);refine X.iv.st.om ?_;apply pD X.iv.st.tb Q;intro l q _ _ _;refine X.iv.st.om ?_;apply pD X.iv.st.tb O;intro l' f _ _ _;have Z:dr WD (CW (n+F+2)) 36 R U U [.int s,.int t] k:=ox ask X.iv l2 K g Q O j fun J v=>d J (X.zi v.toPw);apply o (ou (l:=l) (z:=4));apply o (ou (l:=l') (z:=4));refine bI (fun _=>?_) fun q=>?_;.apply o (ou (l:=l) (z:=5));apply o (ou (l:=l') (z:=5));exact bI (fun _=>Z) fun _=>Z
 .rw[q];exact Z
theorem Hn(Z:V≠3)(h:0<=ak V K2 K1):dO (gN V) V K2 K1 f=ak V K2 K1:=by unfold dO;rw[<-show ak V K2 K1=gK (gN V) V K2 K1 from m8 Z,if_neg fun q=>absurd h (Int.not_le.mpr q.1)]
theorem zV(Z:V≠3)(h:¬0<=ak V K2 K1)(X:¬(f=Y/\V≠4)):dO (gN V) V K2 K1 f=ak V K2 K1:=by unfold dO;rw[<-show ak V K2 K1=gK (gN V) V K2 K1 from m8 Z,if_neg fun q=>X q.2]
theorem Ho(Z:V≠3)(h:¬0<=ak V K2 K1)(X:f=Y/\V≠4):dO (gN V) V K2 K1 f=(if 0<=ak V K1 K2 then(((ak V K1 K2).toNat|||2:Nat):Int)else ak V K1 K2):=by unfold dO;rw[<-show ak V K2 K1=gK (gN V) V K2 K1 from m8 Z,<-show ak V K1 K2=gK (gN V) V K1 K2 from m8 Z,if_pos ⟨Int.not_le.mp h,X⟩]
theorem RS(hm:V∈[1,2,4])(ask:db A R V F L qa O 2)(h:Iv A R W V (b+1+(qa+O)+(qa+O)) E m C S)(l2:L<=2)(M:aS V L K1)(K:aS V L K2)(l:KR c S.T K1 s)(i:KR (!c) S.T K2 t)(a:4*(cK K1+cK K2)+2<m)(H:∀X,Pw A R W V b E m C (dO (gN V) V K2 K1 ay) S X->k (.bool (decide (0<=dO (gN V) V K2 K1 ay))) X.σ):CW (n+F+4) 110 [.ref R,.int s,.int t,.bool ay] S.σ k:=by
 have g:V≠3:=by clear ask h M K H;rintro rfl;revert hm;decide
 have bS:∀{X},0<=dO (gN V) V K2 K1 ay->Pw A R W V b E m C (dO (gN V) V K2 K1 ay) S X->k (.bool Y) X.σ:=fun{X}e j=>by have:=H X j;rw[aN e]at this;exact this
 have no:∀{X},¬0<=dO (gN V) V K2 K1 ay->Pw A R W V b E m C (0:Nat) S X->k (.bool ai) X.σ:=fun{X}e j=>by have:=H X (j.fail (cX.mp e));rw[bQ e]at this;exact this
 refine EM ?_;apply vw h.st h.lS h.pG;rw[show n+F+3=n+1+F+2 by exact bA 0xd52d00001eb400002 rfl];refine ox (c:=!c) ask h l2 K M i (by rw[K6];exact l) (c5 0xb1a9501060086c6ad00418001 rfl a) fun S1 Q=>?_;have x:b<=b+1+(qa+O):=fy 797151969955840 rfl;refine bD (fun U=>?_) fun U=>?_;.have e:=Hn g (f:=ay) U;exact bS (by rw[e];exact U) (by rw[e];exact Q.toPw.le x)
 .obtain⟨e1,e2⟩:=Q.cl (cX.mp U);have d:=Q.zero (cX.mp U);clear Q;obtain⟨T1,N1,ab0,ac0,ad0,bX⟩:=S1;cases e1;cases e2;refine RP (n:=n+1+F) d.iv fun cy w f2=>?_;have J:=d.z (Pw.st d.iv w f2);have fail:¬(ay=Y/\V≠4)->k (.bool ai) cy:=fun q=>no (by rw[zV g U q];exact U) (J.le x);rcases ay with _|_;.exact fail fun q=>(by have h:=q.1;contradiction)
  apply o J.iv.st.eZ;refine bN (bM 4 rfl (fun q=>fail fun r=>r.2 q) fun q=>?_);have e:=Ho g U ⟨rfl,q⟩;rw[show n+1+F+2=n+F+3 by exact bA 0xf5a0006a968000002 rfl];refine RQ ask J.iv l2 M K (l.aq J.pre) (i.aq J.pre) a fun S3 w3=>?_;have y:=J.zi w3;refine bD (fun Z=>?_) fun Z=>?_;.rw[af Z]at e;refine oB (v:=2) (n:=n+F+1) y.iv rfl fun S4 w4=>?_;exact bS (by rw[e];exact ib _) (by rw[e];exact((y.toNat Z).trans w4))
  .rw[am Z]at e;have:=H S3 ((y.fail (u:=dO (gN V) V K2 K1 Y) (by rw[e];exact cX.mp Z)).le (dg b));rw[bQ (by rw[e];exact Z)]at this;exact this
end
section
theorem RT(ask:db A R V F L qa v 2)(h:Iv A R W V (b+(qa+v)+8+8) Q m O S)(l2:L<=2)(f:SR c S.T x s)(l:SR (!c) S.T y t)(M:bn V w x)(K:bn V w y)(i:aS V L K1)(a:aS V L K2)(r1:KR c S.T K1 i1)(r2:KR (!c) S.T K2 i2)(hd:4*(cK K1+cK K2)+2<m)(J:∀X,¬(V=4/\b5 x<=j/\j<b5 y/\0<=ak V K1 K2)->Pw A R W V b Q m O (0:Nat) S X->k (.bool ai) X.σ)(hy:∀X,(V=4/\b5 x<=j/\j<b5 y/\0<=ak V K1 K2)->Pw A R W V b Q m O (-1) S X->k (.bool Y) X.σ):CW (n+F+12) 111 [.ref R,.int s,.int t,.int j,.int i1,.int i2] S.σ k:=by
 have z0:Pw A R W V b Q m O (0:Nat) S S:=.refl (h.le (fy 0x632d50500005000 rfl)) fun _ _ _ q=>nomatch q;obtain⟨pl,e,rt,pd,tl,E⟩:=f.sv M.1;obtain⟨vh,e',oh,oi,iR,C⟩:=l.sv K.1;refine Oc ?_;apply o h.st.eZ;refine bN (bM 4 rfl (fun m4=>?_) fun q=>J S (fun r=>q r.1) z0);apply o h.st.cQ;rw[show n+F+11=n+F+1+10 by exact bA 0x1c5ad00003eb400002 rfl];refine pX h.st.tb E M fun T1 bX t1 g f1=>?_;have H:=Pw.az h t1 (b7 _ _) g f1;refine bD (fun q=>J _ (fun r=>ae q (by have:=r.2.1;exact aC 709777608717 rfl r.2.1)) (H.le (fy 447123946491904 rfl))) fun q1=>?_;apply o H.iv.st.cQ;refine pX t1 (C.aq g) K fun T2 cy t2 p2 f2=>?_;have Z:=H.z (Pw.az H.iv t2 (b7 _ _) p2 f2);refine bD (fun q=>J _ (fun r=>ae q (by have:=r.2.2.1;exact aC 709778657292 rfl r.2.2.1)) (Z.le (fy 778483814400 rfl))) fun q2=>?_;rw[show n+F+1+10=n+9+F+2 by exact bA 0x355b40000e2d68000002 rfl];refine ox ask Z.iv l2 i a (r1.aq Z.pre) (r2.aq Z.pre) hd fun d u=>?_;by_cases U:0<=ak V K1 K2;.rw[aN U];exact hy d ⟨m4,aC 709791240192 rfl q1,aC 709790191617 rfl q2,U⟩ ((Z.zi u.toPw).any (ax 296405356550 rfl m4))
 .rw[bQ U];exact J d (fun r=>U r.2.2.2) (Z.trans (u.zero (cX.mp U)))
theorem RU(h:Iv A R W V (b+1+8) dp m b0 S)(x1:SR c S.T x s)(x2:SR c' S.T y t)(j:bn V w x)(wy:bn V w y)(U:∀K,py V x y=I->Pw A R W V b dp m b0 (0:Nat) S K->k (.bool ai) K.σ)(Z:∀K v,py V x y=D v->Pw A R W V b dp m b0 (v:Nat) S K->k (.bool Y) K.σ):CW (n+11) 100 [.ref R,.int s,.int t] S.σ k:=by
 refine cps fun P hP=>?_;obtain⟨pl,e,rt,pd,tl,J⟩:=x1.sv j.1;obtain⟨u,e',oh,oi,iR,M⟩:=x2.sv wy.1;refine hP ?_;have e2:=M.ks.len;have e1:=J.ks.len;have H:b<=b+1:=dg b;refine EH ?_;apply o h.st.cQ;refine zN (n:=n+7) h.st.tb M fun RV f0=>?_;have O:=Pw.iy h f0;unfold py at U Z;rcases hr:y.rest with _|m'
 .rw[hr]at U Z;apply o O.iv.st.cQ;refine pX O.iv.st.tb J j fun T1 f t1 g l=>?_;have E:=O.z (Pw.az O.iv t1 (b7 _ _) g l);show br (kH .gt (b5 x) (u.length:Nat)) _ _;rw[e2.symm];refine bD (fun q=>U _ (af (cv.mp q)) (E.le H)) fun q=>?_;dsimp only at U Z;rw[am (fun r=>q (cv.mpr r))]at U Z;apply o E.iv.st.cQ;refine zN (n:=n+7) t1 (J.aq g) fun Q i=>?_;have X:=E.z (Pw.iy E.iv i);have C:(x.rest.isSome=Y\/x.ps.length>y.ps.length)->br (decide ((V:Int)=4)) (k (.bool ai) Q) (dr WD (CW (n+10)) 40 R Q Q [.int 11] fun d σ=>br (iK d) (k (.bool Y) σ) False):=fun r=>by
   rw[af r]at U Z;refine bM 4 rfl (fun m4=>?_) fun m4=>?_;.rw[af m4]at U;exact U _ rfl (X.le H)
   .rw[am m4]at Z;exact oB (ft:=11) (v:=4) (n:=n+8) X.iv rfl fun a w3=>Z a 4 rfl (X.z w3)
  rcases hx:x.rest with _|mx
  .show br (kH .gt (pl.length:Nat) (y.ps.length:Nat)) _ _;refine bD (fun r=>?_) fun r=>?_;.apply o X.iv.st.eZ;exact C (.inr (by rw[e1];exact cv.mp r))
   .rw[am fun L=>L.elim (fun L=>by rw[hx]at L;cases L) fun L=>r (cv.mpr (e1▸L))]at Z;exact Z _ 0 rfl (X.le H)
  apply o X.iv.st.eZ;exact C (.inl (by rw[hx];rfl))
 rw[hr]at U Z;apply o O.iv.st.cQ;refine pX O.iv.st.tb J j fun T1 f t1 g l=>?_;have E:=O.z (Pw.az O.iv t1 (b7 _ _) g l);apply o E.iv.st.cQ;refine RD (n:=n+7) t1 (M.aq g) fun Q i=>?_;have X:=E.z (Pw.iy E.iv i);rw[e2.symm];refine bD (fun q=>?_) fun q=>?_;.refine oB (v:=4) (n:=n+8) X.iv rfl fun a w3=>?_;exact Z a 4 (af (cv.mp q)) (X.z w3)
 .exact Z _ 0 (am fun r=>q (cv.mpr r)) (X.le H)
end
noncomputable def rq(x y:Sg):Nat:=match y.rest with|some 0=>if b5 x>0 then 4 else 0|some _=>1|none=>0
noncomputable def oC(V:Nat)(x y:Sg):Int:=if y.res.m=1024/\y.res.s.isNone=Y then 0 else match y.pred with|some q=>mY V x.pred (D q)|none=>ak V x.res y.res
section
variable{K K1 K2:Kd}
theorem Hp:K.m=1024/\K.s.isNone=Y↔K=.mk 1024 none:=by induction K using Kd.casesOn with|mk m s=>exact⟨fun h=>by obtain⟨rfl,h⟩:m=1024/\s.isNone=true:=h;rw[nJ.mp h],fun h=>by cases h;exact⟨rfl,rfl⟩⟩
theorem Sv.top(U:Sv c T y t pl e rt Q tl)(Z:da y=Y):E2 fun X m=>A4 (tl=[dd c X]) (pl.take y.sp=[]) (y.rest=D m) (T[X]?=D (lO e 0)):=by
 unfold da at Z;rw[gH,gH,gH]at Z;have p0:pl=[]:=by have:=U.wc;rw[Z.1.2]at this;exact nM.mp this.symm
 subst p0;rcases J:y.rest with _|m;.have:=Z.1.1.1;rw[J]at this;cases this
 obtain⟨X,rfl⟩:=U.Hc (by rw[J];nofun);rcases U.tail.row rfl with⟨_,_,e1⟩|⟨H,_⟩;.exact⟨X,m,rfl,xH,rfl,e1⟩
 .exact ae xG H
theorem RW(h:Iv A R W V (b+1+8) f m l S)(x1:SR c S.T x s)(x2:SR c' S.T y t)(M:bn V w x)(i:bn V w y)(a:¬(da y=Y/\¬(V=4/\da x=Y))->k (.bool ai) S.σ)(Q:∀S',(da y=Y/\¬(V=4/\da x=Y))->Pw A R W V b f m l (rq x y:Nat) S S'->k (.bool Y) S'.σ):CW (n+11) 116 [.ref R,.int s,.int t] S.σ k:=by
 refine cps fun P L=>?_;obtain⟨pl,e,rt,pd,tl,H⟩:=x1.sv M.1;obtain⟨vh,e',oh,oi,iR,X⟩:=x2.sv i.1;refine L ?_;have z0:Pw A R W V b f m l (0:Nat) S S:=.refl (h.le (aB 418356678656 rfl)) fun _ _ _ q=>nomatch q;have Z:=h.st;refine yr ?_;apply o Z.cQ;refine zS (n:=n+8) Z.tb X i ?_;by_cases U:da y=Y
 .have te:jF y=0\/jF y=2:=by
   unfold jF;rw[if_pos U];split;.exact .inr rfl
   .exact .inl rfl
  refine cps fun P L=>?_;obtain⟨tt,m',rfl,ho,O,e1⟩:=X.top U;refine L ?_;have ev:jF y=if m'=0 then 2 else 0:=by unfold jF;rw[if_pos U,O];clear O;cases m'<;>rfl
  refine bD (fun q=>ae q (by rw[ev];split<;>decide)) fun _=>?_;apply o Z.eZ;refine bM 4 rfl (fun m4=>?_) fun m4=>?_
  .apply o Z.cQ;refine zS (n:=n+8) Z.tb H M ?_;show k (.bool (decide (jF x<0))) S.σ;by_cases E:da x=Y;.rw[bQ (by unfold jF;rw[af E];split<;>decide)];exact a fun q=>q.2 ⟨m4,E⟩
   .rw[aN (show jF x<0 by rw[wb (jK.mpr E)];decide)];exact Q S ⟨U,fun q=>E q.2⟩ (z0.any (ax 296405356550 rfl m4))
  .have g:da y=Y/\¬(V=4/\da x=Y):=⟨U,fun q=>m4 q.1⟩;apply o Z.cQ;refine Z.eC X.row ?_;rw[ho];refine eD Z.tb ?_;rw[ev];by_cases C:m'=0
   .rw[af C];have J:rq x y=if b5 x>0 then 4 else 0:=by unfold rq;rw[O,C];rfl
    refine bN (fF 2 rfl (fun q=>?_) fun _=>?_);.clear X;subst q;exact gQ (fL Z.tb.base e1 rfl) rfl
    apply o Z.cQ;refine pX Z.tb H M fun T1 bX t1 p1 f1=>?_;have j:=Pw.az h t1 (b7 _ _) p1 f1;refine bD (fun q=>?_) fun q=>?_;.rw[af (cv.mp q)]at J;exact oB (ft:=11) (v:=4) (n:=n+8) j.iv rfl fun d u=>Q d g (by rw[J];exact j.z u)
    .rw[am fun r=>q (cv.mpr r)]at J;exact Q _ g (by rw[J];exact j.le (dg b))
   .rw[am C];have J:rq x y=1:=by unfold rq;rw[O];induction m' using nN with|zero=>exact ae rfl C|succ _=>rfl
    exact oB (ft:=1) (v:=1) (n:=n+8) (h.le (b':=b+1) (aB 428397223870464 rfl)) rfl fun d u=>Q d g (by rw[J];exact u)
 .rw[wb (jK.mpr U)];exact a fun q=>U q.1
theorem RX(ask:db A R V F L qa d 2)(h:Iv A R W V (b+(qa+d)) u m w S)(l2:L<=2)(v:SR c S.T x s)(f:SR (!c) S.T y t)(E:bn V L x)(H:bn V L y)(M:4*(jE x+jE y)+2<m)(U:∀Q,Pw A R W V b u m w (oC V x y) S Q->k (.bool (decide (0<=oC V x y))) Q.σ):CW (n+F+4) 114 [.ref R,.int s,.int t] S.σ k:=by
 refine cps fun P l=>?_;obtain⟨pl,e,rt,pd,tl,X⟩:=v.sv E.1;obtain⟨vh,e',oh,oi,iR,Z⟩:=f.sv H.1;refine l ?_;have J:=h.st;have g:=zR J.tb Z.res H.2.2;refine EO ?_;refine J.eC X.row ?_;refine J.eC Z.row ?_;apply o J.cQ;refine eD J.tb ?_;refine fF 3 rfl (fun q=>?_) fun q=>?_;.have e:oC V x y=0:=af (Hp.mpr (g.Hg.mp q));have:=U S (by rw[e];exact .refl (h.le (b7 _ _)) fun _ _ _ q=>nomatch q);rw[e]at this;exact this
 .have e:oC V x y=match y.pred with|some q=>mY V x.pred (D q)|none=>ak V x.res y.res:=am fun r=>q (g.Hg.mpr (Hp.mp r));rcases Hj Z.pred with⟨C,rfl⟩|⟨C,a,z,i,rfl⟩;.rw[C]at e;rw[e]at U;rw[show n+F+3=n+1+F+2 by exact bA 0xd52d00001eb400002 rfl];exact ox ask h l2 E.2.2 H.2.2 X.res Z.res (mM 0xc5480bd080b1b1701060086c6ad00418001 rfl M (tC (x:=x)) (tC (x:=y))) fun Q O=>U Q O.toPw
  .obtain⟨q,O⟩:=sg.mp C;rw[O]at e;rw[e]at U;have j:=Z.pred;have o2:=H.1.pr;rw[O]at j o2;exact G7 (n:=n) ask h l2 (c5 0x286b540418021a1801 rfl M) X.pred j E.1.pr o2 nofun U
end
section
theorem RY:∀{w:Nat},kP l w<=w:=by intro w;induction w with|zero=>exact aE 0|succ w Z=>
  show(match l[w]? with|some k=>if k.m&&&1024≠0 then kP l w else w+1|none=>w+1)<=w+1;split
  .split;.exact ln Z
   .exact aE _
  .exact aE _
theorem RZ:b5 y<=y.ps.length:=bh RY (oZ _ _)
noncomputable def wd(g:Sg->Sg->Int)(V:Nat)(x y:Sg)(f:Bool):Option Nat:=match x.rest with|some r=>(match y.rest with|some q=>if dO g V (.mk q I) (.mk r I) f<0 then I else D (dO g V (.mk q I) (.mk r I) f).toNat|none=>D 0)|none=>D 0
theorem Hq(X:x.ps.length<=i)(Z:y.ps.length<=i):eW g V x y f i=wd g V x y f:=by
 unfold eW wd;rw[rp X,rp Z];rcases x.rest with _|r;.rfl
 induction y.rest using cM with|none=>rfl|some q=>show(if _ then I else if V=4/\b5 x<=i/\i<b5 y/\_ then I else _)=_;rw[am (c:=V=4/\b5 x<=i/\i<b5 y/\_) fun q=>ae q.2.2.1 (hE.mpr (bh RZ Z))]
theorem R0:∀{n i:Nat},(∀j,i<=j->∃v,eW g V x y f j=D v/\C|||v=C)->iP g V x y f n i C=D C:=by intro n;induction n with|zero=>intro i _;exact rfl|succ n Z=>intro i h;obtain⟨v,X,U⟩:=h i (aE i);show(eW g V x y f i).bind _=_;rw[X,qi,U];exact Z fun j J=>h j (aC 745056601034752 rfl J)
theorem Hs(h:j<6):iP g V x y f (6-j) j C=(eW g V x y f j).bind fun v=>iP g V x y f (6-(j+1)) (j+1) (C|||v):=by rw[mK h];rfl
end
section
theorem Ht(h:x.ps.length=Z):x.ps.length<=eG x Z/\eG x Z<=Z+1:=by
 unfold eG;split;.exact⟨gG h,dg _⟩
 .exact⟨ln (gG h),aE _⟩
theorem Hu(h:dJ (bp x) x.rest i=D K):cK K<=jE x:=by
 unfold dJ at h;rcases Z:(bp x)[i]? with _|H
 .rw[Z]at h;rcases X:x.rest with _|m;.rw[X]at h;cases h
  rw[X]at h;cases h;exact bP _
 rw[Z]at h;cases h;obtain⟨p,U,rfl⟩:=g7.mp (jR Z);have:=zE U;clear U Z;obtain⟨⟨m,J⟩,o1⟩:=p;rcases o1 with _|_;.exact this
 show F3 (if cZ (m|||512)&&&6144≠0 then I else J)<=_;split;.exact bP _
 .exact this
theorem R1(hm:V∈[1,2,4])(ask:db A R V F L qa Q 2)(hP:P<=4)(h:Iv A R W V (b+(P+1)*(3*(qa+Q)+21)) dp m b0 S)(l2:L<=2)(x1:SR c S.T x s)(x2:SR (!c) S.T y t)(wx:bn V L x)(wy:bn V L y)(p1:x.ps.length<=P)(u:y.ps.length<=P)(hd:4*(jE x+jE y)+2<m)(hy:∀S' a,iP (gN V) V x y ay 6 0 c0=D (c0|||a)->Pw A R W V b dp m b0 (a:Nat) S S'->k (.bool Y) S'.σ)(hn:∀S',iP (gN V) V x y ay 6 0 c0=I->Pw A R W V b dp m b0 (-1) S S'->k (.bool ai) S'.σ):CW (n+F+13) 112 [.ref R,.int s,.int t,.bool ay] S.σ k:=by
 obtain⟨pl,e,rt,pd,tl,X⟩:=x1.sv wx.1;obtain⟨Z,e',oh,oi,iR,U⟩:=x2.sv wy.1;have st:=h.st;refine EN ?_;apply o st.cQ;refine zO (n:=n+F+8) st.tb X fun bX f1=>?_;have z1:=Pw.iy h f1;refine zO (n:=n+F+8) z1.iv.st.tb U fun cy f2=>?_;have z2:=z1.z (Pw.iy z1.iv f2);have b1:=Ht (x:=x) X.ks.len;have b2:=Ht (x:=y) U.ks.len;have e1:=X.ks.len;have e2:=U.ks.len;obtain⟨ct,E,Hv,Hw,C⟩:∃ct:Nat,A4 ((if((eG y Z.length:Nat):Int)>(eG x pl.length:Nat)then((eG y Z.length:Nat):Int)else(eG x pl.length:Nat))=ct) (eG x pl.length<=ct) (eG y Z.length<=ct) (ct<=P+1):=by
  by_cases q:((eG y Z.length:Nat):Int)>(eG x pl.length:Nat);.exact⟨_,af q,aC 743073042432 rfl q,aE _,va 0xbd8322dc14082b6080b505000 rfl u b2.2 e2⟩
  .exact⟨_,am q,aE _,aC 709791240192 rfl q,va 0xbd8322dc14082b6080b505000 rfl p1 b1.2 e1⟩
 refine zQ (n:=n+F+9) z2.iv.st.tb X fun eb f3=>?_;have z3:=z2.z (Pw.iy z2.iv f3);refine zQ (n:=n+F+9) z3.iv.st.tb U fun jd f4=>?_;have z4:=z3.z (Pw.iy z3.iv f4);have R2:ct<av:=bZ 0xb5050204542015001 rfl hP C;have E:(if(((eG x pl.length:Nat):Int),((eG y Z.length:Nat):Int)).snd>(((eG x pl.length:Nat):Int),((eG y Z.length:Nat):Int)).fst then(((eG x pl.length:Nat):Int),((eG y Z.length:Nat):Int)).snd else(((eG x pl.length:Nat):Int),((eG y Z.length:Nat):Int)).fst)=ct:=E;refine⟨by rw[E,jx R2,aN (by exact bZ 0x16a0a0408a841e848040d009 rfl hP C)];rfl,?_⟩;rw[E,ie];have R3:b+ct*(3*(qa+Q)+21)<=b+(P+1)*(3*(qa+Q)+21):=eP (ut _ C) b;have z4:=z4.le R3;refine lW (fun j lc f=>E5 fun v6 v7 v8 S1 a=>A6 (lc=[D (.ref R),D (.int s),D (.int t),D (.bool ay),D (.ref A.bd),D (.int ct),v6,v7,v8]) (S1.σ=f) (j<=ct) (Pw A R W V (b+(ct-j)*(3*(qa+Q)+21)) dp m b0 (a:Nat) S S1) (iP (gN V) V x y ay (6-j) j (c0|||a)=iP (gN V) V x y ay 6 0 c0) (∀i,j=i+1->∃v,eW (gN V) V x y ay i=D v/\(c0|||a)|||v=c0|||a)) ?_ ?_ ⟨I,I,I,_,0,rfl,rfl,bP _,z4,by rw[mu],fun i q=>nomatch q⟩
 .rintro lc f⟨v6,v7,v8,S1,a,rfl,rfl,_,J,d,hl⟩;rw[jO,rW,Lf]at J;refine hy S1 a (d.symm.trans (R0 fun j hj=>?_)) J;rw[Hq (by exact va 0xadc20bd820b5020ad000 rfl b1.1 Hv hj) (by exact va 0xadc20bd820b5020ad000 rfl b2.1 Hw hj)];by_cases hx:x.rest=I;.exact⟨0,by unfold wd;rw[hx],mu _⟩
  by_cases hy:y.rest=I;.refine⟨0,?_,mu _⟩;unfold wd;rw[hy];cases x.rest<;>rfl
  have q1:eG x pl.length=pl.length+1:=by unfold eG;cases h:x.rest;exact ae h hx;rfl
  have q2:eG y Z.length=Z.length+1:=by unfold eG;cases h:y.rest;exact ae h hy;rfl
  have p1:pl.length+1<=ct:=q1▸Hv;have u:Z.length+1<=ct:=q2▸Hw;obtain⟨v,h1,h2⟩:=hl (ct-1) (rY (bh (KT 1 _) p1)).symm;rw[Hq (uz (e1▸p1)) (uz (e2▸u))]at h1;exact⟨v,h1,h2⟩
 .rintro j lc f K hj⟨v6,v7,v8,S1,a,rfl,rfl,ae0,J,d,hl⟩hK;have n3:V≠3:=by clear ask h wx wy hy hn st z1 z2 z3 z4 J d hl hK;rintro rfl;revert hm;decide
  have j6:j<6:=fj 0x2d4084b5058204542055001 rfl hP C hj;rw[Hs j6]at d;rw[mK hj,oU,rX]at J;generalize hB:b+(ct-(j+1))*(3*(qa+Q)+21)=B;have R4:b<=B:=by rw[hB.symm];exact b7 _ _
  have J:=J.le (b':=B+3*(qa+Q)+19+2) (by rw[hB.symm];exact yz 0x2a10dec018c150500698437b0063ad00000000 rfl);refine zU (j:=j) (n:=n+F+4) J.iv.st.tb (X.aq J.pre) wx rfl fun zx T1 af0 t1 p1 f1 M=>?_;have l:=J.trans (Pw.az J.iv t1 (b7 _ _) p1 f1);rw[mu]at l;have l:=l.le (b':=B+3*(qa+Q)+17+2) (by exact fy 0x2610daa018e8001a210daa018e8000000 rfl);refine zU (j:=j) (n:=n+F+4) l.iv.st.tb (U.aq l.pre) wy rfl fun zy T2 R5 t2 u f2 g=>?_;have y2:=l.trans (Pw.az l.iv t2 (b7 _ _) u f2);rw[mu]at y2;have H:∀{O:Rs}{v:Nat}{v7 v8},eW (gN V) V x y ay j=D v->Pw A R W V B dp m b0 (a|||v:Nat) S O->K [D (.ref R),D (.int s),D (.int t),D (.bool ay),D (.ref A.bd),D (.int ct),D (.int j),v7,v8] O.σ:=fun{O v v7 v8}e w=>by rw[e,qi,Lg]at d;refine hK _ _ ⟨_,_,_,O,a|||v,rfl,rfl,hj,by rw[hB];exact w,d,fun i hi=>?_⟩;obtain rfl:j=i:=ZK hi;exact⟨v,e,by rw[Lg,Lg,K5]⟩
  have fail:∀{O:Rs},eW (gN V) V x y ay j=I->Pw A R W V B dp m b0 (-1) S O->k (.bool ai) O.σ:=fun{O}e w=>by rw[e]at d;exact hn O d.symm (w.le R4)
  have skip:(dJ (bp x) x.rest j=I\/dJ (bp y) y.rest j=I)->eW (gN V) V x y ay j=D 0:=fun q=>by
   unfold eW;rcases q with q|q;.rw[q]
   .rw[q];cases dJ (bp x) x.rest j<;>rfl
  have Hx:Pw A R W V B dp m b0 (a|||0:Nat) S ⟨T2,S1.N,S1.es,S1.Tr,S1.tr,R5⟩:=by rw[mu];exact y2.le (fy 0x2210daa018e8005000 rfl)
  rcases sx:dJ (bp x) x.rest j with _|K1;.rw[sx]at M;cases show zx=-1 from M;exact H (skip (.inl sx)) Hx
  rw[sx]at M;obtain⟨i1,rfl,r1⟩:=M;rcases sy:dJ (bp y) y.rest j with _|K2;.rw[sy]at g;cases show zy=-1 from g;exact H (skip (.inr sy)) Hx
  rw[sy]at g;obtain⟨i2,rfl,r2⟩:=g;have w1:=pz wx sx;have w2:=pz wy sy;have Hz:4*(cK K1+cK K2)+2<m:=by have q1:=Hu sx;have q2:=Hu sy;exact mM 0xc5480bd080b1b1701060086c6ad00418001 rfl hd q1 q2
  have r:eW (gN V) V x y ay j=if dO (gN V) V K2 K1 ay<0 then I else if V=4/\b5 x<=j/\j<b5 y/\0<=gK (gN V) V K1 K2 then I else D (dO (gN V) V K2 K1 ay).toNat:=by unfold eW;rw[sx,sy]
  rw[show gK (gN V) V K1 K2=ak V K1 K2 from(m8 n3).symm]at r;have y2:=y2.le (b':=B+(qa+Q)+8+8+1+(qa+Q)+(qa+Q)) (fy 0x88436a8063a0016a82d50158cb54140000000000 rfl);rw[show n+F+12=n+8+F+4 by exact bA 0x11565000042b400002 rfl];refine RS hm ask y2.iv l2 w1 w2 (r1.aq u) r2 Hz fun O h3=>?_;by_cases hv:0<=dO (gN V) V K2 K1 ay
  .rw[aN hv];rw[am (ii.mpr hv)]at r;have y3:=y2.trans (h3.toNat hv);have R6:n+8+F+4=n+F+12:=bA 0x215a0008ab28000002 rfl;rw[R6];refine RT ask y3.iv l2 (x1.aq y3.pre) (x2.aq y3.pre) wx wy w1 w2 ((r1.aq u).aq h3.pre) (r2.aq h3.pre) Hz (fun S4 hc h4=>?_) (fun S4 hc h4=>?_);.rw[am hc]at r;have y4:=y3.trans h4;rw[mu]at y4;exact H r y4
   .rw[af hc]at r;exact fail r (y3.neg h4 (by decide))
  .rw[bQ hv];rw[af (cX.mp hv)]at r;exact fail r ((y2.neg h3 (by decide)).le (fy 0x80436a828005000 rfl))
end
theorem R7:∀a:Nat,a<8->∀e:Nat,e<8->(!decide (ko (qe (a:Int) (e:Int)) 1=0))=(decide (a&&&1≠0)||decide (e&&&1≠0)):=by decide+kernel
section
theorem HA(X:V≠3):jz (gN V) V x y=oC V x y:=by
 unfold jz oC;rw[show gK (gN V) V x.res y.res=ak V x.res y.res from(m8 X).symm];split;.rfl
 .rcases y.pred with _|q;.rfl
  induction x.pred using cM with|none=>rfl|some p=>
  obtain⟨U,Z,J⟩:=q;obtain⟨p0,H,Q⟩:=p;show(if p0≠U\/Q≠J then(-1:Int)else _)=if p0≠U\/Q≠J then(-1:Int)else _;congr 1;rcases H with _|H;.cases Z<;>rfl
  induction Z using cM with|none=>rfl|some Z=>exact(m8 X).symm
theorem R8(Z:x.fl<8)(X:y.fl<8):(ay||!decide (ko (qe (x.fl:Int) (y.fl:Int)) 1=0))=fX x y ay:=by rw[R7 x.fl Z y.fl X];unfold fX;rw[Bool.or_assoc]
theorem tJ(hm:V∈[1,2,4])(ask:db A R V F L qa r 2)(l2:L<=2)(hP:P<=4)(K:(P+1)*(3*(qa+r)+21)+(qa+r)+18<=w):fY A R V (F+15) L P w:=by
 intro n W b dp m b0 S s t x y c ay k h g j O E p1 p2 hd hk;have n3:V≠3:=by clear ask h O E hk;rintro rfl;revert hm;decide
 have u:∀{x:Sg},bn V L x->bn V 2 x:=fun h=>⟨h.1,fun p f=>(h.2.1 p f).aq l2,h.2.2.aq l2⟩;have Z:gS V 3 x y ay=gB (gN V) V x y ay:=yH n3 (u O) (u E);have bS:∀{C v},gS V 3 x y ay=(v:Nat)->Pw A R W V b dp m b0 (v:Nat) S C->k (.bool Y) C.σ:=fun{C v}e K=>by have:=hk C (by rw[e];exact K);rw[e,aN (ib v)]at this;exact this
 have no:∀{C:Rs}{v:Int},gS V 3 x y ay=-1->Pw A R W V b dp m b0 v S C->k (.bool ai) C.σ:=fun{C v}e K=>by have:=hk C (by rw[e];exact K.fail (by decide));rw[e]at this;exact this
 show CW (n+F+15) 118 _ _ _;refine u7 ?_;refine bD (fun e=>?_) fun ne=>?_;.cases dq e;exact bS (v:=0) (SR.same (ay:=ay) (h.st.tb.base) l2 O E g j) (.refl (h.le (b7 _ _)) fun _ _ _ q=>nomatch q)
 apply o h.st.eZ;refine bM 3 rfl (fun q=>ae q n3) fun _=>?_;rw[show n+F+14=n+F+3+11 from rfl];refine RW (b:=b) (h.le (yA 0x2b20871705800082b4030b400000 rfl K)) g j O E (fun i=>?_) fun S1 i X=>?_
 .refine RU (b:=b+(P+1)*(3*(qa+r)+21)+(qa+r)) (h.le (yA 0xc4821bd81500020c500c2dec0ad00000000 rfl K)) g j O E (fun S1 hc X=>?_) fun S1 v hc X=>?_;.refine no ?_ (X.le (yz 833453033541632 rfl));rw[Z];unfold gB;rw[am i,hc];rfl
  .have Z:gS V 3 x y ay=match iP (gN V) V x y (fX x y ay) 6 0 v with|some c=>restOf (gN V) V c x y|none=>-1:=by rw[Z];unfold gB;rw[am i,hc];rfl
   obtain⟨pl,e,rt,pd,tl,R9⟩:=g.sv O.1;obtain⟨vh,e',oh,oi,iR,zW⟩:=j.sv E.1;have U:=X.iv.st;have J:=bV X.pre R9.row;refine U.om ?_;apply o U.tb.fW;have be:=R8 (ay:=ay) O.1.fl E.1.fl;have H:CW (n+F+3+11) 117 [.ref R,.int s,.int t,.bool (fX x y ay)] S1.σ k:=by
    refine EQ ?_;rw[show n+F+3+10=n+F+13 from rfl];refine R1 (c0:=v) (P:=P) (b:=b+(qa+r)) hm ask hP (X.iv.le (yz 0xb5417a0017b541400000 rfl)) l2 (g.aq X.pre) (j.aq X.pre) O E p1 p2 hd (fun S2 a f h2=>?_) fun S2 f h2=>?_
    .have Q:=X.trans h2;rw[show n+F+13=n+9+F+4 by exact bA 0x1156d000046b400002 rfl];refine RX ask Q.iv l2 (g.aq Q.pre) (j.aq Q.pre) O E hd fun S3 h3=>?_;rw[f]at Z;have Z:gS V 3 x y ay=if jz (gN V) V x y<0 then-1 else(((v|||a)|||(jz (gN V) V x y).toNat:Nat):Int):=Z;rw[HA n3]at Z;by_cases l:0<=oC V x y;.rw[aN l];rw[am (ii.mpr l)]at Z;exact bS Z (Q.trans (h3.toNat l))
     .rw[bQ l];rw[af (cX.mp l)]at Z;exact no Z (Q.neg h3 (z:=-1) (by decide))
    .rw[f]at Z;exact no Z ((X.neg h2 (z:=-1) (by decide)).le (fy 778483814400 rfl))
   have e9:b9 [(aa.int 3,aa.ref (R+8)),(aa.int 8,aa.ref (R+9))] (.int 9)=none:=(am fun q=>by cases q).trans (am fun q=>by cases q);have M:=(vI (σ:=S1.σ) (es:=[(aa.int 3,aa.ref (R+8)),(aa.int 8,aa.ref (R+9))]) (d:=.int 9) rfl rfl).trans (by rw[e9]);rcases ay with _|_;.apply o (U.tb.row J);apply o (U.tb.row (bV X.pre zW.row));apply o U.qX;apply o U.c1;apply o (pq U.c1);apply p M;apply o (U.tb.row J);rw[be.symm]at H;exact H
   apply o U.qX;apply o U.c1;apply o (pq U.c1);apply p M;apply o (U.tb.row J);exact H
 .refine bS ?_ X;rw[Z];unfold gB;rw[af i];unfold rq;rcases y.rest with _|m';.rfl
  induction m' using nN with|zero=>show(if b5 x>0 then(4:Int)else 0)=((if b5 x>0 then 4 else 0:Nat):Int);split<;>rfl|succ _=>rfl
end
section
theorem fY.le(h:fY A R V F L P w)(l:w<=w'):fY A R V F L P w':=by intro n W b X m U S s t x y c ay k Z;exact h (Z.le (eP l b))
theorem rr(X:V∈[1,2,4])(Z:∀J,L=J+1->fY A R V F J 2 w):db A R V (F+18) L 757 w 2:=zD (U:=2) (d:=12) (qa:=28) X Z fun _=>zD (U:=1) (d:=6) (qa:=1) X Z fun _=>zD (U:=0) (d:=0) (qa:=0) X Z fun q=>ae q (oX 0)
theorem Sa(Z:V∈[1,2,4]):fY A R V 99 2 4 1358811:=by have X:fY A R V 33 0 2 7651:=tJ Z (rr (F:=0) (w:=0) Z fun _ q=>nomatch q) (by decide) (by decide) (by decide);have U:fY A R V 66 1 2 84161:=tJ Z (rr Z fun J q=>by cases q;exact X) (by decide) (by decide) (by decide);exact tJ Z (rr Z fun J q=>by cases q;exact U) (by decide) (by decide) (by decide)
theorem zX(Z:∀X,L=X+1->fY A R 3 F X 2 w):db A R 3 (F+12) L 1459 (2*(2*w)) 2:=G6 (U:=2) (d:=6) (qa:=1) (fun X q=>(Z X q).le (aB 673304576 rfl)) fun _=>G6 (U:=0) (d:=0) (qa:=0) Z fun q=>ae q (oX 0)
theorem Sb:fY A R 3 54 2 4 2389842:=by have Z:fY A R 3 18 0 2 5836:=zF (zX (F:=0) (w:=0) fun _ q=>nomatch q) (by decide) (by decide) (by decide);have X:fY A R 3 36 1 2 99212:=zF (zX fun U q=>by cases q;exact Z) (by decide) (by decide) (by decide);exact zF (zX fun U q=>by cases q;exact X) (by decide) (by decide) (by decide)
end
theorem zY(a b:Nat):ko (a:Int) (b:Int)=((a&&&b:Nat):Int):=rfl
theorem zZ(a:Nat):decide (0<=jq (a:Int))=false:=bQ (cX.mpr (Int.sub_one_lt_of_le (Int.neg_nonpos_of_nonneg (ib a))))
theorem we(a:Int):jq (jq a)=a:=by show-(-a-1)-1=a;rw[Int.neg_sub,ZL,Zj,Zi]
theorem pZ(a b:Nat):qe (a:Int) (b:Int)=((a|||b:Nat):Int):=by show jq (match decide (0<=jq (a:Int)),decide (0<=jq (b:Int))with|true,Y=>_|true,ai=>_|false,Y=>_|false,ai=>_)=_;rw[zZ,zZ];show jq (jq (((jq (jq (a:Int))).toNat|||(jq (jq (b:Int))).toNat:Nat):Int))=_;rw[we,we,we];rfl
theorem wg(a b:Nat):ko (a:Int) (-(b:Int)-1)=((a-(a&&&b):Nat):Int):=by show(match decide (0<=(a:Int)),decide (0<=jq (b:Int))with|true,Y=>_|true,ai=>_|false,Y=>_|false,ai=>_)=_;rw[zZ];show(a:Int)-((a&&&(jq (jq (b:Int))).toNat:Nat):Int)=_;rw[we,ie];exact(BZ ux).symm
theorem iU(b:Nat)(hz:z=(b:Int))(Z:a&&&b≠0->P)(X:¬a&&&b≠0->Q):br (decide (ko (a:Int) z≠0)) P Q:=by subst hz;exact bD (fun q=>Z fun e=>q (by rw[zY,e];rfl)) fun q=>X fun e=>q fun r=>e (by rw[zY]at r;exact dq r)
theorem Sc(b:Nat)(hz:z=-(b:Int)-1)(J:a&&&b≠a->P)(H:¬a&&&b≠a->Q):br (decide (ko (a:Int) z≠0)) P Q:=by
 subst hz;have:=ux (n:=a) (m:=b);refine bD (fun q=>J fun e=>q ?_) fun q=>H fun e=>q fun r=>e ?_;.rw[wg,e,jO];rfl
 .rw[wg]at r;exact fw this (Lh (dq r))
theorem Sd(o:Option Nat):ce (d+1) (eO o)=true:=by cases o<;>rfl
theorem HB(p:Option (Int×Option Nat×Int)):ce (d+2) (dF p)=true:=by rcases p with _|⟨a,_|k,b⟩<;>rfl
theorem HC(o:Bool):ce d (eB o)=true:=by cases o<;>cases d<;>rfl
theorem HD:∀{l:List aa},(∀x∈l,ce d x=Y)->gu d l=true:=by intro l;induction l with|nil=>intro _;cases d<;>rfl|cons x r Z=>intro h;have X:=h x aV;have U:=Z fun y J=>h y (cH _ J);clear h;cases d<;>exact eK.mpr ⟨X,U⟩
theorem kg:∀{ps:List (Kd×Bool)},fA ps=ps.map cw:=by intro ps;induction ps with|nil=>exact rfl|cons _ r Z=>exact aI _ (Z)
section
theorem Sf(U:∀p∈x.ps,ce d (aL p.1)=Y)(J:ce (d+2) (aL x.res)=Y):ce (d+3) (aF x)=true:=by obtain⟨ps,sp,rest,X,Z,Q⟩:=x;show(gu (d+1) (fA ps)&&(Y&&(ce (d+2) (eO rest)&&(ce (d+2) (aL X)&&(ce (d+2) (dF Z)&&(Y&&Y))))))=Y;rw[Sd,J,HB,kg];refine qy (HD fun z hz=>?_) rfl;obtain⟨p,H,rfl⟩:=g7.mp hz;clear hz;obtain⟨k,o⟩:=p;show(ce d (aL k)&&(ce d (eB o)&&Y))=Y;rw[U _ H,HC];rfl
theorem Sh:∀{n d:Nat}{K:Kd},aS V n K->4*n+1<=d->ce d (aL K)=true:=by
 intro n;induction n with|zero=>
 intro d K h l;obtain⟨m,s⟩:=K;rcases d with _|d;.exact ae l (qf _)
 rw[show s=I from h.2];cases d<;>rfl|succ n Z=>
 intro d K h l;obtain⟨m,s⟩:=K;rcases d with _|d;.exact ae l (qf _)
 rcases s with _|x;.clear l;cases d<;>rfl
 have w:=h.2 x rfl;obtain⟨e,rfl⟩:∃e,d=e+3:=sC (aC 0x2d0052d40418020a1c00 rfl l);have:=Sf (x:=x) (d:=e) (fun p X=>Z (w.2.2.1 p X) (aC 0xa7a80052d00418020a968418000 rfl l)) (Z w.2.2.2 (aC 0x29ea0014b401060080d50168418000 rfl l));show(Y&&(ce (e+3) (aF x)&&Y))=Y;rw[this];rfl
theorem HE(h:aS V n K)(Z:n<=2):cf (aL K)=true:=Sh h (ax 0x1a84005020968418000 rfl Z)
theorem Sj(h:aL (.mk m s)=aL (.mk m' s')):m=m'/\og s=og s':=by injection h with h;injection h with X Z;injection Z with Z _;exact⟨j5 X,Z⟩
theorem Sk(h:og s=.none):s=none:=by
 rcases s with _|y;.rfl
 obtain⟨_,_,_,_,_,_⟩:=y;cases h
theorem HF{m:Nat}:aL K=.ab [.int m,.none]↔K=.mk m none:=by obtain⟨m',s⟩:=K;refine⟨fun h=>?_,fun h=>by cases h;rfl⟩;have:=Sj (m':=m) (s':=I) h;rw[this.1,Sk this.2]
theorem z6(h:aS V n K)(Z:n<=2){σ:AH}{m:Nat}:hJ σ (aL K) (.ab [.int m,.none])=D (decide (K.m=m/\K.s.isNone=Y)):=by
 have e1:hJ σ (aL K) (.ab [.int m,.none])=if(cf (aL K)&&cf (.ab [.int m,.none]))=Y then D (decide (aL K=.ab [.int m,.none]))else none:=by clear h;obtain⟨_,_⟩:=K;rfl
 rw[e1,HE h Z,af (show(Y&&cf (.ab [.int m,.none]))=Y from rfl)];refine aI D (iG.mpr (HF.trans ?_));clear h e1;obtain⟨m',s⟩:=K;exact⟨fun h=>by cases h;exact⟨rfl,rfl⟩,fun h=>by obtain⟨rfl,h⟩:m'=m/\s.isNone=true:=h;rw[nJ.mp h]⟩
end
section
noncomputable def bw:Nat->Ss->Ss|0,s=>s|n+1,s=>match s with|.cons _ s=>bw n s|.nil=>.nil
theorem rs{a x r v:Nat}(Z:∀k:Po,k (.int a) σ->wE WD K A lc σ k)(U:∀k:Po,k (.int x) σ->wE WD K X lc σ k)(k:Po)(h:k (.int (x|||(if a&&&r≠0 then v else 0):Nat)) σ):wE WD K (.aK .bor X (.ite (.ex (.aK .band A (.lit (.int r)))) (.lit (.int v)) (.lit (.int (0:Nat))))) lc σ k:=by
 refine U _ (Z _ ?_);refine iU r rfl (fun q=>?_) fun q=>?_;.rw[af q,<-pZ]at h;exact h
 .rw[am q,<-pZ]at h;exact h
theorem Sl(C:aS V L a)(t:aS V L b)(l2:L<=2)(X:∀x y,a.s=D x->b.s=D y->∀(σ:AH)(k:Po),(∀au,Fr [] σ au->k (.int (g x y)) au)->CW (n+F) 151 [aF x,aF y,.bool ai,.int V] σ k)(Z:∀au,Fr [] σ au->k (.int (gK g V a b)) au):CW (n+F+1) 144 [aL a,aL b,.int V] σ k:=by
 rw[Gj]at Z;obtain⟨m,s⟩:=a;obtain⟨m',s'⟩:=b;have M:hJ σ (aL (.mk m s)) (.ab [.int (0:Nat),.none])=D (decide (m=0/\s.isNone=Y)):=z6 C l2;have u:∀{σ},hJ σ (aL (.mk m' s')) (.ab [.int (0:Nat),.none])=D (decide (m'=0/\s'.isNone=Y)):=z6 t l2;have w:∀{m:Nat}{s:Option Sg},(m==0&&!s.isSome)=Y↔m=0/\s.isNone=true:=fun{m s}=>by rw[gH,aU];cases s<;>rfl
 have Q:=w (m:=m) (s:=s);have A:=w (m:=m') (s:=s');have Z:∀au,Fr [] σ au->k (.int (kf V m m' s.isSome s'.isSome (iO g s s'))) au:=Z;unfold kf at Z;refine Ow ?_;refine iU 4096 rfl (fun q=>?_) fun i=>?_;.rw[af (Or.inl q)]at Z;exact Z σ .rfl
 apply o M;refine bD (fun q=>?_) fun j=>?_;.rw[af (Or.inr (Q.mpr q))]at Z;exact Z σ .rfl
 rw[am fun q=>q.elim i fun q=>j (Q.mp q)]at Z;have U:∀{K:ju}{l:Lc}{σ:AH}(k:Po),k (.int m') σ->wE WD K (.ad (.var 1) (.lit (.int 0))) (D (aL (.mk m s))::D (aL (.mk m' s'))::l) σ k:=fun k h=>h;have rest:¬(m&&&4096≠0/\V=4)->wSs WD (CW (n+F)) (bw 2 u5) [D (aL (.mk m s)),D (aL (.mk m' s')),D (.int V),I,I] σ (kR k):=fun O=>by
  rw[am O]at Z;refine iU 2048 rfl (fun q=>?_) fun E=>?_;.rw[af q]at Z;exact Z σ .rfl
  rw[am E]at Z;refine iU 4096 rfl (fun q=>?_) fun e=>?_
  .rw[af q]at Z;apply o (u (σ:=σ));refine bD (fun r=>?_) fun r=>?_;.rw[af (A.mpr r)]at Z;exact Z σ .rfl
   .rw[am fun r'=>r (A.mp r')]at Z;exact Z σ .rfl
  rw[am e]at Z;refine rs (r:=1024) (v:=512) U (rs (r:=32) (v:=24) U (rs (r:=4) (v:=3) U U)) _ ?_;have H:∀au,Fr [] σ au->wSs WD (CW (n+F)) (bw 7 u5) [D (aL (.mk m s)),D (aL (.mk m' s')),D (.int V),D (.int (gM m':Nat)),D (.int (iO g s s'))] au (kR k):=fun au f=>by
   have Z:=Z au f;refine bM 2 rfl (fun m2=>?_) fun m2=>?_
   .rw[af m2]at Z;have hV:∀k:Po,k (.int (gM m':Nat)) au->wE WD (CW (n+F)) (.var 3) [D (aL (.mk m s)),D (aL (.mk m' s')),D (.int V),D (.int (gM m':Nat)),D (.int (iO g s s'))] au k:=fun k h=>h;refine rs (r:=512) (v:=1024) U (rs (r:=24) (v:=32) U (rs (r:=3) (v:=4) U hV)) _ ?_;apply o (show nW .ne au (aL (.mk m' s')) (.ab [.int (0:Nat),.none])=D (!decide (m'=0/\s'.isNone=Y))by show(match hJ au _ _ with|some c=>D (!c)|none=>I)=_;rw[u]);have J:∀(r:Nat)(z:Int),z=r->r=j3 m' (m'==0&&!s'.isSome)->br (decide (ko (m:Int) z≠0)) (k (.int 0) au) (br (decide ((iO g s s')>=0)) (k (.int 0) au) (k (.int (-1)) au)):=fun r z hz hr=>by
     subst hr;refine iU _ hz (fun q=>?_) fun q=>?_;.rw[af (Or.inl q)]at Z;exact Z
     .refine bD (fun d=>?_) fun d=>?_;.rw[af (Or.inr d)]at Z;exact Z
      .rw[am fun r=>r.elim q d]at Z;exact Z
    refine bN (bD (fun q=>?_) fun q=>?_);.refine J _ _ rfl ?_;rw[A.mpr q];exact(mu _).symm
    .refine J _ _ (pZ _ 2048) ?_;rw[jK.mpr fun r=>q (A.mp r)];rfl
   .rw[am m2]at Z;refine Sc (gM m') rfl (fun q=>?_) fun q=>?_;.rw[af q]at Z;exact Z
    .rw[am q]at Z;rcases s with _|x;.exact Z
     clear C X M Q j U;obtain⟨_,_,_,_,_,_⟩:=x;exact Z
  rcases s with _|x;.exact H σ .rfl
  induction s' using cM with|none=>clear C M Q j X U Z;obtain⟨_,_,_,_,_,_⟩:=x;exact H σ .rfl|some y=>clear C M Q j U Z;obtain⟨_,_,_,_,_,_⟩:=x;obtain⟨_,_,_,_,_,_⟩:=y;refine X _ _ rfl rfl σ _ fun au f=>?_;exact H au f
 refine iU 4096 rfl (fun O=>?_) fun O=>rest fun q=>O q.1;refine bM 4 rfl (fun E=>?_) fun E=>rest fun q=>E q.2;rw[af ⟨O,E⟩]at Z;exact Z σ .rfl
end
theorem wi{xs:List O}(u:O->aa)(f:O->Bool)(g:O->aa)(P:Lc->Prop)(d:P lc)(w:∀x∈xs,∀lc Z,Fr [] σ Z->P lc->∃U,A4 (fi lc t (u x)=D U) (P U) (∀M:Bool->AH->Prop,M (f x) Z->c U Z M) (f x=Y->∀dZ:Po,(∀X,Fr [] Z X->dZ (g x) X)->e U Z dZ))(v:∀Z,Fr [] σ Z->k (.ref Z.length) (Z++[.list ((xs.filter f).map g)])):jZ I t c e (xs.map u) [] lc σ k:=by
 refine qS (g:=I) (fun a r lc Z=>Fr [] σ Z/\P lc/\∃q,A3 (r=q.map u) (∀x∈q,x∈xs) (a++(q.filter f).map g=(xs.filter f).map g)) (fun _ _ _ _ _=>trivial) ?_ ?_ ⟨.rfl,d,xs,rfl,fun _ h=>h,rfl⟩;.rintro a lc Z⟨J,_,q,Q,_,e⟩;induction q using eQ with|cons=>cases Q|nil=>rw[Zy,uA,bK]at e;rw[e];exact v Z J
 .rintro x r a lc Z K⟨J,m,q,Q,L,e⟩A;rcases q with _|⟨y,q⟩;.cases Q
  cases Q;obtain⟨U,s,j,b,l⟩:=w y (L y aV) lc Z J m;refine o s (b _ ?_);have H:=fun z(hz:z∈q)=>L z (cH _ hz);rcases E:f y with _|_;.refine A _ _ _ ⟨J,j,q,rfl,H,?_⟩;rw[La (jK.mp E)]at e;exact e
  refine l E _ fun X C=>A _ _ _ ⟨J.trans C,j,q,rfl,H,?_⟩;rw[BW E,ij]at e;rw[dx];exact e
theorem z7:∀{l:List X},l.filter (fun _=>Y)=l:=by intro l;induction l with|nil=>exact rfl|cons a l Z=>exact aI (a::·) (Z)
section
variable{x y:Sg}{k:Po}
theorem Sn(Z:k (.int (cZ m)) σ):CW (n+1) 132 [.int m] σ k:=by
 refine Ok ?_;unfold cZ at Z;refine iU 4096 rfl (fun q=>?_) fun U=>?_;.rw[af q]at Z;exact Z
 rw[am U]at Z;refine iU 2048 rfl (fun q=>?_) fun J=>?_;.rw[af q]at Z;exact Z
 rw[am J]at Z;have X:∀m',k (.int (if m'&&&32≠0 then m'-(m'&&&24)else m':Nat)) σ->wSs WD (CW n) (bw 3 yg) [D (.int (m':Nat))] σ (kR k):=fun m' Z=>by
  refine iU 32 rfl (fun q=>?_) fun q=>?_;.rw[af q,<-wg]at Z;exact Z
  .rw[am q]at Z;exact Z
 refine iU 4 rfl (fun q=>?_) fun q=>?_;.rw[af q]at Z;have:=X _ Z;rw[<-wg]at this;exact this
 .rw[am q]at Z;exact X m Z
theorem HG(Z:k (aL (jn K b)) σ):CW (n+2) 133 [aL K,.int b] σ k:=by
 obtain⟨m,s⟩:=K;have Z:k (.ab [.int (cZ (m|||b)),og (if cZ (m|||b)&&&6144≠0 then I else s)]) σ:=Z;refine Ol ?_;show CW (n+1) 132 [.int (qe (m:Int) (b:Int))] σ _;rw[pZ];refine Sn ?_;refine iU 6144 rfl (fun q=>?_) fun q=>?_;.rw[af q]at Z;exact Z
 .rw[am q]at Z;exact Z
theorem wj(x:Sg):cY σ (aF x) (.int 0)=D (.ab (fA x.ps)):=by obtain⟨_,_,_,_,_,_⟩:=x;rfl
theorem wm(h:x.ps.length<=4):(fA x.ps).length<av:=by rw[kg,aJ];exact ax 296386383873 rfl h
theorem z8(h:x.ps.length<=4)(U:∀Z,Fr [] σ Z->k (.ref Z.length) (Z++[.list ((bp x).map aL)])):CW (n+3) 148 [aF x] σ k:=by
 refine OA ?_;apply o (wj x);apply o (hW (wm h));rw[kg];refine wi cw (fun _=>Y) (fun p=>aL (mO p)) (fun lc=>E2 fun v w=>lc=[D (aF x),v,w]) ⟨I,I,rfl⟩ ?_ ?_
 .rintro⟨K,o1⟩H lc Z f⟨v,w,rfl⟩;refine⟨_,rfl,⟨_,_,rfl⟩,fun Q J=>J,fun _ dZ X=>?_⟩;rcases o1 with _|_;.exact X Z .rfl
  exact HG (n:=n) (b:=512) (X Z .rfl)
 .intro Z f;rw[z7];have:=U Z f;unfold bp at this;rw[BL]at this;exact this
theorem z9(h:x.ps.length<=4)(X:∀Z,Fr [] σ Z->k (.int (lP x)) Z):CW (n+1) 149 [aF x] σ k:=by
 refine OB ?_;apply o (wj x);apply o (hW (wm h));rw[kg];refine wi cw (fun p=>!p.2) (fun _=>.int 1) (fun lc=>E2 fun v w=>lc=[D (aF x),v,w]) ⟨I,I,rfl⟩ ?_ ?_;.rintro⟨K,o1⟩U lc Z f⟨v,w,rfl⟩;refine⟨_,rfl,⟨_,_,rfl⟩,fun Q J=>?_,fun _ dZ H=>H Z .rfl⟩;clear U;cases o1<;>exact J
 .intro Z f;have e1:((x.ps.filter fun p=>!p.2).map fun _=>aa.int 1).length=lP x:=aJ _;apply p (du aR (by rw[e1];exact ax 296386383873 rfl (bh (oZ _ _) h)));rw[e1];exact X _ (f.trans .new)
theorem Aa(hi:σ[i]?=D (.list (l.map aL)))(E:l.length<=4)(C:c<=l.length)(U:k (.int (kP l c)) σ):CW (n+1) 147 [.ref i,.int c] σ k:=by
 have M:(l.map aL).length<av:=by rw[aJ];exact ax 296386383873 rfl E
 refine Oz ?_;refine⟨c+1,za (fun m lc Z=>Z=σ/\lc=[D (.ref i),D (.int m)]/\m<=l.length/\kP l m=kP l c) ?_ ?_ ⟨rfl,rfl,C,rfl⟩⟩
 .rintro m lc Z K⟨rfl,rfl,J,X⟩L;obtain⟨q,H⟩:∃q,l[m]?=D q:=⟨_,dK (aC 745056601034753 rfl J)⟩;refine bt (show kH .gt ((m+1:Nat):Int) 0=Y from aN (mc.mpr (fe m))) ?_;have es:((m+1:Nat):Int)-1=m:=pj m;apply o (show cY Z (.ref i) (.int (((m+1:Nat):Int)-1))=D (aL q)by rw[es];exact(hU hi).trans (gJ (by rw[gp,H];rfl) M));have X:(if q.m&&&1024≠0 then kP l m else m+1)=kP l c:=by rw[X.symm];show _=(match l[m]? with|some k=>_|none=>_);rw[H]
  clear H;obtain⟨Q,O⟩:=q;refine iU 1024 rfl (fun r=>?_) fun r=>?_;.rw[af (show(Kd.mk Q O).m&&&1024≠0 from r)]at X;exact L _ _ ⟨rfl,by rw[es];rfl,aC 745056601034752 rfl J,X⟩
  .rw[am (show¬(Kd.mk Q O).m&&&1024≠0 from r)]at X;rw[X.symm]at U;exact U
 .clear hi;rintro lc Z K⟨rfl,rfl,J,X⟩;rw[X.symm]at U;exact U
end
def oD(V F L:Nat):Prop:=∀⦃n:Nat⦄⦃x y:Sg⦄⦃ay:Bool⦄⦃σ:AH⦄⦃k:Po⦄,bn V L x->bn V L y->(∀Z,Fr [] σ Z->k (.int (gS V 3 x y ay)) Z)->CW (n+F) 151 [aF x,aF y,.bool ay,.int V] σ k
noncomputable def Ab(o:Option Nat)(a b:Nat):Bool:=match o with|some m=>m==a||m==b|none=>ai
noncomputable def Ac(K:Kd)(a b:Nat):Bool:=match K with|.mk m I=>m==a||m==b|.mk _ (D _)=>ai
section
theorem So{o:Option Nat}{a b:Nat}:ip σ (eO o) (.ab [.ab [.int a,.none],.ab [.int b,.none]])=D (Ab o a b):=by
 rcases o with _|m;.rfl
 have e:∀{a:Nat},(eM m==.ab [.int a,.none])=(m==a):=fun{a}=>by rw[uw,aU,aU];exact⟨fun h=>by injection h with h;injection h with h _;exact j5 h,fun h=>by rw[h];rfl⟩
 show D (eM m==_||(eM m==_||false))=_;rw[e,e,xD];rfl
theorem Sp{a b:Nat}(h:aS V L K)(l2:L<=2):ip σ (aL K) (.ab [.ab [.int a,.none],.ab [.int b,.none]])=D (Ac K a b):=by
 have e:∀{a:Nat},(aL K==.ab [.int a,.none])=(K.m==a&&K.s.isNone):=fun{a}=>by rw[uw,aU,HF,gH,aU];clear h;obtain⟨m,s⟩:=K;exact⟨fun h=>by cases h;exact⟨rfl,rfl⟩,fun h=>by obtain⟨rfl,h⟩:m=a/\s.isNone=true:=h;rw[nJ.mp h]⟩
 show(if(cf (aL K)&&_)=Y then D (aL K==_||(aL K==_||false))else I)=_;rw[HE h l2,af (show(Y&&[aa.ab [aa.int a,aa.none],aa.ab [aa.int b,aa.none]].all cf)=Y from rfl),e,e,xD];clear h e;obtain⟨m,s⟩:=K;rcases s with _|y;.show D ((m==a&&Y)||(m==b&&Y))=_;rw[lj,lj];rfl
 show D ((m==a&&ai)||(m==b&&ai))=_;rw[uE,uE];rfl
theorem rv(x:Sg):cY σ (aF x) (.int 3)=D (aL x.res):=by obtain⟨_,_,_,_,_,_⟩:=x;rfl
theorem wo(x:Sg):cY σ (aF x) (.int 4)=D (dF x.pred):=by obtain⟨_,_,_,_,_,_⟩:=x;rfl
theorem tK(x:Sg):cY σ (aF x) (.int 2)=D (eO x.rest):=by obtain⟨_,_,_,_,_,_⟩:=x;rfl
theorem Ae(x:Sg):cY σ (aF x) (.int 5)=D (.int x.fl):=by obtain⟨_,_,_,_,_,_⟩:=x;rfl
theorem HH{p:Option (Int×Option Nat×Int)}:hJ σ (dF p) (.ab [])=D p.isNone:=by rcases p with _|⟨a,_|k,b⟩<;>rfl
theorem Af(U:bn V L x)(l2:L<=2)(Z:k (.bool (da x)) σ):CW (n+1) 150 [aF x] σ k:=by
 have Z:k (.bool (Ab x.rest 4096 0&&Ac x.res 4096 2048&&x.ps.isEmpty&&x.pred.isNone)) σ:=Z;refine OC ?_;apply o (tK x);apply o (So (o:=x.rest) (a:=4096) (b:=0));have X:∀w:Bool,k (.bool (w&&x.ps.isEmpty&&x.pred.isNone)) σ->wSs WD (CW n) (bw 1 yj) [D (aF x),D (.bool w)] σ (kR k):=fun w Z=>by
  rcases w with _|_;.exact Z
  apply o (wj x);apply p (ir (wm U.1.len));have e1:(fA x.ps).length=x.ps.length:=by rw[kg,aJ]
  rw[e1];refine bD (fun q=>?_) fun q=>?_;.have:x.ps.isEmpty=true:=nM.mpr (nH (dq q));rw[this]at Z;apply o (wo x);apply o (HH (σ:=σ) (p:=x.pred));exact Z
  .have:x.ps.isEmpty=false:=by induction h:x.ps using eQ with|nil=>rw[h]at q;exact ae rfl q|cons=>rfl
   rw[this]at Z;show k (.bool (decide ((x.ps.length:Int)=0))) σ;rw[bQ q];exact Z
 rcases J:Ab x.rest 4096 0 with _|_;.rw[J]at Z;exact X ai Z
 rw[J]at Z;apply o (rv x);apply o (Sp (a:=4096) (b:=2048) U.2.2 l2);rcases H:Ac x.res 4096 2048 with _|_;.rw[H]at Z;exact X ai Z
 rw[H]at Z;exact X Y Z
theorem rx(E:V≠3)(U:∀X,L=X+1->oD V F X)(J:aS V L K1)(O:aS V L K2)(l2:L<=2)(H:∀Z,Fr [] σ Z->k (.int (ak V K1 K2)) Z):CW (n+F+1) 144 [aL K1,aL K2,.int V] σ k:=by
 rw[m8 E]at H;refine Sl (g:=fun x y=>gS V 3 x y ai) J O l2 (fun x y e1 e2 σ k Q=>?_) H;clear H;obtain⟨m,s⟩:=K1;obtain⟨m',s'⟩:=K2;rcases L with _|X;.rw[show s=I from J.2]at e1;cases e1
 exact U X rfl (J.2 x e1).2 (O.2 y e2).2 Q
theorem Sq(X:V≠3)(U:∀O,L=O+1->oD V F O)(E:aS V L K1)(C:aS V L K2)(l2:L<=2)(K:∀σ,lD σ d=D f)(Z:∀J,Fr [] σ J->k (.int (dO (gN V) V K1 K2 f)) J):CW (n+F+2) 145 [aL K1,aL K2,d,.int V] σ k:=by
 refine Ox ?_;refine rx X U E C l2 fun bX M=>?_;have same:dO (gN V) V K1 K2 f=ak V K1 K2->k (.int (ak V K1 K2)) bX:=fun e=>by rw[e.symm];exact Z bX M
 refine bD (fun q=>?_) fun q=>same (Hn X (ii.mp q));apply o (K bX);have H:=cX.mpr q;rcases f with _|_;.exact same (zV X H fun r=>(by have h:=r.1;contradiction))
 refine bN (bM 4 rfl (fun m4=>same (zV X H fun r=>r.2 m4)) fun m4=>?_);refine rx X U C E l2 fun Q A=>?_;have Z:=Z Q (M.trans A);rw[(Ho X H ⟨rfl,m4⟩)]at Z;refine bD (fun r=>?_) fun r=>?_;.rw[af r]at Z;rw[<-pZ,lr r]at Z;exact Z
 .rw[am r]at Z;exact Z
noncomputable def Ag(V:Nat)(p q:Option Nat):Int:=match p with|none=>(match q with|none=>0|some _=>-1)|some p=>(match q with|none=>-1|some q=>ak V (.mk p I) (.mk q I))
theorem Sr:mY V (D (p0,Z,X)) (D (U,q1,J))=if p0≠U\/X≠J then-1 else Ag V Z q1:=by cases Z<;>cases q1<;>rfl
theorem Su(O:V≠3)(J:∀j,L=j+1->oD V F j)(d:bn V L x)(E:bn V L y)(l2:L<=2)(Z:∀au,Fr [] σ au->k (.int (jz (gN V) V x y)) au):CW (n+F+2) 146 [aF x,aF y,.int V] σ k:=by
 rw[HA O]at Z;refine Oy ?_;apply o (wo x);apply o (wo y);apply o (rv y);apply o (z6 (σ:=σ) (m:=1024) E.2.2 l2);unfold oC at Z;refine bD (fun q=>?_) fun q=>?_;.rw[af q]at Z;exact Z σ .rfl
 rw[am q]at Z;have o1:=d.1.pr;have o2:=E.1.pr;rcases C:y.pred with _|q;.rw[C]at Z;apply o (rv x);apply o (rv y);exact rx O J d.2.2 E.2.2 l2 Z
 rw[C]at Z o2;clear C;obtain⟨M,X,K⟩:=q;rcases A:x.pred with _|p;.rw[A]at Z;cases X<;>exact Z σ .rfl
 rw[A]at Z o1;clear A;obtain⟨p0,H,g⟩:=p;have Z:∀au,Fr [] σ au->k (.int (if p0≠M\/g≠K then-1 else Ag V H X)) au:=fun au f=>by have:=Z au f;dsimp only at this;rw[Sr]at this;exact this
 have Q:¬(p0≠M\/g≠K)->∀au,Fr [] σ au->k (.int (Ag V H X)) au:=fun r=>by rw[am r]at Z;exact Z
 have bS:(p0≠M\/g≠K)->k (.int (-1)) σ:=fun r=>by rw[af r]at Z;exact Z σ .rfl
 rcases H with _|H;.induction X using cM with|none=>exact fN (fun e=>bS (.inl e)) fun e=>fN (fun e=>bS (.inr e)) fun U=>Q (fun r=>r.elim (fun r=>r e) fun r=>r U) σ .rfl|some X=>exact fN (fun e=>bS (.inl e)) fun e=>fN (fun e=>bS (.inr e)) fun U=>Q (fun r=>r.elim (fun r=>r e) fun r=>r U) σ .rfl
 induction X using cM with|none=>exact fN (fun e=>bS (.inl e)) fun e=>fN (fun e=>bS (.inr e)) fun U=>Q (fun r=>r.elim (fun r=>r e) fun r=>r U) σ .rfl|some X=>refine fN (fun e=>bS (.inl e)) fun e=>fN (fun e=>bS (.inr e)) fun U=>?_;exact rx (K1:=.mk H I) (K2:=.mk X I) O J (mZ (o1 _ _ _ rfl _ rfl)) (mZ (o2 _ _ _ rfl _ rfl)) l2 (Q fun r=>r.elim (fun r=>r e) fun r=>r U)
end
noncomputable def oK(o:Option Kd):aa:=match o with|some K=>aL K|none=>.none
section
theorem Ah(pl:∀(n:Nat)(K:Kd)(σ:AH)(k:Po),aS V L K->(∀Z,Fr [] σ Z->k (cA K) Z)->CW (n+F) 143 [aL K] σ k)(J:bn V L x)(H:∀Z,Fr [] σ Z->k (dG x) Z):CW (n+F+1) 142 [aF x] σ k:=by
 have C:=wm J.1.len;have Q:=J.1.pr;have A:dG x=.ab [.ab (gC x.ps),cA x.res,dF x.pred,.int (x.fl&&&6:Nat)]:=by clear J H C Q;obtain⟨_,_,_,_,_,_⟩:=x;rfl
 rw[A]at H;refine Ov ?_;apply o (wo x);have rest:∀Z,Fr [] σ Z->wSs WD (CW (n+F)) (bw 2 yi) [D (aF x),D (dF x.pred),I,I,I] Z (kR k):=fun Z f=>by
  apply o (wj x);apply o (hW C);rw[kg];refine wi cw (fun _=>Y) (fun p=>j2 p) (fun lc=>E2 fun v w=>lc=[D (aF x),D (dF x.pred),I,v,w]) ⟨I,I,rfl⟩ ?_ ?_;.rintro⟨K,o1⟩g lc X M⟨v,w,rfl⟩;refine⟨_,rfl,⟨_,_,rfl⟩,fun y j=>j,fun _ dZ d=>?_⟩;exact pl n K X _ (J.2.1 _ g) fun U O=>d U O
  .intro X M;rw[z7];have r:(x.ps.map j2).length<av:=by have:=J.1.len;rw[aJ];exact ax 296386383873 rfl this
   apply p (show iJ .tuple (X++[.list (x.ps.map j2)]) [.ref X.length]=D (.ab (x.ps.map j2),_)by show(((nZ _ _).bind _:Option aa).map _)=_;rw[ez aR,qi,af r];rfl);apply o (rv x);refine pl n x.res _ _ J.2.2 fun U O=>?_;apply o (Ae x);have:=H U (f.trans (M.trans (Fr.new.trans O)));rw[oz]at this;exact this
 rcases E:x.pred with _|q;.rw[E]at rest;exact rest σ .rfl
 rw[E]at rest Q;clear E;obtain⟨a,u,c⟩:=q;rcases u with _|m;.exact rest σ .rfl
 exact pl n (.mk m I) σ _ (mZ (Q _ _ _ rfl _ rfl)) fun Z f=>rest Z f
theorem Ai:∀{L n:Nat}{K:Kd}{σ:AH}{k:Po},aS V L K->(∀Z,Fr [] σ Z->k (cA K) Z)->CW (n+(2*L+1)) 143 [aL K] σ k|L,n,.mk m I,σ,k,h,X=>ER (X σ .rfl)|0,n,.mk m (D x),σ,k,h,X=>(by have h:=h.2;contradiction)|L+1,n,.mk m (D x),σ,k,h,X=>by refine ER ?_;have U:=(h.2 x rfl).2;clear h;obtain⟨_,_,_,_,_,_⟩:=x;exact Ah (n:=n) (F:=2*L+1) (fun n K σ k h X=>Ai h X) U fun Z f=>X Z f
theorem HI{X vs U ia j:Nat}(J:lc[X]?=D (D (.ref ia)))(M:lc[vs]?=D (D (aF x)))(H:lc[U]?=D (D (.int j)))(Q:σ[ia]?=D (.list ((bp x).map aL)))(L:x.ps.length<=4)(Z:k (oK (dJ (bp x) x.rest j)) σ):wE WD K (.ite (.ex (.ah .lt (.var U) (.bi .len (.cons (.var X) .nil)))) (.ad (.var X) (.var U)) (.ad (.var vs) (.lit (.int 2)))) lc σ k:=by
 have e1:((bp x).map aL).length=x.ps.length:=by unfold bp;rw[aJ,aJ]
 have O:((bp x).map aL).length<av:=by rw[e1];exact ax 296386383873 rfl L
 show gL lc[U]? _;rw[H];show gL lc[X]? _;rw[J];show gP (iJ .len σ [.ref ia]) _;apply p (du Q O);rw[e1];refine bD (fun q=>?_) fun q=>?_
 .have q:j<x.ps.length:=cv.mp q;have E:(bp x)[j]?=D (mO x.ps[j]):=by unfold bp;rw[gp,dK q];rfl
  have e2:dJ (bp x) x.rest j=D (mO x.ps[j]):=by unfold dJ;rw[E]
  rw[e2]at Z;show gL lc[X]? _;rw[J];show gL lc[U]? _;rw[H];apply o ((hU (d:=.int j) Q).trans (gJ (by rw[gp,E];rfl) O));exact Z
 .rw[rp (ku fun r=>q (cv.mpr r))]at Z;show gL lc[vs]? _;rw[M];apply o (tK x);rcases C:x.rest with _|m;.rw[C]at Z;exact Z
  rw[C]at Z;exact Z
end
section
theorem Sw(Z:cf a=Y)(X:cf c=Y)(U:∀σ,hJ σ a c=if(cf a&&cf c)=Y then D (decide (a=c))else I):hJ σ a c=D (decide (a=c)):=by rw[U,Z,X];rfl
theorem HJ(U:∀p∈x.ps,ce d (cA p.1)=Y)(J:ce (d+2) (cA x.res)=Y):ce (d+3) (dG x)=true:=by obtain⟨ps,sp,rest,X,Z,Q⟩:=x;show(gu (d+1) (gC ps)&&(ce (d+2) (cA X)&&(ce (d+2) (dF Z)&&(Y&&Y))))=Y;rw[J,HB,oz];refine qy (HD fun z hz=>?_) rfl;obtain⟨p,H,rfl⟩:=g7.mp hz;clear hz;obtain⟨k,o⟩:=p;show(ce d (cA k)&&(ce d (eB o)&&Y))=Y;rw[U _ H,HC];rfl
theorem HK:∀{n d:Nat}{K:Kd},aS V n K->4*n+1<=d->ce d (cA K)=true:=by
 intro n;induction n with|zero=>
 intro d K h l;obtain⟨m,s⟩:=K;rcases d with _|d;.exact ae l (qf _)
 rw[show s=I from h.2];cases d<;>rfl|succ n Z=>
 intro d K h l;obtain⟨m,s⟩:=K;rcases d with _|d;.exact ae l (qf _)
 rcases s with _|x;.clear l;cases d<;>rfl
 have w:=h.2 x rfl;obtain⟨e,rfl⟩:∃e,d=e+3:=sC (aC 0x2d0052d40418020a1c00 rfl l);have:=HJ (x:=x) (d:=e) (fun p X=>Z (w.2.2.1 p X) (aC 0xa7a80052d00418020a968418000 rfl l)) (Z w.2.2.2 (aC 0x29ea0014b401060080d50168418000 rfl l));show(Y&&(ce (e+3) (dG x)&&Y))=Y;rw[this];rfl
theorem HL(h:bn V L x)(l2:L<=2):cf (dG x)=true:=HJ (d:=37) (fun p Z=>HK (h.2.1 p Z) (ax 0x1a84004a20968418000 rfl l2)) (HK h.2.2 (ax 0x6a1006094410168418000 rfl l2))
noncomputable def Aj(s:Ss):Ss:=match s with|.cons (.for _ _ b) _=>b|_=>.nil
noncomputable def tL(s:Ss):Ss:=match s with|.cons (.ifs _ a _) _=>a|_=>.nil
theorem Sx(J:bn 3 L x)(H:bn 3 L y)(l2:L<=2)(Z:∀X,Fr [] σ X->k (.int (gS 3 3 x y ay)) X):CW (n+(2*L+3)) 151 [aF x,aF y,.bool ay,.int (3:Nat)] σ k:=by
 have Q:gS 3 3 x y ay=if dG x=dG y then 0 else-1:=af rfl;refine ES ?_;refine Ah (n:=n) (F:=2*L+1) (fun n K σ k h Z=>Ai h Z) J fun O E=>?_;refine Ah (n:=n) (F:=2*L+1) (fun n K σ k h Z=>Ai h Z) H fun U C=>?_;apply o (show hJ U (dG x) (dG y)=D (decide (dG x=dG y))from Sw (HL J l2) (HL H l2) fun σ=>by clear J Z Q;obtain⟨_,_,_,_,_,_⟩:=x;rfl);have Z:=Z U (E.trans C);rw[Q]at Z;refine bD (fun q=>?_) fun q=>?_;.rw[af q]at Z;exact Z
 .rw[am q]at Z;exact Z
theorem Sy(X:lc[0]?=D (D (aF x)))(U:lc[1]?=D (D (aF y)))(J:lc[2]?=D (D (.bool ay)))(Z:∀d,(∀σ,lD σ d=D (fX x y ay))->k d σ):wE WD K (.or (.var 2) (.or (.aK .band (.ad (.var 0) (.lit (.int 5))) (.aj 46)) (.aK .band (.ad (.var 1) (.lit (.int 5))) (.aj 46)))) lc σ k:=by
 show gL lc[2]? _;rw[J];rcases ay with _|_
 .show gL lc[0]? _;rw[X];apply o (Ae x);have e:∀(a:Nat)(σ:AH),lD σ (.int (ko (a:Int) 1))=D (decide (a&&&1≠0)):=fun a σ=>by show D (decide (((a&&&1:Nat):Int)≠0))=_;exact aI D (iG.mpr ⟨fun q r=>q (by rw[r];rfl),fun q r=>q (dq r)⟩)
  refine iU 1 rfl (fun q=>?_) fun q=>?_;.refine Z _ fun σ=>(e _ σ).trans ?_;unfold fX;rw[decide_eq_true q];rfl
  .show gL lc[1]? _;rw[U];apply o (Ae y);refine Z _ fun σ=>(e _ σ).trans ?_;unfold fX;rw[decide_eq_false q];rfl
 exact Z (.bool Y) fun σ=>rfl
theorem Ak(i:V≠3)(m:∀L',L=L'+1->oD V F L')(wx:bn V L x)(wy:bn V L y)(l2:L<=2)(U:∀au,Fr [] σ au->k (.int (gS V 3 x y ay)) au):CW (n+(F+4)) 151 [aF x,aF y,.bool ay,.int V] σ k:=by
 have HM:∀{x:Sg},bn V L x->bn V 2 x:=fun h=>⟨h.1,fun p M=>(h.2.1 p M).aq l2,h.2.2.aq l2⟩;have gv:gS V 3 x y ay=gB (gN V) V x y ay:=yH i (HM wx) (HM wy);rw[gv]at U;have x4:=wx.1.len;have y4:=wy.1.len;refine ES ?_;refine bM 3 rfl (fun q=>ae q i) fun _=>?_;refine z8 (n:=n+F) x4 fun f f1=>?_;have H:(f++[.list ((bp x).map aL)])[f.length]?=D (.list ((bp x).map aL)):=aR;generalize ag0:f.length=ia at H;refine z8 (n:=n+F) y4 fun Q f2=>?_;have cb:(Q++[.list ((bp y).map aL)])[Q.length]?=D (.list ((bp y).map aL)):=aR;generalize ah0:Q.length=C at cb;have H:=dt (g:=[.list ((bp y).map aL)]) (f2 _ _ H bJ);have f3:Fr [] σ (Q++[.list ((bp y).map aL)]):=f1.trans (Fr.new.trans (f2.trans .new));generalize(Q++[AO.list ((bp y).map aL)])=eb at H cb f3;have u:(bp x).length=x.ps.length:=aJ _;have t:(bp y).length=y.ps.length:=aJ _;have Sz:lP x<=(bp x).length:=by rw[u];exact oZ _ _
 have SA:lP y<=(bp y).length:=by rw[t];exact oZ _ _
 refine z9 (n:=n+F+2) x4 fun jd f4=>?_;refine Aa (n:=n+F+2) (f4 _ _ H bJ) (by rw[u];exact x4) Sz ?_;refine z9 (n:=n+F+2) y4 fun fE f5=>?_;have A:=f4.trans f5;refine Aa (n:=n+F+2) (A _ _ cb bJ) (by rw[t];exact y4) SA ?_;have H:=A _ _ H bJ;have cb:=A _ _ cb bJ;have f6:=f3.trans A;have lx:((bp x).map aL).length=x.ps.length:=by rw[aJ,u]
 have ly:((bp y).map aL).length=y.ps.length:=by rw[aJ,t]
 have SB:((bp x).map aL).length<av:=by rw[lx];exact ax 296386383873 rfl x4
 have s:((bp y).map aL).length<av:=by rw[ly];exact ax 296386383873 rfl y4
 have e6:n+(F+3)=n+F+3:=rfl;have Z:∀c0,¬(da y=Y/\¬(V=4/\da x=Y))->py V x y=D c0->wSs WD (CW (n+F+3)) (bw 8 pi) [D (aF x),D (aF y),D (.bool ay),D (.int V),D (.ref ia),D (.ref C),D (.int (b5 x)),D (.int (b5 y)),D (.int (c0:Nat)),I,I,I,I] fE (kR k):=fun c0 b hc=>by
  have gb:gB (gN V) V x y ay=match iP (gN V) V x y (fX x y ay) 6 0 c0 with|some c=>restOf (gN V) V c x y|none=>-1:=by unfold gB;rw[if_neg b,hc];rfl
  rw[gb]at U;refine⟨by decide,?_⟩;refine lW (n:=6) (fun j lc au=>Fr [] fE au/\E5 fun c v9 fu gU dm=>lc=[D (aF x),D (aF y),D (.bool ay),D (.int V),D (.ref ia),D (.ref C),D (.int (b5 x)),D (.int (b5 y)),D (.int (c:Nat)),v9,fu,gU,dm]/\iP (gN V) V x y (fX x y ay) (6-j) j c=iP (gN V) V x y (fX x y ay) 6 0 c0) ?_ ?_ ⟨.rfl,c0,I,I,I,I,rfl,rfl⟩
  .rintro lc au⟨fr,c,v9,fu,gU,dm,rfl,M⟩;rw[M.symm]at U;have U:∀au,Fr [] σ au->k (.int (if jz (gN V) V x y<0 then-1 else((c|||(jz (gN V) V x y).toNat:Nat):Int))) au:=U;rw[show n+F+3=n+1+F+2 by exact bA 0xd52d00001eb400002 rfl];refine Su i m wx wy l2 fun O f7=>?_;have U:=U O (f6.trans (fr.trans f7));refine bD (fun q=>?_) fun q=>?_;.rw[af q]at U;exact U
   .rw[am q,<-pZ,lr (ii.mp q)]at U;exact U
  .rintro j lc au K hj⟨fr,c,v9,fu,gU,dm,rfl,M⟩hK;rw[Hs hj]at M;have E:∀{v:Nat}{kY fu gU dm}{z:Int},eW (gN V) V x y (fX x y ay) j=D v->Fr [] fE kY->z=((c|||v:Nat):Int)->K [D (aF x),D (aF y),D (.bool ay),D (.int V),D (.ref ia),D (.ref C),D (.int (b5 x)),D (.int (b5 y)),D (.int z),D (.int j),fu,gU,dm] kY:=fun{v kY fu gU dm z}e fr hz=>by subst hz;rw[e,qi]at M;exact hK _ _ ⟨fr,_,_,_,_,_,rfl,M⟩
   have fail:∀{kY},eW (gN V) V x y (fX x y ay) j=I->Fr [] fE kY->k (.int (-1)) kY:=fun{kY}e fr=>by rw[e,Option.bind_none]at M;rw[M.symm]at U;exact U _ (f6.trans fr)
   have skip:(dJ (bp x) x.rest j=I\/dJ (bp y) y.rest j=I)->eW (gN V) V x y (fX x y ay) j=D 0:=fun q=>by
    unfold eW;rcases q with q|q;.rw[q]
    .rw[q];cases dJ (bp x) x.rest j<;>rfl
   have H:=fr _ _ H bJ;have cb:=fr _ _ cb bJ;refine o (rfl:fi _ _ _=D _) ?_;refine HI (x:=x) (ia:=ia) (j:=j) (by rfl) (by rfl) (by rfl) H x4 ?_;refine o (rfl:fi _ _ _=D _) ?_;change wSs WD _ _ _ _ _;refine HI (x:=y) (ia:=C) (j:=j) (by rfl) (by rfl) (by rfl) cb y4 ?_;rcases u:dJ (bp x) x.rest j with _|K1;.exact E (skip (.inl u)) fr (by rw[mu])
   rcases t:dJ (bp y) y.rest j with _|K2;.clear u;obtain⟨_,_⟩:=K1;exact E (skip (.inr t)) fr (by rw[mu])
   have w1:=pz wx u;have w2:=pz wy t;have l:eW (gN V) V x y (fX x y ay) j=if dO (gN V) V K2 K1 (fX x y ay)<0 then I else if V=4/\b5 x<=j/\j<b5 y/\0<=ak V K1 K2 then I else D (dO (gN V) V K2 K1 (fX x y ay)).toNat:=by unfold eW;rw[u,t,m8 i];rfl
   have hd:∀{K:Kd},(decide (aL K=.none)==ai)=true:=fun{K}=>by obtain⟨_,_⟩:=K;rfl
   refine bt hd ?_;refine bt hd ?_;refine Sy (x:=x) (y:=y) (ay:=ay) (K:=CW (n+F+3)) (σ:=au) (lc:=[D (aF x),D (aF y),D (.bool ay),D (.int V),D (.ref ia),D (.ref C),D (.int (b5 x)),D (.int (b5 y)),D (.int (c:Nat)),D (.int j),D (aL K1),D (aL K2),dm]) (k:=fun d σ=>CW (n+F+3) 145 [aL K2,aL K1,d,.int V] σ fun v σ=>wSs WD (CW (n+F+3)) (bw 1 (tL (bw 2 (Aj (bw 8 pi))))) [D (aF x),D (aF y),D (.bool ay),D (.int V),D (.ref ia),D (.ref C),D (.int (b5 x)),D (.int (b5 y)),D (.int (c:Nat)),D (.int j),D (aL K1),D (aL K2),D v] σ (lL (kR k) K)) rfl rfl rfl fun d hd=>?_;rw[show n+F+3=n+1+F+2 by exact bA 0xd52d00001eb400002 rfl];refine Sq i m w2 w1 l2 hd fun O f7=>?_;have J:=fr.trans f7;refine bD (fun q=>?_) fun q=>?_;.rw[af q]at l;exact fail l J
   rw[am q]at l;have q0:=ii.mp q;have go:∀kY,Fr [] fE kY->¬(V=4/\b5 x<=j/\j<b5 y/\0<=ak V K1 K2)->∀(z:Int),z=qe (c:Int) (dO (gN V) V K2 K1 (fX x y ay))->K [D (aF x),D (aF y),D (.bool ay),D (.int V),D (.ref ia),D (.ref C),D (.int (b5 x)),D (.int (b5 y)),D (.int z),D (.int j),D (aL K1),D (aL K2),D (.int (dO (gN V) V K2 K1 (fX x y ay)))] kY:=fun kY fr h z hz=>by rw[am h]at l;refine E l fr ?_;rw[hz,<-pZ,lr q0]
   refine bM 4 rfl (fun m4=>?_) fun m4=>go O J (fun r=>m4 r.1) _ rfl;refine bD (fun r1=>?_) fun r1=>go O J (fun r=>r1 (nD.mpr r.2.1)) _ rfl;refine bD (fun r2=>?_) fun r2=>go O J (fun r=>r2 (cv.mpr r.2.2.1)) _ rfl;rw[show n+1+F+2=n+2+F+1 by exact bA 0x2d4d400006a968000002 rfl];refine rx i m w1 w2 l2 fun HN f8=>?_;refine bD (fun r3=>?_) fun r3=>go HN (J.trans f8) (fun r=>r3 r.2.2.2) _ rfl;rw[af ⟨m4,nD.mp r1,cv.mp r2,r3⟩]at l;exact fail l (J.trans f8)
 have rest:¬(da y=Y/\¬(V=4/\da x=Y))->wSs WD (CW (n+F+3)) (bw 7 pi) [D (aF x),D (aF y),D (.bool ay),D (.int V),D (.ref ia),D (.ref C),D (.int (b5 x)),D (.int (b5 y)),D (.int (0:Nat)),I,I,I,I] fE (kR k):=fun b=>by
  have X:py V x y=I->k (.int (-1)) fE:=fun e=>by
   have:gB (gN V) V x y ay=-1:=by unfold gB;rw[am b,e];rfl
   rw[this]at U;exact U fE f6
  unfold py at X Z;apply o (tK y);rcases hr:y.rest with _|m'
  .rw[hr]at X Z;apply p (du cb s);rw[ly];refine bD (fun q=>X (af (cv.mp q))) fun q=>?_;have q:¬b5 x>y.ps.length:=fun r=>q (cv.mpr r);dsimp only at X Z;rw[am q]at X Z;have w:(x.rest.isSome=Y\/x.ps.length>y.ps.length)->br (decide ((V:Int)=4)) (k (.int (-1)) fE) (wSs WD (CW (n+F+3)) (bw 8 pi) [D (aF x),D (aF y),D (.bool ay),D (.int V),D (.ref ia),D (.ref C),D (.int (b5 x)),D (.int (b5 y)),D (.int (4:Nat)),I,I,I,I] fE (kR k)):=fun r=>by
    rw[af r]at X Z;refine bM 4 rfl (fun m4=>?_) fun m4=>?_;.rw[af m4]at X;exact X rfl
    .rw[am m4]at Z;exact Z 4 b rfl
   apply o (tK x);rcases hx:x.rest with _|mx;.apply p (du H SB);apply p (du cb s);rw[lx,ly];refine bD (fun r=>w (.inr (cv.mp r))) fun r=>?_;rw[am fun a=>a.elim (fun a=>by rw[hx]at a;cases a) fun a=>r (cv.mpr a)]at Z;exact Z 0 b rfl
   exact w (.inl (by rw[hx];rfl))
  rw[hr]at Z;dsimp only at Z;apply p (du cb s);rw[ly];refine bD (fun q=>?_) fun q=>?_;.rw[af (cv.mp q)]at Z;exact Z 4 b rfl
  .rw[am fun r=>q (cv.mpr r)]at Z;exact Z 0 b rfl
 refine Af (n:=n+F+2) wy l2 ?_;rcases ty:da y with _|_;.exact rest fun q=>nomatch ty.symm.trans q.1
 have bS:¬(V=4/\da x=Y)->wSs WD (CW (n+F+3)) (.cons (.ret (.ite (.ex (.ad (.ad (.var 1) (.lit (.int 2))) (.lit (.int 0)))) (.lit (.int 1)) (.ite (.ex (.ah .gt (.var 6) (.lit (.int 0)))) (.lit (.int 4)) (.lit (.int 0))))) .nil) [D (aF x),D (aF y),D (.bool ay),D (.int V),D (.ref ia),D (.ref C),D (.int (b5 x)),D (.int (b5 y)),D (.int (0:Nat)),I,I,I,I] fE (kS (wSs WD (CW (n+F+3)) (bw 7 pi)) (kR k)):=fun h=>by
  have U:=U fE f6;unfold gB at U;rw[af ⟨ty,h⟩]at U;apply o (tK y);rcases hr:y.rest with _|m';.unfold da at ty;rw[hr]at ty;cases ty
  rw[hr]at U;rcases m' with _|m'
  .have U:k (.int (if b5 x>0 then 4 else 0)) fE:=U;refine bD (fun q=>?_) fun q=>?_;.rw[af (mc.mp q)]at U;exact U
   .rw[am fun r=>q (mc.mpr r)]at U;exact U
  exact U
 refine bM 4 rfl (fun m4=>?_) fun m4=>bS fun q=>m4 q.1;refine Af (n:=n+F+2) wx l2 ?_;rcases tx:da x with _|_;.exact bS fun q=>nomatch tx.symm.trans q.2
 exact rest fun q=>q.2 ⟨m4,tx⟩
theorem HO(J:V=3\/V∈[1,2,4]):oD V 12 2:=by
 by_cases e:V=3;.clear J;subst e;intro n x y ay σ k Z X U;exact Sx (n:=n+5) Z X (aE 2) U
 have H:oD V 4 0:=by intro n x y ay σ k Z X U;exact Ak (F:=0) (n:=n) e (fun _ q=>by cases q) Z X (by decide) U
 have g1:oD V 8 1:=by intro n x y ay σ k Z X U;exact Ak (F:=4) (n:=n) e (fun Q q=>by cases q;exact H) Z X (by decide) U
 intro n x y ay σ k Z X U;exact Ak (F:=8) (n:=n) e (fun Q q=>by cases q;exact g1) Z X (by decide) U
end
structure Dr(nc ac a1 B:Nat)(σ:AH):Prop where
p5:∃ns:List Int,σ[nc]?=D (.list (ns.map .int))/\0<ns.length/\ns.length<=63
cur:∃i:Nat,σ[ac]?=D (.list [.int i,.int a1])/\i+B<2^50
na:nc≠ac
a0:ac≠0
section
theorem Dr.le(h:Dr nc ac a1 B σ)(l:B'<=B):Dr nc ac a1 B' σ:={h with cur:=(by obtain⟨i,a,b⟩:=h.cur;exact⟨i,a,oa 0xb5e80086f5082d5a0001 rfl l b⟩)}
theorem Dr.fr(h:Dr nc ac a1 B σ)(f:Fr O σ au)(Z:nc∉O)(X:ac∉O):Dr nc ac a1 B au:={h with p5:=(by obtain⟨ns,a,b⟩:=h.p5;exact⟨ns,f _ _ a Z,b⟩),cur:=(by obtain⟨i,a,b⟩:=h.cur;exact⟨i,f _ _ a X,b⟩)}
theorem Dr.fV(h:Dr nc ac a1 B σ)(f:Fr [] σ au):Dr nc ac a1 B au:=h.fr f bJ bJ
theorem Dr.lt(h:Dr nc ac a1 B σ):ac<σ.length:=(by obtain⟨_,a,_⟩:=h.cur;exact(bo.mp a).1)
theorem fa(h:Dr nc ac a1 (B+1) σ)(hm:0<m)(hk:∀(r:Nat)au,r<m->Dr nc ac a1 B au->Fr [ac] σ au->k (.int r) au):CW (n+1) 131 [.ref nc,.ref ac,.int m] σ k:=by
 refine cps fun P hP=>?_;obtain⟨ns,hn,n0,Al⟩:=h.p5;obtain⟨i,ha,hi⟩:=h.cur;refine hP ?_;have nl:(ns.map aa.int).length<av:=by rw[aJ];exact ax 0x7e20d02015001 rfl Al
 refine Oj ?_;apply o ((hU (d:=.int 0) ha).trans (gJ (i:=0) rfl (show 2<av by decide)));apply o (show i7 σ ac (.int 0) (.int ((i:Int)+1))=D (σ.set ac (.list [.int ((i:Int)+1),.int a1]))by show(match σ[ac]? with|some (.dict es)=>_|some (.list xs)=>_|_=>I)=_;rw[ha];show(if(Y&&Y&&Y&&decide (2<av)&&ac !=0)=Y then _ else _)=_;rw[aN (show 2<av by decide),fx.mpr h.a0];rfl);have p6:=bl (o':=.list [.int ((i:Int)+1),.int a1]) hn h.na.symm;have HP:=eV (o':=.list [.int ((i:Int)+1),.int a1]) ha;have f:Fr [ac] σ (σ.set ac (.list [.int ((i:Int)+1),.int a1])):=Fr.rfl.set aV;generalize σ.set ac (.list [.int ((i:Int)+1),.int a1])=au at p6 HP f;apply p ((du p6 nl).trans (by rw[aJ]));have kp:(0:Int)<ns.length:=mc.mpr n0;have at':∀{j:Nat},j<ns.length->∃z:Int,cY au (.ref nc) (.int j)=D (.int z):=fun{j}hj=>⟨ns[j],(hU (d:=.int j) p6).trans (gJ (by rw[gp,dK hj];rfl) nl)⟩;refine cps fun P hP=>?_;obtain⟨z0,h0⟩:=at' (j:=0) n0;obtain⟨z1,h1⟩:=at' (j:=i%ns.length) (BJ _ n0);refine hP ?_;have e1:qC .mod i ns.length=D ((i%ns.length:Nat):Int):=af kp;have e2:qC .fdiv i ns.length=D ((i/ns.length:Nat):Int):=af (by rewrite[aN kp,aN (by exact ax 0x3f1068107735940060d009 rfl Al)];rfl);apply p (show lE .mod au (.int i) (.int ns.length)=D (.int (i%ns.length:Nat),au)by show(qC .mod i ns.length).map _=_;rw[e1];rfl);apply o h1;apply p (show lE .fdiv au (.int i) (.int ns.length)=D (.int (i/ns.length:Nat),au)by show(qC .fdiv i ns.length).map _=_;rw[e2];rfl);apply o h0;have sm:small ((i/ns.length:Nat):Int)=true:=by have dl:=Nat.div_le_self i ns.length;generalize i/ns.length=q at dl;exact BE (dL dl (dL (b7 _ _) (gZ hi (by decide+kernel))))
 have e3:∀z:Int,lE .mul au (.int (i/ns.length:Nat)) (.int z)=D (.int ((i/ns.length:Nat)*z),au):=fun z=>by show(if(small _||small z)=Y then D _ else I).map _=_;rw[sm];rfl
 apply p (e3 _);have mp:(0:Int)<m:=mc.mpr hm;have e4:∀z:Int,lE .mod au (.int z) (.int m)=D (.int (z%m),au):=fun z=>by show(if 0<(m:Int)then D (z%m)else I).map _=_;rw[af mp];rfl
 apply p (e4 _);have nn:∀z:Int,z%(m:Int)=((z%m).toNat:Int):=fun z=>(lr (Int.emod_nonneg _ (ax 691524489230 rfl hm))).symm;have lt:∀z:Int,(z%(m:Int)).toNat<m:=fun z=>by exact cv.mp (by rw[<-nn z];exact Int.emod_lt_of_pos z mp)
 rw[nn];exact hk _ au (lt _) (⟨⟨ns,p6,n0,Al⟩,⟨i+1,HP,c5 0xb16a0a0021b54b400001 rfl hi⟩,h.na,h.a0⟩) f
end
noncomputable def wp:List Nat:=[4,32,1,3,8,36,192,256,512,260,2048,4096,0,1024,1536,24,64,33]
theorem SC:∀m∈wp,m<8192/\cZ m=m:=by decide+kernel
theorem HQ{i:Nat}(h:i<18):∃m:Nat,cY σ (.ab (wp.map fun(m:Nat)=>aa.int m)) (.int i)=D (.int m)/\Nm m:=by have hi:i<wp.length:=h;refine⟨wp[i],?_,SC _ (xI hi)⟩;exact gJ (by rw[gp,dK hi];rfl) (show 18<av by decide)
noncomputable def lX:Nat->Kd->Prop|0,_=>True|n+1,.mk _ s=>∀x,s=D x->x.ps.length<=1/\(∀p∈x.ps,lX n p.1)/\lX n x.res
def HS(n:Nat)(x:Sg):Prop:=(∀p∈x.ps,lX n p.1)/\lX n x.res
theorem HT:∀{ps:List (Kd×Bool)}{t:Nat},(∀i q,ps[i]?=D q->q.2=decide (t<=i))->fC ps=true:=by intro ps;induction ps with|nil=>intro _ _;exact rfl|cons U r J=>
obtain⟨K,o1⟩:=U;intro t h;have Z:=h 0 _ rfl;have X:∀i q,r[i]?=D q->q.2=decide (t-1<=i):=fun i q e=>(h (i+1) q e).trans (iG.mpr Nat.sub_le_iff_le_add.symm);show((!o1||r.all (·.2))&&fC r)=Y;rw[J X,lj];have Z:o1=decide (t<=0):=Z;by_cases q:t<=0;.rw[show r.all (·.2)=Y from fQ.mpr fun p H=>by obtain⟨i,hi⟩:=Le H;rw[X i p hi,aN (bh (qj t 1) (bh q (bP i)))],KY]
.rw[Z,bQ q];rfl
theorem HU:∀{ps U:List (Kd×Bool)},ps.map (·.2)=U.map (·.2)->fC ps=fC U
|[],[],_=>rfl|[],_::_,h=>nomatch h|_::_,[],h=>nomatch h|(K,o1)::r,(E,o2)::q,h=>by
 injection h with Z J;have Z:o1=o2:=Z;have H:∀l:List (Kd×Bool),l.all (·.2)=(l.map (·.2)).all id:=fun l=>by rw[KO];rfl
 have O:r.all (·.2)=q.all (·.2):=by rw[H,H,J]
 show((!o1||r.all (·.2))&&fC r)=((!o2||q.all (·.2))&&fC q);rw[Z,O,HU J]
noncomputable def kB:Nat->Nat|0=>1|n+1=>1+(4*kB n+12)
noncomputable def sB(n:Nat):Nat:=4*kB n+12
def jG(nc ac a1 md F L:Nat):Prop:=∀⦃n B:Nat⦄⦃σ:AH⦄⦃k:Po⦄,Dr nc ac a1 (B+kB L) σ->(∀K Z,aS md L K->lX L K->Dr nc ac a1 B Z->Fr [ac] σ Z->k (aL K) Z)->CW (n+F) 134 [.ref nc,.ref ac,.int (2-L:Nat)] σ k
def Am(nc ac a1 md F L:Nat):Prop:=∀⦃n B:Nat⦄⦃σ:AH⦄⦃k:Po⦄,Dr nc ac a1 (B+sB L) σ->(∀x Z,bn md L x->HS L x->(L<2->x.ps.length<=1)->x.ps.length<=3->(2<=L->1<=x.ps.length)->Dr nc ac a1 B Z->Fr [ac] σ Z->k (aF x) Z)->CW (n+F) 136 [.ref nc,.ref ac,.int (2-L:Nat)] σ k
section
theorem SD(h:m∈[0,512,256]):Nm m/\m<2048:=by have:=(by decide+kernel:∀m∈[0,512,256],(m<8192/\cZ m=m)/\m<2048) m h;exact this
theorem An(l2:L<=2)(Q:∀Z,L=Z+1->Am nc ac a1 md F Z):jG nc ac a1 md (F+2) L:=by
 intro n B σ k h C;refine Om ?_;have A:1<=kB L:=by induction L using nN with|zero=>exact aE 1|succ L=>exact b7 1 _
 have g:Dr nc ac a1 (B+(kB L-1)+1) σ:=h.le (gG (by rw[eL,rY A]));refine fa (n:=n+F) (m:=22) g (by decide) fun r bX O J M=>?_;have U:∀m,Nm m->k (.ab [.int m,.none]) bX:=fun m X=>C (.mk m I) bX (mZ X) (by induction L using nN with|zero=>exact trivial|succ L=>exact fun x e=>nomatch e) (J.le (b7 _ _)) M;obtain⟨m,e1,e2⟩:=HQ (σ:=bX) (BJ r (show 0<18 by decide));refine bD (fun q=>?_) fun q=>?_;.apply o e1;exact U m e2
 refine bD (fun K=>?_) fun K=>?_;.apply o e1;exact U m e2
 rcases L with _|Z;.exact ae (by decide) K
 have hi:∃m:Nat,m∈[0,512,256]/\cY bX (.ab [.int 0,.int 0,.int 512,.int 256]) (.int ((r:Int)-18))=D (.int m):=by
  obtain⟨r,rfl⟩:=sC (hE.mp fun a=>q (cv.mpr a):18<=r);have O:r<4:=Nat.lt_of_add_lt_add_right O;clear e1 q;induction r,O using qM;.exact⟨0,by decide,rfl⟩
  .exact⟨0,by decide,rfl⟩
  .exact⟨512,by decide,rfl⟩
  .exact⟨256,by decide,rfl⟩
 obtain⟨m,X,e3⟩:=hi;have X:=SD X;apply o e3;have j:(((2-(Z+1):Nat):Int)+1)=((2-Z:Nat):Int):=(aI kt (mK l2)).symm;show CW (n+F+1) 136 [.ref nc,.ref ac,.int (((2-(Z+1):Nat):Int)+1)] bX _;rw[j,show n+F+1=n+1+F by exact bA 0xa9680016b400002 rfl];have J:Dr nc ac a1 (B+sB Z) bX:=J.le (eP (gG (xE _ _).symm) B);refine Q Z rfl J fun x E d u H _ _ w v=>?_;have H:=H (ax 0xc5a002035001 rfl l2);exact C (.mk m (D x)) E ⟨X.1,fun f e=>by cases e;exact⟨⟨X.2,ln H⟩,d⟩⟩ (fun f e=>by cases e;exact⟨H,u⟩) w (M.trans v)
theorem HV(h:Dr nc ac a1 (B+3) σ)(K:∀p J,(∀a q b,p=D (a,q,b)->-1<=a/\a<1/\0<=b/\b<2/\∀m,q=D m->Nm m)->Dr nc ac a1 B J->Fr [ac] σ J->k (dF p) J):CW (n+2) 135 [.ref nc,.ref ac] σ k:=by
 refine On ?_;refine fa (n:=n) (m:=6) h (by decide) fun r X u Q O=>?_;refine bD (fun q=>?_) fun q=>?_;.exact K I X (fun _ _ _ e=>nomatch e) (Q.le (aB 222318592 rfl)) O
 have e2:lE .mod X (.int r) (.int 2)=D (.int (r%2:Nat),X):=rfl;have U:∀(o1:Option Nat)Z,(∀m,o1=D m->Nm m)->Dr nc ac a1 (B+1) Z->Fr [ac] σ Z->wSs WD (CW (n+1)) (bw 3 yh) [D (.ref nc),D (.ref ac),D (.int r),D (eO o1)] Z (kR k):=fun o1 Z A E C=>by refine fa (n:=n) (m:=2) E (by decide) fun M L H g j=>?_;exact K (D ((M:Int)-1,o1,((r%2:Nat):Int))) L (fun a q b e=>by cases e;exact⟨Int.sub_le_sub_right (ib M) 1,Int.sub_lt_sub_right (cv.mpr H) 1,aB 659464 rfl,cv.mpr (BJ _ (fe 1)),A⟩) g (C.trans j)
 refine bD (fun d=>?_) fun d=>?_;.exact U I X (fun _ e=>nomatch e) (Q.le (aB 227639164928 rfl)) O
 .refine fa (n:=n) (m:=18) Q (by decide) fun M Z H E C=>?_;obtain⟨m,e1,e3⟩:=HQ (σ:=Z) H;apply o e1;exact U (D m) Z (fun m' e=>by cases e;exact e3) E (O.trans C)
end
section
theorem Ao(h:Dr nc ac a1 B σ):cY σ (.ref ac) (.int 1)=D (.int a1):=by obtain⟨i,Z,_⟩:=h.cur;exact(hU (d:=.int 1) Z).trans (gJ (i:=1) rfl (show 2<av by decide))
theorem wu(h:σ[i]?=D (.list xs))(Z:xs.length<av):iJ .tuple σ [.ref i]=D (.ab xs,σ):=by show(((nZ _ _).bind _:Option aa).map _)=_;rw[ez h,qi,af Z];rfl
theorem Ap(l2:L<=2)(Aq:md=3->a1≠0)(kd:jG nc ac a1 md F L)(k0:jG nc ac a1 md F 0):Am nc ac a1 md (F+3) L:=by
 intro n B σ k h hk;refine Oo ?_;have z:∀(U:Nat)Q,U<=3->(L<2->U<=1)->(2<=L->1<=U)->Dr nc ac a1 (B+(4*kB L+11)) Q->Fr [ac] σ Q->wSs WD (CW (n+F+2)) (bw 1 qH) [D (.ref nc),D (.ref ac),D (.int (2-L:Nat)),D (.int U),I,I,I,I,I,I,I,I] Q (kR k):=fun U Q t c1 c2 d1 f1=>by
  refine fa (n:=n+F+1) (m:=U+1) (B:=B+(4*kB L+10)) d1 (fe U) fun wt H hw d2 f2=>?_;have A:H.length≠ac:=fun e=>by have:=d2.lt;exact bZ 0xa5421ad02221003 rfl e this
  have HW:H.length≠nc:=fun e=>by obtain⟨ns,a,_⟩:=d2.p5;have:=(bo.mp a).1;exact bZ 0xa5421ad02221003 rfl e this
  have HX:H.length≠0:=fun e=>by have:=d2.lt;exact bZ 0xa54212502221003 rfl e this
  have new:σ[H.length]?=none:=jp ((f1.trans f2).len fun i hi=>by rw[aZ.mp hi];exact d2.lt);have Z:(H++[.list []])[H.length]?=D (.list (([]:List (Kd×Bool)).map cw)):=aR;have d3:=d2.fV (Fr.new (g:=[.list []]));have f3:Fr [ac] σ (H++[.list []]):=f1.trans (f2.trans .new);refine⟨by rw[jx (i:=U) (ax 262026645505 rfl t),aN (by exact ax 0x7a041e848040d009 rfl t)];rfl,?_⟩;rw[ie];generalize H.length=pc at Z A HW HX new⊢;generalize H++[AO.list []]=eb at Z d3 f3⊢;refine lW (fun j lc l=>E2 fun(ps:List (Kd×Bool))(v6:Option aa)=>A7 (lc=[D (.ref nc),D (.ref ac),D (.int (2-L:Nat)),D (.int U),D (.int wt),D (.ref pc),v6,I,I,I,I,I]) (ps.length=j) (l[pc]?=D (.list (ps.map cw))) (Dr nc ac a1 (B+10+kB L+(U-j)*kB L) l) (Fr [ac] σ l) (∀p∈ps,aS md L p.1/\lX L p.1) (∀i q,ps[i]?=D q->q.2=decide (U-wt<=i))) ?_ ?_ ⟨[],I,rfl,rfl,Z,d3.le (by rw[Nat.sub_zero];exact c5 0x2a31d8207548305016aba8000000 rfl (ut _ t)),f3,fun _ q=>ae q bJ,fun i q e=>by cases e⟩
  .rintro lc u⟨ps,v6,rfl,J,Z,d4,f4,w,x⟩;rw[jO,rW,Lf]at d4;refine fa (n:=n+F+1) (m:=6) (d4.le (B':=B+9+kB L+1) (bA 0x2aea0005ab68000000 rfl)) (by decide) fun sh E HY d5 f5=>?_;have O:∀(rest:Option Nat)(sp:Nat)X,sp<=U->(∀m,rest=D m->Nm m)->(md=3->rest=I/\sp=U)->Dr nc ac a1 (B+7+kB L) X->Fr [ac] u X->wSs WD (CW (n+F+2)) (bw 8 qH) [D (.ref nc),D (.ref ac),D (.int (2-L:Nat)),D (.int U),D (.int wt),D (.ref pc),v6,D (eO rest),D (.int sp),D (.int sh),I,I] X (kR k):=fun rest sp X SE SF sL d6 f6=>by
    have e2:n+F+2=n+2+F:=bA 0xa9a8001ab400002 rfl;rw[e2];refine kd d6 fun res ta wr nr d7 f7=>?_;rw[e2.symm];refine HV (n:=n+F) (d7.le (B':=B+1+3) (aB 409026030469120 rfl)) fun pr HN SG d8 f8=>?_;have HZ:=f6.trans (f7.trans f8);have lt:(ps.map cw).length<av:=by rw[aJ,J];exact ax 262026645505 rfl t
    apply p (wu (HZ _ _ Z (fun q=>A (aZ.mp q))) lt);refine fa (n:=n+F+1) (m:=6) d8 (by decide) fun r H0 f d9 f9=>?_;have Ar:∃fl:Nat,fl<8/\cY H0 (.ab [.int 0,.int 0,.int 1,.int 0,.int 2,.int 5]) (.int r)=D (.int fl):=by
     induction r,f using E0;.exact⟨0,by decide,rfl⟩
     .exact⟨0,by decide,rfl⟩
     .exact⟨1,by decide,rfl⟩
     .exact⟨0,by decide,rfl⟩
     .exact⟨2,by decide,rfl⟩
     .exact⟨5,by decide,rfl⟩
    obtain⟨fl,Ar,e⟩:=Ar;apply o e;rw[kg.symm];exact hk ⟨ps,sp,rest,res,pr,fl⟩ H0 ⟨⟨fun q=>(by obtain⟨a,b⟩:=sL q;exact⟨a,b.trans J.symm⟩),by show ps.length<=4;exact bZ 0xad0223d42045000 rfl t J,by show sp<=ps.length;exact pn 0xb5020b5432ad000 rfl J SE,HT x,SF,SG,Ar⟩,fun p y=>(w p y).1,wr⟩ ⟨fun p y=>(w p y).2,nr⟩ (fun q=>by show ps.length<=1;exact J▸c1 q) (by show ps.length<=3;exact bZ 0xad0223d4203d000 rfl t J) (fun q=>by show 1<=ps.length;exact J▸c2 q) d9 (f4.trans (HZ.trans f9))
   apply o (Ao d5);refine fF 0 rfl (fun q0=>?_) fun q0=>O I U E (aE _) (fun _ e=>nomatch e) (fun _=>⟨rfl,rfl⟩) (d5.le (bA 0xab6800557400000 rfl)) f5;have n3:md≠3:=fun e=>Aq e q0;refine bD (fun q1=>?_) fun q1=>O I U E (aE _) (fun _ e=>nomatch e) (fun q=>ae q n3) (d5.le (bA 0xab6800557400000 rfl)) f5;have c:∀(rest:Option Nat)X,(∀m,rest=D m->Nm m)->Dr nc ac a1 (B+8+kB L) X->Fr [ac] u X->wSs WD (CW (n+F+2)) (bw 1 (tL (bw 7 qH))) [D (.ref nc),D (.ref ac),D (.int (2-L:Nat)),D (.int U),D (.int wt),D (.ref pc),v6,D (eO rest),D (.int U),D (.int sh),I,I] X (kS (wSs WD (CW (n+F+2)) (bw 8 qH)) (kR k)):=fun rest X f d6 f6=>by refine fF 1 rfl (fun _=>?_) fun _=>O rest U X (aE _) f (fun q=>ae q n3) (d6.le (bA 0xab2800557400000 rfl)) f6;refine fa (n:=n+F+1) (m:=U+1) (d6.le (B':=B+7+kB L+1) (bA 0x2aca0005aae8000000 rfl)) (fe U) fun sp ta hs d7 f7=>?_;exact O rest sp ta (aC 0xb505021ad000 rfl hs) f (fun q=>ae q n3) d7 (f6.trans f7)
   refine bD (fun q2=>?_) fun q2=>c I E (fun _ e=>nomatch e) (d5.le (bA 0xab6800559400000 rfl)) f5;rw[show n+F+2=n+2+F by exact bA 0xa9a8001ab400002 rfl];refine k0 (d5.le (B':=B+8+kB L+1) (bA 0x2ada0005ab28000000 rfl)) fun K X wk _ d6 f6=>?_;rw[show n+2+F=n+F+2 by exact bA 0x35680054d400002 rfl];obtain⟨m,s⟩:=K;obtain⟨hm,rfl⟩:=wk;exact c (D m) X (fun m' e=>by cases e;exact hm) d6 (f5.trans f6)
  .rintro j lc u K hj⟨ps,v6,rfl,J,Z,d4,f4,w,x⟩hK;have e2:n+F+2=n+2+F:=bA 0xa9a8001ab400002 rfl;rw[e2];rw[mK hj,oU,rX,<-eL]at d4;refine kd d4 fun C E wk nk d5 f5=>?_;have M:=f5 _ _ Z (fun q=>A (aZ.mp q));have cm:∀o1:Bool,o1=decide (U-wt<=j)->dr WD (CW (n+2+F)) 0 pc u E [cw (C,o1)] fun d σ=>br (iK d) (K [D (.ref nc),D (.ref ac),D (.int (2-L:Nat)),D (.int U),D (.int wt),D (.ref pc),D (.int j),I,I,I,I,I] σ) False:=fun o1 ho=>by
    apply o Z;apply o (ez M);apply p (gz (v:=cw (C,o1)) (by rw[aJ,J];exact bZ 0xad0213d42015001 rfl t hj) HX);have em:ps.map cw++[cw (C,o1)]=(ps++[(C,o1)]).map cw:=by rw[g8];rfl
    rw[em];refine hK _ _ ⟨ps++[(C,o1)],_,rfl,by rw[aT,J];rfl,eV M,d5.fr (Fr.rfl.set aV) (fun q=>?_) (fun q=>A (aZ.mp q).symm),?_,fun p y=>?_,fun i q e=>?_⟩;.exact HW (aZ.mp q).symm
    .exact(f4.trans f5).kK new
    .rcases dH.mp y with y|y;.exact w p y
     .rw[aZ.mp y];exact⟨wk,nk⟩
    .by_cases r:i<ps.length;.rw[ic r]at e;exact x i q e
     .have hi:i=ps.length:=by have:=(bo.mp e).1;rw[aT,qh]at this;exact fw (aC 0xb505021ad000 rfl this) (aC 709782851584 rfl r)
      clear r;subst hi;rw[jN (aE _),jO]at e;cases e;rw[J];exact ho
   refine bD (fun q=>?_) fun q=>?_;.exact cm ai (bQ (xz.mpr (cv.mp (by rw[BZ (oV hw)];exact q)))).symm
   .exact cm Y (aN (ku fun r=>q (by rw[<-BZ (oV hw)];exact cv.mpr r))).symm
 refine fF 0 rfl (fun q=>?_) fun q=>?_;.refine fa (n:=n+F+1) (m:=3) (B:=B+(4*kB L+11)) h (by decide) fun r Q f d1 f1=>?_;exact z (r+1) Q (ax 0xf4084e5a0000 rfl f) (fun a=>ae a (hE.mpr (Lh q))) (fun _=>fe r) d1 f1
 .refine fa (n:=n+F+1) (m:=2) (B:=B+(4*kB L+11)) h (by decide) fun r Q f d1 f1=>?_;exact z r Q (ax 227668119552 rfl f) (fun _=>oV f) (fun a=>ae (xJ a) q) d1 f1
end
noncomputable def tB:Nat->Nat|0=>2|n+1=>1+kB (n+1)+(4*tB n+20)
noncomputable def vB(n:Nat):Nat:=4*tB n+20
def jg(nc ac a1 md F L:Nat):Prop:=∀⦃n B:Nat⦄⦃σ:AH⦄⦃k:Po⦄⦃K:Kd⦄,Dr nc ac a1 (B+tB L) σ->aS md L K->lX L K->(∀X Z,aS md L X->Dr nc ac a1 B Z->Fr [ac] σ Z->k (aL X) Z)->CW (n+F) 137 [.ref nc,.ref ac,aL K,.int (2-L:Nat)] σ k
def Au(nc ac a1 md F L:Nat):Prop:=∀⦃n B:Nat⦄⦃σ:AH⦄⦃k:Po⦄⦃x:Sg⦄,Dr nc ac a1 (B+vB L) σ->bn md L x->HS L x->x.ps.length<=3->(∀y Z,bn md L y->y.ps.length<=x.ps.length+1->Dr nc ac a1 B Z->Fr [ac] σ Z->k (aF y) Z)->CW (n+F) 138 [.ref nc,.ref ac,aF x,.int (2-L:Nat)] σ k
theorem SH:∀m,m<8192->decide (cZ m=m->cZ (m&&&(m-1))=m&&&(m-1))=true:=kQ (by decide+kernel)
theorem SI:∀m:Nat,ko (m:Int) ((m:Int)-1)=((m&&&(m-1):Nat):Int):=by intro m;induction m with|zero=>exact rfl|succ m Z=>rw[pj];exact zY (m+1) m
section
theorem Av(l2:L<=2)(b:jG nc ac a1 md F L)(l:∀X,L=X+1->Au nc ac a1 md F X):jg nc ac a1 md (F+3) L:=by
 intro n B σ k K h U z O;have c:2<=tB L:=by induction L using nN with|zero=>exact aE 2|succ L=>show 2<=1+kB (L+1)+(4*tB L+20);exact bA 0x2810d483050a001800 rfl
 have i:kB L+1<=tB L:=by induction L using nN with|zero=>exact aE 2|succ L=>show kB (L+1)+1<=1+kB (L+1)+(4*tB L+20);exact bA 0xa043520c1428005a0000 rfl
 refine Op ?_;refine fa (n:=n+F+1) (m:=7) (B:=B+(tB L-1)) (h.le (gG (by rw[eL,rY (KL c)]))) (by decide) fun r bX a E C=>?_;refine fF 3 rfl (fun q=>?_) fun q3=>?_
 .refine fa (n:=n+F+1) (m:=12) (B:=B) (E.le (eP (uz c) B)) (by decide) fun J Z M A g=>?_;have e:lE .shl Z (.int 1) (.int J)=D (.int (2^J:Nat),Z):=by show(if(decide ((0:Int)<=J)&&decide ((J:Int)<60)&&small 1)=Y then D (1*2^(J:Int).toNat)else I).map _=_;rw[aN (show(0:Int)<=J by exact aB 659464 rfl),aN (show(J:Int)<60 by exact ax 0x4281087820d009 rfl M),af (show(Y&&Y&&small 1)=Y from rfl),ie,Int.one_mul];show D (aa.int (2^J),Z)=D (aa.int ((2^J:Nat):Int),Z);rw[ZM];rfl
  apply p e;exact HG (n:=n+F) (O _ Z (Fs (xx (n:=13) (by decide) (ax 571265830913 rfl M)) U) A (C.trans g))
 refine fF 4 rfl (fun q=>?_) fun q4=>?_
 .clear z;obtain⟨m,s⟩:=K;have wl:aS md L (.mk (m&&&(m-1)) s):=by
   have u:=U.nm;have t:Nm (m&&&(m-1)):=⟨dL ux u.1,cJ (SH m u.1) u.2⟩;rcases L with _|L;.exact⟨t,U.2⟩
   exact⟨t,fun x e=>⟨⟨dL ux (U.2 x e).1.1,(U.2 x e).1.2⟩,(U.2 x e).2⟩⟩
  have:=O _ bX wl (E.le (bA 725635072 rfl)) C;show k (.ab [.int (ko (m:Int) ((m:Int)-1)),og s]) bX;rw[SI];exact this
 have H:CW (n+F+2) 134 [.ref nc,.ref ac,.int (2-L:Nat)] bX k:=by rw[show n+F+2=n+2+F by exact bA 0xa9a8001ab400002 rfl];exact b (E.le (B':=B+kB L) (eP (uz i) B)) fun K' Z w _ A g=>O K' Z w A (C.trans g)
 have same:k (aL K) bX:=O K bX U (E.le (bA 725635072 rfl)) C;have Q:br (decide ((r:Int)>4)) (CW (n+F+2) 134 [.ref nc,.ref ac,.int (2-L:Nat)] bX k) (k (aL K) bX):=bD (fun _=>H) fun _=>same;clear same;obtain⟨m,s⟩:=K;rcases s with _|x;.exact fF 5 rfl (fun q=>by clear a q3 q4 Q;subst q;exact H) fun _=>Q
 refine fF 5 rfl (fun q=>?_) fun _=>Q;rcases L with _|X;. (have h:=U.2;contradiction)
 have w:=U.2 x rfl;have d:=z x rfl;have ed:(((2-(X+1):Nat):Int)+1)=((2-X:Nat):Int):=(aI kt (mK l2)).symm;have tv:1+kB (X+1)+vB X=tB (X+1):=rfl;obtain⟨ps,sp,rest,v,j,fl⟩:=x;show CW (n+F+2) 138 [.ref nc,.ref ac,aF ⟨ps,sp,rest,v,j,fl⟩,.int (((2-(X+1):Nat):Int)+1)] bX _;rw[ed,show n+F+2=n+2+F by exact bA 0xa9a8001ab400002 rfl];have l1:ps.length<=1:=d.1;refine l X rfl (E.le (eP (uz (by rw[tv.symm,nA (vB X) 1];exact uy (b7 1 _) _)) B)) w.2 ⟨d.2.1,d.2.2⟩ (by show ps.length<=3;exact ax 193307332608 rfl d.1) fun y Z wy f A g=>?_;have f:y.ps.length<=ps.length+1:=f;exact O (.mk m (D y)) Z ⟨U.1,fun x' e=>by cases e;exact⟨⟨w.1.1,bh f (mj l1)⟩,wy⟩⟩ A (C.trans g)
end
structure Vr(md L N:Nat)(ps:List (Kd×Bool)):Prop where
wf:∀p∈ps,aS md L p.1
aq:fC ps=Y
len:ps.length<=N
structure Vo(md:Nat)(len sp:Nat)(rest:Option Nat):Prop where
le:sp<=len
nm:∀m,rest=D m->Nm m
pl:md=3->rest=I/\sp=len
def ry(p:Option (Int×Option Nat×Int)):Prop:=∀a q b,p=D (a,q,b)->-1<=a/\a<1/\0<=b/\b<2/\∀m,q=D m->Nm m
section
variable{wh:Bool}
noncomputable abbrev iz(nc ac L:Nat)(x:Sg)(sp:Nat)(rest:Option Nat)(Z:Kd)(X:Option (Int×Option Nat×Int))(U c rc:Nat)(wh:Bool)(cP dw cW c4 ej:Option aa):Lc:=[D (.ref nc),D (.ref ac),D (aF x),D (.int (2-L:Nat)),D (.ab (fA x.ps)),D (.int sp),D (eO rest),D (aL Z),D (dF X),D (.int U),D (.int c),D (.ref rc),D (.bool wh),cP,dw,cW,c4,ej]
theorem SJ(l2:L<=2)(i:N<=4)(tr:jg nc ac a1 md F L)(A:Vr md L N ps)(g:Vo md ps.length sp rest)(M:ry U)(j:H<8)(Q:aS md L Z)(nr:lX L Z)(hd:Dr nc ac a1 (B+(tB L+8)) σ)(K:σ[rc]?=D (.list (ps.map cw)))(u:rc≠ac)(hk:∀y X,bn md L y->y.ps.length<=N->Dr nc ac a1 B X->Fr [ac] σ X->k (aF y) X):wSs WD (CW (n+F+2)) (bw 10 gy) (iz nc ac L x sp rest Z U H c rc wh cP dw cW c4 ej) σ (kR k):=by
 have e2:n+F+2=n+2+F:=bA 0xa9a8001ab400002 rfl;have w:=A.len;rw[e2];refine tr (B:=B+8) (by rw[eL,nA 8];exact hd) Q nr fun Z bX Q d1 h=>?_;rw[e2.symm];have lt:(ps.map cw).length<av:=by rw[aJ];exact bZ 0xad0204542015001 rfl i w
 have ret:∀(Z:Kd)(U:Option (Int×Option Nat×Int))(H:Nat)X,aS md L Z->ry U->H<8->Dr nc ac a1 B X->Fr [ac] σ X->wSs WD (CW (n+F+2)) (bw 14 gy) (iz nc ac L x sp rest Z U H c rc wh cP dw cW c4 ej) X (kR k):=fun Z U H X Q M j d f=>by apply p (wu (f _ _ K (fun q=>u (aZ.mp q))) lt);rw[kg.symm];exact hk ⟨ps,sp,rest,Z,U,H⟩ X ⟨⟨g.pl,by show ps.length<=4;exact bZ 0xad0204542045000 rfl i w,g.le,A.aq,g.nm,M,j⟩,A.wf,Q⟩ w d f
 have a:∀(Z:Kd)(U:Option (Int×Option Nat×Int))X,aS md L Z->ry U->Dr nc ac a1 (B+2) X->Fr [ac] σ X->wSs WD (CW (n+F+2)) (bw 13 gy) (iz nc ac L x sp rest Z U H c rc wh cP dw cW c4 ej) X (kR k):=fun Z U X Q M d f=>by
  refine fa (n:=n+F+1) (m:=3) d (by decide) fun r J hr E C=>?_;refine fF 2 rfl (fun q=>?_) fun _=>ret Z U H J Q M j (E.le (aB 188764160 rfl)) (f.trans C);refine fa (n:=n+F+1) (m:=3) E (by decide) fun r2 O v z t=>?_;have s:∃H:Nat,H<8/\cY O (.ab [.int 0,.int 1,.int 4]) (.int r2)=D (.int H):=by
   induction r2,v using yy;.exact⟨0,by decide,rfl⟩
   .exact⟨1,by decide,rfl⟩
   .exact⟨4,by decide,rfl⟩
  obtain⟨b,h1,e⟩:=s;apply o e;exact ret Z U b O Q M h1 z (f.trans (C.trans t))
 have s2:∀(Z:Kd)X,aS md L Z->Dr nc ac a1 (B+6) X->Fr [ac] σ X->wSs WD (CW (n+F+2)) (bw 12 gy) (iz nc ac L x sp rest Z U H c rc wh cP dw cW c4 ej) X (kR k):=fun Z X Q d f=>by refine fa (n:=n+F+1) (m:=4) d (by decide) fun r J hr E C=>?_;refine fF 3 rfl (fun q=>?_) fun _=>a Z U J Q M (E.le (aB 330719428608 rfl)) (f.trans C);exact HV (n:=n+F) (E.le (B':=B+2+3) (aB 338657319845888 rfl)) fun p' O l z t=>a Z p' O Q l z (f.trans (C.trans t))
 refine fa (n:=n+F+1) (m:=5) (d1.le (B':=B+6+1) (aB 444208422846464 rfl)) (by decide) fun r J hr E C=>?_;refine fF 4 rfl (fun q=>?_) fun _=>s2 Z J Q E (h.trans C);exact s2 (.mk 1024 I) J (mZ (by exact⟨by decide,by decide⟩)) E (h.trans C)
end
theorem SK:∀{ps Z:List (Kd×Bool)},fC (ps++Z)=Y->fC ps=true:=by intro ps;induction ps with|nil=>intro _ _;exact rfl|cons X r U=>
obtain⟨K,o1⟩:=X;intro Z h;have h:((!o1||(r++Z).all (·.2))&&fC (r++Z))=true:=h;rw[gH,BI]at h;show((!o1||r.all (·.2))&&fC r)=Y;rw[U h.2,lj];have:=h.1;rcases o1 with _|_;.rfl
exact(eK.mp this).1
theorem SL:∀{ps:List (Kd×Bool)},fC ps=Y->((∃p∈ps,p.2=Y)->o1=Y)->fC (ps++[(K,o1)])=true:=by intro ps;induction ps with|nil=>intro _ _;cases o1<;>rfl|cons X r U=>
obtain⟨H,o2⟩:=X;intro h Z;have h:((!o2||r.all (·.2))&&fC r)=true:=h;rw[gH]at h;show((!o2||(r++[(K,o1)]).all (·.2))&&fC (r++[(K,o1)]))=Y;rw[U h.2 (by rintro⟨p,a,b⟩;exact Z ⟨p,cH _ a,b⟩),lj,BI];rcases o2 with _|_;.rfl
have J:r.all (·.2)=true:=h.1;rw[J,Z ⟨_,aV,rfl⟩];rfl
theorem SM:∀{ps:List (Kd×Bool)}{q:Kd×Bool},fC (ps++[q])=Y->q.2=ai->∀p∈ps++[q],p.2=false:=by intro ps;induction ps with|nil=>intro q _ h p Z;rw[aZ.mp Z];exact h|cons U r J=>
  obtain⟨K,o1⟩:=U;intro q h X p Z;have h:((!o1||(r++[q]).all (·.2))&&fC (r++[q]))=true:=h;rw[gH]at h;rcases cc.mp Z with rfl|Z
  .rcases o1 with _|_;.rfl
   have:=fQ.mp (h.1) q (jP _ aV);rw[X]at this;cases this
  .exact J h.2 X p Z
theorem SN(h:σ[i]?=D (.list l))(Z:l.length<av):qD σ (.ref i) .none (.int (-1))=D (.ref σ.length,σ++[.list l.dropLast]):=by
 have e:dS l .none (.int (-1))=D l.dropLast:=by unfold dS;rw[af Z];show D ((l.take ((-1:Int)+l.length).toNat).drop 0)=_;rw[uD,BY,yw]
 show(match σ[i]? with|some (.list xs)=>_|_=>I)=_;rw[h];show(match dS l _ _ with|some r=>_|none=>I)=_;rw[e]
section
variable{wh:Bool}
theorem SO(l2:L<=2)(hN:N<=4)(v:md=3->a1≠0)(tr:jg nc ac a1 md F L)(t0:jg nc ac a1 md F 0)(k0:jG nc ac a1 md F 0)(hv:Vr md L N ps)(i:∀m,rest=D m->Nm m)(C:md=3->rest=I/\wh=Y)(hp:ry g)(hf:j<8)(wr:aS md L U)(nr:lX L U)(t:Dr nc ac a1 (B+(tB L+11)) σ)(Q:σ[rc]?=D (.list (ps.map cw)))(s:rc≠ac)(hk:∀y Z,bn md L y->y.ps.length<=N->Dr nc ac a1 B Z->Fr [ac] σ Z->k (aF y) Z):wSs WD (CW (n+F+2)) (bw 7 gy) (iz nc ac L x sp rest U g j c rc wh cP dw cW c4 ej) σ (kR k):=by
 have e2:n+F+2=n+2+F:=bA 0xa9a8001ab400002 rfl;have O:rc∉[ac]:=fun q=>s (aZ.mp q);have lt:(ps.map cw).length<av:=by rw[aJ];exact bZ 0xad0204542015001 rfl hN (hv.len)
 have el:(ps.map cw).length=ps.length:=aJ _;have a:∀(rest:Option Nat)Z,(∀m,rest=D m->Nm m)->(md=3->rest=I)->Dr nc ac a1 (B+(tB L+9)) Z->Fr [ac] σ Z->wSs WD (CW (n+F+2)) (bw 8 gy) (iz nc ac L x sp rest U g j c rc wh cP dw cW c4 ej) Z (kR k):=fun rest Z i SP d f=>by
  have J:=f _ _ Q O;have s9:∀gE,gE<=ps.length->(md=3->gE=ps.length)->wSs WD (CW (n+F+2)) (bw 9 gy) (iz nc ac L x gE rest U g j c rc wh cP dw cW c4 ej) Z (kR k):=fun gE u h3=>by have M:∀gE X,gE<=ps.length->(md=3->gE=ps.length)->Dr nc ac a1 (B+(tB L+8)) X->Fr [ac] σ X->wSs WD (CW (n+F+2)) (bw 10 gy) (iz nc ac L x gE rest U g j c rc wh cP dw cW c4 ej) X (kR k):=fun gE X u h3 d f=>SJ l2 hN tr hv ⟨u,i,fun q=>⟨SP q,h3 q⟩⟩ hp hf wr nr d (f _ _ Q O) s fun y eb wy ly d3 f3=>hk y eb wy ly d3 (f.trans f3);refine fF 4 rfl (fun q=>?_) fun _=>M gE Z u h3 (d.le (bA 0x6d414032a0a0000 rfl)) f;apply o (Ao d);refine fF 0 rfl (fun q0=>?_) fun _=>M gE Z u h3 (d.le (bA 0x6d414032a0a0000 rfl)) f;apply p ((du J lt).trans (by rw[el]));refine fa (n:=n+F+1) (m:=ps.length+1) (B:=B+(tB L+8)) d (fe _) fun r H H1 b l=>?_;exact M r H (aC 0xb505021ad000 rfl H1) (fun q=>ae q0 (v q)) b (f.trans l)
  rcases wh with _|_
  .apply p ((du J lt).trans (by rw[el]));have n3:md≠3:=fun q=>(by have h:=(C q).2;contradiction);have hz:∃gE:Nat,gE<=ps.length/\(if((ps.length:Nat):Int)<(sp:Nat)then((ps.length:Nat):Int)else(sp:Nat))=gE:=by
    by_cases q:((ps.length:Nat):Int)<(sp:Nat);.exact⟨ps.length,aE _,af q⟩
    .exact⟨sp,aC 709791240192 rfl q,am q⟩
   refine cps fun P hP=>?_;obtain⟨gE,u,h2⟩:=hz;refine hP ?_;have key:∀z:Int,z=(gE:Nat)->wSs WD (CW (n+F+2)) (bw 9 gy) [D (.ref nc),D (.ref ac),D (aF x),D (.int (2-L:Nat)),D (.ab (fA x.ps)),D (.int z),D (eO rest),D (aL U),D (dF g),D (.int j),D (.int c),D (.ref rc),D (.bool ai),cP,dw,cW,c4,ej] Z (kR k):=fun z e=>by subst e;exact s9 gE u fun q=>ae q n3
   exact key _ h2
  apply p ((du J lt).trans (by rw[el]));exact s9 ps.length (aE _) fun _=>rfl
 have E:∀{Z},Dr nc ac a1 (B+(tB L+11)) Z->Fr [ac] σ Z->wSs WD (CW (n+F+2)) (.cons (.ifs (.ex (.dz ai (.var 6))) (.cons (.an (.ag 6) (.call 137 (.cons (.var 0) (.cons (.var 1) (.cons (.var 6) (.cons (.lit (.int 2)) .nil)))))) .nil) .nil) .nil) (iz nc ac L x sp rest U g j c rc wh cP dw cW c4 ej) Z (kS (wSs WD (CW (n+F+2)) (bw 8 gy)) (kR k)):=fun{Z}d f=>by
  rcases rest with _|m;.exact a I Z i (fun q=>(C q).1) (d.le (bA 0x7d414036a0a0000 rfl)) f
  rw[e2];refine t0 (K:=.mk m I) (B:=B+(tB L+9)) d ⟨i m rfl,rfl⟩ trivial fun K' H w b l=>?_;rw[e2.symm];obtain⟨m',s'⟩:=K';obtain⟨A,rfl⟩:=w;exact a (D m') H (fun m e=>by cases e;exact A) (fun q=>(by have h:=(C q).1;contradiction)) b (f.trans l)
 refine fF 3 rfl (fun q=>?_) fun _=>E t .rfl;apply o (Ao t);refine fF 0 rfl (fun q0=>?_) fun _=>E t .rfl;have n3:md≠3:=fun q=>v q q0;rcases rest with _|m;.rw[e2];refine k0 (B:=B+(tB L+10)) t fun K H w _ b l=>?_;rw[e2.symm];obtain⟨m',s'⟩:=K;obtain⟨A,rfl⟩:=w;exact a (D m') H (fun m e=>by cases e;exact A) (fun q=>ae q n3) (b.le (bA 0x75414036a0a0000 rfl)) l
 exact a I σ (fun _ e=>nomatch e) (fun _=>rfl) (t.le (bA 0x7d414036a0a0000 rfl)) .rfl
end
section
variable{wh:Bool}
theorem Fr.fO(f:Fr [i] σ Z)(h:i<Z.length):σ.length<=Z.length:=f.len fun j X=>by rw[aZ.mp X];exact h
theorem SQ(l2:L<=2)(hN:N<=4)(Aq:md=3->a1≠0)(tr:jg nc ac a1 md F L)(t0:jg nc ac a1 md F 0)(k0:jG nc ac a1 md F 0)(X:Vr md L N ps)(h1:ps.length+1<=N)(hr:∀m,rest=D m->Nm m)(sL:md=3->rest=I/\wh=Y)(E:ry b)(hf:l<8)(wr:aS md L O)(nr:lX L O)(hd:Dr nc ac a1 (B+(tB L+14)) σ)(Z:σ[rc]?=D (.list (ps.map cw)))(H:rc≠ac)(SS:rc≠nc)(ST:rc≠0)(hk:∀y au,bn md L y->y.ps.length<=N->Dr nc ac a1 B au->Fr [ac,rc] σ au->k (aF y) au):wSs WD (CW (n+F+2)) (bw 4 gy) (iz nc ac L x sp rest O b l c rc wh I I cW c4 I) σ (kR k):=by
 have e2:n+F+2=n+2+F:=bA 0xa9a8001ab400002 rfl;have hl:=X.len;have M:(ps.map cw).length<av:=by rw[aJ];exact bZ 0x2a5a00204542015001 rfl hN h1
 have a:(ps.map cw).length=ps.length:=aJ _;have Aw:∀{ps:List (Kd×Bool)}{J au cP dw ej},Vr md L N ps->Dr nc ac a1 (B+(tB L+11)) au->au[J]?=D (.list (ps.map cw))->J≠ac->Fr [ac,rc] σ au->wSs WD (CW (n+F+2)) (bw 7 gy) (iz nc ac L x sp rest O b l c J wh cP dw cW c4 ej) au (kR k):=fun{ps J au cP dw ej}X d Z H f=>SO l2 hN Aq tr t0 k0 X hr sL E hf wr nr d Z H fun y w wy ly d2 s=>hk y w wy ly d2 (f.trans (s.aq fun i hi=>by rw[aZ.mp hi];exact aV));have s6:∀{ps:List (Kd×Bool)}{J au cP},Vr md L N ps->Dr nc ac a1 (B+(tB L+12)) au->au[J]?=D (.list (ps.map cw))->J≠ac->Fr [ac,rc] σ au->wSs WD (CW (n+F+2)) (bw 6 gy) (iz nc ac L x sp rest O b l c J wh cP I cW c4 I) au (kR k):=fun{ps J au cP}X d Z H f=>by
  have M:(ps.map cw).length<av:=by have:=X.len;rw[aJ];exact bZ 0xad0204542015001 rfl hN this
  have a:(ps.map cw).length=ps.length:=aJ _;refine fF 2 rfl (fun q=>?_) fun _=>Aw X (d.le (bA 0x8541403ea0a0000 rfl)) Z H f;apply p ((du Z M).trans (by rw[a]));refine fa (n:=n+F+1) (m:=ps.length+1) (B:=B+(tB L+11)) d (fe _) fun r w H1 d2 s=>?_;have A:=s _ _ Z (fun q=>H (aZ.mp q));apply p ((du A M).trans (by rw[a]));have l4:=X.len;refine⟨by rw[jx (i:=ps.length) (bZ 0xad0204542015001 rfl hN l4),aN (by exact bZ 0x15a0408a841e848040d009 rfl hN l4)];rfl,?_⟩;rw[ie];have ai0:∀i:Nat,(fun i=>aa.int (kt i)) i=.int (i:Nat):=fun _=>rfl;refine wi (fun i:Nat=>aa.int (kt i)) (fun _=>Y) (fun i=>cw ((match ps[i]? with|some p=>p.1|none=>.mk 0 I),decide (r<=i))) (fun lc=>∃v,lc=iz nc ac L x sp rest O b l c J wh cP (D (.int r)) cW c4 v) ⟨I,rfl⟩ ?_ ?_
  .rintro i hi lc U u⟨v,rfl⟩;have hi:i<ps.length:=BM.mp hi;have g:ps[i]?=D ps[i]:=dK hi;refine⟨_,rfl,⟨_,rfl⟩,fun kb hb=>hb,fun _ dZ X=>?_⟩;have Q:=u _ _ A bJ;apply o ((hU (d:=.int i) Q).trans (gJ (by rw[gp,g];rfl) M));have X:=X U .rfl;rw[g]at X;generalize ps[i]=p at X;obtain⟨K,o1⟩:=p;refine bD (fun q=>?_) fun q=>?_;.have q:i<r:=cv.mp q;rw[bQ (xz.mpr q)]at X;exact X
   .have q:¬i<r:=fun h=>q (cv.mpr h);rw[aN (hE.mp q)]at X;exact X
  .intro U u;rw[z7];have em:((iW ps.length).map fun i=>cw ((match ps[i]? with|some p=>p.1|none=>.mk 0 I),decide (r<=i)))=((iW ps.length).map fun i=>((match ps[i]? with|some p=>p.1|none=>Kd.mk 0 I),decide (r<=i))).map cw:=by rw[BL];rfl
   rw[em];refine Aw ⟨fun p E=>?_,HT (t:=r) fun i q e=>?_,by rw[aJ,Li];exact l4⟩ ((d2.fV u).fV .new) aR ?_ (f.trans ((s.aq fun i hi=>by rw[aZ.mp hi];exact aV).trans (u.nil.trans .new)));.obtain⟨i,hi,rfl⟩:=g7.mp E;have hi:=BM.mp hi;rw[dK hi];exact X.wf ps[i] (xI hi)
   .rw[gp]at e;rcases hi:(iW ps.length)[i]? with _|j;.rw[hi]at e;cases e
    rw[hi]at e;have:=(bo.mp hi);obtain⟨h1,h2⟩:=this;rw[List.getElem_range]at h2;clear hi;subst h2;cases e;rfl
   .have:=(d2.fV u).lt;exact aC 709778657286 rfl this
 have SU:rc∉[ac]:=fun q=>H (aZ.mp q);have fm:∀{au},Fr [ac] σ au->Fr [ac,rc] σ au:=fun f=>f.aq fun i hi=>by rw[aZ.mp hi];exact aV
 have s5:wSs WD (CW (n+F+2)) (bw 5 gy) (iz nc ac L x sp rest O b l c rc wh I I cW c4 I) σ (kR k):=by
  refine fF 1 rfl (fun q=>?_) fun _=>s6 X (hd.le (bA 0x95414042a0a0000 rfl)) Z H .rfl;apply p ((du Z M).trans (by rw[a]));have cm:∀(z:Bool),((∃p∈ps,p.2=Y)->z=Y)->wSs WD (CW (n+F+2)) (bw 1 (tL (bw 5 gy))) (iz nc ac L x sp rest O b l c rc wh (D (eB z)) I cW c4 I) σ (kS (wSs WD (CW (n+F+2)) (bw 6 gy)) (kR k)):=fun z hz=>by
   rw[e2];refine k0 (B:=B+(tB L+13)) hd fun K w wk _ d2 s=>?_;rw[e2.symm];have iS:∀(o1:Bool)U,(z=Y->o1=Y)->Dr nc ac a1 (B+(tB L+12)) U->Fr [ac] σ U->dr WD (CW (n+F+2)) 0 rc σ U [cw (K,o1)] fun d σ=>br (iK d) (wSs WD (CW (n+F+2)) (bw 6 gy) (iz nc ac L x sp rest O b l c rc wh (D (eB z)) I cW c4 I) σ (kR k)) False:=fun o1 U ho d3 u=>by
    have Q:=u _ _ Z SU;apply o Z;apply o (ez Q);apply p (gz (v:=cw (K,o1)) M ST);have em:ps.map cw++[cw (K,o1)]=(ps++[(K,o1)]).map cw:=by rw[g8];rfl
    rw[em];have fs:Fr [rc] U (U.set rc (.list ((ps++[(K,o1)]).map cw))):=Fr.rfl.set aV;refine s6 ⟨fun p E=>?_,SL X.aq fun h=>ho (hz h),by rw[aT];exact h1⟩ (d3.fr fs (fun q=>SS (aZ.mp q).symm) fun q=>H (aZ.mp q).symm) (eV Q) H ((fm u).trans (fs.aq fun i hi=>by rw[aZ.mp hi];exact cH _ aV));rcases dH.mp E with E|E;.exact X.wf p E
    .rw[aZ.mp E];exact wk.aq (bP L)
   rcases z with _|_
   .refine fa (n:=n+F+1) (m:=2) (B:=B+(tB L+12)) d2 (by decide) fun r U rd d3 u=>?_;induction r,rd using yx;.exact iS ai U (fun q=>nomatch q) d3 (s.trans u)
    .exact iS Y U (fun _=>rfl) d3 (s.trans u)
   exact iS Y w (fun _=>rfl) (d2.le (bA 0x8d414042a0a0000 rfl)) s
  by_cases q0:ps=[];.clear X h1 Z hl M a;subst q0;exact cm ai (by rintro⟨p,E,_⟩;exact ae E bJ)
  .clear h1 hl a;obtain⟨C,q',rfl⟩:E2 fun C q'=>ps=C++[q']:=⟨ps.dropLast,ps.getLast q0,(BO q0).symm⟩;refine bt (show kH .gt (((C++[q']).length:Nat):Int) 0=Y from aN (by rw[aT];show((C.length+1:Nat):Int)>0;exact aB 188747785 rfl)) ?_;have em:(C++[q']).map cw=C.map cw++[cw q']:=by rw[g8];rfl
   apply o ((hU (d:=.int (-1)) Z).trans (by rw[em]at M⊢;exact kW M));obtain⟨K',o'⟩:=q';refine cm o' ?_;rintro⟨p,E,H3⟩;rcases o' with _|_;.rw[SM X.aq rfl p E]at H3;cases H3
   rfl
 refine fF 0 rfl (fun q=>?_) fun _=>s5;apply p ((du Z M).trans (by rw[a]));refine bD (fun q2=>?_) fun _=>s5;apply p (SN Z M);clear Aw s5;subst q;have em:(ps.map cw).dropLast=ps.dropLast.map cw:=List.map_dropLast.symm;rw[em];have pre:ps=ps.dropLast++[ps.getLast (fun q=>by rw[q]at q2;exact ae q2 (by decide))]:=(BO _).symm;have zW:Vr md L N ps.dropLast:=⟨fun p E=>X.wf p (ZF _ E),SK (pre▸X.aq),by rw[ZG];exact bh (qj _ _) X.len⟩;exact s6 zW ((hd.fV .new).le (bA 0x95414042a0a0000 rfl)) aR (by have:=hd.lt;exact aC 709778657286 rfl this) .new
end
section
theorem Ax(l2:L<=2)(t:md=3->a1≠0)(tr:jg nc ac a1 md F L)(t0:jg nc ac a1 md F 0)(k0:jG nc ac a1 md F 0):Au nc ac a1 md (F+3) L:=by
 intro n B σ k x h O w A s;have e2:n+F+2=n+2+F:=bA 0xa9a8001ab400002 rfl;have pl:=O.1.pl;have Z:=O.1.rest;have X:ry x.pred:=O.1.pred;have C:=O.1.fl;have U:=O.1.aq;have hx:aF x=.ab [.ab (fA x.ps),.int x.sp,eO x.rest,aL x.res,dF x.pred,.int x.fl]:=by clear O w A s pl Z X C U;obtain⟨_,_,_,_,_,_⟩:=x;rfl
 show CW (n+F+3) 138 _ _ _;refine Oq ?_;refine o (v:=[D (.ref nc),D (.ref ac),D (aF x),D (.int (2-L:Nat)),D (.ab (fA x.ps)),D (.int x.sp),D (eO x.rest),D (aL x.res),D (dF x.pred),D (.int x.fl),I,I,I,I,I,I,I,I]) (by clear O w A s pl Z X C U hx;obtain⟨_,_,_,_,_,_⟩:=x;rfl) ?_;refine fa (n:=n+F+1) (m:=8) (B:=B+(4*tB L+19)) h (by decide) fun c bX hc d1 f1=>?_;have lt:(fA x.ps).length<av:=by rw[kg,aJ];exact ax 262026645505 rfl A
 apply o (hW lt);have tb:x.ps.length*tB L<=3*tB L:=ut _ A;refine qS (g:=I) (fun a r lc j=>E4 fun cW c4 Q q=>A8 (lc=[D (.ref nc),D (.ref ac),D (aF x),D (.int (2-L:Nat)),D (.ab (fA x.ps)),D (.int x.sp),D (eO x.rest),D (aL x.res),D (dF x.pred),D (.int x.fl),D (.int c),I,I,I,I,cW,c4,I]) (r=q.map cw) (a=Q.map cw) (∀p∈q,p∈x.ps) (Q.map (·.2)++q.map (·.2)=x.ps.map (·.2)) (∀p∈Q,aS md L p.1) (Dr nc ac a1 (B+(tB L+14)+q.length*tB L) j) (Fr [ac] σ j)) (fun _ _ _ _ _=>trivial) ?_ ?_ ⟨I,I,[],x.ps,rfl,kg,rfl,fun _ h=>h,rfl,fun _ q=>ae q bJ,d1.le (by exact c5 0xa8c76082610d483050169541400000 rfl tb),f1⟩;.rintro a lc H⟨cW,c4,Q,q,rfl,f,rfl,_,u,b,E,z⟩;induction q using eQ with|cons=>cases f|nil=>
  rw[uA,bK]at u;rw[List.length_nil,rW,Lf]at E;have J:Q.length=x.ps.length:=by have:=aI r6 u;rw[aJ,aJ]at this;exact this
  have l:(Q.map cw).length<av:=by rw[aJ,J];exact ax 262026645505 rfl A
  have SV:H.length≠ac:=by have:=E.lt;exact aC 709778657286 rfl this
  have SW:H.length≠nc:=fun e=>by refine cps fun P hP=>?_;obtain⟨ns,a,_⟩:=E.p5;refine hP ?_;have:=(bo.mp a).1;exact bZ 0xa5421ad02221003 rfl e this
  have SX:H.length≠0:=fun e=>by have:=E.lt;exact bZ 0xa54212502221003 rfl e this
  have hn:σ[H.length]?=none:=jp (z.fO E.lt);have d3:=E.fV (Fr.new (g:=[AO.list (Q.map cw)]));have f3:Fr [ac] σ (H++[.list (Q.map cw)]):=z.trans .new;apply p ((du aR l).trans (by rw[aJ,J]));have fk:=fun wh(SY:md=3->wh=Y)=>SQ (x:=x) (sp:=x.sp) (c:=c) (wh:=wh) (cW:=I) (c4:=I) (N:=x.ps.length+1) (n:=n) l2 (ax 0xf408105a0000 rfl A) t tr t0 k0 ⟨b,(HU u).trans U,aC 760898743455744 rfl J⟩ (aC 0xad0222d405a0000 rfl J) Z (fun q=>⟨(pl q).1,SY q⟩) X C O.2.2 w.2 d3 aR SV SW SX fun y jd wy ly d4 f4=>s y jd wy ly d4 fun i ob hi ni=>by
   have:=f3 i ob hi ni;refine f4 i ob this fun q=>?_;rcases cc.mp q with q|q;.exact ni (by rw[q];exact aV)
   .rw[aZ.mp q,hn]at hi;cases hi
  refine o (rfl:nW _ _ _ _=D _) ?_;refine o (rfl:fi _ _ _=D _) ?_;exact fk (decide ((x.sp:Int)=(x.ps.length:Nat))) fun q=>aN (by rw[(pl q).2])
 .rintro d r a lc H K⟨cW,c4,Q,q,rfl,f,rfl,hq,u,b,E,z⟩hK;rcases q with _|⟨y,q⟩;.cases f
  cases f;obtain⟨Ky,oy⟩:=y;have hy:=hq _ aV;rw[iF,oU,rX,<-eL]at E;rw[e2];refine tr E (O.2.1 _ hy) (w.1 _ hy) fun K' eb w3 d3 f3=>?_;refine hK _ _ _ ⟨_,_,Q++[(K',oy)],q,rfl,rfl,by rw[g8];rfl,fun p M=>hq p (cH _ M),by rw[u.symm,g8,dx];rfl,fun p M=>?_,d3,z.trans f3⟩;rcases dH.mp M with M|M;.exact b p M
  .rw[aZ.mp M];exact w3
end
section
theorem jG.up(h:jG nc ac a1 md F L)(l:F<=Z):jG nc ac a1 md Z L:=by intro n B σ k X U;obtain⟨d,rfl⟩:=ZN l;rw[show n+(F+d)=n+d+F by exact fy 0xada8005aa0a0002 rfl];exact h X U
theorem jg.up(h:jg nc ac a1 md F L)(l:F<=Z):jg nc ac a1 md Z L:=by intro n B σ k K X U J H;obtain⟨d,rfl⟩:=ZN l;rw[show n+(F+d)=n+d+F by exact fy 0xada8005aa0a0002 rfl];exact h X U J H
theorem SZ(Z:md=3->a1≠0):Am nc ac a1 md 15 2/\Au nc ac a1 md 24 2:=by
 have X:jG nc ac a1 md 2 0:=An (F:=0) (by decide) fun _ q=>nomatch q;have H:jG nc ac a1 md 7 1:=An (by decide) fun J q=>by cases q;exact(Ap (by decide) Z X X)
 have k2:jG nc ac a1 md 12 2:=An (by decide) fun J q=>by cases q;exact(Ap (by decide) Z H (X.up (by decide)))
 have U:jg nc ac a1 md 5 0:=Av (by decide) X fun _ q=>nomatch q;have t1:jg nc ac a1 md 11 1:=Av (F:=8) (by decide) (H.up (by decide)) fun J q=>by cases q;exact(Ax (by decide) Z U U (X.up (by decide)))
 have Q:jg nc ac a1 md 17 2:=Av (F:=14) (by decide) (k2.up (by decide)) fun J q=>by cases q;exact(Ax (by decide) Z t1 (U.up (by decide)) (X.up (by decide)))
 refine⟨(Ap (by decide) Z k2 (X.up (by decide))),?_⟩;intro n B σ k x O E C M L;exact(Ax (by decide) Z Q (U.up (by decide)) (X.up (by decide))) (n:=n+4) O E C M L
end
structure Tw(t:Nat)(T:List aa)(σ:AH):Prop where
ct:σ[t]?=D (.bj 4 [(6,.ref (t+1)),(16,.ref (t+2)),(15,.ref (t+3)),(14,.ref (t+4)),(13,.ref (t+5)),(12,.ref (t+6)),(11,.ref (t+7)),(10,.ref (t+8)),(9,.int 0),(8,.int 0)])cr:σ[t+1]?=D (.list T)cx:σ[t+2]?=D (.dict (dU 0 T))len:T.length<av
jw:T.all (fun r=>eF r&&cg r==2)=Y
section
theorem S6(h:Tw t T σ)(U:eF row=Y)(J:cg row=2)(H:b9 (dU 0 T) row=I)(E:T.length+1<av)(C:∀(z:Int)Z,Tw t (T++[row]) Z->Fr [t+1,t+2] σ Z->k (.int z) Z):dr WD (CW (n+1)) 7 t σ σ [row] k:=by
 apply o h.ct;refine⟨rfl,?_⟩;have X:dc (dU 0 T) row=true:=by unfold dc;rw[Fk (q:=fun d=>cg d==cg row),U,J];exact eK.mpr ⟨rfl,fQ.mpr fun x M=>(eK.mp (fQ.mp h.jw x M)).2⟩
 refine El ?_;apply o (fK (f:=16) h.ct rfl rfl);apply o (pp h.cx X);rw[H];apply o (fK (f:=6) h.ct rfl rfl);apply p (du h.cr h.len);apply o (fK (f:=6) h.ct rfl rfl);apply o h.cr;apply o (ez h.cr);apply p (gz (v:=row) h.len (xK t));have Q:=bl (o':=.list (T++[row])) h.ct (show t+1≠t by exact aB 676986886 rfl);have O:=bl (o':=.list (T++[row])) h.cx (show t+1≠t+2 by exact aB 227639164950 rfl);apply o (fK (f:=16) Q rfl rfl);apply o ((mN (v:=.int T.length) O X (by rw[Fj];exact h.len) (xK _)).trans (by rw[Fh H,<-gk T.length,<-Fi]));refine C T.length _ ⟨bl Q (aB 678035462 rfl),bl (eV (o':=.list (T++[row])) h.cr) (aB 193280475142 rfl),eV O,by rw[aT];exact E,?_⟩ ((Fr.rfl.set aV).set (cH _ aV));rw[BI,h.jw];show((eF row&&cg row==2)&&Y)=Y;rw[U,J];rfl
theorem H4:cG.Nodup:=by show ZO (·≠·) cG;exact(by decide+kernel:ZO (·≠·) cG)
theorem S7:∀r∈cG,eF r=Y/\cg r=2:=by decide+kernel
theorem S8:ms cG=4:=by decide+kernel
theorem rz{l:AH}:(σ++l)[σ.length+j]?=l[j]?:=by rw[jN (b7 _ _),xE]
theorem Ay{fs:List (Nat×aa)}(X:(WD.gx c f&&decide (fs.length<500))=Y)(U:0<σ.length):pb WD (σ++.bj c fs::Z) (.ref σ.length) f v=D (σ++.bj c (iI fs f v)::Z):=by rw[vc (σ:=σ++.bj c fs::Z) (i:=σ.length) (c:=c) (fs:=fs) (rz (j:=0)) X (ax 691524489222 rfl U),KQ _ _ (aE _),jO];rfl
theorem jh(X:lc[0]?=D (D (.ref σ.length)))(U:(WD.gx c f&&decide (fs.length<500))=Y)(J:0<σ.length)(H:∀(σ:AH)(k:Po),k (.ref σ.length) (σ++[x])->wE WD K e lc σ k)(Q:aw.kn lc (σ++.bj c (iI fs f (.ref (σ.length+(Z.length+1))))::(Z++[x]))):wS WD K (.cS (.var 0) f e) lc (σ++.bj c fs::Z) aw:=by
 refine H _ _ ?_;show gL lc[0]? _;rw[X];have e1:(σ++AO.bj c fs::Z)++[x]=σ++AO.bj c fs::(Z++[x]):=by rw[dx];rfl
 have e2:(σ++AO.bj c fs::Z).length=σ.length+(Z.length+1):=by rw[aT,iF]
 rw[e1,e2];exact o (Ay U J) Q
theorem jH(Z:lc[0]?=D (D (.ref σ.length)))(X:(WD.gx c f&&decide (fs.length<500))=Y)(U:0<σ.length)(J:∀(σ:AH)(k:Po),k v σ->wE WD K e lc σ k)(H:aw.kn lc (σ++.bj c (iI fs f v)::Q)):wS WD K (.cS (.var 0) f e) lc (σ++.bj c fs::Q) aw:=by refine J _ _ ?_;show gL lc[0]? _;rw[Z];exact o (Ay X U) H
theorem S9(X:0<σ.length)(M:∀Z,Tw σ.length cG Z->Fr [] σ Z->σ.length+8<Z.length->k (.ref σ.length) Z):lI WD (CW (n+3)) 4 [] σ k:=by
 refine Nl ?_;refine jh (x:=.list []) rfl rfl X (fun _ _ h=>h) ?_;refine jh (x:=.dict []) rfl rfl X (fun _ _ h=>h) ?_;refine jh (x:=.list [.none]) rfl rfl X (fun _ _ h=>h) ?_;refine jh (x:=.list []) rfl rfl X (fun _ _ h=>h) ?_;refine jh (x:=.list []) rfl rfl X (fun _ _ h=>h) ?_;refine jh (x:=.list []) rfl rfl X (fun _ _ h=>h) ?_;refine jh (x:=.dict []) rfl rfl X (fun _ _ h=>h) ?_;refine jh (x:=.dict []) rfl rfl X (fun _ _ h=>h) ?_;refine jH (v:=.int 0) rfl rfl X (fun _ _ h=>h) ?_;refine jH (v:=.int 0) rfl rfl X (fun _ _ h=>h) ?_;have L:cG.length<av:=by decide
 refine j4 (g:=I) (fun r lc Z=>E2 fun U dn=>A5 (cG=dn++r) (lc=[D (.ref σ.length),U]) (Tw σ.length dn Z) (Fr [] σ Z) (σ.length+8<Z.length)) (fun _ _ _ _=>trivial) ?_ ?_ ⟨I,[],rfl,rfl,⟨rz (j:=0),rz (j:=1),rz (j:=2),by decide,rfl⟩,.new,by rw[aT];exact Nat.add_lt_add_left (show 8<9 by decide) _⟩;.rintro lc Z⟨U,dn,e,rfl,h,f,J⟩;rw[bK]at e;subst e;exact M Z h f J
 .rintro x r lc Z K⟨U,dn,e,rfl,h,f,J⟩A;have O:=S7 x (by rw[e];exact jP _ aV);have nd:=H4;rw[e]at nd;have d:x∉dn:=fun q=>(oW.mp nd).2.2 x q x aV rfl;have H:dn.length+1<av:=by have:=aI r6 e;rw[aT,iF,show cG.length=16 from rfl]at this;exact aC 0x2d414040210c845a0001 rfl this
  have u:b9 (dU 0 dn) x=none:=by
   rcases w:b9 (dU 0 dn) x with _|v;.rfl
   obtain⟨j,m,_⟩:=yD w;exact ae (jR m) d
  refine o (rfl:fi _ _ _=D _) ?_;show dr WD (CW (n+2)) 7 σ.length Z Z [x] _;refine S6 (n:=n+1) h O.1 O.2 u H fun z y Q E=>?_;refine A _ _ ⟨_,dn++[x],by rw[e,dx];rfl,rfl,Q,fun i C hi _=>E i C (f i C hi bJ) fun q=>?_,iX J (E.len fun i hi=>?_)⟩
  .have:=(bo.mp hi).1;rcases cc.mp q with q|q;.exact bZ 0xb505032ad02121003 rfl this q
   .exact bZ 0xd505032ad02121003 rfl this (aZ.mp q)
  .rcases cc.mp hi with q|q;.rw[q];exact(bo.mp Q.cr).1
   .rw[aZ.mp q];exact(bo.mp Q.cx).1
theorem Ta(h:Tw t cG σ)(X:0<σ.length)(J:20+b<av)(H:∀A Z,Tb A b cG Z->A.az=t->A.r=t+1/\A.ix=t+2/\A.bd=σ.length->A.az<Z.length/\A.r<Z.length/\A.ix<Z.length/\A.bd<Z.length->Fr [] σ Z->k (.ref σ.length) Z):lI WD (CW (n+1)) 5 [.ref t] σ k:=by refine ND ?_;refine jH (v:=.ref t) rfl rfl X (fun _ _ h=>h) ?_;refine jH (v:=.int 0) rfl rfl X (fun _ _ h=>h) ?_;refine jH (v:=.int 200) rfl rfl X (fun _ _ h=>h) ?_;refine jH (v:=.int 40) rfl rfl X (fun _ _ h=>h) ?_;have U:∀{i Q},σ[i]?=D Q->i<(σ++[AO.bj 5 [(20,.ref t),(19,.int 0),(18,.int 200),(17,.int 40)]]).length:=fun h=>(bo.mp (dt h)).1;exact H ⟨t,t+1,t+2,σ.length⟩ _ ⟨⟨_,dt h.ct,rfl⟩,aR,dt h.cr,dt h.cx,xK t,xK _,by rw[S8];exact J,h.jw,df _,H4⟩ rfl ⟨rfl,rfl,rfl⟩ ⟨U h.ct,U h.cr,U h.cx,(bo.mp aR).1⟩ (.new)
end
section
variable{b n i f e ro:Nat}
theorem Tc(h:Tb A (b+1) T σ)(hi:i<13)(U:f<2)(J:∀(t:Nat)T' X,Tb A b T' X->T<+:T'->Fr A.aP σ X->At T' t i->k (.int t) X):CW (n+4) 139 [.ref A.az,.int i,.int f] σ k:=by
 refine Os ?_;have Z:bm i f=bm i f->dr WD (CW (n+2)) 7 A.az σ σ [bm i f] k:=fun _=>mS (n:=n+1) h (qU hi U).1 (qU hi U).2 fun t T' X H Q O E=>J t T' X H Q E ⟨f,U,O⟩;have cR:∀c:Nat,(∃d,cG[c]?=D d/\d=bm i 0)->k (.int c) σ:=(by rintro c⟨d,e1,e2⟩;exact J c T σ (h.le (dg b)) (df T) .rfl ⟨0,by decide,by rw[e2.symm];exact bV h.base e1⟩);clear J;induction i,hi using pC;.exact Em (Z rfl)
 .exact Em (Z rfl)
 .exact cR 6 ⟨_,rfl,rfl⟩
 .exact En (Z rfl)
 .exact En (Z rfl)
 .exact cR 7 ⟨_,rfl,rfl⟩
 .exact Eo (Z rfl)
 .exact Eo (Z rfl)
 .exact cR 5 ⟨_,rfl,rfl⟩
 .exact cR 4 ⟨_,rfl,rfl⟩
 .exact cR 3 ⟨_,rfl,rfl⟩
 .exact cR 1 ⟨_,rfl,rfl⟩
 .exact cR 0 ⟨_,rfl,rfl⟩
end
theorem H5(g:aa->aa)(P:Lc->Prop)(A:P lc)(hi:σ[i]?=D (.list xs))(Q:∀x∈xs,∀lc,P lc->∃Z,A4 (fi lc t x=D Z) (P Z) (∀O:Bool->AH->Prop,O Y σ->c Z σ O) (∀dZ:Po,dZ (g x) σ->e Z σ dZ))(E:k (.ref σ.length) (σ++[.list (xs.map g)])):jZ (D (i,xs)) t c e xs [] lc σ k:=by
 refine qS (g:=D (i,xs)) (fun a r lc X=>X=σ/\P lc/\(∀x∈r,x∈xs)/\a++r.map g=xs.map g) (fun _ _ _ _ h=>by rw[h.1];exact hi) ?_ ?_ ⟨rfl,A,fun _ h=>h,rfl⟩;.clear hi Q;rintro a lc X⟨rfl,_,_,e⟩;rw[uA,bK]at e;rw[e];exact E
 .clear hi E;rintro x r a lc X K⟨rfl,j,C,e⟩d;obtain⟨Z,u,w,v,m⟩:=Q x (C x aV) lc j;refine o u (v _ (m _ (d _ _ _ ⟨rfl,w,fun y z=>C y (cH _ z),?_⟩)));rw[dx];exact e
noncomputable def ji(f:aa->Bool):Nat->Int->List aa->Int|_,a,[]=>a|i,a,x::r=>ji f (i+1) (if f x=Y then(i:Int)else a) r
theorem Td:∀{l:List aa}{i:Nat}{a:Int},(∀x∈l,f x=ai)->ji f i a l=a:=by intro l;induction l with|nil=>intro _ _ _;exact rfl|cons x r Z=>intro i a h;show ji f (i+1) (if f x=Y then(i:Int)else a) r=a;rw[am (jK.mp (h x aV))];exact Z fun y X=>h y (cH _ X)
section
theorem Az{ms:List aa}(hi:σ[i]?=D (.list es))(C:es.length<=8)(U:∀d∈es,E2 fun(a:Nat)(z:Int)=>d=.ab [.int a,.int z])(J:ms.all cf=Y)(H:k (.int (ji (fun d=>ms.contains (.int (k2 d))) 0 (-1) es)) σ):CW (n+1) 15 [.ref i,.ab ms] σ k:=by
 have Q:es.length<av:=ax 433825337345 rfl C;refine Np ?_;apply p (du hi Q);refine⟨by rw[jx Q,aN (by exact ax 0xca041e848040d009 rfl C)];rfl,?_⟩;rw[ie];refine lW (fun j lc Z=>Z=σ/\E2 fun z v=>lc=[D (.ref i),D (.ab ms),D (.int z),v]/\ji (fun d=>ms.contains (.int (k2 d))) j z (es.drop j)=ji (fun d=>ms.contains (.int (k2 d))) 0 (-1) es) ?_ ?_ ⟨rfl,_,I,rfl,by rw[uD]⟩;.clear hi;rintro lc Z⟨rfl,z,v,rfl,hz⟩;rw[BV]at hz;rw[hz.symm]at H;exact H
 .clear H;rintro j lc Z K O⟨rfl,z,v,rfl,hz⟩M;have X:=dK O;rw[Lj O]at hz;obtain⟨a,E,A⟩:=U _ (xI O);rw[A]at X hz;apply o ((hU (d:=.int j) hi).trans (gJ X Q));apply o (vC (z:=E) J);have hz:ji (fun d=>ms.contains (.int (k2 d))) (j+1) (if ms.contains (.int E)=Y then(j:Int)else z) (es.drop (j+1))=_:=hz;rcases L:ms.contains (.int E)with _|_;.rw[L]at hz;exact M _ _ ⟨rfl,_,_,rfl,hz⟩
  rw[L]at hz;exact M _ _ ⟨rfl,_,_,rfl,hz⟩
end
theorem Tf:∀{l:List aa}{i:Nat}{a:Int},a<B->(∀j d,l[j]?=D d->f d=Y->((i+j:Nat):Int)<B)->ji f i a l<B:=by intro l;induction l with|nil=>intro _ _ h _;exact h|cons x r X=>
intro i a h Z;show ji f (i+1) (if f x=Y then(i:Int)else a) r<B;refine X ?_ fun j d e U=>by have:=Z (j+1) d e U;rw[show i+1+j=i+(j+1)by exact bA 0x2d414054b400002 rfl];exact this
by_cases q:f x=Y;.rw[af q];exact Z 0 x rfl q
.rw[am q];exact h
theorem Th(Z:f d=Y):∀{l:List aa}{i:Nat}{a:Int},ji f i a (l++[d])=((i+l.length:Nat):Int):=by intro l;induction l with|nil=>intro i a;exact af Z|cons x r X=>intro i a;show ji f (i+1) (if f x=Y then(i:Int)else a) (r++[d])=_;rw[X,iF];congr 1;exact bA 0x2d414054b400002 rfl
section
variable{A:Ad}{dl:List (Nat×Bool)}
theorem rA:∀d∈dl.map ba++bu rest e,E2 fun(a:Nat)(z:Int)=>d=.ab [.int a,.int z]:=fun d h=>by
 rcases tH d h with⟨⟨i,o1⟩,rfl⟩|⟨i,rfl⟩
 .clear h;cases o1;.exact⟨i,0,rfl⟩
  .exact⟨i,1,rfl⟩
 .exact⟨i,2,rfl⟩
theorem Ti(hi:σ[i]?=D (.list (dl.map ba++bu rest e)))(w:dl.length<=4)(c:Mo dl)(l:0<σ.length)(t:∀Z,Fr [] σ Z->Z[σ.length]?=D (.list (dl.map ba++bu rest e))->k (.ref σ.length) Z):CW (n+2) 16 [.ref A.az,.ref i] σ k:=by
 have X:=kX (dl:=dl) (rest:=rest) (e:=e);have C:(dl.map ba++bu rest e).length<av:=bZ 0xb5050204542015001 rfl w X;refine Nq ?_;refine Az hi (bZ 0xb5050204542065000 rfl w X) rA rfl ?_;have U:∀{j:Nat}{d:aa},(dl.map ba++bu rest e)[j]?=D d->k2 d=1->¬((j:Int)<ji (fun d=>[aa.int 0].contains (.int (k2 d))) 0 (-1) (dl.map ba++bu rest e)):=fun{j d}J Q=>by
  have hz:∀{j d},(dl.map ba++bu rest e)[j]?=D d->k2 d=0\/k2 d=1->∃q,dl[j]?=D q/\d=ba q:=fun{j d}J Q=>by
   by_cases q:j<dl.length;.rw[ic (by rw[aJ];exact q),gp,dK q]at J;clear Q;cases J;exact⟨_,dK q,rfl⟩
   .rw[jN (by rw[aJ];exact aC 709782851584 rfl q),aJ]at J;rcases rest with _|m;.cases J
    have:=jR J;rw[aZ.mp this]at Q;exact Q.elim (fun q=>ae q (show¬(2:Int)=0 by decide)) fun q=>ae q (show¬(2:Int)=1 by decide)
  have h:ji (fun d=>[aa.int 0].contains (.int (k2 d))) 0 (-1) (dl.map ba++bu rest e)<(nd dl:Int):=Tf (KI (by decide) (ib _)) fun x s e1 e2=>by have e2:([aa.int 0].contains (.int (k2 s)))=true:=e2;have e3:k2 s=0:=aa.int.inj (aZ.mp (ZE.mp e2));clear e2;obtain⟨q,M,rfl⟩:=hz e1 (.inl e3);rw[gk];exact cv.mpr ((c x q M).mp (by clear M e1 e2;obtain⟨_,o1⟩:=q;cases o1;rfl;cases e3))
  obtain⟨q,M,rfl⟩:=hz J (.inr Q);have:¬j<nd dl:=fun r=>by
   have:=(c j q M).mpr r;clear M J;obtain⟨_,o1⟩:=q;cases o1;.cases Q
   .cases this
  exact fun r=>this (cv.mp (rV r h))
 generalize ji (fun d=>[aa.int 0].contains (.int (k2 d))) 0 (-1) (dl.map ba++bu rest e)=b at U;generalize y:dl.map ba++bu rest e=es at hi X C t U;have i1:=(bo.mp hi).1;apply p (du (dt (g:=[AO.list []]) hi) C);refine⟨by rw[jx C,aN (by exact bZ 0x16a0a0408a841e848040d009 rfl w X)];rfl,?_⟩;rw[ie];refine lW (fun j lc Z=>E3 fun v4 v5 v6=>A3 (lc=[D (.ref A.az),D (.ref i),D (.int b),D (.ref σ.length),v4,v5,v6]) (Fr [] σ Z) (Z[σ.length]?=D (.list (es.take j)))) ?_ ?_ ⟨I,I,I,rfl,.new,aR⟩;.rintro lc Z⟨v4,v5,v6,rfl,f,E⟩;rw[sd]at E;exact t Z f E
 .rintro j lc Z K J⟨v4,v5,v6,rfl,f,E⟩hK;have H:=dK J;obtain⟨a,z,Q⟩:=rA (dl:=dl) (rest:=rest) (e:=e) es[j] (by rw[y];exact xI J);rw[Q]at H;apply o ((hU (d:=.int j) (f _ _ hi bJ)).trans (gJ H C));have L:dr WD (CW (n+1)) 0 σ.length Z Z [.ab [.int a,.int z]] fun d u=>br (iK d) (K [D (.ref A.az),D (.ref i),D (.int b),D (.ref σ.length),D (.int j),D (.int a),D (.int z)] u) False:=by
   apply o E;apply o (ez E);have l1:(es.take j).length<av:=by rw[ig];exact dL (jU _ _) C
   apply p (gz (v:=.ab [.int a,.int z]) l1 (ax 691524489222 rfl l));refine hK _ _ ⟨_,_,_,rfl,f.kK (jp (aE _)),?_⟩;rw[eV E,Lk,H];rfl
  have O:=U (j:=j) (d:=.ab [.int a,.int z]) H;refine bD (fun q=>?_) fun _=>L;refine bD (fun q2=>ae q2 (O q)) fun _=>L
end
section
variable{A:Ad}{dl:List (Nat×Bool)}
theorem Tj(h:(dl.map ba++bu rest e)[j]?=D d):(j<dl.length/\∃q,d=ba q)\/(j=dl.length/\d=.ab [.int e,.int 2]):=by
 by_cases q:j<dl.length;.rw[ic (by rw[aJ];exact q),gp,dK q]at h;cases h;exact .inl ⟨q,_,rfl⟩
 .rw[jN (by rw[aJ];exact aC 709782851584 rfl q),aJ]at h;rcases rest with _|m;.cases h
  have:=(bo.mp h).1;have:j-dl.length<1:=this;rw[show j-dl.length=0 by exact fw (ax 193308282880 rfl this) (aB 659456 rfl)]at h;cases h;exact .inr ⟨fw (Lh (Nat.lt_one_iff.mp this)) (hE.mp q),rfl⟩
theorem Tk(hi:σ[i]?=D (.list (dl.map ba++bu rest e)))(Q:dl.length<=4)(E:k (.ref i) σ):CW (n+2) 17 [.ref A.az,.ref i] σ k:=by
 have Z:=kX (dl:=dl) (rest:=rest) (e:=e);have H:(dl.map ba++bu rest e).length<av:=bZ 0xb5050204542015001 rfl Q Z;refine Nr ?_;apply p (du hi H);refine⟨by rw[jx H,aN (by exact bZ 0x16a0a0408a841e848040d009 rfl Q Z)];rfl,?_⟩;rw[ie];refine lW (fun j lc U=>U=σ/\∃v,lc=[D (.ref A.az),D (.ref i),D (.int (if j<=dl.length then-1 else(dl.length:Int))),v,I,I,I,I]) ?_ ?_ ⟨rfl,I,rfl⟩
 .rintro lc U⟨rfl,v,rfl⟩;refine Az hi (bZ 0xb5050204542065000 rfl Q Z) rA rfl ?_;rcases rest with _|m;.rw[af (by rw[show bu I e=[]from rfl,bK,aJ];exact aE _)];exact E
  rw[am (by rw[show bu (D m) e=[.ab [.int e,.int 2]]from rfl,aT,aJ];exact Ld _)];rw[show bu (D m) e=[.ab [.int e,.int 2]]from rfl,Th rfl,aJ,gk];exact bt (aN (fR _)) E
 .rintro j lc U K C⟨rfl,v,rfl⟩J;have X:=dK C;rcases Tj X with⟨q,⟨x,o1⟩,O⟩|⟨rfl,O⟩
  .rw[O]at X;rw[af (lk q)];have J:=fun v=>J [D (.ref A.az),D (.ref i),D (.int (-1)),v,I,I,I,I] U ⟨rfl,v,by rw[af (show j+1<=dl.length from q)]⟩;apply o ((hU (d:=.int j) hi).trans (gJ X H));cases o1;.exact J _
   .exact J _
  .rw[O]at X;rw[af (aE _)];apply o ((hU (d:=.int dl.length) hi).trans (gJ X H));exact J _ _ ⟨rfl,_,by rw[am (Ld dl.length)];rfl⟩
end
theorem Fr.aP(h:Fr O σ Z)(f:Fr [] Z cy):Fr O σ cy:=h.trans f.nil
section
variable{dl:List (Nat×Bool)}
theorem H7:∀{l:List aa},(∀d∈l,fh m d=Y)->kG m l=true:=by intro l;induction l with|nil=>intro _;cases m<;>rfl|cons x r Z=>intro h;have a:=h x aV;have b:=Z fun d X=>h d (cH _ X);clear h;cases m<;>exact eK.mpr ⟨a,b⟩
theorem Tl:∀d∈dl.map ba++bu rest e,fh 4 d=true:=fun d h=>by obtain⟨a,z,rfl⟩:=rA d h;rfl
noncomputable def wv(dl:List (Nat×Bool))(rest:Option Nat)(e ro:Nat):aa:=match dl,rest with|[],D _=>lO e ro|dl,rest=>iN (dl.map ba++bu rest e) ro
theorem H8(h:Tb A (b+1) T σ)(hi:σ[i]?=D (.list (dl.map ba++bu rest e)))(H:dl.length<=4)(C:Mo dl)(E:∀(t:Nat)T' au,Tb A b T' au->T<+:T'->T'[t]?=D (wv dl rest e ro)->Fr A.aP σ au->k (.int t) au):wSs WD (CW (n+2)) uZ [D (.ref A.az),D (.ref i),D (.int ro),I,I,I] σ (kR k):=by
 have Z:=kX (dl:=dl) (rest:=rest) (e:=e);have Q:(dl.map ba++bu rest e).length<av:=bZ 0xb5050204542015001 rfl H Z;have pos:=h.pos;apply o (kL hi Q);refine H5 (fun d=>d) (fun lc=>E2 fun v4 v5=>lc=[D (.ref A.az),D (.ref i),D (.int ro),I,v4,v5]) ⟨I,I,rfl⟩ hi ?_ ?_;.rintro x O lc⟨v4,v5,rfl⟩;obtain⟨a,z,rfl⟩:=rA x O;exact⟨_,rfl,⟨_,_,rfl⟩,fun _ q=>q,fun _ q=>q⟩
 rw[ZP];have M:Tb A (b+1) T (σ++[.list (dl.map ba++bu rest e)]):=h.cm;refine Az aR (bZ 0xb5050204542065000 rfl H Z) rA rfl ?_;rw[Td fun x O=>by rcases tH x O with⟨⟨_,o1⟩,rfl⟩|⟨_,rfl⟩;clear O;cases o1<;>rfl;rfl];show CW (n+2) 16 _ _ _;refine Ti aR H C (by rw[aT];exact aB 176114634753 rfl) fun au f U=>?_;show CW (n+2) 17 _ _ _;refine Tk U H ?_;have L:Tb A (b+1) T au:=M.fV f;have J:wv dl rest e ro=iN (dl.map ba++bu rest e) ro->wE WD (CW (n+2)) (.aQ 7 (.var 0) (.cons (.ab (.cons (.aj 16) (.cons (.bi .tuple (.cons (.var 3) .nil)) (.cons (.var 2) .nil)))) .nil)) [D (.ref A.az),D (.ref i),D (.int ro),D (.ref (σ++[AO.list (dl.map ba++bu rest e)]).length),I,I] au k:=fun e1=>by apply p (wu U Q);refine mS (n:=n+1) L ?_ rfl fun t T' X a b c d=>E t T' X a b (by rw[e1];exact c) ((Fr.new.aP f).trans d);show(Y&&(kG 4 (dl.map ba++bu rest e)&&(Y&&Y)))=Y;rw[H7 Tl];rfl
 apply p (du U Q);rcases dl with _|⟨x,r⟩
 .rcases rest with _|m;.exact J rfl
  apply o (hU (d:=.int 0) U);apply o (hU (d:=.int 0) U);refine Nn ?_;exact mS (n:=n) L rfl rfl fun t T' X a b c d=>E t T' X a b c ((Fr.new.aP f).trans d)
 refine bD (fun _=>?_) fun _=>J rfl;apply o ((hU (d:=.int 0) U).trans (gJ (i:=0) rfl Q));clear hi H C E Z Q M f U;obtain⟨_,o1⟩:=x;cases o1<;>exact J rfl
end
theorem H9(al:Nat->List aa->Lc->AH->Prop)(J:∀a lc σ,al n a lc σ->k (.ref σ.length) (σ++[.list a]))(U:∀j a lc σ(K:List aa->Lc->AH->Prop),j<n->al j a lc σ->(∀a lc σ,al (j+1) a lc σ->K a lc σ)->gO (fi lc t (.int (j:Nat))) fun Z=>c Z σ fun b σ=>br b (e Z σ fun v σ=>K (a++[v]) Z σ) (K a Z σ))(h:al 0 [] lc σ):jZ I t c e ((iW n).map fun i=>.int (kt i)) [] lc σ k:=by
 refine qS (g:=I) (fun a r lc σ=>E2 fun j m=>A3 (j+m=n) (r=(K7 j m).map (fun i=>aa.int (kt i))) (al j a lc σ)) (fun _ _ _ _ _=>trivial) ?_ ?_ ⟨0,n,gk n,by rw[K8],h⟩
 .rintro a lc σ⟨j,m,e,X,h⟩;rcases m with _|m;.clear U;subst e;exact J a lc σ h
  cases X
 .rintro x r a lc σ K⟨j,m,e,X,h⟩H;rcases m with _|m;.cases X
  cases X;exact U j a lc σ K (c5 0xa96c0a0022ad001 rfl e) h fun a lc σ h=>H a lc σ ⟨j+1,m,c5 0xb16a0a0022b54b400002 rfl e,rfl,h⟩
section
structure tM(T:List aa)(m j:Nat)(ts:List Nat):Prop where
len:ts.length<=j
rB:∀t∈ts,∃i,i<j/\m.testBit i=Y/\At T t i
dW:∀i,i<j->m.testBit i=Y->∃t∈ts,At T t i
theorem tM.aq(h:tM T m j ts)(p:T<+:T'):tM T' m j ts:=⟨h.len,fun t a=>(by obtain⟨i,b,c,d⟩:=h.rB t a;exact⟨i,b,c,d.aq p⟩),fun i a b=>(by obtain⟨t,c,d⟩:=h.dW i a b;exact⟨t,c,d.aq p⟩)⟩
theorem ww:(m/2^j)&&&1≠0↔m.testBit j=true:=by rw[Nat.testBit_eq_decide_div_mod_eq,Nat.and_one_is_mod,decide_eq_true_iff];exact Nat.mod_two_ne_zero
theorem Tm(h:i<13)(a:At T e i)(h2:cG<+:T):sQ T e [e]:=by
 obtain⟨f,hf,g⟩:=a;have ne:e≠2:=fun q=>by rw[q,bV h2 (show cG[2]?=D (dI "never")from rfl)]at g;exact(by decide+kernel:∀i,i<13->∀f,f<2->dI "never"≠bm i f) i h f hf (b8 g)
 refine⟨fg.mpr ⟨bJ,jQ⟩,.inr (.inr ⟨ne,rfl,fun x e=>vg (f:=f) (x:=x) h (b8 (g.symm.trans e))⟩),(bo.mp g).1,fun d _ e1=>?_⟩;rw[g]at e1;cases e1;have:∀i,i<13->∀f,f<2->(match bm i f with|.ab (.int g::r)=>decide (0<=g)&&decide (g≠6)&&decide (r.length<=7)|_=>ai)=true:=by decide+kernel
 have:=this i h f hf;revert this;induction bm i f using aa.casesOn with
|ab l=>induction l using eQ with|nil=>nofun|cons y r=>induction y using aa.casesOn with|int g=>intro q;have q:(decide (0<=g)&&decide (g≠6)&&decide (r.length<=7))=true:=q;rw[gH,gH]at q;have q0:=cJ q.1.1;exact⟨g.toNat,r,by rw[lr q0],cJ q.2,fun e=>cJ q.1.2 (by rw[<-lr q0,e];rfl)⟩|_=>nofun
 |_=>nofun
end
section
theorem Tn:∀{ts:List Nat},(∀t∈ts,sQ T t [t])->ol T ts (ts.map fun t=>[t]):=by intro ts;induction ts with|nil=>intro _;exact .nil|cons t r Z=>intro h;exact .cons (h t aV) (Z fun t a=>h t (cH _ a))
theorem Ia:∀{ts:List Nat},(ts.map fun t=>[t]).flatten=ts:=by intro ts;induction ts with|nil=>exact rfl|cons t r Z=>exact aI (t::·) Z
theorem To(a:T[e]?=D (eA ps rt E C))(J:cG<+:T):sQ T e [e]:=have H:e≠2:=fun q=>by rw[q,bV J (show cG[2]?=D (dI "never")from rfl)]at a;cases a
⟨fg.mpr ⟨bJ,jQ⟩,.inr (.inr ⟨H,rfl,fun x e1=>nomatch a.symm.trans e1⟩),(bo.mp a).1,fun d _ e1=>by rw[a]at e1;cases e1;exact⟨13,_,rfl,(by decide:5<=7),by decide⟩⟩
theorem Ib(h:Tb A (b+1) T σ)(H:Nm m)(J:tM T m 13 ts)(C:∀x,s=D x->m<2048)(Q:dB c T s (ts++q.toList) q)(hi:σ[i]?=D (.list (aY (ts++q.toList))))(M:∀t T' Z,Tb A b T' Z->T<+:T'->Fr A.aP σ Z->KR c T' (.mk m s) t->k (.int t) Z):CW (n+3) 26 [.ref A.az,.ref i] σ k:=by
 have X:∀p,q=D p->E4 fun ps rt L K=>T[p]?=D (eA ps rt L K):=fun p e=>dB.dY (T:=T) Q p e;have U:∀p,p∈ts++q.toList↔p∈ts\/q=D p:=fun p=>by rw[dH,Option.mem_toList]
 have j:(aY (ts++q.toList)).length<av:=by rw[jC,aT];have:=J.len;unfold av;induction q using cM with|none=>exact dL (show _+0<=13 from this) (by decide)|some p=>exact dL (show _+1<=14 by exact ax 620159527682048 rfl this) (by decide)
 refine yS (ts:=ts++q.toList) (ls:=(ts++q.toList).map fun t=>[t]) (m:=m) (q:=q) h ⟨by rw[Ia];exact(⟨fun p r=>((U p).mp r).imp (fun a=>by obtain⟨i,x,_,y⟩:=J.rB p a;exact⟨i,x,y⟩) id,fun p e=>⟨(U p).mpr (.inr e),X p e⟩⟩),H.1,?_,fun _=>H.2⟩ (Tn fun t u=>?_) (kL (dt hi) j) (fun x=>dt hi) fun t T' Z w O v l=>?_
 .intro i hi;rw[Ia];constructor;.intro a;obtain⟨t,b,d⟩:=J.dW i hi a;exact⟨t,(U t).mpr (.inl b),d⟩
  .rintro⟨t,b,d⟩;rcases(U t).mp b with b|b;.obtain⟨i',x,y,z⟩:=J.rB t b;rw[At.cU hi x d z];exact y
   .obtain⟨_,_,_,_,g⟩:=X t b;obtain⟨f,_,E⟩:=d;rw[g]at E;exact ae (b8 E).symm (mQ hi)
 .rcases(U t).mp u with b|b;.refine cps fun P hP=>?_;obtain⟨i',x,y,z⟩:=J.rB t b;refine hP ?_;exact Tm x z h.base
  .obtain⟨_,_,_,_,g⟩:=X t b;exact To g h.base
 .have:=l.kr Q O;rw[H.2]at this;refine M t T' Z w O v ?_;by_cases e:m&&&6144≠0
  .rw[af e]at this;rcases s with _|x;.exact this
   exact ae (cJ (FQ m H.1) (C x rfl)) e
  .rw[am e]at this;exact this
end
section
variable{b n i j e ro m f F u lv V:Nat}
theorem Tp(h:Tb A b T σ)(l:σ.length<=i):i∉A.aP:=fun q=>by
 rcases cc.mp q with e|q;.exact fj 0xb5422a5821ad02021003 rfl l ((bo.mp h.cr).1) e
 .have:=aZ.mp q;exact fj 0xb5422a5821ad02021003 rfl l ((bo.mp h.cx).1) this
theorem Ic(Z:j<13):lE .shr σ (.int m) (.int j)=D (.int ((m/2^j:Nat):Int),σ):=by show((if(decide (0<=(j:Int))&&decide ((j:Int)<60))=Y then D ((m:Int)/2^(j:Int).toNat)else I).map fun z=>(aa.int z,σ))=_;rw[af (by rw[aN (by exact aB 659464 rfl),aN (by exact ax 0x4681087820d009 rfl Z)];rfl),ie,Int.natCast_ediv,ZM];rfl
theorem Id(hf:f<2)(hm:Nm m)(h:Tb A (b+1+u+13) T σ)(hs:∀x,s=D x->m<2048/\∀{T σ}{k:Po},Tb A (b+1+u) T σ->(∀t T' Z,Tb A (b+1) T' Z->T<+:T'->Fr A.aP σ Z->SR c T' x t->k (.int t) Z)->CW (n+4) 141 [.ref A.az,aF x,.str (cT c),.int f] σ k)(hk:∀t T' Z,Tb A b T' Z->T<+:T'->Fr A.aP σ Z->KR c T' (.mk m s) t->k (.int t) Z):CW (n+5) 140 [.ref A.az,.ab [.int m,og s],.str (cT c),.int f] σ k:=by
 refine Ot ?_;refine⟨rfl,?_⟩;refine H9 (n:=13) (fun j a lc Z=>E3 fun v ts T'=>A6 (lc=[D (.ref A.az),D (.ab [.int m,og s]),D (.str (cT c)),D (.int f),I,v]) (a=aY ts) (Tb A (b+1+u+(13-j)) T' Z) (T<+:T') (Fr A.aP σ Z) (tM T' m j ts)) ?_ ?_ ⟨I,[],T,rfl,rfl,h,df T,.rfl,⟨aE 0,fun t L=>ae L bJ,fun i hi=>ae hi (xw i)⟩⟩
 .rintro a lc Z⟨v,ts,T',rfl,rfl,C,g,r,X⟩;have Q:Tb A (b+1+u) T' (Z++[.list (aY ts)]):=C.cm;rcases s with _|x;.refine Ib (n:=n+1) (s:=I) (q:=I) (Q.le (b7 _ u)) hm X (fun x e=>by cases e) (show I=I from rfl) (aR.trans (by rw[show ts++(I:Option Nat).toList=ts from bK ts])) fun t U J a b d e=>hk t U J a (g.trans b) ((r.cm).trans d) e
  obtain⟨ml,hB⟩:=hs x rfl;clear hs;obtain⟨ps,sp,rest,w,E,fl⟩:=x;show CW (n+4) 141 [.ref A.az,aF ⟨ps,sp,rest,w,E,fl⟩,.str (cT c),.int f] _ _;refine hB Q fun t U J a1 b1 d1 e1=>?_;have hc:=d1 Z.length _ aR (Tp C (aE Z.length));apply o (aR (σ:=Z));apply o (ez hc);have l1:(aY ts).length<av:=by rw[jC];exact dL X.len (by decide)
  apply p (gz (v:=.int t) l1 (jm C.pos));have ne:∀{i:Nat}{o},Z[i]?=D o->i∉[Z.length]:=fun{i o}e q=>by have:=(bo.mp e).1;exact bZ 0xad032ad02121003 rfl this (aZ.mp q)
  obtain⟨_,ct,_⟩:=C.ct;refine Ib (n:=n+1) (T:=U) (s:=D ⟨ps,sp,rest,w,E,fl⟩) (q:=D t) (a1.fr (O:=[Z.length]) (Fr.rfl.set aV) (ne ct) (ne C.ch) (ne C.cr) (ne C.cx)) hm (X.aq b1) (fun x e=>by cases(e);exact ml) ⟨t,rfl,jP _ aV,e1⟩ (by rw[eV hc,vo];rfl) fun t T3 eb a b d e=>hk t T3 eb a ((g.trans b1).trans b) ((r.trans ((Fr.new.trans d1).kK (jp (aE _)))).trans d) e
 .rintro j a lc Z K y⟨v,ts,T',rfl,rfl,Q,g,r,X⟩hK;apply p (Ic y);refine iU 1 rfl (fun q=>?_) fun q=>?_
  .have hb:=ww.mp q;rw[mK y,<-eL]at Q;refine Tc (n:=n) Q y hf fun t U J a1 b1 d1 e1=>?_;refine hK _ _ _ ⟨_,ts++[t],U,rfl,vo,a1,g.trans b1,r.trans d1,?_⟩;have X:=X.aq b1;refine⟨by rw[aT];exact mj X.len,fun t' L=>?_,fun i hi H=>?_⟩
   .rcases dH.mp L with x|x;.obtain⟨i,z,l⟩:=X.rB t' x;exact⟨i,aC 760897669713921 rfl z,l⟩
    .clear L;cases aZ.mp x;exact⟨j,mh j,hb,e1⟩
   .by_cases q:i=j;.clear y hK hb Q a1 X hi;subst q;exact⟨t,jP _ aV,e1⟩
    .obtain⟨t',z,l⟩:=X.dW i ((gl q).elim (fun M=>aC 743064653825 rfl M) fun M=>bZ 0xb505041a5421ad001 rfl M hi) H;exact⟨t',mi _ z,l⟩
  .refine hK _ _ _ ⟨_,ts,T',rfl,rfl,Q.le (eP (Nat.sub_le_sub_left (dg j) 13) _),g,r,ln X.len,fun t' L=>?_,fun i hi H=>?_⟩;.obtain⟨i,z,l⟩:=X.rB t' L;exact⟨i,aC 760897669713921 rfl z,l⟩
   .by_cases e:i=j;.clear y Q X hK hi;subst e;exact ae (ww.mpr H) q
    .exact X.dW i ((gl e).elim (fun M=>aC 743064653825 rfl M) fun M=>bZ 0xb505041a5421ad001 rfl M hi) H
end
section
variable{b n i j e ro m f F u lv V sp:Nat}
theorem Tq:∀{pl:List (Nat×Bool)}{j:Nat}{q:Nat×Bool},bg c j (pl++[q])=bg c j pl++[iQ c (j+pl.length) q]:=by intro pl;induction pl with|nil=>intro j q;exact rfl|cons x r Z=>intro j q;show iQ c j x::bg c (j+1) (r++[q])=iQ c j x::(bg c (j+1) r++_);rw[Z,iF,show j+1+r.length=j+(r.length+1)by exact bA 0x2d414054b400002 rfl]
theorem dX.Ts:∀{ps:List (Kd×Bool)}{pl:List (Nat×Bool)}{q:Kd×Bool}{t:Nat},dX c T ps pl->KR c T q.1 t->dX c T (ps++[q]) (pl++[(t,q.2)]):=by intro ps;induction ps with|nil=>intro pl q t h a;obtain⟨k,o1⟩:=q;rw[show pl=[]from h];exact⟨t,[],rfl,a,rfl⟩|cons p r Z=>intro pl q t h a;obtain⟨i,X,rfl,b,h⟩:=h;exact⟨i,X++[(t,q.2)],rfl,b,Z h a⟩
theorem tN(h:Nm m):aS V lv (.mk m I):=by
 rcases lv with _|lv;.exact⟨h,rfl⟩
 exact⟨h,fun x e=>nomatch e⟩
theorem KR.mr(h:KR c T (.mk m I) e):MR T m e:=by obtain⟨l,q,a,b,d⟩:=h;cases show q=I from d;exact⟨l,a,b⟩
theorem Tt(Z:j<4):lE .add σ (.str (cT c)) (.str ⟨#[48+j]⟩)=D (.str (cT c++⟨#[48+j]⟩),σ):=by induction j,Z using qM<;>cases c<;>rfl
theorem Tu(Z:j<4):iJ .str σ [.int j]=D (.str ⟨#[48+j]⟩,σ):=by induction j,Z using qM<;>rfl
theorem Tv:∀c,∀j,j<4->mf (cT c++⟨#[48+j]⟩)=true:=by decide+kernel
theorem Tx(Z:j<4):fh 4 (iQ c j q)=true:=by obtain⟨i,o1⟩:=q;show(mf (cT c++⟨#[48+j]⟩)&&(Y&&(fh 3 (eB o1)&&Y)))=Y;rw[Tv c j Z];cases o1<;>rfl
theorem Ty:∀{pl:List (Nat×Bool)}{j:Nat},j+pl.length<=4->∀d∈bg c j pl,fh 4 d=true:=by intro pl;induction pl with|nil=>intro j _ d h;exact ae h bJ|cons q r Z=>
intro j l d h;have l:j+(r.length+1)<=4:=l;rcases cc.mp h with rfl|h;.exact Tx (aC 0x416a0a002045001 rfl l)
.exact Z (aC 0x416a0a0020454b400000 rfl l) d h
def tO(c:Bool)(A:Ad)(f V lv F u:Nat):Prop:=∀{n b:Nat}{T:List aa}{σ:AH}{k:Po}{K:Kd},Tb A (b+u) T σ->aS V lv K->(∀t T' Z,Tb A b T' Z->T<+:T'->Fr A.aP σ Z->KR c T' K t->k (.int t) Z)->CW (n+F) 140 [.ref A.az,aL K,.str (cT c),.int f] σ k
theorem Tz(h:Tb A (b+1) T σ)(hi:σ[i]?=D (.list es))(U:es.length<8)(J:∀d∈es,fh 4 d=Y)(H:fh 5 X=Y)(Q:∀(t:Nat)T' Z,Tb A b T' Z->T<+:T'->Fr A.aP σ Z->T'[t]?=D (eA es rt X O)->k (.int t) Z):CW (n+2) 19 [.ref A.az,.ab [],.ref i,.int rt,X,.int O] σ k:=by refine yo ?_;apply p (wu hi (ax 433826385921 rfl U));refine mS (n:=n) h ?_ rfl fun t T' Z a b c d=>Q t T' Z a b d c;show(Y&&(Y&&(kG 4 es&&(Y&&(fh 5 X&&(Y&&Y))))))=Y;rw[H7 J,H];rfl
end
section
theorem TA{p:Option (Int×Option Nat×Int)}:nW .ne σ (dF p) (.ab [])=D (!p.isNone):=by show(match hJ σ (dF p) (.ab [])with|some c=>D (!c)|none=>I)=_;rw[HH]
theorem TB{r:Nat}(C:tO c A f V l F u)(hF:3<=F)(O:aS V l U)(M:∀a k b,Z=D (a,k,b)->∀m,k=D m->Nm m)(h:Tb A (b+1+u+u) T σ)(c0:σ[r]?=D (.list es))(v:r∉A.aP)(i:es.length<8)(e:∀d∈es,fh 4 d=Y)(y:∀(t rt:Nat)J T' H,Tb A b T' H->T<+:T'->Fr A.aP σ H->T'[t]?=D (eA es rt J z)->KR c T' U rt->hX T' Z J->aw.kr (.int t) H):wSs WD (CW (n+F)) (bw 5 ph) [D (.ref A.az),x,D (.str (cT c)),D (.int f),v4,v5,v6,D (aL U),D (dF Z),D (.int z),D (.ref r),gU,dm,cP,I] σ aw:=by
 have Q:∀{J E X},Tb A (b+1+u) E X->T<+:E->Fr A.aP σ X->fh 5 J=Y->(∀T',E<+:T'->hX T' Z J)->wSs WD (CW (n+F)) (bw 7 ph) [D (.ref A.az),x,D (.str (cT c)),D (.int f),v4,v5,v6,D (aL U),D (dF Z),D (.int z),D (.ref r),gU,dm,cP,D J] X aw:=fun{J E X}L p1 s kp K=>by show CW (n+F) 140 [.ref A.az,aL U,.str (cT c),.int f] X _;refine C L O fun rt T2 cy a2 b2 q e2=>?_;clear C;obtain⟨g,rfl⟩:∃g,F=g+2:=sC (KL ‹3<=F›);exact Tz (n:=n+g) a2 (q _ _ (s _ _ c0 v) v) i e kp fun t T3 j a3 w d3 e3=>y t rt J T3 j a3 ((p1.trans b2).trans w) ((s.trans q).trans d3) e3 (e2.aq w) (K _ (b2.trans w))
 apply o (TA (σ:=σ) (p:=Z));clear y;rcases Z with _|⟨a,_|m,b'⟩;.exact Q (h.le (b7 _ _)) (df T) .rfl rfl fun _ _=>rfl
 .exact Q (h.le (b7 _ _)) (df T) .rfl rfl fun _ _=>rfl
 .show CW (n+F) 140 [.ref A.az,aL (.mk m I),.str (cT c),.int f] σ _;refine C h (tN (M _ _ _ rfl m rfl)) fun t E X a1 b1 d1 e1=>?_;exact Q a1 b1 d1 rfl fun T' K=>⟨t,rfl,(e1.mr).aq K⟩
theorem AA(h:Tb A (b+1) T σ)(X:∀(t:Nat)T' Z,Tb A b T' Z->T<+:T'->T'[t]?=D (lO e 0)->Fr A.aP σ Z->k (.int t) Z):CW (n+2) 14 [.ref A.az,.int e] σ k:=No (mS (n:=n) h rfl rfl X)
end
section
structure Lp(c:Bool)(A:Ad)(ps:List (Kd×Bool))(sp r b j:Nat)(T:List aa)(σ:AH)(T':List aa)(au:AH)(pl:List (Nat×Bool)):Prop where
tb:Tb A b T' au
pre:T<+:T'
fr:Fr A.aP σ au
ks:dX c T' (ps.take j) pl
len:pl.length=j
c0:au[r]?=D (.list (bg c 0 (pl.take sp)))c1:au[r+1]?=D (.list ((pl.drop sp).map ba))lo:A.az<r/\A.r<r/\A.ix<r/\A.bd<r
theorem Lp.wz(h:Tb A b T' X)(lo:A.az<r/\A.r<r/\A.ix<r/\A.bd<r)(U:r<=j):Tb A b T' (X.set j o'):=by
 have Z:∀{i:Nat},i<r->i∉[j]:=fun{i}e q=>by have:=aZ.mp q;exact fj 0xad832a5821ad02021003 rfl U e this
 exact h.fr (O:=[j]) (Fr.rfl.set aV) (Z lo.1) (Z lo.2.2.2) (Z lo.2.1) (Z lo.2.2.1)
theorem TD:fh 4 (dd c tt)=true:=by show(mf (cT c)&&(Y&&(Y&&Y)))=Y;rw[(by decide+kernel:∀c,mf (cT c)=Y) c];rfl
theorem Ie:∀{sp:Nat}{ps:List (Kd×Bool)}{pl:List (Nat×Bool)},fC ps=Y->dX c T ps pl->Mo (pl.drop sp)|0,ps,pl,h,ks=>zK h ks|sp+1,[],pl,h,ks=>by rw[show pl=[]from ks];exact fun i q e=>nomatch e|sp+1,p::r,pl,h,ks=>by obtain⟨i,Z,rfl,_,ks⟩:=ks;exact Ie (sp:=sp) (eK.mp h).2 ks
theorem Ig(hT:tO c A f V lv F u)(hF:3<=F)(hw:bn V lv x)(h:Tb A (b+2+3*u+u*4) T σ)(hk:∀(t:Nat)T' X,Tb A b T' X->T<+:T'->Fr A.aP σ X->SR c T' x t->k (.int t) X):CW (n+F+1) 141 [.ref A.az,aF x,.str (cT c),.int f] σ k:=by
 obtain⟨ps,sp,rest,Q,Z,C⟩:=x;obtain⟨ok,TE,TF⟩:=hw;have g:ps.length<=4:=ok.len;have e1:(fA ps).length=ps.length:=by rw[kg,aJ]
 have lt:(fA ps).length<av:=by rw[e1];exact ax 296386383873 rfl g
 have e2:(σ++[AO.list []]).length=σ.length+1:=by rw[aT];rfl
 have lo:A.az<σ.length/\A.r<σ.length/\A.ix<σ.length/\A.bd<σ.length:=by refine cps fun P hP=>?_;obtain⟨_,ct,_⟩:=h.ct;refine hP ?_;exact⟨(bo.mp ct).1,(bo.mp h.cr).1,(bo.mp h.cx).1,(bo.mp h.ch).1⟩
 have pos:=h.pos;refine Ou ?_;apply p (ir lt);refine⟨by rw[jx lt,aN (by rw[e1];exact ax 0x8a041e848040d009 rfl g)];rfl,?_⟩;rw[e1,ie,e2];refine lW (fun j lc X=>E4 fun dm cP pl T'=>lc=[D (.ref A.az),D (aF ⟨ps,sp,rest,Q,Z,C⟩),D (.str (cT c)),D (.int f),D (.ab (fA ps)),D (.int sp),D (eO rest),D (aL Q),D (dF Z),D (.int C),D (.ref σ.length),D (.ref (σ.length+1)),dm,cP,I]/\Lp c A ps sp σ.length (b+2+3*u+u*(4-j)) j T σ T' X pl) ?_ ?_ ⟨I,I,[],T,rfl,h.cm.cm,df T,Fr.new.cm,rfl,rfl,by rw[xH];exact dt aR,by rw[e2.symm,xG];exact aR,lo⟩
 .rintro lc bX⟨dm,cP,pl,T1,rfl,L⟩;have hb:Tb A (b+1+u+u+1+u) T1 bX:=L.tb.le (fy 0x2d518cd4000152d6a5a000000000 rfl);have ks:=L.ks;rw[sd]at ks;have no:σ.length∉A.aP:=iT (R:=σ.length) lo (aE _);have U:=L.len;have n0:σ[σ.length]?=none:=jp (aE _);have n1:σ[σ.length+1]?=none:=jp (dg _);have l1:(bg c 0 (pl.take sp)).length<=4:=by rw[eh,ig];exact bh (jU _ _) (U▸g)
  have mo:Mo (pl.drop sp):=Ie ok.aq ks;have fk:∀{E H e tl},Tb A (b+1+u+u) E H->T1<+:E->Fr A.aP σ H->H[σ.length]?=D (.list (bg c 0 (pl.take sp)++tl))->tl.length<=1->(∀d∈tl,fh 4 d=Y)->fD c E (pl.drop sp) rest e tl->mP E rest e->wSs WD (CW (n+F)) (bw 5 ph) [D (.ref A.az),D (aF ⟨ps,sp,rest,Q,Z,C⟩),D (.str (cT c)),D (.int f),D (.ab (fA ps)),D (.int sp),D (eO rest),D (aL Q),D (dF Z),D (.int C),D (.ref σ.length),D (.ref (σ.length+1)),dm,cP,I] H (kR k):=fun{E H e tl}h3 p3 f3 c0 l2 k2 ht hr=>TB hT hF TF (fun a k b e m em=>(ok.pred a k b e).2.2.2.2 m em) h3 c0 no (by rw[aT];exact bZ 0xb50811408195a0001 rfl l1 l2) (fun d hd=>(dH.mp hd).elim (Ty (by rw[ig,gk];exact bh (jU _ _) (U▸g)) d) (k2 d)) fun t rt pd T4 jd a4 b4 d4 e4 r4 q4=>hk t T4 jd a4 ((L.pre.trans p3).trans b4) (f3.trans d4) ⟨pl,e,rt,pd,tl,e4,ks.aq (p3.trans b4),r4,hr.aq b4,q4,ht.aq b4⟩;have c0:=L.c0;have c1:=L.c1;have d4:(pl.drop sp).length<=4:=by rw[sf];exact bh (qj _ _) (U▸g)
  generalize pl.drop sp=dl at*;have Ih:(dl.map ba).length<av:=by rw[aJ];exact ax 296386383873 rfl d4
  obtain⟨M,rfl⟩:∃M,F=M+3:=sC ‹3<=F›;have add:∀{E J H e y},J[σ.length]?=D (.list (bg c 0 (pl.take sp)))->Tb A (b+1+u+u) E H->T1<+:E->Fr A.aP σ H->H[σ.length]?=D (.list (bg c 0 (pl.take sp)))->fD c E dl rest e [dd c y]->mP E rest e->dr WD (CW (n+(M+3))) 0 σ.length J H [dd c y] fun d X=>br (iK d) (wSs WD (CW (n+(M+3))) (bw 5 ph) [D (.ref A.az),D (aF ⟨ps,sp,rest,Q,Z,C⟩),D (.str (cT c)),D (.int f),D (.ab (fA ps)),D (.int sp),D (eO rest),D (aL Q),D (dF Z),D (.int C),D (.ref σ.length),D (.ref (σ.length+1)),dm,cP,I] X (kR k)) False:=fun{E J H e y}g2 h3 p3 f3 g3 ht hr=>by apply o g2;apply o (ez g3);apply p (gz (v:=dd c y) (ax 296386383873 rfl l1) (ax 691524489222 rfl pos));refine fk (e:=e) (tl:=[dd c y]) (Lp.wz h3 lo (aE _)) p3 (f3.kK n0) (eV g3) (aE 1) (fun d hd=>?_) ht hr;rw[aZ.mp hd];exact TD
  apply p (du c1 Ih);rcases dl with _|⟨x,r⟩
  .rcases rest with _|m;.exact fk (e:=0) (tl:=[]) (hb.le (bA 0xa96b52d00000015a968000000 rfl)) (df _) L.fr (by rw[bK];exact c0) (bP 1) (fun d hd=>ae hd bJ) rfl trivial
   show CW (n+(M+3)) 140 [.ref A.az,aL (.mk m I),.str (cT c),.int f] bX _;refine hT hb (tN (ok.rest m rfl)) fun e T2 J a2 b2 z e2=>?_;show CW (n+(M+1)+2) 14 [.ref A.az,.int e] J _;refine AA a2 fun y E H a3 b3 g3 d3=>?_;exact add c0 a3 (b2.trans b3) ((L.fr.trans z).trans d3) (d3 _ _ (z _ _ c0 no) no) ⟨y,rfl,g3⟩ (e2.mr.aq b3)
  refine bt (aN (by rw[aJ];exact mc.mpr (fe _))) ?_;have ab:∀{T2 J e},Tb A (b+1+u+u+1) T2 J->T1<+:T2->Fr A.aP σ J->J[σ.length]?=D (.list (bg c 0 (pl.take sp)))->J[σ.length+1]?=D (.list ((x::r).map ba++bu rest e))->mP T2 rest e->CW (n+(M+3)) 18 [.ref A.az,.ref (σ.length+1)] J fun d X=>dr WD (CW (n+(M+3))) 0 σ.length J X [.ab [.str (cT c),d,.int 2]] fun d X=>br (iK d) (wSs WD (CW (n+(M+3))) (bw 5 ph) [D (.ref A.az),D (aF ⟨ps,sp,rest,Q,Z,C⟩),D (.str (cT c)),D (.int f),D (.ab (fA ps)),D (.int sp),D (eO rest),D (aL Q),D (dF Z),D (.int C),D (.ref σ.length),D (.ref (σ.length+1)),dm,cP,I] X (kR k)) False:=fun{T2 J e}a2 b2 z g0 g1 hr=>by refine Nu (H8 (n:=n+M) (ro:=0) a2 g1 d4 mo fun y E H a3 b3 g3 d3=>?_);exact add g0 a3 (b2.trans b3) (z.trans d3) (d3 _ _ g0 no) ⟨y,rfl,g3⟩ (hr.aq b3)
  rcases rest with _|m;.exact ab (e:=0) (hb.le (bA 0x2a5ad4b400000016b52d00000000 rfl)) (df _) L.fr c0 (by rw[show bu I 0=[]from rfl,bK];exact c1) trivial
  show CW (n+(M+3)) 140 [.ref A.az,aL (.mk m I),.str (cT c),.int f] bX _;refine hT hb (tN (ok.rest m rfl)) fun e T2 J a2 b2 z e2=>?_;have g1:=z _ _ c1 (iT (R:=σ.length) lo (dg _));apply o c1;apply o (ez g1);apply p (gz (v:=.ab [.int e,.int 2]) Ih (aB 140115974 rfl));exact ab (e:=e) (Lp.wz a2 lo (dg _)) b2 ((L.fr.trans z).kK n1) (bl (z _ _ c0 no) (Nat.succ_ne_self _)) (eV g1) e2.mr
 .rintro j lc X K s⟨dm,cP,pl,T',rfl,L⟩hK;have hq:=dK s;have wq:=TE _ (xI s);generalize ps[j]=q at hq wq;obtain⟨kj,w⟩:=q;have he:(fA ps)[j]?=D (cw (kj,w)):=by rw[kg,gp,hq];rfl
  have hs:=gJ he lt;apply o hs;show CW (n+F) 140 [.ref A.az,aL kj,.str (cT c),.int f] X _;have tb:=L.tb;rw[mK (iX s g),ZJ,<-eL]at tb;refine hT tb wq fun t l O a1 b1 d1 e3=>?_;have c0:=d1 _ _ L.c0 (iT (R:=σ.length) lo (aE _));have c1:=d1 _ _ L.c1 (iT (R:=σ.length) lo (dg _));have ks:dX c l (ps.take (j+1)) (pl++[(t,w)]):=by rw[Lk,hq];exact(L.ks.aq b1).Ts e3
  have U:=L.len;have n0:σ[σ.length]?=none:=jp (aE _);have n1:σ[σ.length+1]?=none:=jp (dg _);refine bD (fun q=>?_) fun q=>?_
  .apply p (Tu (j:=j) (bZ 0xad0214542045001 rfl g s));apply p (Tt (j:=j) (bZ 0xad0214542045001 rfl g s));apply o hs;have q:j<sp:=cv.mp q;have i:dr WD (CW (n+F)) 0 σ.length O O [iQ c j (t,w)] fun d X=>br (iK d) (K [D (.ref A.az),D (aF ⟨ps,sp,rest,Q,Z,C⟩),D (.str (cT c)),D (.int f),D (.ab (fA ps)),D (.int sp),D (eO rest),D (aL Q),D (dF Z),D (.int C),D (.ref σ.length),D (.ref (σ.length+1)),D (.int j),D (.int t),I] X) False:=by
    apply o c0;apply o (ez c0);have l1:(bg c 0 (pl.take sp)).length<av:=by rw[eh,ig];exact dL (bh (jU _ _) (U▸lk (iX s g))) (ck rfl:4<av)
    apply p (gz (v:=iQ c j (t,w)) l1 (ax 691524489222 rfl pos));refine hK _ _ ⟨_,_,pl++[(t,w)],l,rfl,Lp.wz a1 lo (aE _),L.pre.trans b1,(L.fr.trans d1).kK n0,ks,by rw[aT,U];rfl,?_,?_,lo⟩;.rw[eV c0,uF (U▸lk q),uF (by rw[aT,U];exact q),Tq,U,gk]
    .rw[bl c1 (lh (mh _)),ZQ (U▸lk q),ZQ (by rw[aT,U];exact q)]
   clear hq wq he hs ks;cases w<;>exact i
  .apply o hs;have q:sp<=j:=ku fun r=>q (cv.mpr r);have i:dr WD (CW (n+F)) 0 (σ.length+1) O O [ba (t,w)] fun d X=>br (iK d) (K [D (.ref A.az),D (aF ⟨ps,sp,rest,Q,Z,C⟩),D (.str (cT c)),D (.int f),D (.ab (fA ps)),D (.int sp),D (eO rest),D (aL Q),D (dF Z),D (.int C),D (.ref σ.length),D (.ref (σ.length+1)),D (.int j),D (.int t),I] X) False:=by
    apply o c1;apply o (ez c1);have l1:((pl.drop sp).map ba).length<av:=by rw[aJ,sf];exact dL (bh (qj _ _) (U▸lk (iX s g))) (ck rfl:4<av)
    apply p (gz (v:=ba (t,w)) l1 (aB 140115974 rfl));refine hK _ _ ⟨_,_,pl++[(t,w)],l,rfl,Lp.wz a1 lo (dg _),L.pre.trans b1,(L.fr.trans d1).kK n1,ks,by rw[aT,U];rfl,?_,?_,lo⟩;.rw[bl c0 (g9 (lh (mh _))),List.take_append_of_le_length (U▸q)]
    .rw[eV c1,xB (U▸q),g8];rfl
   clear hq wq he hs ks;cases w<;>exact i
end
section
variable{b n f F u lv V:Nat}
theorem TG(Z:f<2):tO c A f V 0 5 14:=fun{n b T σ k K}h X U=>by obtain⟨m,s⟩:=K;obtain⟨J,rfl⟩:=X;exact Id (u:=0) Z J h (fun x e=>nomatch e) U
theorem Ii(U:f<2)(J:tO c A f V lv (F+5) u):tO c A f V (lv+1) (F+7) (16+7*u):=fun{n b T σ k K}h X Z=>by obtain⟨m,s⟩:=K;have H:=X.1;have Q:=X.2;refine Id (n:=n+F+2) (u:=2+3*u+u*4) U H (h.le (by rw[Nat.mul_comm u 4];exact bA 0x2a71c02105011a907518cc00168000000 rfl)) (fun x e=>?_) Z;obtain⟨⟨O,_⟩,w⟩:=Q x e;exact⟨O,fun{T σ k}h Z=>Ig (n:=n) (F:=F+5) (b:=b+1) J (aB 322968576 rfl) w (h.le (fy 0xb546330005a0016a8c662d00000000 rfl)) Z⟩
theorem Ij(X:f<2)(U:bn V 2 x)(h:Tb A (b+5700) T σ)(J:∀(t:Nat)T' Z,Tb A b T' Z->T<+:T'->Fr A.aP σ Z->SR c T' x t->k (.int t) Z):CW (n+10) 141 [.ref A.az,aF x,.str (cT c),.int f] σ k:=Ig (F:=9) (u:=814) (Ii (F:=2) (u:=114) X (Ii (F:=0) (u:=14) X (TG X))) (by decide) U h J
end
section
variable{k:Po}
theorem TH(Z:lc[0]?=D (D (.ref σ.length)))(X:(WD.gx c f&&decide (fs.length<500))=Y)(U:0<σ.length)(J:∀(k:Po),k x (σ++.bj c fs::Ik)->wE WD K e lc (σ++.bj c fs::H) k)(Q:aw.kn lc (σ++.bj c (iI fs f x)::Ik)):wS WD K (.cS (.var 0) f e) lc (σ++.bj c fs::H) aw:=by refine J _ ?_;show gL lc[0]? _;rw[Z];exact o (Ay X U) Q
noncomputable def Il(A:Ad)(R V:Nat):AH:=[.bj 7 (lR A R V 0 (R+4)),.dict [],.dict [],.dict [],.list [],.list [],.bj 3 [(6,.ref (R+7))],.list []]
theorem TI(Z:0<σ.length)(X:k (.ref σ.length) (σ++[.bj 3 [(6,.ref (σ.length+1))],.list []])):lI WD (CW (n+1)) 3 [] σ k:=by refine Ni ?_;refine jh (x:=.list []) rfl rfl Z (fun _ _ h=>h) ?_;exact X
theorem TJ(Z:0<σ.length)(X:k (.ref (σ.length+l.length)) (σ++(l++[.bj 3 [(6,.ref (σ.length+l.length+1))],.list []]))):lI WD (CW (n+1)) 3 [] (σ++l) k:=TI (by rw[aT];exact aC 708121647386625 rfl Z) (by rw[aT,dx];exact X)
theorem Im(Z:0<σ.length)(X:k (.ref σ.length) (σ++Il A σ.length V)):lI WD (CW (n+2)) 7 [.ref A.bd,.int V] σ k:=by
 refine NQ ?_;refine jH (v:=.ref A.bd) rfl rfl Z (fun _ _ h=>h) ?_;refine jH (v:=.int V) rfl rfl Z (fun _ _ h=>h) ?_;refine jh (x:=.dict []) rfl rfl Z (fun _ _ h=>h) ?_;refine jh (x:=.dict []) rfl rfl Z (fun _ _ h=>h) ?_;refine jh (x:=.dict []) rfl rfl Z (fun _ _ h=>h) ?_;refine jh (x:=.list []) rfl rfl Z (fun _ _ h=>h) ?_;refine jh (x:=.list []) rfl rfl Z (fun _ _ h=>h) ?_;refine jH (v:=.int 0) rfl rfl Z (fun _ _ h=>h) ?_;refine TH (x:=.ref (σ.length+6)) (Ik:=[.dict [],.dict [],.dict [],.list [],.list [],.bj 3 [(6,.ref (σ.length+7))],.list []]) rfl rfl Z (fun k X=>?_) ?_;.exact TJ Z X
 refine jH (v:=.bool Y) rfl rfl Z (fun _ _ h=>h) ?_;refine jH (v:=.none) rfl rfl Z (fun _ _ h=>h) ?_;refine jH (v:=.str (S0 "")) rfl rfl Z (fun _ _ h=>h) ?_;refine jH (v:=.int 0) rfl rfl Z (fun _ _ h=>h) ?_;exact X
theorem Io(hi:WD.uW c=D I)(U:WD.mI g=D d)(J:l[0]?=D (.bj 7 fs))(H:WD.gx 7 33=Y)(Q:jW fs 33=D (.ref (σ.length+1)))(O:l[1]?=D (.dict es))(Z:dc es d=Y)(E:es.length<av)(C:aw.kn [D (.ref σ.length)] (σ++(l++[AO.bj c []]).set 1 (.dict (eR es d (.ref (σ.length+l.length)))))):wS WD K (.gs (.ao (.var 0) 33) (.aj g) (.new c .nil)) [D (.ref σ.length)] (σ++l) aw:=by have X:∀{j:Nat}{o},l[j]?=D o->((σ++l)++[AO.bj c []])[σ.length+j]?=D o:=fun{j o}e=>dt (rz.trans e);apply o hi;apply o (fK (f:=33) (X (j:=0) J) H Q);apply o U;apply o (mN (X (j:=1) O) Z E (xK _));rw[dx,KQ _ _ (b7 _ 1),xE,aT];exact C
theorem Ip(h:Tb A b T σ)(X:∀Z,St A σ.length b T V 0 [] [] [] [] (σ.length+4) Z->Fr [] σ Z->k .none Z):CW (n+1) 130 [.ref σ.length] (σ++Il A σ.length V) k:=by refine Oi ?_;refine Io (c:=8) (d:=.int 3) rfl rfl rfl rfl rfl rfl rfl (cJ rfl) ?_;refine Io (c:=9) (d:=.int 8) rfl rfl rfl rfl rfl rfl rfl (cJ rfl) ?_;have g:∀{l:AH}{j:Nat}{o:AO},l[j]?=D o->(σ++l)[σ.length+j]?=D o:=fun e=>rz.trans e;obtain⟨_,U,_⟩:=h.ct;refine X _ ⟨h.cm,g (j:=0) rfl,g (j:=1) rfl,g (j:=2) rfl,g (j:=3) rfl,g (j:=4) rfl,g (j:=6) rfl,g (j:=7) rfl,g (j:=8) rfl,g (j:=9) rfl,⟨(bo.mp U).1,(bo.mp h.cr).1,(bo.mp h.cx).1,(bo.mp h.ch).1⟩,.inl rfl⟩ .new
end
section
variable{b n i r v:Nat}{N P:List Nat}
theorem TK{p:Nat}{v:aa}:∀{es:List (aa×aa)}{P:List Nat},es.map (·.1)=aY P->(eR es (.int p) v).map (·.1)=aY (gT P p):=by intro es;induction es with
|nil=>
  intro P h;rcases P with _|⟨x,P⟩;.rfl
  .cases h|cons J r X=>
  obtain⟨a,w⟩:=J;intro P h;rcases P with _|⟨x,P⟩;.cases h
  have H:a=.int x:=(gY h).1;have U:r.map (·.1)=aY P:=(gY h).2;clear h;subst H;have Z:=X U;show(if aa.int x=aa.int p then(aa.int x,v)::r else(aa.int x,w)::eR r (.int p) v).map (·.1)=_;unfold gT at Z⊢;by_cases e:x=p;.clear Z;subst e;rw[af rfl,af aV];exact aI (aa.int x::·) U
  .rw[am fun q=>e (j5 q)];by_cases m:p∈P;.rw[af m]at Z;rw[af (cH _ m)];exact aI (aa.int x::·) Z
   .rw[am m]at Z;rw[am fun q=>(cc.mp q).elim (fun q=>e q.symm) m];exact aI (aa.int x::·) Z
theorem TM(h:es.map (·.1)=aY P){p:Nat}:dc es (.int p)=true:=by unfold dc;refine eK.mpr ⟨rfl,fQ.mpr fun x Z=>?_⟩;have:x.1∈aY P:=h▸List.mem_map_of_mem Z;obtain⟨q,_,e⟩:=g7.mp this;rw[e.symm];rfl
theorem TN:∀{P:List Nat},jv (aY P)=D (P.map fun(n:Nat)=>(n:Int)):=by intro P;induction P with|nil=>exact rfl|cons x r Z=>exact aI (KP ((x:Int)::·)) (Z)
noncomputable def tP:List (List Nat):=[[],[1],[2],[11],[1,2],[2,1],[1,11],[11,1],[2,11],[11,2],[1,2,11],[1,11,2],[2,1,11],[2,11,1],[11,1,2],[11,2,1]]
noncomputable def wA(P:List Nat):List Nat:=(if 1∈P then[1]else[])++((if 2∈P then[2]else[])++(if 11∈P then[11]else[]))
theorem Iq:∀{P:List Nat},P.Nodup->(∀x∈P,x=1\/x=2\/x=11)->P∈tP:=by intro P;induction P with|nil=>intro _ _;decide|cons a r ih=>
intro nd h;have:∀a∈[1,2,11],∀r∈tP,a∉r->a::r∈tP:=by decide+kernel
exact this a (by clear nd;rcases h a aV with rfl|rfl|rfl<;>decide) r (ih (fg.mp nd).2 fun x hx=>h x (cH _ hx)) (fg.mp nd).1
theorem TO(nd:P.Nodup)(h:∀x∈P,x=1\/x=2\/x=11):jX (P.map fun(n:Nat)=>(n:Int))=(wA P).map fun(n:Nat)=>(n:Int):=(by decide+kernel:∀P∈tP,jX (P.map fun(n:Nat)=>(n:Int))=(wA P).map fun(n:Nat)=>(n:Int)) P (Iq nd h)
theorem TP(h:∀x,x∈P↔x∈cV (v:Int)):wA P=cV (v:Int):=by
 have f:∀{x:Nat}{b:Bool},(x∈P↔b=Y)->(if x∈P then[x]else[])=if b=Y then[x]else[]:=fun{x b}e=>by
  by_cases q:x∈P;.rw[af q,af (e.mp q)]
  .rw[am q,am fun r=>q (e.mpr r)]
 have m:∀x,x∈P↔_:=fun x=>(h x).trans tq;unfold wA cV;rw[f (b:=v.testBit 0) ((m 1).trans ⟨fun q=>q.elim (·.1) fun q=>q.elim (fun q=>ae q.2 (by decide)) fun q=>ae q.2 (by decide),fun q=>.inl ⟨q,rfl⟩⟩),f (b:=v.testBit 1) ((m 2).trans ⟨fun q=>q.elim (fun q=>ae q.2 (by decide)) fun q=>q.elim (·.1) fun q=>ae q.2 (by decide),fun q=>.inr (.inl ⟨q,rfl⟩)⟩),f (b:=v.testBit 2) ((m 11).trans ⟨fun q=>q.elim (fun q=>ae q.2 (by decide)) fun q=>q.elim (fun q=>ae q.2 (by decide)) (·.1),fun q=>.inr (.inr ⟨q,rfl⟩)⟩),ie]
theorem TQ(h:σ[r]?=D (.bj 3 [(6,.ref i)]))(hi:σ[i]?=D (.list (N.map eN)))(E:N.length<av)(Q:∀x,x∈N↔x∈cV (v:Int))(pos:0<σ.length)(C:∀(c:Nat)Z,Fr [] σ Z->Z[c]?=D (.list (aY (cV (v:Int))))->k (.ref c) Z):CW (n+1) 6 [.ref r] σ k:=by
 have m:∀x∈N,x=1\/x=2\/x=11:=fun x X=>(tq.mp ((Q x).mp X)).imp Ll (Or.imp Ll Ll);have O:∀{P:List Nat},P.Nodup->(∀x∈P,x∈N)->P.length<4:=fun{P}nd h=>by have:=Iq nd fun x X=>m x (h x X);exact(by decide:∀P∈tP,P.length<4) P this
 have M:(N.map eN).length<av:=by rw[aJ];exact E
 refine Nk ?_;apply o (fK (f:=6) (dt h) rfl rfl);apply o (kL (dt hi) M);refine j4 (fun l lc Z=>E6 fun H v3 P es a L=>A7 (lc=[D (.ref r),D (.ref σ.length),H,v3]) (Z=σ++[.dict es]) (es.map (·.1)=aY P) P.Nodup (l=L.map eN) (N=a++L) (∀x,x∈P↔x∈a)) ?_ ?_ ?_ ⟨I,I,[],[],[],N,rfl,rfl,rfl,jQ,rfl,rfl,fun x=>BG⟩;.rintro l lc Z⟨_,_,_,_,_,_,_,rfl,_⟩;exact dt hi
 .rintro lc Z⟨H,v3,P,es,a,L,rfl,rfl,U,nd,J,e,X⟩;have:L=[]:=List.map_eq_nil_iff.mp J.symm;clear J;subst this;rw[bK]at e;subst e;apply p (show iJ .sorted (σ++[.dict es]) [.ref σ.length]=D (.ref (σ++[AO.dict es]).length,σ++[.dict es]++[.list ((jX (P.map fun(n:Nat)=>(n:Int))).map .int)])by show qE (σ++[AO.dict es]) (.ref σ.length)=_;unfold qE;dsimp only;rw[aR];show(jv (es.map (·.1))).bind _=_;rw[U,TN,qi,aJ,af (gZ (O nd fun x h=>(X x).mp h) (by decide))]);refine C _ _ (Fr.new.trans .new) (aR.trans ?_);rw[TO nd fun x h=>m x ((X x).mp h),TP (v:=v) fun x=>(X x).trans (Q x),BL];rfl
 .rintro x l lc Z K⟨H,v3,P,es,a,L,rfl,rfl,U,nd,J,e,X⟩A;rcases L with _|⟨y,L⟩;.cases J
  cases J;have g:es.length<av:=by
   have:es.length=P.length:=by rw[<-aJ (f:=(·.1)),U,jC]
   rw[this];exact gZ (O nd fun x h=>e▸mi _ ((X x).mp h)) (by decide)
  apply o (mN (d:=.int y) (v:=.int 0) (aR (σ:=σ)) (TM U) g (jm pos));refine A _ _ ⟨_,_,gT P y,_,a++[y],L,rfl,qV,TK U,vn nd,rfl,by rw[dx];exact e,fun x=>?_⟩;rw[qT,X,dH,aZ]
end
noncomputable def eH(C:bc)(r ret fl:Nat):aa:=eA [.ab [.str C,.int r,.int 2]] ret (.ab []) fl
noncomputable def oE(b6:Nat)(x:Sg):Nat:=match b6 with|0=>0|1=>1|_=>if b5 x>0 then 4 else 0
structure lY(T:List aa)(b6 r e:Nat):Prop where
lt:b6<3
z:b6=0->r=2/\e=2
o:b6=1->e=0/\T[r]?=D (lO 0 0)w:b6=2->e=2/\T[r]?=D (lO 2 0)
section
variable{R W b b' dp m b0 F L n w s t r e ret fl b6:Nat}
theorem Iu(h:Tb A b T σ)(J:T[t]?=D (eH Q r ret fl))(H:(r=2/\e=2)\/T[r]?=D (lO e 0))(Z:e=0\/e=2)(X:ret=0\/ret=1->k (.int e) σ)(U:¬(ret=0\/ret=1)->k (.int (-1)) σ):CW (n+2) 115 [.ref A.bd,.int t] σ k:=by
 refine EP ?_;refine h.dv J ?_;refine eD h ?_;apply o h.az;apply o h.fW;clear J;rcases H with⟨rfl,rfl⟩|e1;.apply o (h.row (bV h.base (show cG[2]?=D (dI "never")from rfl)));refine eD h ?_;exact wa X U
 .apply o (h.row e1);refine eD h ?_;refine eD h ?_;clear e1;rcases Z with rfl|rfl;.exact wa X U
  .exact wa X U
theorem lY.el(h:lY T b6 r e):((r=2/\e=2)\/T[r]?=D (lO e 0))/\(e=0\/e=2):=by
 rcases(qL 0 h.lt (bP _):b6=0\/b6=1\/b6=2)with q|q|q;.obtain⟨rfl,rfl⟩:=h.z q;exact⟨.inl ⟨rfl,rfl⟩,.inr rfl⟩
 .obtain⟨rfl,a⟩:=h.o q;exact⟨.inr a,.inl rfl⟩
 .obtain⟨rfl,a⟩:=h.w q;exact⟨.inr a,.inr rfl⟩
theorem Iw(Z:SR c T x s)(O:kN V x)(h:T[t]?=D (eH U r ret fl))(E:cT c++⟨#[48]⟩≠U)(X:cT c≠U\/r=2)(H:cG<+:T):s≠t:=fun q=>by
 obtain⟨pl,e,rt,M,tl,Z⟩:=Z.sv O;have:=Z.row;rw[q,h]at this;have e1:[aa.ab [.str U,.int r,.int 2]]=bg c 0 (pl.take x.sp)++tl:=by injection this with this;injection this with this;injection this with _ this;injection this with _ this;injection this with this _;injection this
 rcases Q:pl.take x.sp with _|⟨p,ps⟩
 .rw[Q]at e1;clear this;obtain⟨C,rfl⟩:=Z.pW (fun q=>by rw[q]at e1;cases e1);have:=(gY e1).1;injection this with this;injection this with a this;injection a with a;injection this with b _;injection b with b;rcases X with X|X;.exact X a.symm
  .have b:=dq b;have J:C=2:=b.symm.trans X;subst J;rcases Z.tail.row rfl with⟨_,_,e2⟩|⟨_,e2⟩;.exact gQ (fL H e2 rfl) rfl
   .exact gQ (fL H e2 rfl) rfl
 rw[Q]at e1;have:=(gY e1).1;injection this with this;injection this with this _;injection this with this;exact E this.symm
theorem TR(f:V∈[1,2,4])(h:Iv A R W V (b+1+8) dp m b0 S)(C:SR c S.T x s)(Q:bn V w x)(M:S.T[t]?=D (eH (S0 "z") r ret fl))(H:lY S.T b6 r e)(O:ret=0\/ret=1)(d:V=4->da x=ai)(X:∀E,Pw A R W V b dp m b0 (if V=4 then 0 else oE b6 x:Nat) S E->k (.bool Y) E.σ):CW (n+12) 118 [.ref R,.int s,.int t,.bool ay] S.σ k:=by
 have y:V≠3:=by clear h Q d X;rintro rfl;revert f;decide
 obtain⟨pl,e0,rt,pd,tl,J⟩:=C.sv Q.1;have u:Pw A R W V b dp m b0 (0:Nat) S S:=.refl (h.le (aB 418356678656 rfl)) fun _ _ _ q=>nomatch q;have Z:=h.st;have U:=H.el;refine u7 ?_;refine bD (fun q=>ae (dq q) (Iw C Q.1 M (by clear C J;cases c<;>decide) (.inl (by clear C J;cases c<;>decide)) Z.tb.base)) fun _=>?_;apply o Z.eZ;refine bM 3 rfl (fun q=>ae q y) fun _=>?_;refine yr ?_;apply o Z.cQ;refine Iu (n:=n+8) Z.tb M U.1 U.2 (fun _=>?_) fun q=>ae O q;apply o Z.eZ;refine bM 4 rfl (fun m4=>?_) fun m4=>?_;.rw[af m4]at X;apply o Z.cQ;refine zS (n:=n+8) Z.tb J Q ?_;show br (decide (jF x<0)) _ _;rw[wb (d m4)];exact X S u
 .rw[am m4]at X;apply o Z.cQ;refine Z.eC M ?_;refine eD Z.tb ?_;rcases(qL 0 H.lt (bP _):b6=0\/b6=1\/b6=2)with q|q|q;.clear M U;obtain⟨rfl,rfl⟩:=H.z q;clear H;subst q;exact X S u
  .clear U;obtain⟨rfl,_⟩:=H.o q;clear H;subst q;exact oB (ft:=1) (v:=1) (n:=n+8) (h.le (b':=b+1) (aB 428397223870464 rfl)) rfl fun K g=>X K g
  .clear U;obtain⟨rfl,e1⟩:=H.w q;clear H;subst q;have X:∀E,Pw A R W V b dp m b0 (if b5 x>0 then 4 else 0:Nat) S E->k (.bool Y) E.σ:=X;refine bN (fF 2 rfl (fun q=>?_) fun _=>?_);.subst q;(have h:=fL Z.tb.base e1 rfl;contradiction)
   apply o Z.cQ;refine pX Z.tb J Q fun T1 l t1 i a=>?_;have j:=Pw.az h t1 (b7 _ _) i a;refine bD (fun q=>?_) fun q=>?_;.rw[af (cv.mp q)]at X;exact oB (ft:=11) (v:=4) (n:=n+8) j.iv rfl fun K g=>X K (j.z g)
   .rw[am fun r=>q (cv.mpr r)]at X;exact X _ (j.le (dg b))
end
section
variable{R W b b' dp m b0 F L n w s t r e ret fl b6:Nat}
theorem Tb.jB(h:Tb A b T σ):T[2]?=D (dI "never"):=bV h.base rfl
theorem AB(h:Tb A b T σ)(Z:T[t]?=D (eH U 2 ret fl))(X:k (.int 2) σ):CW (n+2) 101 [.ref A.bd,.int t] σ k:=by refine EI ?_;refine h.dv Z ?_;refine eD h ?_;refine h.dv h.jB ?_;exact X
theorem TS(h:Tb A b T σ)(Z:T[t]?=D (eH U 2 ret fl))(X:k (.bool Y) σ):CW (n+3) 102 [.ref A.bd,.int t] σ k:=by refine EJ ?_;exact AB (n:=n) h Z X
theorem TT(h:Tb A b T σ)(Z:T[t]?=D (eH U 2 ret fl))(X:k (.int 2) σ):CW (n+3) 104 [.ref A.bd,.int t,.int 0] σ k:=by refine EK ?_;refine h.dv Z ?_;refine AB (n:=n) h Z ?_;exact AB (n:=n) h Z X
theorem Ix(h:Tb A b T σ)(Z:T[t]?=D (eH U 2 ret fl))(X:k (.int (-1)) σ):CW (n+3) 63 [.ref A.bd,.int t] σ k:=by refine Ew ?_;refine h.dv Z ?_;refine yp ?_;refine eD h ?_;refine⟨trivial,?_⟩;refine h.dv h.jB ?_;exact X
theorem TU(h:Tb A b T σ)(U:T[t]?=D (eH H 2 ret fl))(J:∀Z,Fr [] σ Z->k (.int 0) Z):CW (n+3) 64 [.ref A.bd,.int t] σ k:=by have X:Tb A b T (σ++[.list []]):=h.cm;refine Ey ?_;refine h.dv U ?_;refine yp ?_;refine eD X ?_;refine⟨trivial,?_⟩;refine X.dv h.jB ?_;apply o (aR (σ:=σ));apply o (ez aR);apply p (gz (v:=.int 0) (by decide) (jm (h.pos)));rw[qV];refine⟨trivial,?_⟩;refine Ev ?_;refine⟨trivial,?_⟩;refine⟨trivial,?_⟩;apply p (du aR (by decide));apply o (kM (dt (aR (σ:=σ))) (by decide));apply p (tI (dt (aR (σ:=σ))));exact J _ (Fr.new (σ:=σ) (g:=[.list [.int 0]])|>.cm)
theorem TW(h:Tb A b T σ)(Z:T[t]?=D (eH U 2 ret fl))(X:k (.int 1) σ):CW (n+4) 106 [.ref A.bd,.int t] σ k:=by refine EL ?_;refine Ix (n:=n) h Z ?_;refine h.dv Z ?_;apply o h.az;refine eD h ?_;refine Ep ?_;exact⟨trivial,X⟩
end
section
theorem TX(h:Tb A b T σ)(Z:Sv c T x s pl e rt M tl)(H:tl=[dd c U])(X:k (.ref σ.length) (σ++[.list ((pl.drop x.sp).map ba++bu x.rest e)])):CW (n+1) 103 [.ref A.bd,.int U] σ k:=by
 refine N8 ?_;apply o h.az;apply o h.fW;rcases Z.tail.row H with⟨Q,O,e1⟩|⟨_,e1⟩
 .apply o (h.row e1);rw[Q]at X;rcases J:x.rest with _|m;.exact ae J O
  rw[J]at X;exact X
 .apply o (h.row e1);have E:((pl.drop x.sp).map ba++bu x.rest e).length<av:=bZ 0x115080b50502015001 rfl (kX (dl:=pl.drop x.sp) (rest:=x.rest) (e:=e)) (Z.d4);apply o (hW E);refine rk (fun _=>Y) (fun d=>d) (fun lc=>∃v,lc=[D (.ref A.bd),D (.int U),D (iN ((pl.drop x.sp).map ba++bu x.rest e) 0),v]) ⟨I,rfl⟩ ?_ ?_;.rintro d L lc⟨v,rfl⟩;exact⟨_,rfl,⟨_,rfl⟩,fun K C=>C,fun _ dZ Z=>Z⟩
  .rw[zP,ZP];exact X
theorem TY(h:Tb A (b+1) T σ)(X:Sv c T x s pl e rt pd tl)(C:Mo pl)(M:∀(a:Nat)T' au,Tb A b T' au->T<+:T'->T'[a]?=D (wv pl x.rest e 1)->Fr A.aP σ au->k (.int a) au):CW (n+4) 104 [.ref A.bd,.int s,.int 0] σ k:=by
 have O:=X.lp;have pos:=h.pos;have U:(bg c 0 (pl.take x.sp)++tl).length<av:=by
  have:tl.length<=1:=by rcases X.tail.cases with⟨_,_,rfl⟩|⟨_,rfl⟩;exact bP 1;exact aE 1
  rw[aT,eh,ig];exact dL (jM (bh (jU _ _) O) this) (ck rfl)
 refine EK ?_;refine h.dv X.row ?_;apply p (Hk (xs:=[]) (ys:=bg c 0 (pl.take x.sp)++tl) U);have h1:Tb A (b+1) T (σ++[.list []]):=h.cm;have J:∀{au v5},Fr [] σ au->au[σ.length]?=D (.list (pl.map ba++bu x.rest e))->wSs WD (CW (n+3)) (bw 4 u4) [D (.ref A.bd),D (.int s),D (.int 0),D (.ab (bg c 0 (pl.take x.sp)++tl)),D (.ref σ.length),v5] au (kR k):=fun{au v5}f hi=>by have H:Tb A (b+1) T au:=h.fV f;apply o H.az;exact Nt (H8 (n:=n) (ro:=1) H hi O C fun a T' Z a1 b1 l e1=>M a T' Z a1 b1 l (f.nil.trans e1))
 have L:wSs WD (CW (n+3)) (bw 2 u4) [D (.ref A.bd),D (.int s),D (.int 0),D (.ab (bg c 0 (pl.take x.sp)++tl)),I,I] σ (kR k):=by
  apply o (hW U);refine j4 (g:=I) (fun r lc au=>∃v5,A3 (lc=[D (.ref A.bd),D (.int s),D (.int 0),D (.ab (bg c 0 (pl.take x.sp)++tl)),D (.ref σ.length),v5]) (Fr [] σ au) ((E3 fun d q j=>A3 (d++q=pl.take x.sp) (r=bg c j q++tl) (au[σ.length]?=D (.list (d.map ba))))\/(r=[]/\au[σ.length]?=D (.list (pl.map ba++bu x.rest e))))) (fun _ _ _ _=>trivial) ?_ ?_ ⟨I,rfl,.new,.inl ⟨[],pl.take x.sp,0,rfl,rfl,aR⟩⟩
  .rintro lc au⟨v5,rfl,f,⟨d,q,j,e1,e2,hi⟩|⟨_,hi⟩⟩
   .have e2:=List.append_eq_nil_iff.mp e2.symm;have q0:q=[]:=by induction q using eQ with|nil=>rfl|cons=>cases e2.1
    obtain⟨d0,r0,u⟩:=X.rm e2.2;rw[q0,bK,uF (aC 743065702400 rfl u)]at e1;clear X C M O U d0 u;subst e1;exact J f (by rw[r0,show bu I e=[]from rfl,bK];exact hi)
   .exact J f hi
  .rintro y r lc au K⟨v5,rfl,f,⟨d,q,j,e1,e2,hi⟩|⟨e2,_⟩⟩w
   .have H:Tb A (b+1) T au:=h.fV f;have m:d.length<=4:=by have:=aI r6 e1;rw[aT,ig]at this;exact bh (b7 _ _) (bh (gG this) (bh (jU _ _) O))
    have ld:(d.map ba).length<av:=by rw[aJ];exact ax 296386383873 rfl m
    have z:σ[σ.length]?=none:=jp (aE _);rcases q with _|⟨q,q'⟩;.have e2:y::r=tl:=e2;obtain⟨tt,t⟩:=X.pW (by rw[e2.symm];nofun);rw[t]at e2;cases e2;rw[bK]at e1;refine eD H ?_;refine TX (n:=n+2) H X t ?_;have lt:=(bo.mp hi).1;have Q:=kX (dl:=pl.drop x.sp) (rest:=x.rest) (e:=e);have h4:=X.d4;apply o hi;apply o (ez (dt hi));apply p (GM aR (by rw[aJ];exact fj 0x458202d8150811408055a0001 rfl m Q h4) (lh lt) (jm pos));refine w _ _ ⟨_,rfl,f.cm.kK z,.inr ⟨rfl,?_⟩⟩;rw[eV (dt hi),e1,<-dx,<-g8,kw]
    cases e2;obtain⟨i,o1⟩:=q;have E:dr WD (CW (n+3)) 0 σ.length au au [ba (i,o1)] fun d' Z=>br (iK d') (K [D (.ref A.bd),D (.int s),D (.int 0),D (.ab (bg c 0 (pl.take x.sp)++tl)),D (.ref σ.length),D (iQ c j (i,o1))] Z) False:=by apply o hi;apply o (ez hi);apply p (gz (v:=ba (i,o1)) ld (jm pos));exact w _ _ ⟨_,rfl,f.kK z,.inl ⟨d++[(i,o1)],q',j+1,by rw[dx];exact e1,rfl,by rw[eV hi,g8];rfl⟩⟩
    clear e1;cases o1<;>exact E
   .cases e2
 apply p (ir U);exact bD (fun _=>Hd (n:=n+1) h X L) fun _=>L
end
section
variable{R W b b' dp m b0 F L n w s t r e rt ret fl b6 tt a qa qs:Nat}
structure Qw(A:Ad)(R W V b dp m b0:Nat)(S S':Rs):Prop where
iv:Iv A R W V b dp m b0 S'
pre:S.T<+:S'.T
fq:Fq A R S.tr S.σ S'.tr S'.σ
theorem Pw.qw(h:Pw A R W V b dp m b0 v S S'):Qw A R W V b dp m b0 S S':=⟨h.iv,h.pre,h.fq⟩
theorem Qw.trans(h:Qw A R W V b' dp m b0 S Z)(h':Qw A R W V b dp m b0 Z s0):Qw A R W V b dp m b0 S s0:=⟨h'.iv,h.pre.trans h'.pre,h.fq.trans h'.fq⟩
theorem TZ(H:V∈[1,2,4])(h:Iv A R W V b dp m b0 S){g:Nat}(J:S.T[a]?=D (.ab [.int g,z,.int 1]))(Q:g=11\/g=12)(X:k (.bool Y) S.σ):dr WD (CW (n+5)) 36 R S.σ S.σ [.int 2,.int a] k:=by
 have Z:=h.st;have O:V≠3:=by clear h Z;rintro rfl;revert H;decide
 apply o Z.c0;refine⟨rfl,?_⟩;refine Ez ?_;refine EB ?_;refine bD (fun _=>X) fun _=>?_;apply o Z.cQ;refine yq ?_;refine eD Z.tb ?_;apply o Z.tb.az;refine qK ?_;refine Z.tb.eC Z.tb.jB ?_;apply o Z.cQ;refine yq ?_;refine eD Z.tb ?_;apply o Z.tb.az;refine qK ?_;refine Z.tb.eC J ?_;have U:wSs WD (CW (n+3)) (bw 3 yf) [D (.ref R),D (.int (2:Nat)),D (.int a),I,I] S.σ (kR k):=by refine bD (fun _=>X) fun _=>?_;apply o Z.eZ;refine bM 3 rfl (fun q=>ae q O) fun _=>?_;refine EC ?_;refine ED ?_;refine bD (fun _=>X) fun _=>?_;exact bD (fun _=>X) fun _=>X
 clear J;rcases Q with rfl|rfl<;>exact U
end
section
variable{R W b b' dp m b0 F L n w s t r e rt ret fl b6 tt a qa qs:Nat}{x y:Sg}
theorem T6:E2 fun(g:Nat)(z:aa)=>wv pl x.rest e 1=.ab [.int g,z,.int 1]/\(g=11\/g=12):=by generalize x.rest=o;cases pl<;>cases o<;>first|exact⟨11,_,rfl,.inl rfl⟩|exact⟨12,_,rfl,.inr rfl⟩
theorem T9(h:Iv A R W V (b+1+8) dp m b0 S)(E:Sv c S.T x s pl e rt f tl)(C:bn V w x)(J:S.T[t]?=D (eH l 2 ret fl))(H:∀Q,Qw A R W V b dp m b0 S Q->k (.bool Y) Q.σ):CW (n+11) 100 [.ref R,.int s,.int t] S.σ k:=by
 have Z:=h.st;refine EH ?_;apply o Z.cQ;refine Ix (n:=n+7) Z.tb J ?_;apply o Z.cQ;refine pX Z.tb E C fun i M t1 O K=>?_;have X:=Pw.az h t1 (b7 _ _) O K;apply o X.iv.st.cQ;refine TU (n:=n+7) t1 (bV O J) fun g j=>?_;have U:=X.z (Pw.iy X.iv j);refine bD (fun q=>?_) fun q=>?_;.exact oB (ft:=11) (v:=4) (n:=n+8) U.iv rfl fun d u=>H d (U.z u).qw
 .exact H _ (U.le (dg b)).qw
theorem Ua(O:V∈[1,2,4])(h:Iv A R W V (b+1) dp m b0 S)(E:Sv c S.T x s pl e rt f tl)(X:Mo pl)(C:S.T[t]?=D (eH q 2 ret fl))(M:∀J,Qw A R W V b dp m b0 S J->k (.bool Y) J.σ):CW (n+8) 105 [.ref R,.int s,.int t,.int 0,.bool ay] S.σ k:=by have H:=h.st;refine N9 ?_;apply o H.cQ;refine TY (n:=n+3) H.tb E X fun a l K t1 Q j d=>?_;have U:=Pw.az h t1 (b7 _ _) Q d;apply o U.iv.st.cQ;refine TT (n:=n+4) t1 (bV Q C) ?_;refine EM ?_;have Z:=U.iv;apply vw (n:=n+5) Z.st Z.lS Z.pG;refine cps fun P u=>?_;obtain⟨g,z,e1,v⟩:=T6 (pl:=pl) (x:=x) (e:=e);refine u ?_;refine TZ (n:=n+1) O Z (j.trans (aI D e1)) v ?_;exact M _ U.qw
theorem Ub(K:V∈[1,2,4])(h:Iv A R W V (b+1) dp m b0 S)(Z:Sv c S.T x s pl e rt l tl)(Q:Mo pl)(J:S.T[t]?=D (eH i 2 ret fl))(g:∀C,Qw A R W V b dp m b0 S C->k (.bool Y) C.σ):CW (n+9) 112 [.ref R,.int s,.int t,.bool ay] S.σ k:=by
 have M:=h.st;refine EN ?_;apply o M.cQ;refine zO (n:=n+4) M.tb Z fun j d=>?_;have H:=Pw.iy h d;refine TW (n:=n+4) H.iv.st.tb J ?_;refine zQ (n:=n+5) H.iv.st.tb Z fun u v=>?_;have O:=H.z (Pw.iy H.iv v);have E:=O.iv.st.tb;refine TS (n:=n+5) E J ?_;refine E.dv Z.row ?_;have U:(bg c 0 (pl.take x.sp)++tl).length<av:=by
  have:tl.length<=1:=by rcases Z.tail.cases with⟨_,_,rfl⟩|⟨_,rfl⟩;exact bP 1;exact aE 1
  rw[aT,eh,ig];exact dL (jM (bh (jU _ _) Z.lp) this) (ck rfl)
 apply p (ir U);refine E.dv J ?_;have X:∃m:Nat,(bg c 0 (pl.take x.sp)++tl).length=m:=⟨_,rfl⟩;obtain⟨m1,X⟩:=X;rw[X];have m5:m1<6:=by
  have:tl.length<=1:=by clear U X;rcases Z.tail.cases with⟨_,_,rfl⟩|⟨_,rfl⟩;exact bP 1;exact aE 1
  rw[aT,eh,ig]at X;rw[X.symm];exact BP (jM (bh (jU _ _) Z.lp) this)
 clear X;induction m1,m5 using E0<;>exact Ua (n:=n) (ay:=ay) K O.iv Z Q J fun f q=>⟨rfl,trivial,g f (O.qw.trans q)⟩
end
section
variable{R W b b' dp m b0 F L n w s t r e rt ret fl b6 tt a qa qs:Nat}
theorem Uc(ask:db A R V F L qa qs 2)(h:Iv A R W V (b+(qa+qs)) dp m b0 S)(l2:L<=2)(U:Sv c S.T x s pl e rt M tl)(H:bn V L x)(Q:S.T[t]?=D (eH J 2 5 fl))(O:4*jE x+2<m)(E:∀X,Qw A R W V b dp m b0 S X->k (.bool (decide (0<=ak V x.res (.mk 256 I)))) X.σ):CW (n+F+3) 114 [.ref R,.int s,.int t] S.σ k:=by
 have Z:=h.st;refine EO ?_;refine Z.eC U.row ?_;refine Z.eC Q ?_;apply o Z.cQ;refine eD Z.tb ?_;have J:Nm 256:=by unfold Nm;decide
 exact ox (n:=n) ask h l2 H.2.2 (tN J) U.res (qQ (i:=8) (by decide) Z.tb.base ⟨0,by decide,bV Z.tb.base rfl⟩) (by show 4*(cK x.res+0)+2<m;exact pn 0x2d4202a6b1060086a62500418001 rfl O (tC (x:=x))) fun X C=>E X C.toPw.qw
theorem Ud(M:V∈[1,2,4])(ask:db A R V F L qa qs 2)(h:Iv A R W V (b+(qa+qs)+1+1+8) dp m b0 S)(l2:L<=2)(C:SR c S.T x s)(Q:bn V L x)(U:S.T[t]?=D (eH (S0 "x") 2 5 fl))(u:4*jE x+2<m)(K:∀g,Qw A R W V b dp m b0 S g->k (.bool (decide (0<=ak V x.res (.mk 256 I)))) g.σ):CW (n+F+13) 118 [.ref R,.int s,.int t,.bool ay] S.σ k:=by
 have v:V≠3:=by clear ask h Q K;rintro rfl;revert M;decide
 obtain⟨pl,e,rt,l,tl,X⟩:=C.sv Q.1;have Z:=h.st;refine u7 ?_;refine bD (fun q=>ae (dq q) (Iw C Q.1 U (by clear C X;cases c<;>decide) (.inr rfl) Z.tb.base)) fun _=>?_;apply o Z.eZ;refine bM 3 rfl (fun q=>ae q v) fun _=>?_;refine yr ?_;apply o Z.cQ;refine Iu (n:=n+F+9) (e:=2) Z.tb U (.inl ⟨rfl,rfl⟩) (.inr rfl) (fun q=>ae q (by decide)) fun _=>?_;refine T9 (n:=n+F+1) h X Q U fun S1 O=>?_;have Z:=O.iv.st;have X:=X.aq O.pre;have U:=bV O.pre U;refine Z.om ?_;apply o Z.tb.fW;have J:∀j:Bool,CW (n+F+12) 117 [.ref R,.int s,.int t,.bool j] S1.σ k:=fun j=>by refine EQ ?_;refine Ub (n:=n+F+2) M O.iv X (zK Q.1.aq X.ks) U fun i E=>?_;show CW (n+F+11) 114 _ _ _;rw[show n+F+11=n+8+F+3 by exact bA 0xf56500003eb400002 rfl];refine Uc (n:=n+8) ask E.iv l2 (X.aq E.pre) Q (bV E.pre U) u fun f y=>?_;exact K f ((O.trans E).trans y)
 have z:b9 [(aa.int 3,aa.ref (R+8)),(aa.int 8,aa.ref (R+9))] (.int 9)=none:=(am fun q=>by cases q).trans (am fun q=>by cases q);have H:=(vI (σ:=S1.σ) (es:=[(aa.int 3,aa.ref (R+8)),(aa.int 8,aa.ref (R+9))]) (d:=.int 9) rfl rfl).trans (by rw[z]);rcases ay with _|_;.apply o (Z.tb.row X.row);apply o (Z.tb.row U);apply o Z.qX;apply o Z.c1;apply o (pq Z.c1);apply p H;apply o (Z.tb.row X.row);exact J _
 apply o Z.qX;apply o Z.c1;apply o (pq Z.c1);apply p H;apply o (Z.tb.row X.row);exact J Y
end
section
theorem kN.to(h:kN md x)(Z:V=3->md=3):kN V x:={h with pl:=fun e=>h.pl (Z e)}
theorem aS.to(X:V=3->md=3):∀{n:Nat}{K:Kd},aS md n K->aS V n K:=by intro n;induction n with|zero=>intro K h;obtain⟨m,s⟩:=K;exact h|succ n Z=>intro K h;obtain⟨m,s⟩:=K;exact⟨h.1,fun x e=>(by obtain⟨a,b,c,d⟩:=h.2 x e;exact⟨a,b.to X,fun p U=>Z (c p U),Z d⟩)⟩
theorem bn.to(Z:V=3->md=3)(h:bn md n x):bn V n x:=⟨h.1.to Z,fun p X=>(h.2.1 p X).to Z,h.2.2.to Z⟩
theorem Iy(st:St A R b T V 0 [] [] [] [] (R+4) σ):Iv A R av V b 0 60 0 ⟨T,[],[],[],R+4,σ⟩where
st:=st;lN:=by have:=st.tb.len;show 0+b<av;exact c5 0x54b54000845420001 rfl this
lK:=by have:=st.tb.len;show 0+0+b<av;exact c5 0x152d5000211508400001 rfl this
wl:=aE _;nd:=jQ;kn:=fun e Z=>ae Z bJ;tk:=fun e Z=>ae Z bJ;b0:=aE 0;dp:=aE 60
theorem Ue(Z:V=3\/V∈[1,2,4]):fY A R V 99 2 4 2389842:=by
 intro n W b M m L S s t x y c ay k h X U J H Q O E C;by_cases e:V=3;.clear Z;subst e;exact Sb (n:=n+45) h X U J H Q O E C
 .exact Sa (n:=n) (Z.resolve_left e) (h.le (aB 0x123ba914340052ef6ca1a0000 rfl)) X U J H Q O E C
theorem Uf(Z:V∈[1,2,4]):db A R V 84 2 757 84161 2:=by have X:fY A R V 33 0 2 7651:=tJ Z (rr (F:=0) (w:=0) Z fun _ q=>nomatch q) (by decide) (by decide) (by decide);exact rr Z fun U q=>by cases q;exact(tJ Z (rr Z fun U q=>by cases q;exact X) (by decide) (by decide) (by decide))
theorem Iz(hi:σ[i]?=D (.list (aY l)))(Z:σ[j]?=D (.list (aY l')))(e:l=l'):nW .ne σ (.ref i) (.ref j)=D false:=by
 subst e;show(match hJ σ (.ref i) (.ref j)with|some c=>D (!c)|none=>I)=_;have:hJ σ (.ref i) (.ref j)=D true:=by show(match σ[i]? with|some (.list xs)=>_|_=>I)=_;rw[hi];show(match σ[j]? with|some (.list ys)=>_|_=>I)=_;rw[Z];show(if((aY l).all cf&&(aY l).all cf)=Y then D (decide (aY l=aY l))else I)=_;rw[af (by rw[Ge];rfl),aN rfl]
 rw[this];rfl
end
section
theorem IA:∀{ps:List (Kd×Bool)},(∀p∈ps,cK p.1<=L)->sY ps<=L:=by intro ps;induction ps with|nil=>intro _;exact bP _|cons Z r X=>obtain⟨U,o1⟩:=Z;intro h;exact B0.mpr ⟨h (U,o1) aV,X fun p J=>h p (cH _ J)⟩
theorem aS.rC:∀{n:Nat}{K:Kd},aS V n K->cK K<=n:=by intro n;induction n with|zero=>intro K h;obtain⟨m,s⟩:=K;rw[h.2];exact aE 0|succ n Z=>
intro K h;obtain⟨m,s⟩:=K;rcases s with _|x;.exact bP _
obtain⟨_,_,a,d⟩:=h.2 x rfl;clear h;obtain⟨ps,sp,rest,U,X,H⟩:=x;exact mj (B0.mpr ⟨IA fun p J=>Z (a p J),Z d⟩)
theorem bn.rC(h:bn V L x):jE x<=L:=by obtain⟨ps,sp,rest,X,Z,J⟩:=x;exact B0.mpr ⟨IA fun p U=>(h.2.1 p U).rC,h.2.2.rC⟩
theorem IB(X:St A R b T V Q N es O E tr σ)(U:N.length<av)(J:∀x,x∈N↔x∈cV (v:Int))(H:∀(c:Nat)Z,Fr [] σ Z->Z[c]?=D (.list (aY (cV (v:Int))))->k (.ref c) Z):dr WD (CW (n+1)) 44 (R+6) σ σ [] k:=by apply o X.c6;exact⟨rfl,TQ X.c6 X.c7 U J X.tb.pos H⟩
theorem Pw.cV(h:Pw A R W V b O m 0 (v:Nat) S X)(U:V=1)(J:S.N=[]):∀x,x∈X.N↔x∈cV (v:Int):=by refine cps fun P H=>?_;obtain⟨E,C,e1,_,_,_,q⟩:=h.out;obtain⟨Q,Z⟩:=q (ib v) U;refine H ?_;rewrite[J,xA]at e1;rw[e1];rw[e1]at Z;exact fun x=>⟨Q x,Z x⟩
@[reducible]noncomputable def oF:Ss:=Aj (Aj (bw 17 j1))
theorem Ug(x y:Sg)(ay:Bool)(h:0<=gS V 3 x y ay):∃v:Nat,gS V 3 x y ay=v:=⟨(gS V 3 x y ay).toNat,(lr h).symm⟩
end
noncomputable def AC:Nat->Nat|0=>1|1=>2|_=>11
noncomputable def ft(j v:Nat):List Nat:=((iW j).filter fun i=>v.testBit i).map AC
section
theorem tQ:ft (j+1) v=ft j v++if v.testBit j=Y then[AC j]else[]:=by
 unfold ft;rw[ZR,Lb,g8];congr 1;rcases h:v.testBit j with _|_;.rw[La (jK.mp h)];rfl
 rw[BW h];rfl
theorem Uh:aY (ft 3 v)=aY (cV (v:Int)):=by unfold cV;rw[tQ,tQ,tQ,ie,<-dx];rfl
theorem IC(U:lc[i]?=D (D a))(J:lc[j]?=D (D b))(h:lI WD K 7 [a,b] σ fun v Z=>gO (fi lc (.ag l) v) fun X=>wSs WD K H X Z aw):wSs WD K (.cons (.an (.ag l) (.new 7 (.cons (.var i) (.cons (.var j) .nil)))) H) lc σ aw:=by show gL lc[i]? _;rw[U];show gL lc[j]? _;rw[J];exact h
theorem ID(E:V=3\/V∈[1,2,4])(h:Tb A (b+2389842) T σ)(x1:SR c T x s)(x2:SR (!c) T y t)(H:bn V 2 x)(Q:bn V 2 y)(C:∀M kZ L X T' Z,Tb A b T' Z->T<+:T'->aw.kn [v0,k,l,v3,D (.bool ay),v5,v6,v7,v8,D (.ref A.bd),fu,gU,dm,cP,dw,cW,D (aF x),D (aF y),D (.int s),D (.int t),D (.int V),M,kZ,L,fG,X] Z):wSs WD (CW (n+110)) (bw 4 oF) [v0,k,l,v3,D (.bool ay),v5,v6,v7,v8,D (.ref A.bd),fu,gU,dm,cP,dw,cW,D (aF x),D (aF y),D (.int s),D (.int t),D (.int V),jj,gV,gW,fG,gF] σ aw:=by
 have d2:=Q.rC;refine IC (a:=.ref A.bd) (b:=.int V) rfl rfl (Im (n:=n+108) (h.pos) ?_);refine Ip (n:=n+109) h fun bX i f=>?_;have e:=Iy i;refine HO (n:=n+98) E H Q fun cy f2=>?_;have z:=Pw.iy e f2;refine Ue (n:=n+11) E z.iv x1 x2 H Q H.1.len Q.1.len (bZ 0x6a9006a1001e0826ad00418001 rfl (H.rC) d2) fun d U=>?_;have J:=U.iv.st.tb;have u:=U.pre;refine bf (show(!(decide _==decide _))=ai by rw[beq_self_eq_true];rfl) ?_;refine bM 1 rfl (fun m1=>?_) fun _=>C _ _ _ _ _ _ J u;refine bD (fun q=>?_) fun _=>C _ _ _ _ _ _ J u;clear E H Q i e z;subst m1;obtain⟨v,gv⟩:=Ug x y ay q;rw[gv]at U;have lV:=U.iv.st;rw[gv];refine⟨rfl,?_⟩;refine H9 (n:=3) (fun j a lc Z=>Z=d.σ/\a=aY (ft j v)/\∃X,lc=[v0,k,l,v3,D (.bool ay),v5,v6,v7,v8,D (.ref A.bd),fu,gU,dm,cP,dw,cW,D (aF x),D (aF y),D (.int s),D (.int t),D (.int (1:Nat)),D (.ref σ.length),gV,D (.int v),fG,X]) ?_ ?_ ⟨rfl,rfl,gF,rfl⟩;.rintro a lc Z⟨rfl,rfl,X,rfl⟩;have z4:=Pw.iy U.iv (Fr.new (σ:=d.σ) (g:=[.list (aY (ft 3 v))]));have O:=z4.iv.st;apply o O.mT;refine IB (n:=n+109) O (U.iv.lS) (U.cV rfl rfl) fun c fE f5 h5=>?_;have g5:=f5 _ _ (aR (σ:=d.σ)) bJ;rw[Uh]at g5;apply o (Iz h5 g5 rfl);exact C _ _ _ _ _ _ (J.fV (Fr.new.trans f5)) u
 .rintro j a lc Z K hj⟨rfl,rfl,X,rfl⟩w;apply p (Ic (m:=v) (j:=j) (ax 262028185601 rfl hj));refine iU 1 rfl (fun q=>?_) fun q=>?_;.have J:=ww.mp q;apply o (show cY _ (.ab [.int 1,.int 2,.int 11]) (.int j)=D (.int (AC j))by clear w q J;induction j,hj using yy<;>rfl);refine w _ _ _ ⟨rfl,?_,_,rfl⟩;rw[tQ,af J,vo]
  .refine w _ _ _ ⟨rfl,?_,_,rfl⟩;rw[tQ,am fun r=>q (ww.mpr r),bK]
end
section
variable{R W b b' dp m b0 F L n w s t r e md V tr od:Nat}
theorem Ui(J:V=3\/V∈[1,2,4]):∀L',2=L'+1->oD V 12 L':=fun L' q=>by cases q;intro n x y ay σ k Z X H;exact HO (n:=n) J ⟨Z.1,fun p U=>(Z.2.1 p U).le,Z.2.2.le⟩ ⟨X.1,fun p U=>(X.2.1 p U).le,X.2.2.le⟩ H
theorem Uj(O:V=3\/V∈[1,2,4])(h:Iv A R av V (b+2389842+(757+84161)+1+1+8) 0 60 0 S)(C:SR c S.T x s)(M:SR (!c) S.T y t)(X:bn V 2 x)(K:bn V 2 y)(j:S.T[od]?=D (eH (S0 "x") 2 5 0))(g:∀U kZ J H T' Z,Tb A b T' Z->S.T<+:T'->aw.kn [v0,d,u,v3,D (.bool ay),v5,v6,v7,v8,D (.ref A.bd),fu,D (.int od),dm,cP,dw,cW,D (aF x),D (aF y),D (.int s),D (.int t),D (.int V),U,kZ,J,fG,H] Z):wSs WD (CW (n+110)) (bw 3 oF) [v0,d,u,v3,D (.bool ay),v5,v6,v7,v8,D (.ref A.bd),fu,D (.int od),dm,cP,dw,cW,D (aF x),D (aF y),D (.int s),D (.int t),D (.int V),D (.ref R),gV,gW,fG,gF] S.σ aw:=by
 refine bN (bM 3 rfl (fun _=>ID (n:=n) O (h.st.tb.le (aB 0x18528a4609037a8820123ba91434000000091dd48a1a0000 rfl)) C M X K g) fun m3=>?_);have Q:=O.resolve_left m3;refine Ud (n:=n+13) Q (Uf Q) h (aE 2) C X j (ax 0x1a840078209a8418001 rfl (X.rC)) fun S1 E=>?_;apply o (rv x);have v:Nm 256:=by unfold Nm;decide
 show CW (n+97+12+1) 144 [aL x.res,aL (.mk 256 I),.int V] _ _;refine rx (n:=n+97) (F:=12) m3 (Ui O) X.2.2 (tN v) (aE 2) fun k f=>?_;refine bf (show(!(decide _==decide _))=ai by rw[beq_self_eq_true];rfl) ?_;exact ID (n:=n) O (E.iv.st.tb.fV f) (C.aq E.pre) (M.aq E.pre) X K fun U kZ J H T' Z a b=>g _ _ _ _ T' Z a (E.pre.trans b)
end
section
variable{R W b b' dp m b0 F L n w s t r e ret fl b6 md V tr od mo:Nat}
theorem Uk(h:x.ps.length<=4):(bp x).length<=4/\lP x<=(bp x).length:=by
 have e1:(bp x).length=x.ps.length:=by unfold bp;rw[aJ]
 exact⟨by rw[e1];exact h,by rw[e1];exact oZ _ _⟩
theorem IE:cV ((0:Nat):Int)=[]:=by decide+kernel
theorem Ul:cV ((1:Nat):Int)=[1]:=by decide+kernel
theorem Um:cV ((4:Nat):Int)=[11]:=by decide+kernel
theorem wB(hm:V=3\/V∈[1,2,4])(h:Tb A (b+2389842+(757+84161)+1+1+8+1+8) T σ)(x1:SR c T x s)(x2:SR (!c) T y t)(C:bn V 2 x)(wy:bn V 2 y)(ho:T[od]?=D (eH (S0 "x") 2 5 0))(Un:T[mo]?=D (eH (S0 "z") r ret fl))(M:lY T b6 r e)(K:ret=0\/ret=1)(l:∀j kZ d u T' U,Tb A b T' U->T<+:T'->aw.kn [v0,i,v2,v3,D (.bool ay),v5,v6,v7,v8,D (.ref A.bd),fu,D (.int od),dm,D (.int b6),dw,D (.int mo),D (aF x),D (aF y),D (.int s),D (.int t),D (.int V),j,kZ,d,fG,u] U):wSs WD (CW (n+110)) oF [v0,i,v2,v3,D (.bool ay),v5,v6,v7,v8,D (.ref A.bd),fu,D (.int od),dm,D (.int b6),dw,D (.int mo),D (aF x),D (aF y),D (.int s),D (.int t),D (.int V),jj,gV,gW,fG,gF] σ aw:=by
 have pos:=h.pos;refine IC (a:=.ref A.bd) (b:=.int V) rfl rfl (Im (n:=n+108) pos ?_);refine Ip (n:=n+109) h fun v st f=>?_;have i0:=Iy st;have Z:∀{S1:Rs}{kZ},Iv A σ.length av V (b+2389842+(757+84161)+1+1+8) 0 60 0 S1->T<+:S1.T->wSs WD (CW (n+110)) (bw 3 oF) [v0,i,v2,v3,D (.bool ay),v5,v6,v7,v8,D (.ref A.bd),fu,D (.int od),dm,D (.int b6),dw,D (.int mo),D (aF x),D (aF y),D (.int s),D (.int t),D (.int V),D (.ref σ.length),kZ,gW,fG,gF] S1.σ aw:=fun{S1 kZ}i1 p1=>Uj hm i1 (x1.aq p1) (x2.aq p1) C wy (bV p1 ho) fun j kZ d u T' U a b=>l _ _ _ _ T' U a (p1.trans b);have skip:=Z (S1:=⟨T,[],[],[],σ.length+4,v⟩) (kZ:=gV) (i0.le (aB 0x6158528a4609037a8820123ba91434000000000c2945230481bd4410091dd48a1a000000000 rfl)) (df T);refine bN (bM 3 rfl (fun _=>skip) fun m3=>?_);have AD:=hm.resolve_left m3;have k:(V=4->da x=ai)->wSs WD (CW (n+110)) (tL (bw 2 oF)) [v0,i,v2,v3,D (.bool ay),v5,v6,v7,v8,D (.ref A.bd),fu,D (.int od),dm,D (.int b6),dw,D (.int mo),D (aF x),D (aF y),D (.int s),D (.int t),D (.int V),D (.ref σ.length),gV,gW,fG,gF] v (kS (wSs WD (CW (n+110)) (bw 3 oF)) aw):=fun h4=>by
  refine TR (n:=n+98) AD i0 x1 C Un M K h4 fun S1 Q=>?_;have X:∀{O:Nat}{J:AH},Fr [] S1.σ J->J[O]?=D (.list (aY (cV (oE b6 x:Nat))))->wSs WD (CW (n+110)) (bw 2 (tL (bw 2 oF))) [v0,i,v2,v3,D (.bool ay),v5,v6,v7,v8,D (.ref A.bd),fu,D (.int od),dm,D (.int b6),dw,D (.int mo),D (aF x),D (aF y),D (.int s),D (.int t),D (.int V),D (.ref σ.length),D (.ref O),gW,fG,gF] J (kS (wSs WD (CW (n+110)) (bw 3 oF)) aw):=fun{O J}f5 h5=>by have z:=Pw.iy Q.iv f5;refine bM 1 rfl (fun m1=>?_) fun _=>Z z.iv Q.pre;have n4:V≠4:=ax 193309462550 rfl m1;rw[am n4]at Q;apply o z.iv.st.mT;refine IB (n:=n+109) z.iv.st z.iv.lS (Q.cV m1 rfl) fun c' vA f6 h6=>?_;apply o (Iz h6 (f6 _ _ h5 bJ) rfl);exact Z (Pw.iy z.iv f6).iv Q.pre
  refine z8 (n:=n+107) C.1.len fun cy f2=>?_;refine z9 (n:=n+109) C.1.len fun eb f3=>?_;have sl:=Uk C.1.len;have h3:=f3 _ _ (aR (σ:=cy)) bJ;refine Aa (n:=n+109) h3 sl.1 sl.2 ?_;have f1:Fr [] S1.σ (S1.σ++[AO.list []]++[AO.list [.int 1]]):=Fr.new.cm;have H:Fr [] (S1.σ++[AO.list []]++[AO.list [.int 1]]) eb:=(f2.cm (g:=[.list ((bp x).map aL)])).trans f3;have g0:=H _ _ (dt (aR (σ:=S1.σ))) bJ;have g1:=H _ _ (aR (σ:=S1.σ++[AO.list []])) bJ;have E:∀{l2:List Nat},l2=cV (oE 2 x:Nat)->∃O,cY (eb++[AO.list (aY l2)]) (.ab [.ref S1.σ.length,.ref (S1.σ++[AO.list []]).length,.ref eb.length]) (.int b6)=D (.ref O)/\(eb++[AO.list (aY l2)])[O]?=D (.list (aY (cV (oE b6 x:Nat)))):=fun{l2}e2=>by
   rcases(qL 0 M.lt (bP _):b6=0\/b6=1\/b6=2)with q|q|q;.clear M l Z skip Q X;subst q;exact⟨_,rfl,(dt g0).trans (by rw[show oE 0 x=0 from rfl,IE];rfl)⟩
   .clear M l Z skip Q X;subst q;exact⟨_,rfl,(dt g1).trans (by rw[show oE 1 x=1 from rfl,Ul];rfl)⟩
   .clear M l Z skip Q X;subst q;exact⟨_,rfl,by rw[aR,e2]⟩
  refine bD (fun q=>?_) fun q=>?_;.have mv:oE 2 x=4:=af (cv.mp q);obtain⟨O,a1,a2⟩:=E (l2:=[11]) (by rw[mv,Um]);apply o a1;exact X ((f1.trans H).cm) a2
  .have mv:oE 2 x=0:=am fun r=>q (cv.mpr r);obtain⟨O,a1,a2⟩:=E (l2:=[]) (by rw[mv,IE]);apply o a1;exact X ((f1.trans H).cm) a2
 refine bM 4 rfl (fun m4=>?_) fun m4=>k fun q=>ae q m4;refine Af (n:=n+109) C (aE 2) ?_;rcases ht:da x with _|_;.exact k fun _=>ht
 exact skip
end
section
variable{b n ag lZ od mo r e ret fl b6 cC:Nat}
theorem lY.aq(h:lY T b6 r e)(p:T<+:T'):lY T' b6 r e:=⟨h.lt,h.z,fun q=>⟨(h.o q).1,bV p (h.o q).2⟩,fun q=>⟨(h.w q).1,bV p (h.w q).2⟩⟩
theorem Uo(K:cC=3\/cC∈[1,2,4])(h:Tb A 10000000 T σ)(J:SR Y T x ag)(H:SR ai T y lZ)(g:∀V,(V=3->cC=3)->bn V 2 x)(j:∀V,(V=3->cC=3)->bn V 2 y)(Z:T[od]?=D (eH (S0 "x") 2 5 0))(X:T[mo]?=D (eH (S0 "z") r ret fl))(Q:lY T b6 r e)(U:ret=0\/ret=1)(k:∀M,aw.kr (.bool Y) M):wSs WD (CW (n+110)) (bw 17 j1) [v0,i,a,D (.int cC),D (.bool ay),v5,D (aF x),D (aF y),v8,D (.ref A.bd),D (.int ag),D (.int od),D (.int lZ),D (.int b6),dw,D (.int mo),c4,ej,kh,ki,kl,jj,gV,gW,fG,gF] σ aw:=by have d:=g 1 (fun q=>ae q (by decide));have u:=j 1 (fun q=>ae q (by decide));have w:=g cC id;have v:=j cC id;have m1:(1:Nat)=3\/1∈[1,2,4]:=.inr (by decide);refine⟨trivial,?_⟩;refine⟨trivial,?_⟩;refine wB (n:=n) (V:=1) (b:=7500000) (c:=Y) m1 (h.le (by decide)) J H d u Z X Q U fun _ _ _ _ T1 m f O=>?_;have J:=J.aq O;have H:=H.aq O;have Z:=bV O Z;have X:=bV O X;have Q:=Q.aq O;refine⟨trivial,?_⟩;refine wB (n:=n) (V:=cC) (b:=5000000) (c:=Y) K (f.le (by decide)) J H w v Z X Q U fun _ _ _ _ T2 z t E=>?_;have J:=J.aq E;have H:=H.aq E;have Z:=bV E Z;have X:=bV E X;have Q:=Q.aq E;refine⟨trivial,?_⟩;refine⟨trivial,?_⟩;refine⟨trivial,?_⟩;refine wB (n:=n) (V:=1) (b:=2500000) (c:=ai) m1 (t.le (by decide)) H J u d Z X Q U fun _ _ _ _ T3 s l C=>?_;have J:=J.aq C;have H:=H.aq C;have Z:=bV C Z;have X:=bV C X;have Q:=Q.aq C;refine⟨trivial,?_⟩;refine wB (n:=n) (V:=cC) (b:=0) (c:=ai) K (l.le (by decide)) H J v w Z X Q U fun _ _ _ _ T4 L h4 p4=>?_;exact⟨trivial,trivial,k L⟩
end
section
variable{b n ag lZ od mo r e ret fl b6 cC f nc ac a1 md:Nat}
theorem Up(h:lI WD K c [] σ fun v Z=>gO (fi lc (.ag l) v) fun X=>wSs WD K U X Z aw):wSs WD K (.cons (.an (.ag l) (.new c .nil)) U) lc σ aw:=h
theorem Uq(U:lc[i]?=D (D a))(h:lI WD K c [a] σ fun v Z=>gO (fi lc (.ag l) v) fun X=>wSs WD K J X Z aw):wSs WD K (.cons (.an (.ag l) (.new c (.cons (.var i) .nil))) J) lc σ aw:=by show gL lc[i]? _;rw[U];exact h
theorem AE(h:mf Z=Y):eF (eH Z r ret fl)=true:=by show(Y&&(Y&&((((mf Z&&(Y&&(Y&&Y)))&&Y))&&(Y&&(Y&&(Y&&Y))))))=Y;rw[h];rfl
theorem Ur:mf (S0 "x")=true:=by decide+kernel
theorem IF:mf (S0 "z")=true:=by decide+kernel
theorem Us(j:cC=3\/cC∈[1,2,4])(h:Tb A (10000000+1) T σ)(d:SR Y T x ag)(u:SR ai T y lZ)(w:∀V,(V=3->cC=3)->bn V 2 x)(k:∀V,(V=3->cC=3)->bn V 2 y)(E:T[od]?=D (eH (S0 "x") 2 5 0))(m:lY T b6 r e)(C:f<2)(z:∀Z,aw.kr (.bool Y) Z):wSs WD (CW (n+110)) (bw 16 j1) [v0,M,L,D (.int cC),D (.bool ay),D (.int f),D (aF x),D (aF y),D (.ref A.az),D (.ref A.bd),D (.int ag),D (.int od),D (.int lZ),D (.int b6),D (.int r),cW,c4,ej,kh,ki,kl,jj,gV,gW,fG,gF] σ aw:=by
 have g:∀{ret:Nat}{K:Ss},K=bw 17 j1->ret=0\/ret=1->∀(mo:Nat)T' Z,Tb A 10000000 T' Z->T<+:T'->T'[mo]?=D (eH (S0 "z") r ret f)->wSs WD (CW (n+110)) K [v0,M,L,D (.int cC),D (.bool ay),D (.int f),D (aF x),D (aF y),D (.ref A.az),D (.ref A.bd),D (.int ag),D (.int od),D (.int lZ),D (.int b6),D (.int r),D (.int mo),c4,ej,kh,ki,kl,jj,gV,gW,fG,gF] Z aw:=fun{ret K}c J mo O X H U Q=>by subst c;exact Uo (n:=n) j H (d.aq U) (u.aq U) w k (bV U E) Q (m.aq U) J z
 rcases(n9 0 C (bP _):f=0\/f=1)with q|q;.clear C;subst q;refine yo ?_;refine mS (n:=n+108) (row:=eH (S0 "z") r 1 0) h (AE IF) rfl fun mo O X H U Q t=>?_;dsimp only[kS,kR];refine o (v:=[v0,M,L,D (.int cC),D (.bool ay),D (.int (0:Nat)),D (aF x),D (aF y),D (.ref A.az),D (.ref A.bd),D (.int ag),D (.int od),D (.int lZ),D (.int b6),D (.int r),D (.int mo),c4,ej,kh,ki,kl,jj,gV,gW,fG,gF]) rfl ?_;exact g rfl (.inr rfl) mo O X H U Q
 .clear C;subst q;refine yo ?_;refine mS (n:=n+108) (row:=eH (S0 "z") r 0 1) h (AE IF) rfl fun mo O X H U Q t=>?_;dsimp only[kS,kR];refine o (v:=[v0,M,L,D (.int cC),D (.bool ay),D (.int (1:Nat)),D (aF x),D (aF y),D (.ref A.az),D (.ref A.bd),D (.int ag),D (.int od),D (.int lZ),D (.int b6),D (.int r),D (.int mo),c4,ej,kh,ki,kl,jj,gV,gW,fG,gF]) rfl ?_;exact g rfl (.inl rfl) mo O X H U Q
theorem Ut(h:cC=3\/cC∈[1,2,4])(u:Dr nc ac a1 1 σ)(X:nc<σ.length)(w:∀V,(V=3->cC=3)->bn V 2 x)(v:∀V,(V=3->cC=3)->bn V 2 y)(k:f<2)(a:0<σ.length)(hk:∀E,aw.kr (.bool Y) E):wSs WD (CW (n+110)) (bw 9 j1) [v0,D (.ref nc),D (.ref ac),D (.int cC),D (.bool ay),D (.int f),D (aF x),D (aF y),v8,v9,fu,gU,dm,cP,dw,cW,c4,ej,kh,ki,kl,jj,gV,gW,fG,gF] σ aw:=by
 have Z:=u.lt;refine Up (S9 (n:=n+107) a fun bX tw f1 z=>?_);refine Uq rfl (Ta (n:=n+109) (b:=10100000) tw (aC 717603171078145 rfl z) (by decide) fun A C h2 c J lo f2=>?_);have M:=(u.fV f1).fV f2;obtain⟨t,s,J⟩:=J;have aP:∀{j},j<σ.length->j∉A.aP:=fun{j}l q=>by
  rcases cc.mp q with e|q;.exact fj 0x2960cab6084b50503221003 rfl t l e
  .have:=aZ.mp q;exact fj 0x2960cab6084d50503221003 rfl s l this
 show CW (n+100+10) 141 [.ref σ.length,aF x,.str (cT Y),.int f] C _;rw[c.symm,J.symm];refine Ij (n:=n+100) (b:=10094300) k (w 1 (fun q=>ae q (by decide))) h2 fun ag T3 eb h3 p3 f3 x1=>?_;refine Nv ?_;refine mS (n:=n+108) (b:=10094299) (row:=eH (S0 "x") 2 5 0) h3 (AE Ur) rfl fun od T4 L h4 p4 K f4=>?_;show CW (n+100+10) 141 [.ref A.az,aF y,.str (cT ai),.int (0:Nat)] L _;refine Ij (n:=n+100) (b:=10088599) (by decide) (v 1 (fun q=>ae q (by decide))) h4 fun lZ T5 fE h5 i f5 x2=>?_;refine fa (n:=n+109) (B:=0) (m:=3) ((((M.fr f3 (aP X) (aP Z)).fr f4 (aP X) (aP Z))).fr f5 (aP X) (aP Z)) (by decide) fun b6 vA H aj0 f6=>?_;have h6:Tb A 10088599 T5 vA:=h5.fr (O:=[ac]) f6 ?_ ?_ ?_ ?_
 .refine AA (n:=n+108) (b:=10088598) h6 fun ra T7 ta h7 g r7 f7=>?_;refine AA (n:=n+108) (b:=10088597) h7 fun rn T8 d h8 Q r8 f8=>?_;have U:∀{r e:Nat},lY T8 b6 r e->wSs WD (CW (n+110)) (bw 16 j1) [v0,D (.ref nc),D (.ref ac),D (.int cC),D (.bool ay),D (.int f),D (aF x),D (aF y),D (.ref A.az),D (.ref A.bd),D (.int ag),D (.int od),D (.int lZ),D (.int b6),D (.int r),cW,c4,ej,kh,ki,kl,jj,gV,gW,fG,gF] d aw:=fun{r e}hM=>by exact Us (n:=n) h (h8.le (show 10000000+1<=10088597 by decide)) ((((x1.aq p4).aq i).aq g).aq Q) ((x2.aq g).aq Q) w v (bV (((i.trans g).trans Q)) K) hM k hk
  rcases(qL 0 H (bP _):b6=0\/b6=1\/b6=2)with q|q|q;.clear H;subst q;exact U (r:=2) ⟨by decide,fun _=>⟨rfl,rfl⟩,fun q=>ae q (by decide),fun q=>ae q (by decide)⟩
  .clear H;subst q;exact U (r:=ra) ⟨by decide,fun q=>ae q (by decide),fun _=>⟨rfl,bV Q r7⟩,fun q=>ae q (by decide)⟩
  .clear H;subst q;exact U (r:=rn) ⟨by decide,fun q=>ae q (by decide),fun q=>ae q (by decide),fun _=>⟨rfl,r8⟩⟩
 .exact fun q=>fj 0xa5822ad832ad02121003 rfl Z c (aZ.mp q)
 .exact fun q=>OL 0x29708ad70cacca8021ad02121003 rfl Z z J (aZ.mp q)
 .exact fun q=>fj 0x296088b505832ad02121003 rfl Z t (aZ.mp q)
 .exact fun q=>fj 0x296088d505832ad02121003 rfl Z s (aZ.mp q)
end
section
variable{b n r e cC f nc ac a1 md B:Nat}
theorem Dr.Uu(h:Dr nc ac a1 B σ):nc<σ.length:=(by obtain⟨_,a,_⟩:=h.p5;exact(bo.mp a).1)
theorem IG(M:cC=3\/cC∈[1,2,4])(L:Dr nc ac a1 (1+vB 2+sB 2+1+1) σ)(X:cC=3->a1≠0)(K:∀U,aw.kr (.bool Y) U):wSs WD (CW (n+110)) (bw 5 j1) [v0,D (.ref nc),D (.ref ac),D (.int cC),v4,v5,v6,v7,v8,v9,fu,gU,dm,cP,dw,cW,c4,ej,kh,ki,kl,jj,gV,gW,fG,gF] σ aw:=by have O:=SZ (nc:=nc) (ac:=ac) (a1:=a1) (md:=if cC=3 then 3 else 1) (fun q=>X (nK fun A=>by rw[am A]at q;cases q));have E:∀V,(V=3->cC=3)->V=3->(if cC=3 then 3 else 1)=3:=fun V h q=>af (h q);refine fa (n:=n+109) (m:=3) L (by decide) fun r g _ J _=>?_;refine fa (n:=n+109) (m:=2) J (by decide) fun f j d H _=>?_;show CW (n+95+15) 136 [.ref nc,.ref ac,.int ((2-2:Nat):Int)] _ _;refine O.1 (n:=n+95) H fun x u C w _ k _ Q _=>?_;show CW (n+86+24) 138 [.ref nc,.ref ac,aF x,.int ((2-2:Nat):Int)] _ _;refine O.2 (n:=n+86) Q C w k fun y z c _ Z _=>?_;have l:=Z.Uu;exact o (v:=[v0,D (.ref nc),D (.ref ac),D (.int cC),D (.bool (decide ((r:Int)=1))),D (.int f),D (aF x),D (aF y),v8,v9,fu,gU,dm,cP,dw,cW,c4,ej,kh,ki,kl,jj,gV,gW,fG,gF]) rfl (Ut (n:=n) M Z l (fun V h=>C.to (E V h)) (fun V h=>c.to (E V h)) d (aC 709778608129 rfl l) K)
end
section
variable{b n r e cC f nc ac a1 md B:Nat}
theorem Uv(U:cC=3\/cC∈[1,2,4])(Z:Dr nc ac 0 (1+vB 2+sB 2+1+1) σ)(J:∀X,aw.kr (.bool Y) X):wSs WD (CW (n+110)) (bw 4 j1) [v0,D (.ref nc),D (.ref ac),D (.int cC),v4,v5,v6,v7,v8,v9,fu,gU,dm,cP,dw,cW,c4,ej,kh,ki,kl,jj,gV,gW,fG,gF] σ aw:=by refine bM 3 rfl (fun q=>?_) fun q=>IG (n:=n) U Z (fun e=>ae e q) J;obtain⟨i,H,hi⟩:=Z.cur;apply o (show i7 σ ac (.int 1) (.int 1)=D (σ.set ac (.list [.int i,.int (1:Nat)]))by show(match σ[ac]? with|some (.dict es)=>_|some (.list xs)=>_|_=>I)=_;rw[H];show(if(Y&&Y&&Y&&decide (2<av)&&ac !=0)=Y then _ else _)=_;rw[aN (show 2<av by decide),fx.mpr Z.a0];rfl);refine IG (n:=n) U ⟨(by obtain⟨ns,a,b⟩:=Z.p5;exact⟨ns,bl a Z.na.symm,b⟩),⟨i,eV H,hi⟩,Z.na,Z.a0⟩ (fun _=>(by decide:(1:Nat)≠0)) J
theorem Uw(H:Dr nc ac 0 (1+vB 2+sB 2+1+1+1) σ)(Q:∀Z,aw.kr (.bool Y) Z):wSs WD (CW (n+110)) (bw 3 j1) [v0,D (.ref nc),D (.ref ac),v3,v4,v5,v6,v7,v8,v9,fu,gU,dm,cP,dw,cW,c4,ej,kh,ki,kl,jj,gV,gW,fG,gF] σ aw:=by
 refine fa (n:=n+109) (m:=3) H (by decide) fun r X O U _=>?_;have J:∀{cC:Nat},cC=3\/cC∈[1,2,4]->_:=fun{cC}E=>Uv (n:=n) (σ:=X) (v0:=v0) (v4:=v4) (v5:=v5) (v6:=v6) (v7:=v7) (v8:=v8) (v9:=v9) (fu:=fu) (gU:=gU) (dm:=dm) (cP:=cP) (dw:=dw) (cW:=cW) (c4:=c4) (ej:=ej) (kh:=kh) (ki:=ki) (kl:=kl) (jj:=jj) (gV:=gV) (gW:=gW) (fG:=fG) (gF:=gF) (aw:=aw) E U Q;induction r,O using yy;.exact o (v:=.int (4:Nat)) rfl (o rfl (J (cC:=4) (.inr (by decide))))
 .exact o (v:=.int (2:Nat)) rfl (o rfl (J (cC:=2) (.inr (by decide))))
 .exact o (v:=.int (3:Nat)) rfl (o rfl (J (cC:=3) (.inl rfl)))
end
section
variable{l:List Int}
noncomputable def p7(z:Int):Int:=z%999983
noncomputable def mD(d:aa):aa:=match d with|.int z=>.int (p7 z)|d=>d
theorem Ux:∀{l:List Int},(l.map aa.int).map mD=(l.map p7).map aa.int:=by intro l;induction l with|nil=>exact rfl|cons z r Z=>exact aI (aa.int (p7 z)::·) Z
theorem Uy(h:σ[i]?=D (.list xs))(hl:xs.length<av):qD σ (.ref i) .none (.int 40)=D (.ref σ.length,σ++[.list (xs.take 40)]):=by
 have e:dS xs .none (.int 40)=D (xs.take 40):=by
  unfold dS;rw[af hl];show D ((xs.take (min 40 xs.length)).drop 0)=_;rw[uD];by_cases q:40<=xs.length;.rw[mq q]
  .rw[se (ax 0x28140821205020d000 rfl q),uF (aE _),uF (ax 0x28140821205020d000 rfl q)]
 show(match σ[i]? with|some (.list xs)=>_|_=>I)=_;rw[h];show(match dS xs .none (.int 40)with|some r=>_|none=>I)=_;rw[e]
theorem IH{ns:List Int}(hn:σ[nc]?=D (.list (ns.map .int)))(h0:0<ns.length)(hl:ns.length<=63)(hp:0<σ.length)(hk:∀au,aw.kr (.bool Y) au):wSs WD (CW (n+110)) (bw 2 j1) [v0,D (.ref nc),I,I,I,I,I,I,I,I,I,I,I,I,I,I,I,I,I,I,I,I,I,I,I,I] σ aw:=by exact Uw (n:=n) (σ:=σ++[.list [.int 0,.int 0]]) ⟨⟨ns,dt hn,h0,hl⟩,⟨0,aR,by decide+kernel⟩,lh ((bo.mp hn).1),jm hp⟩ hk
theorem Uz(O:l.length<=63)(J:∀Z,k (.bool Y) Z):CW (n+111) 152 [.ref 0] [.list (l.map .int)] k:=by
 have E:(l.map aa.int).length<av:=by rw[aJ];exact ax 0x7e20d02015001 rfl O
 refine OD ?_;apply p (Uy (i:=0) rfl E);have X:([AO.list (l.map aa.int)]++[.list ((l.map aa.int).take 40)]:AH)[1]?=D (.list ((l.map aa.int).take 40)):=rfl;rw[(Zp.symm)]at X⊢;have C:((l.take 40).map aa.int).length<av:=by rw[aJ,ig];exact dL (uB _ _) (ck rfl)
 apply o (kL X C);refine H5 mD (fun lc=>∃v,lc=[D (.ref 0),I,I,I,I,I,I,I,I,I,I,I,I,I,I,I,I,I,I,I,I,I,I,I,v,I]) ⟨I,rfl⟩ X ?_ ?_;.rintro x M lc⟨v,rfl⟩;obtain⟨z,_,rfl⟩:=g7.mp M;exact⟨_,rfl,⟨_,rfl⟩,fun _ q=>q,fun _ q=>q⟩
 rw[Ux];refine o (v:=[D (.ref 0),D (.ref 2),I,I,I,I,I,I,I,I,I,I,I,I,I,I,I,I,I,I,I,I,I,I,I,I]) (rfl:fi _ _ _=D _) ?_;have H:([AO.list (l.map aa.int)]++[.list ((l.take 40).map .int)]++[.list (((l.take 40).map p7).map .int)]:AH)[2]?=D (.list (((l.take 40).map p7).map .int)):=rfl;have U:(((l.take 40).map p7).map aa.int).length<av:=by rw[aJ,aJ,ig];exact dL (uB _ _) (ck rfl)
 apply p (du H U);rcases Q:(l.take 40).map p7 with _|⟨z,r⟩;.rw[Q]at H;exact IH (n:=n) (ns:=[5]) rfl (by decide) (by decide) (fe _) J
 have l2:(z::r).length<=63:=by rw[Q.symm,aJ,ig];exact bh (uB _ _) (ck rfl)
 exact IH (n:=n) (ns:=z::r) rfl (fe _) l2 (fe _) J
end
section
set_option maxHeartbeats 4000000
noncomputable def fO{bz:Type}(l:List bz):Bool:=cq l.length 1
noncomputable def l0{bz:Type}(l:List bz):Bool:=cq l.length 2
noncomputable def m9{bz:Type}(l:List bz):Bool:=cq l.length 0
noncomputable def c1(b:Bool)(n:Nat):Nat:=cond b n 0
noncomputable def dE:PySem.Expr:=.Constant .none 0 ⟨0,0,0,0⟩
noncomputable def wC(x:cN):Nat:=gI x (fun a b c=>c1 (lf 1 b.length) (B1 a 1 22)) (fun _ _ _=>0) (fun a b c d=>2) (fun a b c=>UnaryOp.casesOn a 21 3 0 20) (fun _ _ _ _=>0) (fun a b c d=>4) (fun a b c=>c1 (m9 a&&m9 b) 5) (fun a b c=>6) (fun a b c d=>cond (fO b) 7 8) (fun a b c d=>8) (fun a b c d e=>8) (fun a b c d=>8) (fun _ _=>0) (fun _ _=>0) (fun _ _=>0) (fun a b c d=>cond (fO b&&fO c) 9 (c1 (l0 b&&l0 c) 19)) (fun a b c d=>cond (m9 c) 10 23) (fun _ _ _ _=>0) (fun _ _=>0) (fun a b c=>11) (fun a b c=>12) (fun a b c=>13) (fun a b=>14) (fun a b=>15) (fun a b=>16) (fun a b c=>17) (fun a b c d=>cM c 18 fun _=>24)
noncomputable def e1(x:cN):PySem.Expr:=gI x (fun a b c=>b.headD dE) (fun _ _ _=>dE) (fun a b c d=>a) (fun a b c=>b) (fun _ _ _ _=>dE) (fun a b c d=>a) (fun _ _ _=>dE) (fun _ _ _=>dE) (fun a b c d=>a) (fun _ _ _ _=>dE) (fun _ _ _ _ _=>dE) (fun _ _ _ _=>dE) (fun _ _=>dE) (fun _ _=>dE) (fun _ _=>dE) (fun a b c d=>a) (fun a b c d=>a) (fun _ _ _ _=>dE) (fun _ _=>dE) (fun _ _ _=>dE) (fun a b c=>a) (fun a b c=>a) (fun _ _=>dE) (fun _ _=>dE) (fun _ _=>dE) (fun _ _ _=>dE) (fun _ _ _ _=>dE)
noncomputable def e2(x:cN):PySem.Expr:=gI x (fun _ _ _=>dE) (fun _ _ _=>dE) (fun a b c d=>c) (fun _ _ _=>dE) (fun _ _ _ _=>dE) (fun a b c d=>b) (fun _ _ _=>dE) (fun _ _ _=>dE) (fun _ _ _ _=>dE) (fun _ _ _ _=>dE) (fun _ _ _ _ _=>dE) (fun _ _ _ _=>dE) (fun _ _=>dE) (fun _ _=>dE) (fun _ _=>dE) (fun a b c d=>c.headD dE) (fun _ _ _ _=>dE) (fun _ _ _ _=>dE) (fun _ _=>dE) (fun _ _ _=>dE) (fun _ _ _=>dE) (fun a b c=>b) (fun _ _=>dE) (fun _ _=>dE) (fun _ _=>dE) (fun _ _ _=>dE) (fun _ _ _ _=>dE)
noncomputable def e3(x:cN):PySem.Expr:=gI x (fun _ _ _=>dE) (fun _ _ _=>dE) (fun _ _ _ _=>dE) (fun _ _ _=>dE) (fun _ _ _ _=>dE) (fun a b c d=>c) (fun _ _ _=>dE) (fun _ _ _=>dE) (fun _ _ _ _=>dE) (fun _ _ _ _=>dE) (fun _ _ _ _ _=>dE) (fun _ _ _ _=>dE) (fun _ _=>dE) (fun _ _=>dE) (fun _ _=>dE) (fun a b c d=>c.tail.headD dE) (fun _ _ _ _=>dE) (fun _ _ _ _=>dE) (fun _ _=>dE) (fun _ _ _=>dE) (fun _ _ _=>dE) (fun _ _ _=>dE) (fun _ _=>dE) (fun _ _=>dE) (fun _ _=>dE) (fun _ _ _=>dE) (fun _ _ _ _=>dE)
noncomputable def cL(x:cN):List PySem.Expr:=gI x (fun a b c=>b.tail) (fun _ _ _=>[]) (fun _ _ _ _=>[]) (fun _ _ _=>[]) (fun _ _ _ _=>[]) (fun _ _ _ _=>[]) (fun _ _ _=>[]) (fun _ _ _=>[]) (fun _ _ _ _=>[]) (fun _ _ _ _=>[]) (fun _ _ _ _ _=>[]) (fun _ _ _ _=>[]) (fun _ _=>[]) (fun _ _=>[]) (fun _ _=>[]) (fun _ _ _ _=>[]) (fun a b c d=>b) (fun _ _ _ _=>[]) (fun _ _=>[]) (fun _ _ _=>[]) (fun _ _ _=>[]) (fun _ _ _=>[]) (fun _ _=>[]) (fun _ _=>[]) (fun a b=>a) (fun a b c=>a) (fun _ _ _ _=>[])
noncomputable def dQ(x:cN):Str:=gI x (fun _ _ _=>⟨#[]⟩) (fun _ _ _=>⟨#[]⟩) (fun _ _ _ _=>⟨#[]⟩) (fun _ _ _=>⟨#[]⟩) (fun _ _ _ _=>⟨#[]⟩) (fun _ _ _ _=>⟨#[]⟩) (fun _ _ _=>⟨#[]⟩) (fun _ _ _=>⟨#[]⟩) (fun _ _ _ _=>⟨#[]⟩) (fun _ _ _ _=>⟨#[]⟩) (fun _ _ _ _ _=>⟨#[]⟩) (fun _ _ _ _=>⟨#[]⟩) (fun _ _=>⟨#[]⟩) (fun _ _=>⟨#[]⟩) (fun _ _=>⟨#[]⟩) (fun _ _ _ _=>⟨#[]⟩) (fun _ _ _ _=>⟨#[]⟩) (fun _ _ _ _=>⟨#[]⟩) (fun _ _=>⟨#[]⟩) (fun _ _ _=>⟨#[]⟩) (fun a b c=>b) (fun _ _ _=>⟨#[]⟩) (fun _ _=>⟨#[]⟩) (fun a b=>a) (fun _ _=>⟨#[]⟩) (fun _ _ _=>⟨#[]⟩) (fun _ _ _ _=>⟨#[]⟩)
noncomputable def wD(x:cN):Const:=gI x (fun _ _ _=>.none) (fun _ _ _=>.none) (fun _ _ _ _=>.none) (fun _ _ _=>.none) (fun _ _ _ _=>.none) (fun _ _ _ _=>.none) (fun _ _ _=>.none) (fun _ _ _=>.none) (fun _ _ _ _=>.none) (fun _ _ _ _=>.none) (fun _ _ _ _ _=>.none) (fun _ _ _ _=>.none) (fun _ _=>.none) (fun _ _=>.none) (fun _ _=>.none) (fun _ _ _ _=>.none) (fun _ _ _ _=>.none) (fun _ _ _ _=>.none) (fun _ _=>.none) (fun a b c=>a) (fun _ _ _=>.none) (fun _ _ _=>.none) (fun _ _=>.none) (fun _ _=>.none) (fun _ _=>.none) (fun _ _ _=>.none) (fun _ _ _ _=>.none)
noncomputable def kE(x:cN):Nat:=gI x (fun _ _ _=>0) (fun _ _ _=>0) (fun _ _ _ _=>0) (fun _ _ _=>0) (fun _ _ _ _=>0) (fun _ _ _ _=>0) (fun _ _ _=>0) (fun _ _ _=>0) (fun _ _ _ _=>0) (fun _ _ _ _=>0) (fun _ _ _ _ _=>0) (fun _ _ _ _=>0) (fun _ _=>0) (fun _ _=>0) (fun _ _=>0) (fun _ _ _ _=>0) (fun _ _ _ _=>0) (fun _ _ _ _=>0) (fun _ _=>0) (fun a b c=>b) (fun _ _ _=>0) (fun _ _ _=>0) (fun _ _=>0) (fun _ _=>0) (fun _ _=>0) (fun a b c=>b) (fun _ _ _ _=>0)
noncomputable def II(x:cN):Operator:=gI x (fun _ _ _=>.Add) (fun _ _ _=>.Add) (fun a b c d=>b) (fun _ _ _=>.Add) (fun _ _ _ _=>.Add) (fun _ _ _ _=>.Add) (fun _ _ _=>.Add) (fun _ _ _=>.Add) (fun _ _ _ _=>.Add) (fun _ _ _ _=>.Add) (fun _ _ _ _ _=>.Add) (fun _ _ _ _=>.Add) (fun _ _=>.Add) (fun _ _=>.Add) (fun _ _=>.Add) (fun _ _ _ _=>.Add) (fun _ _ _ _=>.Add) (fun _ _ _ _=>.Add) (fun _ _=>.Add) (fun _ _ _=>.Add) (fun _ _ _=>.Add) (fun _ _ _=>.Add) (fun _ _=>.Add) (fun _ _=>.Add) (fun _ _=>.Add) (fun _ _ _=>.Add) (fun _ _ _ _=>.Add)
noncomputable def o1(x:cN):CmpOp:=gI x (fun _ _ _=>.Eq) (fun _ _ _=>.Eq) (fun _ _ _ _=>.Eq) (fun _ _ _=>.Eq) (fun _ _ _ _=>.Eq) (fun _ _ _ _=>.Eq) (fun _ _ _=>.Eq) (fun _ _ _=>.Eq) (fun _ _ _ _=>.Eq) (fun _ _ _ _=>.Eq) (fun _ _ _ _ _=>.Eq) (fun _ _ _ _=>.Eq) (fun _ _=>.Eq) (fun _ _=>.Eq) (fun _ _=>.Eq) (fun a b c d=>b.headD .Eq) (fun _ _ _ _=>.Eq) (fun _ _ _ _=>.Eq) (fun _ _=>.Eq) (fun _ _ _=>.Eq) (fun _ _ _=>.Eq) (fun _ _ _=>.Eq) (fun _ _=>.Eq) (fun _ _=>.Eq) (fun _ _=>.Eq) (fun _ _ _=>.Eq) (fun _ _ _ _=>.Eq)
noncomputable def o2(x:cN):CmpOp:=gI x (fun _ _ _=>.Eq) (fun _ _ _=>.Eq) (fun _ _ _ _=>.Eq) (fun _ _ _=>.Eq) (fun _ _ _ _=>.Eq) (fun _ _ _ _=>.Eq) (fun _ _ _=>.Eq) (fun _ _ _=>.Eq) (fun _ _ _ _=>.Eq) (fun _ _ _ _=>.Eq) (fun _ _ _ _ _=>.Eq) (fun _ _ _ _=>.Eq) (fun _ _=>.Eq) (fun _ _=>.Eq) (fun _ _=>.Eq) (fun a b c d=>b.tail.headD .Eq) (fun _ _ _ _=>.Eq) (fun _ _ _ _=>.Eq) (fun _ _=>.Eq) (fun _ _ _=>.Eq) (fun _ _ _=>.Eq) (fun _ _ _=>.Eq) (fun _ _=>.Eq) (fun _ _=>.Eq) (fun _ _=>.Eq) (fun _ _ _=>.Eq) (fun _ _ _ _=>.Eq)
noncomputable def tR(x:cN):Option PySem.Expr:=gI x (fun _ _ _=>I) (fun _ _ _=>I) (fun _ _ _ _=>I) (fun _ _ _=>I) (fun _ _ _ _=>I) (fun _ _ _ _=>I) (fun _ _ _=>I) (fun _ _ _=>I) (fun _ _ _ _=>I) (fun _ _ _ _=>I) (fun _ _ _ _ _=>I) (fun _ _ _ _=>I) (fun _ _=>I) (fun _ _=>I) (fun _ _=>I) (fun _ _ _ _=>I) (fun _ _ _ _=>I) (fun _ _ _ _=>I) (fun _ _=>I) (fun _ _ _=>I) (fun _ _ _=>I) (fun _ _ _=>I) (fun _ _=>I) (fun _ _=>I) (fun _ _=>I) (fun _ _ _=>I) (fun a b c d=>a)
noncomputable def wF(x:cN):Option PySem.Expr:=gI x (fun _ _ _=>I) (fun _ _ _=>I) (fun _ _ _ _=>I) (fun _ _ _=>I) (fun _ _ _ _=>I) (fun _ _ _ _=>I) (fun _ _ _=>I) (fun _ _ _=>I) (fun _ _ _ _=>I) (fun _ _ _ _=>I) (fun _ _ _ _ _=>I) (fun _ _ _ _=>I) (fun _ _=>I) (fun _ _=>I) (fun _ _=>I) (fun _ _ _ _=>I) (fun _ _ _ _=>I) (fun _ _ _ _=>I) (fun _ _=>I) (fun _ _ _=>I) (fun _ _ _=>I) (fun _ _ _=>I) (fun _ _=>I) (fun _ _=>I) (fun _ _=>I) (fun _ _ _=>I) (fun a b c d=>b)
noncomputable def fZ(x:cN):Comprehension:=gI x (fun _ _ _=>⟨dE,dE,[],0⟩) (fun _ _ _=>⟨dE,dE,[],0⟩) (fun _ _ _ _=>⟨dE,dE,[],0⟩) (fun _ _ _=>⟨dE,dE,[],0⟩) (fun _ _ _ _=>⟨dE,dE,[],0⟩) (fun _ _ _ _=>⟨dE,dE,[],0⟩) (fun _ _ _=>⟨dE,dE,[],0⟩) (fun _ _ _=>⟨dE,dE,[],0⟩) (fun a b c d=>b.headD ⟨dE,dE,[],0⟩) (fun _ _ _ _=>⟨dE,dE,[],0⟩) (fun _ _ _ _ _=>⟨dE,dE,[],0⟩) (fun _ _ _ _=>⟨dE,dE,[],0⟩) (fun _ _=>⟨dE,dE,[],0⟩) (fun _ _=>⟨dE,dE,[],0⟩) (fun _ _=>⟨dE,dE,[],0⟩) (fun _ _ _ _=>⟨dE,dE,[],0⟩) (fun _ _ _ _=>⟨dE,dE,[],0⟩) (fun _ _ _ _=>⟨dE,dE,[],0⟩) (fun _ _=>⟨dE,dE,[],0⟩) (fun _ _ _=>⟨dE,dE,[],0⟩) (fun _ _ _=>⟨dE,dE,[],0⟩) (fun _ _ _=>⟨dE,dE,[],0⟩) (fun _ _=>⟨dE,dE,[],0⟩) (fun _ _=>⟨dE,dE,[],0⟩) (fun _ _=>⟨dE,dE,[],0⟩) (fun _ _ _=>⟨dE,dE,[],0⟩) (fun _ _ _ _=>⟨dE,dE,[],0⟩)
noncomputable def nf(x:cN):Scope:=gI x (fun _ _ _=>default) (fun _ _ _=>default) (fun _ _ _ _=>default) (fun _ _ _=>default) (fun _ _ _ _=>default) (fun _ _ _ _=>default) (fun _ _ _=>default) (fun _ _ _=>default) (fun a b c d=>c) (fun _ _ _ _=>default) (fun _ _ _ _ _=>default) (fun _ _ _ _=>default) (fun _ _=>default) (fun _ _=>default) (fun _ _=>default) (fun _ _ _ _=>default) (fun _ _ _ _=>default) (fun _ _ _ _=>default) (fun _ _=>default) (fun _ _ _=>default) (fun _ _ _=>default) (fun _ _ _=>default) (fun _ _=>default) (fun _ _=>default) (fun _ _=>default) (fun _ _ _=>default) (fun _ _ _ _=>default)
noncomputable abbrev bO(x:cN):Pos:=x.pos
noncomputable def oG(n:Nat)(x:cN):PySem.Expr:=(ZS [x,.BoolOp .And (e1 x::cL x) (bO x),.BinOp (e1 x) (II x) (e2 x) (bO x),.UnaryOp .Not (e1 x) (bO x),.IfExp (e1 x) (e2 x) (e3 x) (bO x),.Dict [] [] (bO x),x,.ListComp (e1 x) [fZ x] (nf x) (bO x),x,.Compare (e1 x) [o1 x] [e2 x] (bO x),.Call (e1 x) (cL x) [] (bO x),.Constant (wD x) (kE x) (bO x),.Attribute (e1 x) (dQ x) (bO x),.Subscript (e1 x) (e2 x) (bO x),x,.Name (dQ x) (bO x),.List (cL x) (bO x),.Tuple (cL x) (kE x) (bO x),.Slice (tR x) (wF x) I (bO x),.Compare (e1 x) [o1 x,o2 x] [e2 x,e3 x] (bO x),.UnaryOp .USub (e1 x) (bO x),.UnaryOp .Invert (e1 x) (bO x),.BoolOp .Or (e1 x::cL x) (bO x)] n x)
theorem UA(x:cN):oG (wC x) x=x:=by cases x with|BoolOp a b p=>rcases b with _|⟨y,_|⟨z,r⟩⟩<;>cases a<;>rfl|UnaryOp a b p=>cases a<;>rfl|Dict a b p=>cases a<;>cases b<;>rfl|ListComp a b c p=>rcases b with _|⟨y,_|⟨z,r⟩⟩<;>rfl|Compare a b c p=>rcases b with _|⟨y,_|⟨z,_|⟨_,r⟩⟩⟩<;>rcases c with _|⟨y',_|⟨z',_|⟨_,r'⟩⟩⟩<;>rfl|Call a b c p=>cases c<;>rfl|Slice a b c p=>cases c<;>rfl|_=>rfl
noncomputable def aG(n:Nat)(x:cN):Bool:=cq (wC x) n
theorem fb{n:Nat}{x:cN}(h:aG n x=Y):x=oG n x:=(UA x).symm.trans (aI (fun t=>oG t x) (jL h))
theorem IJ{n:Nat}{x:cN}{P:cN->Prop}(h:aG n x=Y)(k:P (oG n x)):P x:=by rw[fb h];exact k
noncomputable def oH(b:BoolOp)(x:cN):PySem.Expr:=eQ (cL x) (.Starred dE ⟨0,0,0,0⟩) fun y r=>eQ r y fun _ _=>.BoolOp b (cL x) (bO x)
noncomputable def IK(x:jr):Nat:=si x (fun _ _ _ _ _ _ _ _ _ _=>0) (fun _ _ _ _ _ _ _ _ _ _=>0) (fun _ _ _ _ _ _ _ _ _ _ _=>0) (fun a b=>cM a 8 fun _=>7) (fun a b=>c1 (fO a) 10) (fun a b c=>c1 (fO a) 1) (fun _ _ _ _ _ _ _=>0) (fun a b c d=>2) (fun _ _ _ _ _=>0) (fun a b c d e=>c1 (m9 d) 5) (fun _ _ _ _ _=>0) (fun a b c d=>c1 (m9 c) 6) (fun a b c d=>4) (fun _ _ _=>0) (fun _ _ _=>0) (fun _ _ _=>0) (fun _ _ _=>0) (fun _ _ _ _ _=>0) (fun _ _ _ _ _=>0) (fun _ _ _=>0) (fun _ _=>0) (fun _ _ _ _=>0) (fun _ _=>0) (fun _ _=>0) (fun a b=>3) (fun _=>0) (fun _=>0) (fun a=>9)
noncomputable def t1(x:jr):PySem.Expr:=si x (fun _ _ _ _ _ _ _ _ _ _=>dE) (fun _ _ _ _ _ _ _ _ _ _=>dE) (fun _ _ _ _ _ _ _ _ _ _ _=>dE) (fun a b=>a.getD dE) (fun a b=>a.headD dE) (fun a b c=>a.headD dE) (fun _ _ _ _ _ _ _=>dE) (fun a b c d=>a) (fun _ _ _ _ _=>dE) (fun a b c d e=>a) (fun _ _ _ _ _=>dE) (fun a b c d=>a) (fun a b c d=>a) (fun _ _ _=>dE) (fun _ _ _=>dE) (fun _ _ _=>dE) (fun _ _ _=>dE) (fun _ _ _ _ _=>dE) (fun _ _ _ _ _=>dE) (fun _ _ _=>dE) (fun _ _=>dE) (fun _ _ _ _=>dE) (fun _ _=>dE) (fun _ _=>dE) (fun a b=>a) (fun _=>dE) (fun _=>dE) (fun _=>dE)
noncomputable def vS(x:jr):PySem.Expr:=si x (fun _ _ _ _ _ _ _ _ _ _=>dE) (fun _ _ _ _ _ _ _ _ _ _=>dE) (fun _ _ _ _ _ _ _ _ _ _ _=>dE) (fun _ _=>dE) (fun _ _=>dE) (fun a b c=>b) (fun _ _ _ _ _ _ _=>dE) (fun a b c d=>c) (fun _ _ _ _ _=>dE) (fun a b c d e=>b) (fun _ _ _ _ _=>dE) (fun _ _ _ _=>dE) (fun _ _ _ _=>dE) (fun _ _ _=>dE) (fun _ _ _=>dE) (fun _ _ _=>dE) (fun _ _ _=>dE) (fun _ _ _ _ _=>dE) (fun _ _ _ _ _=>dE) (fun _ _ _=>dE) (fun _ _=>dE) (fun _ _ _ _=>dE) (fun _ _=>dE) (fun _ _=>dE) (fun _ _=>dE) (fun _=>dE) (fun _=>dE) (fun _=>dE)
noncomputable def tS(x:jr):Operator:=si x (fun _ _ _ _ _ _ _ _ _ _=>.Add) (fun _ _ _ _ _ _ _ _ _ _=>.Add) (fun _ _ _ _ _ _ _ _ _ _ _=>.Add) (fun _ _=>.Add) (fun _ _=>.Add) (fun _ _ _=>.Add) (fun _ _ _ _ _ _ _=>.Add) (fun a b c d=>b) (fun _ _ _ _ _=>.Add) (fun _ _ _ _ _=>.Add) (fun _ _ _ _ _=>.Add) (fun _ _ _ _=>.Add) (fun _ _ _ _=>.Add) (fun _ _ _=>.Add) (fun _ _ _=>.Add) (fun _ _ _=>.Add) (fun _ _ _=>.Add) (fun _ _ _ _ _=>.Add) (fun _ _ _ _ _=>.Add) (fun _ _ _=>.Add) (fun _ _=>.Add) (fun _ _ _ _=>.Add) (fun _ _=>.Add) (fun _ _=>.Add) (fun _ _=>.Add) (fun _=>.Add) (fun _=>.Add) (fun _=>.Add)
noncomputable def b1(x:jr):List Stmt:=si x (fun _ _ _ _ _ _ _ _ _ _=>[]) (fun _ _ _ _ _ _ _ _ _ _=>[]) (fun _ _ _ _ _ _ _ _ _ _ _=>[]) (fun _ _=>[]) (fun _ _=>[]) (fun _ _ _=>[]) (fun _ _ _ _ _ _ _=>[]) (fun _ _ _ _=>[]) (fun _ _ _ _ _=>[]) (fun a b c d e=>c) (fun _ _ _ _ _=>[]) (fun a b c d=>b) (fun a b c d=>b) (fun _ _ _=>[]) (fun _ _ _=>[]) (fun _ _ _=>[]) (fun _ _ _=>[]) (fun _ _ _ _ _=>[]) (fun _ _ _ _ _=>[]) (fun _ _ _=>[]) (fun _ _=>[]) (fun _ _ _ _=>[]) (fun _ _=>[]) (fun _ _=>[]) (fun _ _=>[]) (fun _=>[]) (fun _=>[]) (fun _=>[])
noncomputable def b2(x:jr):List Stmt:=si x (fun _ _ _ _ _ _ _ _ _ _=>[]) (fun _ _ _ _ _ _ _ _ _ _=>[]) (fun _ _ _ _ _ _ _ _ _ _ _=>[]) (fun _ _=>[]) (fun _ _=>[]) (fun _ _ _=>[]) (fun _ _ _ _ _ _ _=>[]) (fun _ _ _ _=>[]) (fun _ _ _ _ _=>[]) (fun _ _ _ _ _=>[]) (fun _ _ _ _ _=>[]) (fun _ _ _ _=>[]) (fun a b c d=>c) (fun _ _ _=>[]) (fun _ _ _=>[]) (fun _ _ _=>[]) (fun _ _ _=>[]) (fun _ _ _ _ _=>[]) (fun _ _ _ _ _=>[]) (fun _ _ _=>[]) (fun _ _=>[]) (fun _ _ _ _=>[]) (fun _ _=>[]) (fun _ _=>[]) (fun _ _=>[]) (fun _=>[]) (fun _=>[]) (fun _=>[])
noncomputable def fP(x:jr):Pos:=si x (fun _ _ _ _ _ _ _ _ _ _=>⟨0,0,0,0⟩) (fun _ _ _ _ _ _ _ _ _ _=>⟨0,0,0,0⟩) (fun _ _ _ _ _ _ _ _ _ _ _=>⟨0,0,0,0⟩) (fun a b=>b) (fun a b=>b) (fun a b c=>c) (fun _ _ _ _ _ _ _=>⟨0,0,0,0⟩) (fun a b c d=>d) (fun _ _ _ _ _=>⟨0,0,0,0⟩) (fun a b c d e=>e) (fun _ _ _ _ _=>⟨0,0,0,0⟩) (fun a b c d=>d) (fun a b c d=>d) (fun _ _ _=>⟨0,0,0,0⟩) (fun _ _ _=>⟨0,0,0,0⟩) (fun _ _ _=>⟨0,0,0,0⟩) (fun _ _ _=>⟨0,0,0,0⟩) (fun _ _ _ _ _=>⟨0,0,0,0⟩) (fun _ _ _ _ _=>⟨0,0,0,0⟩) (fun _ _ _=>⟨0,0,0,0⟩) (fun _ _=>⟨0,0,0,0⟩) (fun _ _ _ _=>⟨0,0,0,0⟩) (fun _ _=>⟨0,0,0,0⟩) (fun _ _=>⟨0,0,0,0⟩) (fun a b=>b) (fun _=>⟨0,0,0,0⟩) (fun _=>⟨0,0,0,0⟩) (fun a=>a)
noncomputable def AF(n:Nat)(x:jr):Stmt:=(ZS [x,.Assign [t1 x] (vS x) (fP x),.AugAssign (t1 x) (tS x) (vS x) (fP x),.Expr (t1 x) (fP x),.If (t1 x) (b1 x) (b2 x) (fP x),.For (t1 x) (vS x) (b1 x) [] (fP x),.While (t1 x) (b1 x) [] (fP x),.Return (D (t1 x)) (fP x),.Return I (fP x),.Continue (fP x),.Delete [t1 x] (fP x)] n x)
theorem UB(x:jr):AF (IK x) x=x:=by cases x with|Assign a b c=>rcases a with _|⟨y,_|⟨z,r⟩⟩<;>rfl|For a b c d e=>cases d<;>rfl|While a b c d=>cases c<;>rfl|Return a b=>cases a<;>rfl|Delete a b=>rcases a with _|⟨y,_|⟨z,r⟩⟩<;>rfl|_=>rfl
noncomputable def iA(n:Nat)(x:jr):Bool:=cq (IK x) n
theorem UC{n:Nat}{x:jr}{P:jr->Prop}(h:iA n x=Y)(k:P (AF n x)):P x:=by rw[<-UB x,jL h];exact k
structure rD where
nm:Nat->Option bc
gn:Nat->Option bc
fn:Nat->Option bc
cn:Nat->Option bc
structure Cn where names:List (Option bc)scope:qk
noncomputable abbrev Cn.kd(c:Cn)(x:bc):Option NameKind:=c.scope.names.lookup x
noncomputable def Cn.rE(c:Cn)(x:bc):Bool:=c.kd x==D .local||c.kd x==D .cell
noncomputable def Cn.var(c:Cn)(i:Nat)(x:bc):Bool:=c.names[i]?==D (D x)&&(c.rE x&&!(x==("__debug__":bc)))
noncomputable def Cn.rF(c:Cn)(x:bc):Bool:=c.kd x==D .globalImplicit&&!(x==("__debug__":bc))
noncomputable def p8(sc IL:qk):Scope:={sc with names:=sc.names.map fun(n,k)=>if(k==.free&&IL.kind==.function&&IL.names.lookup n==D .cell)then(n,.cell)else(n,k)}
noncomputable def Tg.slots(t:Tg):List Nat:=match t with|.ag i=>[i]|.fT is=>is
noncomputable def wG(c:Cn)(sc:qk)(tg:List Nat):Nat->List (Option bc)->Bool|_,[]=>Y|i,o::r=>(match o with|none=>Y|some x=>(sc.names.lookup x==D .local&&tg.contains i)||(sc.names.lookup x==D .free&&(c.names[i]?==D (D x)&&c.kd x==D .cell)))&&wG c sc tg (i+1) r
noncomputable def IM(sc:qk)(nc:List (Option bc))(l:List Nat):Bool:=l.all fun i=>match nc[i]? with|some (D x)=>sc.names.lookup x==D .local|_=>ai
noncomputable def IN(c:Cn)(sc:qk)(tg:Tg)(nc:List (Option bc)):Bool:=sc.kind==.function&&(c.scope.kind==.function&&(sc.names.all (fun x=>x.2 !=.cell)&&(sc.names.all (fun x=>x.2 !=.local||sc.names.lookup x.1==D .local)&&(sc.names.all (fun x=>x.2 !=.free||c.kd x.1==D .cell)&&(decide ((nc.filterMap id).Nodup)&&(decide (nc.length=c.names.length)&&(wG c sc tg.slots 0 nc&&IM sc nc tg.slots)))))))
noncomputable abbrev Cn.aX(c:Cn)(nc:List (Option bc))(sc:qk):Cn:=⟨nc,p8 sc c.scope⟩
noncomputable def wH(c:Cn):List Nat->List cN->Bool|[],l=>m9 l|i::is,l=>match l with|[]=>ai|x::l=>aG 15 x&&(c.var i (dQ x)&&wH c is l)
noncomputable def p9(c:Cn)(t:Tg)(x:cN):Bool:=match t with|.ag i=>aG 15 x&&c.var i (dQ x)|.fT is=>aG 17 x&&wH c is (cL x)
noncomputable def wJ(b:iZ):Operator:=match b with|.add=>.Add|.sub=>.Sub|.mul=>.Mult|.fdiv=>.FloorDiv|.mod=>.Mod|.band=>.BitAnd|.bor=>.BitOr|.bxor=>.BitXor|.shl=>.LShift|.shr=>.RShift
noncomputable def IO(b:qz):CmpOp:=match b with|.eq=>.Eq|.ne=>.NotEq|.lt=>.Lt|.le=>.LtE|.gt=>.Gt|.ge=>.GtE
noncomputable def AG(b:iZ)(o:Operator):Bool:=decide (o=wJ b)
noncomputable def UD(b:qz)(o:CmpOp):Bool:=decide (o=IO b)
noncomputable def tT(b:Bi):Str:=match b with|.len=>"len"|.max=>"max"|.min=>"min"|.sorted=>"sorted"|.tuple=>"tuple"|.str=>"str"
noncomputable def UE(d:aa):Const:=match d with|.none=>.none|.bool b=>.bool b|.int i=>.int i|.str s=>.str s|.ab _=>.ellipsis|.ref _=>.ellipsis
noncomputable def AI(x:cN):Bool:=!(aG 10 x)
section
variable(N:rD)
noncomputable def wK(m:cN->Bool)(UF:Bool)(o:Option cN):Bool:=match o with|none=>UF|some l=>m l
noncomputable def wL(m:cN->Bool)(tr:Bool)(l:List cN):Bool:=match l with|[]=>tr|x::r=>m9 r&&m x
noncomputable def isNone(e:Ex):Bool:=match e with|.lit d=>decide (d=.none)|_=>ai
noncomputable def wM(t:Te):Bool:=match t with|.ex e=>(match e with|.lit d=>decide (d=.bool Y)|_=>ai)|_=>ai
mutual noncomputable def bH:Ex->Cn->cN->Bool|.lit d,c,x=>aG 11 x&&(decide (wD x=UE d)&&iK d)|.var i,c,x=>aG 15 x&&c.var i (dQ x)|.aj g,c,x=>aG 15 x&&(c.rF (dQ x)&&N.gn g==D (dQ x))|.ao e f,c,x=>aG 12 x&&(bH e c (e1 x)&&(N.nm f==D (dQ x)&&AI (e1 x)))|.ad a i,c,x=>aG 13 x&&(bH a c (e1 x)&&(bH i c (e2 x)&&!(aG 18 (e2 x))))|.hH a lo hi,c,x=>aG 13 x&&(aG 18 (e2 x)&&(bH a c (e1 x)&&(wK (bH lo c) (isNone lo) (tR (e2 x))&&wK (bH hi c) (isNone hi) (wF (e2 x)))))|.aK op a b,c,x=>aG 2 x&&(AG op (II x)&&(bH a c (e1 x)&&bH b c (e2 x)))|.neg a,c,x=>aG 20 x&&bH a c (e1 x)|.nV a,c,x=>aG 21 x&&bH a c (e1 x)|.ah op a b,c,x=>aG 9 x&&(UD op (o1 x)&&(bH a c (e1 x)&&(bH b c (e2 x)&&!(aG 6 (e2 x)))))|.dz p a,c,x=>aG 9 x&&(decide (o1 x=cond p .Is .IsNot)&&(bH a c (e1 x)&&(aG 11 (e2 x)&&decide (wD (e2 x)=.none))))|.aX p a b,c,x=>aG 9 x&&(decide (o1 x=cond p .In .NotIn)&&(bH a c (e1 x)&&(bH b c (e2 x)&&!(aG 6 (e2 x)))))|.no a,c,x=>aG 3 x&&bH a c (e1 x)|.and a b,c,x=>aG 1 x&&(bH a c (e1 x)&&bH b c (oH .And x))|.or a b,c,x=>aG 22 x&&(bH a c (e1 x)&&bH b c (oH .Or x))|.ite t a b,c,x=>aG 4 x&&(jk t c (e1 x)&&(bH a c (e2 x)&&bH b c (e3 x)))|.ab es,c,x=>aG 17 x&&(k3 es c (cL x)&&lf (cL x).length 1000)|.dA es,c,x=>aG 16 x&&(k3 es c (cL x)&&lf (cL x).length 1000)|.io,c,x=>aG 5 x|.comp tg it cond kF nc,c,x=>aG 7 x&&((fZ x).is_async==0&&(IN c (nf x) tg nc&&(p9 (c.aX nc (nf x)) tg (fZ x).target&&(AJ it c (fZ x).iter&&(!(aG 6 (fZ x).iter)&&(bH kF (c.aX nc (nf x)) (e1 x)&&wL (jk cond (c.aX nc (nf x))) (wM cond) (fZ x).ifs))))))|.call f es,c,x=>aG 10 x&&(aG 15 (e1 x)&&(c.rF (dQ (e1 x))&&(N.fn f==D (dQ (e1 x))&&k3 es c (cL x))))|.new k es,c,x=>aG 10 x&&(aG 15 (e1 x)&&(c.rF (dQ (e1 x))&&(N.cn k==D (dQ (e1 x))&&k3 es c (cL x))))|.aQ m o es,c,x=>aG 10 x&&(aG 12 (e1 x)&&(bH o c (e1 (e1 x))&&(N.nm m==D (dQ (e1 x))&&(AI (e1 (e1 x))&&(k3 es c (cL x)&&(lf (cL x).length 20&&cq (bO (e1 x)).endLine (bO x).line))))))|.bi b es,c,x=>aG 10 x&&(aG 15 (e1 x)&&(c.rF (dQ (e1 x))&&(dQ (e1 x)==tT b&&k3 es c (cL x))))|.i6,c,x=>aG 10 x noncomputable def k3:Es->Cn->List cN->Bool|.nil,_,l=>m9 l|.cons e es,c,l=>match l with|[]=>ai|x::l=>bH e c x&&k3 es c l noncomputable def jk:Te->Cn->cN->Bool|.ex e,c,x=>bH e c x&&!(aG 3 x||(aG 1 x||(aG 22 x||(aG 4 x||aG 19 x))))|.no t,c,x=>aG 3 x&&jk t c (e1 x)|.and a b,c,x=>aG 1 x&&(jk a c (e1 x)&&jk b c (oH .And x))|.or a b,c,x=>aG 22 x&&(jk a c (e1 x)&&jk b c (oH .Or x))|.gr a b d,c,x=>aG 19 x&&(decide (o1 x=.LtE)&&(decide (o2 x=.Lt)&&(bH a c (e1 x)&&(bH b c (e2 x)&&(bH d c (e3 x)&&!(aG 6 (e3 x)))))))noncomputable def AJ:It->Cn->cN->Bool|.ex e,c,x=>bH e c x|.range n,c,x=>aG 10 x&&(aG 15 (e1 x)&&(c.rF (dQ (e1 x))&&(dQ (e1 x)==("range":bc)&&(fO (cL x)&&bH n c ((cL x).headD dE)))))end
mutual noncomputable def IP:Sm->Cn->jr->Bool|.an t e,c,y=>iA 1 y&&(p9 c t (t1 y)&&(bH N e c (vS y)&&(aG 15 (t1 y)||!(aG 17 (vS y)||(aG 7 (vS y)||aG 8 (vS y))))))|.cS o f e,c,y=>iA 1 y&&(aG 12 (t1 y)&&(bH N o c (e1 (t1 y))&&(N.nm f==D (dQ (t1 y))&&(bH N e c (vS y)&&!(aG 7 (vS y)||aG 8 (vS y))))))|.gs o i e,c,y=>iA 1 y&&(aG 13 (t1 y)&&(bH N o c (e1 (t1 y))&&(bH N i c (e2 (t1 y))&&(bH N e c (vS y)&&!(aG 7 (vS y)||aG 8 (vS y))))))|.qA i op e,c,y=>iA 2 y&&(aG 15 (t1 y)&&(c.var i (dQ (t1 y))&&(AG op (tS y)&&bH N e c (vS y))))|.o6 a f op e,c,y=>iA 2 y&&(aG 12 (t1 y)&&(bH N a c (e1 (t1 y))&&(N.nm f==D (dQ (t1 y))&&(AG op (tS y)&&bH N e c (vS y)))))|.expr e,c,y=>iA 3 y&&(bH N e c (t1 y)&&aG 10 (t1 y))|.ifs t a b,c,y=>iA 4 y&&(jk N t c (t1 y)&&(oI a c (b1 y)&&oI b c (b2 y)))|.for t it b,c,y=>iA 5 y&&(p9 c t (t1 y)&&(AJ N it c (vS y)&&(oI b c (b1 y)&&!(aG 6 (vS y)))))|.while t b,c,y=>iA 6 y&&(jk N t c (t1 y)&&oI b c (b1 y))|.ret e,c,y=>iA 7 y&&bH N e c (t1 y)|.sr,c,y=>iA 8 y|.cont,c,y=>iA 9 y|.o7 o i,c,y=>iA 10 y&&(aG 13 (t1 y)&&(bH N o c (e1 (t1 y))&&bH N i c (e2 (t1 y))))|.qB o lo,c,y=>iA 10 y&&(aG 13 (t1 y)&&(aG 18 (e2 (t1 y))&&(bH N o c (e1 (t1 y))&&(wK (bH N lo c) ai (tR (e2 (t1 y)))&&(wF (e2 (t1 y))).isNone))))|.i6,_,_=>Y noncomputable def oI:Ss->Cn->List jr->Bool|.nil,_,l=>m9 l|.cons s ss,c,l=>match l with|[]=>ai|x::l=>IP s c x&&oI ss c l end
end
theorem nS{bz:Type}{v:bz}{P:Prop}(e:I=D v):P:=nomatch e
theorem nB{P:Prop}(e:ai=Y):P:=nomatch e
theorem bL{p q:Bool}(h:(p&&q)=Y):p=true:=(eK.mp h).1
theorem bR{p q:Bool}(h:(p&&q)=Y):q=true:=(eK.mp h).2
theorem AK{N:rD}{e:Ex}{c:Cn}{v:cN}{p:Pos}(h:bH N e c (.Starred v p)=Y):False:=by cases e<;>first|exact nB (bL h)|exact nB h
theorem gX{p:Bool}(h:(!p)=Y):p=false:=by cases p<;>first|rfl|cases h
theorem tU{p q:Bool}(h:(p||q)=ai):p=ai/\q=false:=by cases p<;>cases q<;>first|exact⟨rfl,rfl⟩|cases h
end
section
open PySem.W PySem.Calls PyProof.Rows
inductive F2{bz fz:Type}(R:bz->fz->Prop):List bz->List fz->Prop where|nil:F2 R [] []|cons{a:bz}{b:fz}{l:List bz}{r:List fz}(h:R a b)(hs:F2 R l r):F2 R (a::l) (b::r)
section
variable{a:bz}
theorem F2.aq(k:∀{a b},R a b->Z a b)(h:F2 R l r):F2 Z l r:=F2.rec .nil (fun h _ X=>.cons (k h) X) h
theorem F2.length(h:F2 R l r):r.length=l.length:=F2.rec rfl (fun _ _ Z=>aI (·+1) Z) h
theorem F2.append(h:F2 R l r)(h':F2 R l' Z):F2 R (l++l') (r++Z):=F2.rec (motive:=fun l r _=>F2 R (l++l') (r++Z)) h' (fun h _ X=>.cons h X) h
theorem F2.ag(h:R a b):F2 R [a] [b]:=.cons h .nil
theorem F2.iu(h:F2 R l r):∀{i:Nat}{a:bz},l[i]?=D a->∃b,r[i]?=D b/\R a b:=F2.rec (motive:=fun l r _=>∀{i:Nat}{a:bz},l[i]?=D a->∃b,r[i]?=D b/\R a b) (fun e=>nomatch e) (fun{a b _ _}h _ Z{i _}e=>by
rcases i with _|i;.cases e;exact⟨b,rfl,h⟩
exact Z e) h
theorem F2.take(h:F2 R l r):∀n:Nat,F2 R (l.take n) (r.take n):=F2.rec (motive:=fun l r _=>∀n:Nat,F2 R (l.take n) (r.take n)) (fun n=>by rw[xH,xH];exact .nil) (fun h _ Z n=>by
rcases n with _|n;.exact .nil
exact .cons h (Z n)) h
theorem F2.drop(h:F2 R l r):∀n:Nat,F2 R (l.drop n) (r.drop n):=F2.rec (motive:=fun l r _=>∀n:Nat,F2 R (l.drop n) (r.drop n)) (fun n=>by rw[xG,xG];exact .nil) (fun h Z X n=>by
rcases n with _|n;.exact .cons h Z
exact X n) h
theorem F2.set(Z:R a b)(h:F2 R l r):∀n:Nat,F2 R (l.set n a) (r.set n b):=F2.rec (motive:=fun l r _=>∀n:Nat,F2 R (l.set n a) (r.set n b)) (fun _=>.nil) (fun h X U n=>by
rcases n with _|n;.exact .cons Z X
exact .cons h (U n)) h
end
noncomputable abbrev Gm:=bq->Option iH
noncomputable abbrev Mp:=List (bq×bq)
noncomputable abbrev rG(xs:Array aH)(n:Nat):Obj:={cls:=.type "tuple",dict:=I,data:=.seq xs n,slots:=#[]}
noncomputable abbrev l3(xs:Array aH)(n:Nat):Obj:={cls:=.type "list",dict:=I,data:=.seq xs n,slots:=#[]}
inductive VR(G:Gm)(m:Mp):aa->aH->Prop where|none:VR G m .none .none|bool{b:Bool}:VR G m (.bool b) (.bool b)|int{i:Int}{t:Tok}:VR G m (.int i) (.int i t)|str{s:bc}{t:Tok}:VR G m (.str s) (.str s t)|ab{l:List aa}{a:bq}{xs:Array aH}{n:Nat}(h:G a=D (rG xs n))(hs:F2 (VR G m) l xs.toList):VR G m (.ab l) (.ref a)|ref{i:Nat}{p:bq×bq}(h:m[i]?=D p):VR G m (.ref i) (.ref p.1)
noncomputable abbrev eI(G:Gm)(m:Mp):=F2 (VR G m)
section
variable{h h':lu}
@[elab_as_elim]theorem VR.nE{motive:aH->Prop}(h:VR G m .none v)(k:motive .none):motive v:=by cases(h);exact k
@[elab_as_elim]theorem VR.bE{motive:aH->Prop}(h:VR G m (.bool b) v)(k:motive (.bool b)):motive v:=by cases(h);exact k
@[elab_as_elim]theorem VR.iE{motive:aH->Prop}(h:VR G m (.int i) v)(k:∀t,motive (.int i t)):motive v:=by cases(h);exact k _
@[elab_as_elim]theorem VR.sE{motive:aH->Prop}(h:VR G m (.str i) v)(k:∀t,motive (.str i t)):motive v:=by cases(h);exact k _
@[elab_as_elim]theorem VR.tE{motive:aH->Prop}(h:VR G m (.ab l) v)(k:∀a xs n,G a=D (rG xs n)->F2 (VR G m) l xs.toList->motive (.ref a)):motive v:=by cases(h)with|ab a b=>exact k _ _ _ a b
theorem VR.IQ(X:∀a xs n,G a=D (rG xs n)->Z a=D (rG xs n))(U:∀(i:Nat)p,m[i]?=D p->m'[i]?=D p)(h:VR G m d v):VR Z m' d v:=VR.rec (motive_1:=fun d v _=>VR Z m' d v) (motive_2:=fun l vs _=>eI Z m' l vs) .none .bool .int .str (fun h _ J=>.ab (X _ _ _ h) J) (fun h=>.ref (U _ _ h)) .nil (fun _ _ a b=>.cons a b) h
theorem VR.aq(H:∀a o,G a=D o->Q a=D o)(O:∀(i:Nat)p,m[i]?=D p->m'[i]?=D p)(h:VR G m d v):VR Q m' d v:=h.IQ (fun a _ _=>H a _) O
theorem VR.pure(Z:∀a o,G a=D o->h.get? a=D o)(X:VR G m d v):∀{n:Nat},ce n d=Y->VR h.get? [] d v:=VR.rec (motive_1:=fun d v _=>∀{n:Nat},ce n d=Y->VR h.get? [] d v) (motive_2:=fun l vs _=>∀{n:Nat},gu n l=Y->eI h.get? [] l vs) (fun _=>.none) (fun _=>.bool) (fun _=>.int) (fun _=>.str) (fun h _ U=>@fun n q=>by
rcases n with _|n;.cases q
exact .ab (Z _ _ h) (U q)) (fun _=>@fun n q=>by cases n<;>cases q) (fun _=>.nil) (fun _ _ a b=>@fun n q=>.cons (a (bL q)) (b (bR q))) X
theorem eI.pure(U:∀a o,G a=D o->h.get? a=D o)(J:eI G m l vs)(q:gu n l=Y):eI h.get? [] l vs:=by induction J with|nil=>exact .nil|cons a _ H=>exact .cons (a.pure U (bL q)) (H (bR q))
theorem VR.inj(a:VR h.get? [] x v):∀{n k:Nat}{y:aa},fh n x=Y->fh k y=Y->VR h.get? [] y v->x=y:=VR.rec (motive_1:=fun x v _=>∀{n k:Nat}{y:aa},fh n x=Y->fh k y=Y->VR h.get? [] y v->x=y) (motive_2:=fun l vs _=>∀{n k:Nat}{l':List aa},kG n l=Y->kG k l'=Y->eI h.get? [] l' vs->l=l') (@fun n _ _ q _ _=>by cases n<;>cases q) (@fun _ n _ _ q _ _=>by cases n<;>cases q) (fun _ _ b=>by cases b;rfl) (fun _ _ b=>by cases b;rfl) (fun J _ H=>@fun n k _ q Z b=>by cases b with|ref e=>cases e|ab X U=>
rcases n with _|n;.cases q
rcases k with _|k;.cases Z
cases J.symm.trans X;rw[H q Z U]) (fun e=>by cases e) (fun _ _ b=>by cases b;rfl) (fun _ _ Q O=>@fun _ _ _ q Z b=>by cases b with|cons b bs=>rw[Q (bL q) (bL Z) b,O (bR q) (bR Z) bs]) a
theorem VR.UG{o:iH}(Z:h.get? d=D o)(X:o.data=.dict es H)(U:Heap.SameBut d h h')(J:VR h.get? [] x v):VR h'.get? [] x v:=J.IQ (fun a xs n e=>(U.2 a fun z=>by rw[z,Z]at e;clear Z;cases e;cases X).trans e) fun _ _ e=>e
end
mutual noncomputable def rH(w:qm):aa->Int|.int i=>hashInt i|.str s=>hashStr w s|.ab l=>reduceHash (ZT (AL w l))|.none=>0|.bool _=>0|.ref _=>0 noncomputable def AL(w:qm):List aa->List Int|[]=>[]|d::r=>rH w d::AL w r end
mutual noncomputable def tV:aa->Nat|.ab l=>tW l+1|.int _=>1|.str _=>1|.none=>1|.bool _=>1|.ref _=>1 noncomputable def tW:List aa->Nat|[]=>0|d::r=>tV d+tW r end
section
variable{s:cI}
theorem UH(hv:eI s.heap.get? [] l vs)(items:∀(d:aa)(v:aH),d∈l->VR s.heap.get? [] d v->∀(k:Nat)(Q':Int->cI->Prop),Q' (rH w d) {s with toks:=s.toks+k+tV d}->wpAny (model prog w) A (pyHash v) Q' E {s with toks:=s.toks+k}):∀{b:Array Int}{k:Nat}{Q:Array Int->cI->Prop},(∀b',b'.toList=b.toList++AL w l->Q b' {s with toks:=s.toks+k+tW l})->wpAny (model prog w) A (forIn vs b fun x r=>do let h<-pyHash x;pure PUnit.unit;pure (mw (r.push h))) Q E {s with toks:=s.toks+k}:=by induction hv with|nil=>exact fun{b k Q}h=>aW (h b (bK _).symm)|@cons d v l vs h1 _ ih=>intro b k Q h;rw[B2];refine aA (aA (items d v aV h1 k _ (aA (aW (aW ?_)))));rw[eL];refine ih (fun d v hm=>items d v (cH _ hm)) fun b' hb=>?_;rw[show s.toks+(k+tV d)+tW l=s.toks+k+tW (d::l)from by show _=_+(_+_);rw[<-eL,<-eL]];exact(h b' (by rw[hb,Lm,dx];rfl))
theorem IR:∀{l:List aa},kG n l=Y->d∈l->fh n d=Y|x::r,h,Z=>(cc.mp Z).elim (fun e=>e▸bL h) (IR (bR h))
theorem UI:∀(n:Nat){A:my}{E:aH->cI->Prop}{s:cI}{d:aa}{v:aH}{Q:Int->cI->Prop},A.units+n<cLine->fh n d=Y->VR s.heap.get? [] d v->Q (rH w d) {s with toks:=s.toks+tV d}->wpAny (model J w) A (pyHash v) Q E s:=by intro n;induction n with
|zero=>intro A E s d v Q U X Z h;induction Z using VR.casesOn with|int=>exact ZU h|str=>exact ZV h|_=>cases X
|succ n O=>intro A E s d v Q U X Z h;induction Z using VR.casesOn with|int=>exact ZU h|str=>exact ZV h|@ab l a xs _ H C=>refine pyHash_slot (T:="tuple") ⟨_,H,rfl⟩ F.slot_tuple_hash F.entry_tuple_hash (F.args_tuple_hash_1 _) (beq_builtin_none _) (.inr (c5 0xa96c0a0021ad001 rfl U)) ?_;show wpAny _ _ (ZW (.ref a)>>=_) _ _ s;refine aA (wpAny_tupleItemsOf H rfl (aA ?_));rw[ZX.symm];refine UH (k:=0) C (fun d v M Z k K h'=>O (s:={s with toks:=s.toks+k}) (by rw[Around.in1_units];exact c5 0xb16a0a0021b54b400001 rfl U) (IR X M) Z h') fun b L=>?_;show wpAny _ _ (retInt (ZT b.toList)) _ _ _;rw[L];exact aA (wpAny_mkInt (aW ⟨_,_,rfl,h⟩))|_=>cases X
theorem UJ:∀(n m:Nat){A:my}{E:aH->cI->Prop}{s:cI}{d:aa}{v:aH}{Q:Bool->cI->Prop},n<=m->fh n d=Y->VR s.heap.get? [] d v->Q Y s->wpAny (model prog w) A (eqIsQuiet m v) Q E s:=by intro n;induction n with
|zero=>intro m A E s d v Q hu hk hv h;induction hv using VR.casesOn with|int=>rw[B3 _ rfl];exact aW h|str=>rw[B3 _ rfl];exact aW h|_=>cases hk
|succ n ih=>intro m A E s d v Q hu hk hv h;induction hv using VR.casesOn with|int=>rw[B3 _ rfl];exact aW h|str=>rw[B3 _ rfl];exact aW h|@ab l a xs _ ho hs=>
  rcases m with _|m;.exact ae hu (qf n)
  have hT:s.TypeIs (.ref a) "tuple":=⟨_,ho,rfl⟩;unfold eqIsQuiet;refine aA (Ln hT F.slot_tuple_eq.lookup ?_);show wpAny _ _ (isInstance (.ref a) (.type "tuple")>>=_) _ _ s;refine aA (wpAny_isInstance hT isSubtype_tuple_tuple ?_);rw[am (fun q=>nomatch q:¬(!Y)=Y)];refine aA (Lq ho rfl (aA ?_));show wpAny _ _ (forIn xs _ _) _ _ s;rw[ZX.symm];refine wpAny_forIn_list _ (fun rest r s'=>r.1=I/\s'=s/\∃left,eI s.heap.get? [] left rest/\kG n left=Y) _ ?_ ?_ _ _ ⟨rfl,rfl,l,hs,hk⟩;.clear h ho hs hT;rintro v rest r s'⟨hr,rfl,left,hl,IS⟩;cases hl with|cons h1 h2=>refine aA (ih m (li hu) (bL IS) h1 ?_);rw[am (fun q=>nomatch q:¬(!Y)=Y)];exact aW ⟨rfl,rfl,_,h2,bR IS⟩
  .clear ho hs hT;rintro⟨r1,r2⟩s'⟨hq,rfl,_⟩;obtain rfl:r1=none:=hq;exact aW h|_=>cases hk
end
end
section
theorem AM{u m a b c:Nat}(h:u+m<c)(h1:a<=m):u+min a b<c:=dL (eP (bh (uB a b) h1) u) h
theorem IT(h:u+50<c)(h1:b<=40):u+1+min a b<c:=dL (by rw[eL];exact eP (eP (bh (jU a b) (bh h1 (ck rfl:40<=49))) 1) u) h
open PySem.W PySem.Calls PyProof.Rows
mutual noncomputable def ga:aa->PyData|.none=>.none|.bool b=>.bool b|.int i=>.int i|.str s=>.str s|.ab l=>.tuple (fH l)|.ref _=>.none noncomputable def fH:List aa->List PyData|[]=>[]|d::r=>ga d::fH r end
theorem AN{P:Nat->aa->Prop}{Ps:Nat->List aa->Prop}(X:∀n,P n .none)(hi:∀n i,P n (.int i))(U:∀n s,mf s=Y->P n (.str s))(J:∀n l,gu n l=Y->Ps n l->P (n+1) (.ab l))(H:∀n,Ps n [])(Q:∀n d l,ce n d=Y->P n d->Ps n l->Ps n (d::l)):∀n,(∀d,ce n d=Y->P n d)/\∀l,gu n l=Y->Ps n l:=by
 have key:∀n,(∀d,ce n d=Y->P n d)->∀l,gu n l=Y->Ps n l:=fun n h l=>by induction l with|nil=>exact fun _=>H n|cons d r Z=>exact fun q=>Q n d r (bL q) (h d (bL q)) (Z (bR q))
 intro n
 induction n with|zero=>
 have h:∀d,ce 0 d=Y->P 0 d:=fun d q=>by induction d using aa.casesOn with|none=>exact X 0|int i=>exact hi 0 i|str s=>exact U 0 s q|_=>cases q
 exact⟨h,key 0 h⟩|succ n Z=>
 have h:∀d,ce (n+1) d=Y->P (n+1) d:=fun d q=>by induction d using aa.casesOn with|none=>exact X _|int i=>exact hi _ i|str s=>exact U _ s q|ab l=>exact J n l q (Z.2 l q)|_=>cases q
 exact⟨h,key _ h⟩
theorem AP[BEq Z][LawfulBEq Z][DecidableEq Z](a b:Z):(a==b)=decide (a=b):=by
 by_cases e:a=b;.rw[aN e,e,beq_self_eq_true]
 .rw[bQ e];exact gm.mpr e
theorem km(n:Nat):(∀d,ce n d=Y->(ga d).canLay0=Y/\(ga d).depth<=n)/\∀l,gu n l=Y->Lr (fH l)=Y/\B4 (fH l)<=n:=AN (P:=fun n d=>(ga d).canLay0=Y/\(ga d).depth<=n) (Ps:=fun n l=>Lr (fH l)=Y/\B4 (fH l)<=n) (fun n=>⟨rfl,bP n⟩) (fun n _=>⟨rfl,bP n⟩) (fun n _ q=>⟨q,bP n⟩) (fun n l _ ih=>⟨ih.1,by show B4 (fH l)+1<=n+1;exact mj ih.2⟩) (fun n=>⟨rfl,bP n⟩) (fun n d l _ h1 h2=>⟨by show((ga d).canLay0&&Lr (fH l))=Y;rw[h1.1,h2.1];rfl,by show max (ga d).depth (B4 (fH l))<=n;exact B0.mpr ⟨h1.2,h2.2⟩⟩) n
theorem oJ{h:lu}(n:Nat):(∀d,ce n d=Y->∀v,VR h.get? [] d v->∃as,Reads h v (ga d) as)/\∀l,gu n l=Y->∀vs,eI h.get? [] l vs->∃as,ReadsAll h vs (fH l) as:=AN (P:=fun n d=>∀v,VR h.get? [] d v->∃as,Reads h v (ga d) as) (Ps:=fun n l=>∀vs,eI h.get? [] l vs->∃as,ReadsAll h vs (fH l) as) (fun _ v Z=>by refine VR.nE Z ?_;exact⟨_,.none⟩) (fun _ i v Z=>by refine VR.iE Z fun _=>?_;exact⟨_,.int i _⟩) (fun _ i _ v Z=>by refine VR.sE Z fun _=>?_;exact⟨_,.str i _⟩) (fun n l _ X v Z=>by refine VR.tE Z fun _ _ _ U J=>?_;exact(X _ J).elim fun as h=>⟨as,.tuple U rfl rfl h⟩) (fun _ vs Z=>by cases Z;exact⟨_,.nil⟩) (fun n d l _ H Q vs Z=>by cases Z with|cons a b=>exact(H _ a).elim fun as O=>(Q _ b).elim fun bs E=>⟨_,.cons O E⟩) n
theorem wN(n:Nat):(∀a,ce n a=Y->∀k b,ce k b=Y->xL (ga a) (ga b)=decide (a=b))/\∀a,gu n a=Y->∀k b,gu k b=Y->Ls (fH a) (fH b)=decide (a=b):=by
 have X:∀{p:Prop}{i:Decidable p},¬p->ai=@decide p i:=fun h=>(bQ h).symm;refine AN (P:=fun n a=>∀k b,ce k b=Y->xL (ga a) (ga b)=decide (a=b)) (Ps:=fun n a=>∀k b,gu k b=Y->Ls (fH a) (fH b)=decide (a=b)) ?_ ?_ ?_ ?_ ?_ ?_ n;.intro _ k b Z;induction b using aa.casesOn with|none=>rfl|bool=>cases Z|ref=>cases Z|_=>exact X nofun
 .intro _ i k b Z;induction b using aa.casesOn with|int j=>exact iG.mpr ⟨fun e=>aI _ e,aa.int.inj⟩|bool=>cases Z|ref=>cases Z|_=>exact X nofun
 .intro _ i _ k b Z;induction b using aa.casesOn with|str j=>exact(AP i j).trans (iG.mpr ⟨fun e=>aI _ e,aa.str.inj⟩)|bool=>cases Z|ref=>cases Z|_=>exact X nofun
 .intro n l _ U k b Z;induction b using aa.casesOn with|ab j=>
 rcases k with _|k;.cases Z
 exact(U k j Z).trans (iG.mpr ⟨fun e=>aI _ e,aa.ab.inj⟩)|bool=>cases Z|ref=>cases Z|_=>exact X nofun
 .intro _ k b _;induction b using eQ with|nil=>rfl|cons=>exact X nofun
 .intro n d l _ J H k b Z;induction b using eQ with|nil=>exact X nofun|cons e r=>show(xL (ga d) (ga e)&&Ls (fH l) (fH r))=_;rw[J k e (bL Z),H k r (bR Z),<-Bool.decide_and];exact iG.mpr ⟨fun q=>by rw[q.1,q.2],fun q=>by clear Z;cases q;exact⟨rfl,rfl⟩⟩
theorem wO(n:Nat):∀d,fh n d=Y->ce n d=true:=by induction n with
|zero=>intro d q;cases d<;>first|exact q|rfl|cases q
|succ n U=>
have Z:∀l,kG n l=Y->gu n l=true:=fun l=>by induction l with|nil=>exact fun _=>rfl|cons d r X=>exact fun q=>by show(ce n d&&gu n r)=Y;rw[U d (bL q),X (bR q)];rfl
intro d q;cases d<;>first|exact q|rfl|exact Z _ q|cases q
section
theorem UK{Q:Bool->cI->Prop}(C:A.units+n<cLine)(X:ce n x=Y)(U:ce n y=Y)(J:VR s.heap.get? [] x a)(H:VR s.heap.get? [] y b)(h:Q (decide (x=y)) s):wpAny (model Z w) A (eqBool a b) Q E s:=by obtain⟨as,O⟩:=(oJ n).1 _ X _ J;obtain⟨bs,rb⟩:=(oJ n).1 _ U _ H;exact SeqAt.eqBoolOverData Z w A E s a b _ _ as bs Q O rb ((km n).1 _ X).1 ((km n).1 _ U).1 (AM ‹_› ((km n).1 _ X).2) ((wN n).1 _ X n _ U▸h)
theorem UL{Q:aH->cI->Prop}(ne:Bool)(hu:A.units+n<cLine)(hx:ce n x=Y)(hy:ce n y=Y)(ha:VR s.heap.get? [] x a)(hb:VR s.heap.get? [] y b)(h:Q (.bool (cond ne (!decide (x=y)) (decide (x=y)))) s):wpAny (model prog w) A (o0 (cond ne .NotEq .Eq) a b) Q E s:=by
 obtain⟨as,ra⟩:=(oJ n).1 _ hx _ ha;obtain⟨bs,rb⟩:=(oJ n).1 _ hy _ hb;have l1:=(km n).1 _ hx;have hm:A.units+min (ga x).depth (ga y).depth<cLine:=AM ‹_› l1.2;rw[<-(wN n).1 _ hx n _ hy]at h;rcases ne with _|_;.exact ZY ra rb l1.1 ((km n).1 _ hy).1 hm h
 exact ZZ ra rb l1.1 ((km n).1 _ hy).1 hm h
end
noncomputable def UM(prog:Program)(w:qm):HeapKind prog w (List aa)where is h l a:=fh 6 (.ab l)=Y/\VR h.get? [] (.ab l) (.ref a);hash l:=rH w (.ab l);draws l:=tV (.ab l);room A:=A.units+10<cLine;inj:=fun hx hy=>aa.ab.inj (hx.2.inj (n:=6) (k:=6) hx.1 hy.1 hy.2);keeps:=fun hx ho hd hs=>⟨hx.1,hx.2.UG ho hd hs⟩;pyHash:=fun hu hk h=>UI 6 (aC 0xaba80086aaa0001 rfl hu) hk.1 hk.2 h;eqBool:=fun hu hx hy h=>UK (n:=6) (aC 0xaba80086aaa0001 rfl hu) (wO 6 _ hx.1) (wO 6 _ hy.1) hx.2 hy.2 (by rw[iG.mpr ⟨aa.ab.inj,aI aa.ab⟩];exact h);quiet:=fun hk h=>UJ 6 8 (by decide) hk.1 hk.2 h
end
section
open PySem.W PySem.Calls PyProof.Rows
structure Wx where
prog:Program
w:qm
K:Frag
N:rD
gc:Nat->bq
k4:Nat->bq
AQ:∀i j x,N.nm i=D x->N.nm j=D x->i=j
structure Cf where
G:Gm
m:Mp
s:cI
noncomputable abbrev Cf.hp(y:Cf)(h:lu)(t:Nat):Cf:=⟨y.G,y.m,{y.s with heap:=h,toks:=t}⟩
abbrev Cf.ak(y:Cf)(d:aa)(v:aH):Prop:=VR y.G y.m d v
abbrev Cf.Vs(y:Cf)(d:List aa)(v:List aH):Prop:=eI y.G y.m d v
section
variable(X:Wx)(G:Gm)(m:Mp)(h:lu)
abbrev FR(p:Nat×aa)(e:nP):Prop:=(∃x t,X.N.nm p.1=D x/\e.key=.str x t)/\VR G m p.2 e.val
abbrev DR(p:aa×aa)(e:nP):Prop:=(eF p.1=Y/\e.hash=rH X.w p.1)/\VR G m p.1 e.key/\VR G m p.2 e.val
inductive OR:AO->bq×bq->Prop where|list{xs:List aa}{p:bq×bq}{vs:Array aH}{n:Nat}(h2:p.2=p.1)(ho:h.get? p.1=D (l3 vs n))(hv:eI G m xs vs.toList):OR (.list xs) p|dict{es:List (aa×aa)}{p:bq×bq}{o:iH}{dD:Array nP}{ep:Nat}(h2:p.2=p.1)(nd:(es.map (·.1)).Nodup)(ho:h.get? p.1=D o)(hc:o.ExactDict)(hd:o.data=.dict dD ep)(hv:F2 (DR X G m) es dD.toList):OR (.dict es) p|bj{c:Nat}{fs:List (Nat×aa)}{p:bq×bq}{es:List nP}{n:Nat}(h2:p.2≠p.1)(ho:h.get? p.1=D (instObj (X.gc c) p.2))(nd:(fs.map (·.1)).Nodup)(hd:h.get? p.2=D (dictOf es n))(hv:F2 (FR X G m) fs es):OR (.bj c fs) p
end
section
variable{o:AO}{p:bq×bq}
theorem OR.aq(J:∀a o,G a=D o->E a=D o)(H:∀(i:Nat)p,m[i]?=D p->m'[i]?=D p)(Q:h'.get? p.1=h.get? p.1)(C:h'.get? p.2=h.get? p.2)(x:OR X G m h o p):OR X E m' h' o p:=by induction x using OR.casesOn with|list e Z U=>exact .list e (Q.trans Z) (U.aq (·.aq J H))|dict e nd Z M O U=>exact .dict e nd (Q.trans Z) M O (U.aq fun q=>⟨q.1,q.2.1.aq J H,q.2.2.aq J H⟩)|bj e Z nd O U=>exact .bj e (Q.trans Z) nd (C.trans O) (U.aq fun q=>⟨q.1,q.2.aq J H⟩)
theorem OR.gf(x:OR X G m h o p):(h.get? p.1).isSome=Y/\(h.get? p.2).isSome=true:=by induction x using OR.casesOn with|list e Z U=>rw[e,Z];exact⟨rfl,rfl⟩|dict e nd Z H J U=>rw[e,Z];exact⟨rfl,rfl⟩|bj e Z nd J U=>rw[Z,J];exact⟨rfl,rfl⟩
end
structure HR(X:Wx)(σ:AH)(y:Cf):Prop where
sub:∀a o,y.G a=D o->y.s.heap.get? a=D o
base:∀a o,X.K.lookup a=D o->y.G a=D o
len:y.m.length=σ.length
apart:∀(i j:Nat)p q,y.m[i]?=D p->y.m[j]?=D q->i≠j->p.1≠q.1/\p.1≠q.2/\p.2≠q.1/\p.2≠q.2
out:∀(i:Nat)p,y.m[i]?=D p->y.G p.1=I/\y.G p.2=I
cells:∀(i:Nat)p o,y.m[i]?=D p->σ[i]?=D o->OR X y.G y.m y.s.heap o p
structure cD(P:bq->Prop)(y z:Cf):Prop where
fr:z.s=⟨z.s.heap,y.s.gens,y.s.drawn,z.s.toks,y.s.os⟩g:∀a o,y.G a=D o->z.G a=D o
gn:∀a o,z.G a=D o->y.G a=D o\/y.s.heap.get? a=I
mm:∀(i:Nat)p,y.m[i]?=D p->z.m[i]?=D p
mn:∀(i:Nat)p,z.m[i]?=D p->y.m[i]?=D p\/(y.s.heap.get? p.1=I/\y.s.heap.get? p.2=I)keep:∀a o,y.s.heap.get? a=D o->¬P a->(∀(i:Nat)p,i≠0->y.m[i]?=D p->a≠p.1/\a≠p.2)->z.s.heap.get? a=D o
gf:∀a,y.s.heap.get? a≠I->z.s.heap.get? a≠I
abbrev IU(_:bq):Prop:=False
noncomputable abbrev bY:=cD IU
section
theorem nn{o:Option Z}(e:o=D v):o≠none:=fun q=>by rw[e]at q;cases q
theorem cD.iV(x:cD P y z)(Z:z.s.heap.get? a=I):y.s.heap.get? a=none:=uv.mp fun q=>x.gf a q Z
theorem cD.trans(x:cD P y z)(x':cD P z u):cD P y u where
fr:=by rw[x'.fr,x.fr]
g a o e:=x'.g a o (x.g a o e);gn a o e:=(x'.gn a o e).elim (x.gn a o) fun q=>.inr (x.iV q);mm i p e:=x'.mm i p (x.mm i p e);mn i p e:=(x'.mn i p e).elim (x.mn i p) fun q=>.inr ⟨x.iV q.1,x.iV q.2⟩;keep a o e hp hm:=x'.keep a o (x.keep a o e hp hm) hp fun i p hi q=>(x.mn i p q).elim (hm i p hi) fun r=>⟨fun z=>nn e (z▸r.1),fun z=>nn e (z▸r.2)⟩;gf a e:=x'.gf a (x.gf a e)
theorem cD.UN(k:∀a,P a->J a)(x:cD P y z):cD J y z:={x with keep:=fun a o e H Q=>x.keep a o e (fun q=>H (k a q)) Q}
theorem cD.heap(Z:∀a o,y.s.heap.get? a=D o->¬P a->h'.get? a=D o)(U:∀a,P a->y.s.heap.get? a≠I->h'.get? a≠I):cD P y (y.hp h' t):=⟨rfl,fun _ _ e=>e,fun _ _ e=>.inl e,fun _ _ e=>e,fun _ _ e=>.inl e,fun a o e J _=>Z a o e J,fun a e=>by
rcases q:y.s.heap.get? a with _|o;.exact ae q e
exact(ay0 (P a)).elim (fun p=>U a p e) fun p=>nn (Z a o q p)⟩
theorem bY.more(Z:∀a o,y.s.heap.get? a=D o->h'.get? a=D o):cD P y (y.hp h' t):=⟨rfl,fun _ _ e=>e,fun _ _ e=>.inl e,fun _ _ e=>e,fun _ _ e=>.inl e,fun a o e _ _=>Z a o e,fun a e q=>by
rcases r:y.s.heap.get? a with _|o;.exact e r
exact nn (Z a o r) q⟩
theorem bY.tk:cD P y (y.hp y.s.heap t):=bY.more fun _ _ e=>e
theorem bY.refl:cD P y y:=bY.tk (t:=y.s.toks)
theorem cD.l5(x:cD P y z)(B:bq->Prop)(hk:∀a o,z.s.heap.get? a=D o->¬B a->h'.get? a=D o)(hB:∀a,B a->y.s.heap.get? a=I):cD P y (z.hp h' t)where
fr:=(aI (fun q:cI=>Shared.mk h' q.gens q.drawn t q.os) x.fr:);g:=x.g;gn:=x.gn;mm:=x.mm;mn:=x.mn;keep a o e hp hm:=hk a o (x.keep a o e hp hm) fun q=>nn e (hB a q);gf a e q:=by
 rcases r:z.s.heap.get? a with _|o;.exact x.gf a e r
 exact nn (hk a o r fun q=>e (hB a q)) q
end
section
variable{t i:Nat}{o:AO}{p:bq×bq}
theorem VR.ext(Z:y.ak d v)(x:cD P y z):z.ak d v:=Z.aq x.g x.mm
theorem eI.ext(Z:y.Vs l vs)(x:cD P y z):z.Vs l vs:=F2.aq (fun h=>h.ext x) Z
theorem HR.hY(S:HR X σ y):X.K.In y.s.heap:=fun a o e=>S.sub a o (S.base a o e)
theorem HR.ref(S:HR X σ y)(e:σ[i]?=D o)(U:y.ak (.ref i) v):∃p,y.m[i]?=D p/\v=.ref p.1/\OR X y.G y.m y.s.heap o p:=by cases U with|ref Z=>exact⟨_,Z,rfl,S.cells i _ o Z e⟩
theorem HR.gf(S:HR X σ y)(e:y.m[i]?=D p):y.s.heap.get? p.1≠I/\y.s.heap.get? p.2≠none:=by have c:=(S.cells i p _ e (dK (by rw[S.len.symm];exact(bo.mp e).1))).gf;exact⟨fun q=>(by rw[q]at c;cases c.1),fun q=>(by rw[q]at c;cases c.2)⟩
theorem k6(h:lu):h.get? h.objs.size=none:=by
 rcases e:h.get? h.objs.size with _|o;.rfl
 exact ae (sj e) (oX _)
theorem HR.UO(S:HR X σ y)(e:y.s.heap.get? a=I):y.G a=none:=by
 rcases q:y.G a with _|o;.rfl
 exact ae e (nn (S.sub a o q))
def cp(y:Cf)(a:bq):Prop:=y.G a=I/\∀(i:Nat)p,y.m[i]?=D p->a≠p.1/\a≠p.2
theorem cp.new(S:HR X σ y)(Z:y.s.heap.get? a=I):cp y a:=⟨S.UO Z,fun i p e=>⟨fun w=>(S.gf e).1 (w▸Z),fun w=>(S.gf e).2 (w▸Z)⟩⟩
theorem cp.ext{o:iH}(T:cp y a)(x:cD P y z)(U:y.s.heap.get? a=D o)(H:¬P a):cp z a/\z.s.heap.get? a=D o:=by
 refine⟨⟨?_,fun i p e=>(x.mn i p e).elim (T.2 i p) fun q=>⟨fun w=>nn U (w▸q.1),fun w=>nn U (w▸q.2)⟩⟩,x.keep _ _ U H fun i p _=>T.2 i p⟩;rcases q:z.G a with _|o';.rfl
 exact(x.gn _ _ q).elim (fun z=>by rw[T.1]at z;cases z) fun z=>ae z (nn U)
theorem HR.l5(S:HR X σ y)(B:bq->Prop)(hk:∀a o,y.s.heap.get? a=D o->¬B a->h'.get? a=D o)(hB:∀a,B a->cp y a):HR X σ (y.hp h' t)where
sub a o e:=hk a o (S.sub a o e) fun q=>nn e (hB a q).1;base:=S.base;len:=S.len;apart:=S.apart;out:=S.out;cells i p o e1 e2:=by
 have key:∀a,y.s.heap.get? a≠I->¬B a->h'.get? a=y.s.heap.get? a:=fun a n b=>by
  rcases q:y.s.heap.get? a with _|o;.exact ae q n
  exact hk a o q b
 exact(S.cells i p o e1 e2).aq (fun _ _ z=>z) (fun _ _ z=>z) (key _ (S.gf e1).1 fun z=>((hB _ z).2 i p e1).1 rfl) (key _ (S.gf e1).2 fun z=>((hB _ z).2 i p e1).2 rfl)
theorem HR.more(S:HR X σ y)(Z:∀a o,y.s.heap.get? a=D o->h'.get? a=D o):HR X σ (y.hp h' t):=S.l5 IU (fun a o e _=>Z a o e) fun _ q=>q.elim
theorem HR.tk(S:HR X σ y):HR X σ (y.hp y.s.heap t):=S.more fun _ _ e=>e
theorem HR.iB(S:HR X σ y)(T:cp y a)(Q:∀b o,b≠a->y.s.heap.get? b=D o->h'.get? b=D o):HR X σ (y.hp h' t):=S.l5 (·=a) (fun b o e n=>Q b o n e) fun _ e=>e▸T
noncomputable def Gm.iS(G:Gm)(a:bq)(o:iH):Gm:=fun b=>if b=a then D o else G b
noncomputable abbrev Cf.im(y:Cf)(o:iH)(t:Nat):Cf:=⟨y.G.iS y.s.heap.objs.size o,y.m,{y.s with heap:=y.s.heap.push o,toks:=t}⟩
theorem HR.UP(S:HR X σ y){o:iH}(H:o.isFreed=ai):HR X σ (y.im o t)/\bY y (y.im o t):=by
 have U:∀a,y.s.heap.get? a≠I->a≠y.s.heap.objs.size:=fun a q e=>q (e▸k6 _);have sub:∀a o',y.G a=D o'->y.G.iS y.s.heap.objs.size o a=D o':=fun a o' e=>(am (U a (nn (S.sub a o' e)))).trans e;have Z:∀a o',y.s.heap.get? a=D o'->(y.s.heap.push o).get? a=D o':=fun a o' e=>gq _ e;have S1:HR X σ (y.hp (y.s.heap.push o) t):=S.more Z;have Q:bY y (y.hp (y.s.heap.push o) t):=.more Z;refine⟨{S1 with sub:=fun a o' e=>?_,base:=fun a o' e=>sub a o' (S.base a o' e),out:=fun i p e=>?_,cells:=fun i p o' e1 e2=>(S1.cells i p o' e1 e2).aq sub (fun _ _ z=>z) rfl rfl},{Q with g:=sub,gn:=fun a o' e=>?_}⟩
 .by_cases q:a=y.s.heap.objs.size;.subst q;cases(af rfl:y.G.iS y.s.heap.objs.size o _=D o).symm.trans e;exact kx _ H
  .exact Z _ _ (S.sub a o' ((am q).symm.trans e))
 .exact⟨(am (U _ (S.gf e).1)).trans (S.out i p e).1,(am (U _ (S.gf e).2)).trans (S.out i p e).2⟩
 .by_cases q:a=y.s.heap.objs.size;.exact .inr (q▸k6 _)
  .exact .inl ((am q).symm.trans e)
noncomputable abbrev Cf.cl(y:Cf)(p:bq×bq)(h:lu)(t:Nat):Cf:=⟨y.G,y.m++[p],{y.s with heap:=h,toks:=t}⟩
theorem rI(e:(m++[p])[i]?=D q):m[i]?=D q\/(i=m.length/\q=p):=by
 rcases qg i m.length with z|z;.rw[ic z]at e;exact .inl e
 .rw[jN z]at e;rcases k:i-m.length with _|n;.rw[k]at e;cases e;exact .inr ⟨fw (Nat.sub_eq_zero_iff_le.mp k) z,rfl⟩
  rw[k]at e;cases e
theorem HR.cell(S:HR X σ y)(O:cp y p.1)(E:cp y p.2)(C:∀a o,y.s.heap.get? a=D o->h'.get? a=D o)(c:OR X y.G (y.m++[p]) h' o p):HR X (σ++[o]) (y.cl p h' t)/\(∀(i:Nat)q,y.m[i]?=D q->(y.m++[p])[i]?=D q)/\(y.cl p h' t).ak (.ref σ.length) (.ref p.1):=by
 have S1:HR X σ (y.hp h' t):=S.more C;have Z:∀(i:Nat)q,y.m[i]?=D q->(y.m++[p])[i]?=D q:=fun i q e=>(ic (bo.mp e).1).trans e;refine⟨⟨S1.sub,S1.base,by rw[aT,aT,S.len];rfl,fun i j q r e1 e2 U=>?_,fun i q e=>?_,fun i q o' e1 e2=>?_⟩,Z,.ref (by rw[S.len.symm,jN (aE _),jO];rfl)⟩
 .clear c Z;rcases rI e1 with J|⟨J,rfl⟩<;>rcases rI e2 with H|⟨H,rfl⟩;.exact S.apart i j q r J H U
  .have t1:=O.2 i q J;have Q:=E.2 i q J;exact⟨g9 t1.1,g9 Q.1,g9 t1.2,g9 Q.2⟩
  .have t1:=O.2 j r H;have Q:=E.2 j r H;exact⟨t1.1,t1.2,Q.1,Q.2⟩
  .exact ae (J.trans H.symm) U
 .clear c Z;rcases rI e with z|⟨z,rfl⟩;.exact S.out i q z
  .exact⟨O.1,E.1⟩
 .clear O E;rcases rI e1 with z|⟨rfl,rfl⟩;.rw[ic (by rw[S.len.symm];exact(bo.mp z).1)]at e2;exact(S1.cells i q o' z e2).aq (fun _ _ y=>y) Z rfl rfl
  .rw[S.len,jN (aE _),jO]at e2;cases e2;exact c
theorem cD.cl(x:cD P z y)(J:z.s.heap.get? p.1=I)(H:z.s.heap.get? p.2=I)(Q:∀a o,y.s.heap.get? a=D o->h'.get? a=D o):cD P z (y.cl p h' t):=let O:cD P z (y.hp h' t):=x.trans (bY.more Q);{O with mm:=fun i q e=>(ic (bo.mp (x.mm i q e)).1).trans (x.mm i q e),mn:=fun i q e=>(rI e).elim (x.mn i q) fun e=>.inr (e.2▸⟨J,H⟩)}
theorem HR.UQ(S:HR X σ y)(J:i≠0)(Z:y.m[i]?=D p)(H:∀a o,y.s.heap.get? a=D o->a≠p.1->a≠p.2->h'.get? a=D o)(c:OR X y.G y.m h' o p):HR X (σ.set i o) (y.hp h' t)/\bY y (y.hp h' t):=by
 refine⟨⟨fun a o' e=>H a o' (S.sub a o' e) (fun z=>nn e (z▸(S.out i p Z).1)) fun z=>nn e (z▸(S.out i p Z).2),S.base,by rw[oY];exact S.len,S.apart,S.out,fun j q o' e1 e2=>?_⟩,⟨rfl,fun _ _ e=>e,fun _ _ e=>.inl e,fun _ _ e=>e,fun _ _ e=>.inl e,fun a o' e _ E=>H a o' e (E i p J Z).1 (E i p J Z).2,fun a e q=>?_⟩⟩
 .by_cases U:i=j;.subst U;cases Z.symm.trans e1;rw[uu (by rw[S.len.symm];exact(bo.mp Z).1)]at e2;cases e2;exact c
  .rw[rZ U]at e2;have key:∀a,y.s.heap.get? a≠I->a≠p.1->a≠p.2->h'.get? a=y.s.heap.get? a:=fun a n b1 b2=>by
    rcases q:y.s.heap.get? a with _|o;.exact ae q n
    exact H a o q b1 b2
   have Q:=S.apart j i q p e1 Z (g9 U);exact(S.cells j q o' e1 e2).aq (fun _ _ y=>y) (fun _ _ y=>y) (key _ (S.gf e1).1 Q.1 Q.2.1) (key _ (S.gf e1).2 Q.2.2.1 Q.2.2.2)
 .have O:=c.gf;by_cases C:a=p.1;.rw[C.symm,q]at O;cases O.1
  .by_cases M:a=p.2;.rw[M.symm,q]at O;cases O.2
   .rcases r:y.s.heap.get? a with _|o';.exact e r
    exact nn (H a o' r C M) q
end
section
variable(X:Wx)(y:Cf)
abbrev PV(σ:AH)(d:aa)(Q:aH->cI->Prop):Prop:=∀z v,bY y z->HR X σ z->z.ak d v->Q v z.s
abbrev PU(σ:AH)(Q:cI->Prop):Prop:=∀z,bY y z->HR X σ z->Q z.s
abbrev k7(k:Po)(Q:aH->cI->Prop):Prop:=∀d σ z v,k d σ->bY y z->HR X σ z->z.ak d v->Q v z.s
end
section
theorem PV.here(q:PV X y σ d Q)(S:HR X σ y)(Z:y.ak d v)(t:Nat):Q v {y.s with toks:=t}:=q (y.hp y.s.heap t) v .tk S.tk Z
theorem k7.at(q:k7 X y k Q)(h:k d σ)(x:bY y z):PV X z σ d Q:=fun u v Z S U=>q d σ u v h (x.trans Z) S U
theorem k7.ext(q:k7 X y k Q)(x:bY y z):k7 X z k Q:=fun d σ u v h Z S U=>q d σ u v h (x.trans Z) S U
theorem gO.out{o:Option Z}{p:Z->Prop}(h:gO o p):∃v,o=D v/\p v:=by induction o using cM with|none=>exact h.elim|some v=>exact⟨v,rfl,h⟩
theorem gP.out{o:Option (Z×AH)}{p:Z->AH->Prop}(h:gP o p):∃v σ,o=D (v,σ)/\p v σ:=by induction o using cM with|none=>exact h.elim|some v=>exact⟨v.1,v.2,rfl,h⟩
theorem HR.tX{o:AO}{p:bq×bq}(S:HR X σ y)(Z:i≠0)(J:y.m[i]?=D p)(H:∀a o,y.s.heap.get? a=D o->a≠p.1->a≠p.2->h'.get? a=D o)(c:OR X y.G y.m h' o p)(k:PU X y (σ.set i o) Q):Q {y.s with heap:=h',toks:=t}:=let U:=S.UQ (t:=t) Z J H c;k (y.hp h' t) U.2 U.1
end
end
section
open PySem.W PySem.Calls PyProof.Rows
section
variable{c:Cf}
theorem tY(h:small i=Y):-(2:Int)^63<=i/\i<2^63/\i.natAbs<2^60:=by exact⟨uG (by decide+kernel) (mz (xZ.mp h).1),rV (xZ.mp h).2 (by decide+kernel),by induction i using Int.casesOn with|ofNat n=>exact ck h|negSucc n=>exact ck h⟩
theorem UR(h:(small i||small j)=Y):IntMulOk i j:=by
 have key:∀i:Int,small i=Y->az0 i<=64:=fun i hi=>by
  have Z:=(tY hi).2.2;unfold Builtin.Int.intBits;split;.decide
  .have:i.natAbs.log2<60:=by
    rcases Zn i.natAbs with z|z;.rw[z];decide
    .exact(Nat.log2_lt (jm z)).mpr Z
   exact ax 0xf041a042200825a0000 rfl this
 exact(r9.mp h).elim (fun h=>IntMulOk.of_left (key i h)) fun h=>IntMulOk.of_right (key j h)
theorem wP:sizeLine=16777216:=rfl
theorem jI(h:n<av):n<=sizeLine:=by unfold av at h;rw[wP];exact ax 0x5408600000050d000 rfl h
theorem ca{p:Prop}{i:Decidable p}{o:Option Z}(h:(if p then o else I)=D r):p/\o=D r:=by
 by_cases q:p;.exact⟨q,(af q).symm.trans h⟩
 .cases(am q).symm.trans h
theorem AR(h:n<av):(n:Int)<2^63:=Int.lt_of_le_of_lt (nD.mpr (jI h)) (by decide+kernel)
theorem cz{p:Prop}{i:Decidable p}(h:decide p=Y):p:=cJ h
theorem US(e:qC op i j=D z)(q:∀t t',Q (.int z t) {s with toks:=t'}):wpAny (model prog w) A (binaryOp (wJ op) (.int i t) (.int j u)) Q E s:=by induction op using iZ.casesOn with|add=>cases e;exact aA0 (q _ _)|sub=>cases e;exact aB0 (q _ _)|mul=>obtain⟨h,e⟩:=ca e;cases e;exact aC0 (q _ _) (UR h)|fdiv=>obtain⟨h,e⟩:=ca e;cases e;have h1:0<j:=cz (bL h);exact aD0 (Z0 h1) (by rw[Z1 _ (mz h1)];exact q _ _) (.inl (PyProof.noPylong_small (cv.mp (by rw[Z2 (mz h1)];exact rV (cz (bR h)) (by decide)))))|mod=>obtain⟨h,e⟩:=ca e;cases e;exact aE0 (Z0 h) (by rw[Int.fmod_eq_emod_of_nonneg _ (mz h)];exact q _ _)|band=>cases e;exact aF0 (q _ _)|bor=>cases e;exact aG0 (q _ _)|bxor=>cases e;exact aH0 (q _ _)|shl=>obtain⟨h,e⟩:=ca e;cases e;have h3:=(tY (bR h)).2.2;exact aI0 (cz (bL (bL h))) (mz (rV (cz (bR (bL h))) (by decide))) (gZ h3 (by decide+kernel)) (q _ _)|shr=>obtain⟨h,e⟩:=ca e;cases e;exact aJ0 (cz (bL h)) (by rw[Z1 _ (mz (Int.pow_pos (by decide)))];exact q _ _)
theorem PV.ab(k:PV X c σ (.ab l) Q)(S:HR X σ c)(hz:c.Vs l zs.toList)(t:Nat):Q (.ref c.s.heap.objs.size) {c.s with heap:=c.s.heap.push {cls:=.type "tuple",data:=.seq zs n},toks:=t}:=have⟨Z,e⟩:=S.UP (o:={cls:=.type "tuple",data:=.seq zs n}) (t:=t) rfl;k _ _ e Z (.ab (af rfl) (eI.ext hz e))
theorem wR{xs:Array aH}(h:F2 R l xs.toList):xs.isEmpty=l.isEmpty:=by obtain⟨r⟩:=xs;cases h<;>rfl
theorem fI{xs:Array aH}(h:F2 R l xs.toList):xs.size=l.length:=h.length
theorem UT(S:HR X σ c)(K:c.ak (.ab x) a)(g:c.ak (.ab y) b)(O:x.length+y.length<av)(k:PV X c σ (.ab (x++y)) Q):wpAny (model X.prog X.w) A (binaryOp .Add a b) Q E c.s:=by
 refine VR.tE K fun p xs n M J=>?_;refine VR.tE g fun q ys L U Z=>?_;have o1:=S.sub _ _ M;have o2:=S.sub _ _ U;by_cases H:xs.isEmpty=Y;.clear O;cases nM.mp ((wR J).symm.trans H);exact Z3 (T:="tuple") ⟨_,o1,rfl⟩ ⟨_,o2,rfl⟩ Z4 Z5 Z6 Z7 (Z8 _ _) (AutoSeq1.tuple___add___tuple_tuple_0 p xs n q ys L H) ⟨o1,o2,k.here S (.ab U Z) _⟩
 .by_cases C:ys.isEmpty=Y;.clear O;cases nM.mp ((wR Z).symm.trans C);rw[bK]at k;exact Z3 (T:="tuple") ⟨_,o1,rfl⟩ ⟨_,o2,rfl⟩ Z4 Z5 Z6 Z7 (Z8 _ _) (AutoSeq1.tuple___add___tuple_tuple_1 p xs n q ys L H C) ⟨o1,o2,k.here S (.ab M J) _⟩
  .exact P.add_tuple o1 o2 H C (PV.ab k S (by rw[Z9];exact J.append Z) _) (by rw[fI J,fI Z];exact jI O)
theorem UU(S:HR X σ c)(e:lE op σ x y=D (d,Z))(U:c.ak x a)(J:c.ak y b)(k:PV X c Z d Q):wpAny (model X.prog X.w) A (binaryOp (wJ op) a b) Q E c.s:=by induction x using aa.casesOn with
|int i=>induction y using aa.casesOn with|int j=>obtain⟨z,q,H⟩:=qo.mp e;clear e;cases H;refine VR.iE U fun _=>?_;refine VR.iE J fun _=>?_;exact US q fun t t'=>k.here S .int t'|_=>exact nS e
|ab l=>induction y using aa.casesOn with
 |ab l'=>have e:(if(op.uS&&decide (l.length+l'.length<av))=Y then D (aa.ab (l++l'),σ)else I)=D (d,Z):=e;obtain⟨h,e⟩:=ca e;cases e;induction op using iZ.casesOn with|add=>exact UT S U J (cz (bR h)) k|_=>exact nB (bL h)
 |_=>exact nS e
|str s=>induction y using aa.casesOn with
 |str s'=>have e:(if(op.uS&&decide (s.cps.size+s'.cps.size<1000))=Y then D (aa.str (s++s'),σ)else I)=D (d,Z):=e;obtain⟨h,e⟩:=ca e;cases e;refine VR.sE U fun _=>?_;refine VR.sE J fun _=>?_;induction op using iZ.casesOn with|add=>exact aK0 (fun t' O=>k.here S .str _) (by have h:_+_<1000:=cz (bR h);show _+_<=sizeLine;exact bh (lk h) (ck rfl))|_=>exact nB (bL h)
 |_=>exact nS e
|_=>exact nS e
theorem wU(S:HR X σ c)(e:lD σ x=D r)(O:c.ak x a)(k:PU X c σ (Q r)):wpAny (model X.prog X.w) A (truthy a) Q E c.s:=by have U:∀t,Q r {c.s with toks:=t}:=fun t=>k (c.hp c.s.heap t) .tk S.tk;induction O using VR.casesOn with|none=>clear k;cases e;exact aL0 (U c.s.toks)|bool=>cases e;exact Lu (U c.s.toks)|int=>clear k;cases e;exact P.truthy_int (by rw[show∀i:Int,(i !=0)=decide (i≠0)from fun i=>by rw[bne,AP];exact decide_not.symm];exact U _)|str=>exact nS e|ab H J=>obtain⟨h,e⟩:=ca e;clear k;cases e;refine aM0 ⟨_,S.sub _ _ H,rfl,_,rfl⟩ (by rw[fI J];exact AR h) ?_;rw[wR J];exact U _|@ref i p M=>
change(match σ[i]? with|some (.list xs)=>if xs.length<av then D (!xs.isEmpty)else I|_=>I)=_ at e;rcases q:σ[i]? with _|o;.exact nS (q▸e)
have C:=S.cells i p o M q;rw[q]at e;induction C using OR.casesOn with|list L H J=>obtain⟨h,e⟩:=ca e;clear k;cases e;refine wpAny_truthy_list ⟨_,H,rfl,_,rfl⟩ (by rw[fI J];exact AR h) ?_;rw[wR J];exact U _|_=>exact nS e
theorem HR.pure(S:HR X σ c)(Z:ce n x=Y)(U:c.ak x a):VR c.s.heap.get? [] x a:=U.pure S.sub Z
theorem l6:∀{xs:List aa},xs.all (ce n)=Y->gu n xs=true:=by intro xs;induction xs with|nil=>intro _;exact rfl|cons d r Z=>intro h;have h:(ce n d&&r.all (ce n))=true:=h;show(ce n d&&gu n r)=Y;rw[bL h,Z (bR h)];rfl
theorem jJ(S:HR X σ c)(Z:σ[i]?=D (.list xs))(U:c.ak (.ref i) a):∃p vs n,c.m[i]?=D p/\a=.ref p.1/\p.2=p.1/\c.s.heap.get? p.1=D (l3 vs n)/\c.Vs xs vs.toList:=by refine cps fun P J=>?_;obtain⟨p,H,e,C⟩:=S.ref Z U;refine J ?_;cases C with|list Q O E=>exact⟨p,_,_,H,e,Q,O,E⟩
theorem AS(S:HR X σ c)(U:σ[i]?=D (.list xs))(J:c.ak (.ref i) a)(Z:xs.all cf=Y):∃as,Reads c.s.heap a (.list (fH xs)) as:=by refine cps fun P H=>?_;obtain⟨p,vs,n,_,rfl,_,Q,O⟩:=jJ S U J;refine H ?_;exact((oJ 40).2 _ (l6 Z) _ (eI.pure S.sub O (l6 Z))).elim fun as h=>⟨_,.list Q rfl rfl h⟩
theorem IV(ne:Bool)(hu:A.units+50<cLine)(S:HR X σ c)(e:hJ σ x y=D r)(ha:c.ak x a)(hb:c.ak y b)(k:PV X c σ (.bool (cond ne (!r) r)) Q):wpAny (model X.prog X.w) A (o0 (cond ne .NotEq .Eq) a b) Q E c.s:=by
 have ng:cf x=Y->cf y=Y->D (decide (x=y))=D r->wpAny (model X.prog X.w) A (o0 (cond ne .NotEq .Eq) a b) Q E c.s:=fun h1 h2 e=>by cases e;exact UL (n:=40) ne (aC 0x2a190834004350a041a0001 rfl hu) h1 h2 (S.pure h1 ha) (S.pure h2 hb) (k.here S .bool c.s.toks)
 cases x with
|int i=>cases y with|int j=>exact ng rfl rfl (e▸aI D (iG.mpr ⟨aa.int.inj,aI aa.int⟩))|none=>exact ng rfl rfl (e▸aI D (bQ nofun))|str s=>have e:(if cf (.str s)=Y then D ai else I)=D r:=e;obtain⟨h,e⟩:=ca e;exact ng rfl h (e▸aI D (bQ nofun))|ab s=>have e:(if cf (.ab s)=Y then D ai else I)=D r:=e;obtain⟨h,e⟩:=ca e;exact ng rfl h (e▸aI D (bQ nofun))|_=>exact nS e
 |bool i=>cases y with
  |bool j=>clear ng;cases e;cases ha;cases hb;cases ne with|false=>exact aN0 (k.here S .bool c.s.toks)|true=>exact aO0 (k.here S .bool c.s.toks)
  |_=>exact nS e
 |ref i=>cases y with
  |ref j=>change(match σ[i]? with|some (.list xs)=>(match σ[j]? with|some (.list ys)=>if xs.all cf&&ys.all cf then D (decide (xs=ys))else I|_=>I)|_=>I)=_ at e;cases q:σ[i]? with|none=>rw[q]at e;cases e|some o=>cases q':σ[j]? with|none=>rw[q,q']at e;clear q;cases o<;>cases e|some o'=>rw[q,q']at e;cases o with
   |list xs=>cases o' with
    |list ys=>
     obtain⟨h,e⟩:=ca e;clear ng;cases e;obtain⟨as,r1⟩:=AS S q ha (bL h);obtain⟨bs,r2⟩:=AS S q' hb (bR h);have l1:=(km 40).2 _ (l6 (bL h));have l2:=(km 40).2 _ (l6 (bR h));have hm:A.units+min (a' (fH xs)).depth (a' (fH ys)).depth<cLine:=by exact AM ‹_› (bh (mj l1.2) (ck rfl))
     rw[<-(wN 40).2 _ (l6 (bL h)) 40 _ (l6 (bR h))]at k;cases ne with|false=>exact ZY r1 r2 l1.1 l2.1 hm (k.here S .bool c.s.toks)|true=>exact ZZ r1 r2 l1.1 l2.1 hm (k.here S .bool c.s.toks)
    |_=>exact nS e
   |_=>exact nS e
  |_=>exact nS e
 |none=>have e:(if(cf .none&&cf y)=Y then D (decide (aa.none=y))else I)=D r:=e;exact(ca e).elim fun h e=>ng (bL h) (bR h) e|str i=>have e:(if(cf (.str i)&&cf y)=Y then D (decide (aa.str i=y))else I)=D r:=e;exact(ca e).elim fun h e=>ng (bL h) (bR h) e|ab i=>have e:(if(cf (.ab i)&&cf y)=Y then D (decide (aa.ab i=y))else I)=D r:=e;exact(ca e).elim fun h e=>ng (bL h) (bR h) e
theorem wV{R:Prop}(e:sw f x y=D r)(Z:c.ak x a)(X:c.ak y b)(h:∀i j t u,f i j=r->a=.int i t->b=.int j u->R):R:=by induction Z using VR.casesOn with
|int=>induction X using VR.casesOn with|int=>exact h _ _ _ _ (b8 e) rfl rfl|_=>exact nS e
|_=>exact nS e
theorem AT(H:A.units+50<cLine)(S:HR X σ c)(e:nW op σ x y=D r)(Z:c.ak x a)(U:c.ak y b)(k:PV X c σ (.bool r) Q):wpAny (model X.prog X.w) A (o0 (IO op) a b) Q E c.s:=by
 have J:∀t,Q (.bool r) {c.s with toks:=t}:=fun t=>k.here S .bool t
 induction op using qz.casesOn with|eq=>exact IV ai H S e Z U k|ne=>
 change(match hJ σ x y with|some c=>D (!c)|none=>I)=_ at e;rcases q:hJ σ x y with _|z;.rw[q]at e;cases e
 rw[q]at e;clear J;cases e;exact IV Y H S q Z U k|lt=>exact wV e Z U fun i j t u e e1 e2=>by clear Z U k;subst e e1 e2;exact P.lt_int (J c.s.toks)|le=>exact wV e Z U fun i j t u e e1 e2=>by clear Z U k;subst e e1 e2;exact P.le_int (J c.s.toks)|gt=>exact wV e Z U fun i j t u e e1 e2=>by clear Z U k;subst e e1 e2;exact P.gt_int (J c.s.toks)|ge=>exact wV e Z U fun i j t u e e1 e2=>by clear Z U k;subst e e1 e2;exact P.ge_int (J c.s.toks)
end
end
section
open PySem.W PySem.Calls PyProof.Rows
section
variable{p:bq×bq}{i:Nat}
noncomputable abbrev dk(X:Wx):=UM X.prog X.w
noncomputable abbrev ik(X:Wx):=intKind X.prog X.w
theorem HR.tZ(S:HR X σ c)(Z:(X.K.lookup mA).isSome=Y)(U:c.m[i]?=D p):(p.1==mA)=false:=gm.mpr fun z=>by obtain⟨o,J⟩:=BU.mp Z;exact nn (S.base _ _ J) (z▸(S.out i p U).1)
abbrev Hr(G:Gm)(m:Mp)(p:aa×aa)(x:List aa×bq×aH):Prop:=(p.1=.ab x.1/\eF p.1=Y)/\VR G m p.1 (.ref x.2.1)/\VR G m p.2 x.2.2
abbrev Ir(G:Gm)(m:Mp)(p:aa×aa)(x:Int×aH):Prop:=p.1=.int x.1/\VR G m p.2 x.2
theorem F2.jw{R:aa×aa->J->Prop}{g:aw->aa}(Z:∀a b,g a=g b->a=b)(X:∀{p x},R p x->p.1=g (f x))(h:F2 R es xs):(es.map (·.1)).Nodup↔(xs.map f).Nodup:=by
 have e:es.map (·.1)=(xs.map f).map g:=by induction h with|nil=>rfl|cons h _ U=>rw[ij,ij,ij,U.symm,X h]
 rw[e];exact⟨fun q=>q.of_map g fun a b h e=>h (aI g e),fun q=>q.map g fun a b h e=>h (Z a b e)⟩
theorem AU(a b:List aa)(h:aa.ab a=aa.ab b):a=b:=aa.ab.inj h
theorem IW(a b:Int)(h:aa.int a=aa.int b):a=b:=aa.int.inj h
theorem Hr.of(h:F2 (DR X G m) es dD)(Z:es.all (fun p=>cg p.1==2)=Y):∃xs,F2 (Hr G m) es xs/\dD=xs.map (B5 (dk X)):=by induction h with|nil=>exact⟨[],.nil,rfl⟩|@cons p e _ _ h _ U=>obtain⟨J,H,Q⟩:=U (bR Z);obtain⟨k,d⟩:=p;obtain⟨O,ek,ev⟩:=e;obtain⟨⟨E,C⟩,M,L⟩:=h;induction k using aa.casesOn with
|ab l=>cases M with|@ab _ a _ _ K A=>exact⟨(l,a,ev)::J,.cons ⟨⟨rfl,E⟩,.ab K A,L⟩ H,by rw[ij,Q.symm,show O=rH X.w (.ab l)from C];rfl⟩
|_=>exact nB (bL Z)
theorem Hr.rj(h:F2 (Hr G m) es xs):F2 (DR X G m) es (xs.map (B5 (dk X))):=by induction h with|nil=>exact .nil|@cons p x _ _ h _ Z=>exact .cons ⟨⟨h.1.2,by rw[h.1.1];rfl⟩,h.2⟩ Z
theorem IX:b9 ((Z,d)::r) k=if Z=k then D d else b9 r k:=rfl
theorem Hr.at(h:F2 (Hr G m) es xs):(b9 es (.ab l)=I/\atKey xs l=I)\/∃d p,b9 es (.ab l)=D d/\atKey xs l=D p/\VR G m d p.2:=by induction h with|nil=>exact .inl ⟨rfl,rfl⟩|@cons p x _ _ h _ Z=>
obtain⟨k,d⟩:=p;obtain⟨l',U,J⟩:=x;obtain⟨⟨rfl,H⟩,X⟩:(k=.ab l'/\_)/\_:=h;unfold atKey at Z⊢;rw[IX,xM];by_cases e:l'=l;.rw[af (aI aa.ab e),show decide (l'=l)=Y from aN e];exact .inr ⟨_,_,rfl,rfl,X.2⟩
.rw[am (fun z=>e (aa.ab.inj z)),show decide (l'=l)=ai from bQ e];exact Z
theorem Ir.at(h:F2 (Ir G m) es xs):(b9 es (.int j)=I/\valueAt xs j=I)\/∃d v,b9 es (.int j)=D d/\valueAt xs j=D v/\VR G m d v:=by induction h with|nil=>exact .inl ⟨rfl,rfl⟩|@cons p x _ _ h _ X=>
obtain⟨k,d⟩:=p;obtain⟨Z,J⟩:=x;obtain⟨rfl,U⟩:k=.int Z/\_:=h;unfold valueAt at X⊢;rw[IX,xM];by_cases e:Z=j;.rw[af (aI aa.int e),show decide (Z=j)=Y from aN e];exact .inr ⟨_,_,rfl,rfl,U⟩
.rw[am (fun z=>e (aa.int.inj z)),show decide (Z=j)=ai from bQ e];exact X
theorem IY:eR ((Z,X)::r) k d=if Z=k then(Z,d)::r else(Z,X)::eR r k d:=rfl
theorem Hr.iS(H:eF (.ab l)=Y)(Q:VR G m (.ab l) (.ref a))(O:VR G m d v)(h:F2 (Hr G m) es xs):(xs.map (·.1)).Nodup->F2 (Hr G m) (eR es (.ab l) d) (storedH xs l a v):=by induction h with|nil=>exact fun _=>.ag ⟨⟨rfl,H⟩,Q,O⟩|@cons p x r Z h L E=>
  intro X;have X:=fg.mp X;obtain⟨k,A⟩:=p;obtain⟨l',U,J⟩:=x;obtain⟨⟨rfl,C⟩,M,K⟩:(k=.ab l'/\_)/\_/\_:=h;rw[IY];by_cases e:l'=l;.clear H Q E;subst e;rw[storedH_old (p:=(U,J)) (by unfold atKey;rw[xM,aN rfl];rfl),af rfl,ij,map_putAt_of_not_mem Z l' v X.1,putAt,af rfl];exact .cons ⟨⟨rfl,C⟩,M,O⟩ L
  .rw[am (fun z=>e (aa.ab.inj z))];have e2:storedH ((l',U,J)::Z) l a v=(l',U,J)::storedH Z l a v:=by
    unfold storedH;rw[show atKey ((l',U,J)::Z) l=atKey Z l from by unfold atKey;rw[xM,show decide (l'=l)=ai from bQ e]];rcases(atKey Z l).isSome with _|_;.rfl
    rw[af rfl,af rfl,ij,putAt,am e]
   rw[e2];exact .cons ⟨⟨rfl,C⟩,M,K⟩ (E X.2)
theorem Ir.iS(J:VR G m d v)(h:F2 (Ir G m) es xs):(xs.map (·.1)).Nodup->F2 (Ir G m) (eR es (.int j) d) (stored xs j v):=by induction h with|nil=>exact fun _=>.ag ⟨rfl,J⟩|@cons p x r H h O Z=>
  intro X;have X:=fg.mp X;obtain⟨k,E⟩:=p;obtain⟨U,C⟩:=x;obtain⟨rfl,Q⟩:k=.int U/\_:=h;rw[IY];unfold stored at Z⊢;rw[a?];by_cases e:U=j;.clear Z;subst e;rw[af rfl,af (by rw[aN rfl];rfl),ij,af rfl,map_store_of_not_mem H U v X.1];exact .cons ⟨rfl,J⟩ O
  .rw[am (fun z=>e (aa.int.inj z)),show decide (U=j)=ai from bQ e,KV];have Z:=Z X.2;rcases q:H.any (fun kv=>decide (kv.1=j))with _|_;.rw[q,am oT]at Z;rw[am oT];exact .cons ⟨rfl,Q⟩ Z
   rw[q,af rfl]at Z;rw[af rfl,ij,am e];exact .cons ⟨rfl,Q⟩ Z
theorem Hr.UV(h:F2 (Hr G m) es xs):∀{j:Nat}{p:bq×aH},(xs.map (·.1)).Nodup->xs[j]?=D (l,p)->F2 (Hr G m) (o8 es (.ab l)) (xs.eraseIdx j):=by induction h with|nil=>exact fun{j p}_ Z=>nS Z|@cons p x r C h Q O=>
intro j q X Z;have X:=fg.mp X;obtain⟨k,E⟩:=p;obtain⟨l',M,L⟩:=x;have h':=h;obtain⟨⟨rfl,U⟩,J,H⟩:(k=.ab l'/\_)/\_/\_:=h;show F2 _ (if aa.ab l'=.ab l then r else(.ab l',E)::o8 r (.ab l)) _;rcases j with _|j;.clear X h' U J H;cases Z;rw[af rfl];exact Q
rw[am fun z=>by clear h' U J H;cases z;exact X.1 (g7.mpr ⟨_,jR Z,rfl⟩)];exact .cons h' (O X.2 Z)
theorem Ir.of(h:F2 (DR X G m) es dD)(U:es.all (fun p=>cg p.1==1)=Y):∃xs,F2 (Ir G m) es xs/\Pairs (ik X) dD xs/\∀e∈dD,∃k,(ik X).is k e.key=Y/\e.hash=(ik X).hash k:=by induction h with|nil=>exact⟨[],.nil,.nil,fun e J=>nomatch J⟩|@cons p e _ _ h _ H=>obtain⟨Q,O,E,C⟩:=H (bR U);obtain⟨k,d⟩:=p;obtain⟨g,ek,ev⟩:=e;obtain⟨⟨j,M⟩,L,K⟩:=h;induction k using aa.casesOn with
|int i=>cases L with|@int _ t=>have hi:(ik X).is i (.int i t)=true:=aN rfl;exact⟨(i,ev)::Q,.cons ⟨rfl,K⟩ O,.cons hi rfl E,fun A Z=>(cc.mp Z).elim (fun z=>z▸⟨i,hi,M⟩) (C A)⟩
|_=>exact nB (bL U)
theorem Ir.rj(h:F2 (Ir G m) es xs):∀{dD:List nP},Pairs (ik X) dD xs->(∀e∈dD,∃k,(ik X).is k e.key=Y/\e.hash=(ik X).hash k)->F2 (DR X G m) es dD:=by induction h with|nil=>intro dD J _;cases J;exact .nil|@cons p x _ _ h _ C=>intro dD J Q;obtain⟨k,d⟩:=p;obtain⟨rfl,M⟩:k=.int x.1/\_:=h;cases J with|@cons e _ es _ L K A=>refine cps fun P g=>?_;obtain⟨t,O⟩:=Lv L;obtain⟨u,E,j⟩:=Q e aV;obtain⟨t',Z⟩:=Lv E;refine g ?_;have U:=O;rw[Z]at U;clear E Z;cases U;exact .cons ⟨⟨rfl,j⟩,by rw[O];exact .int,by rw[K];exact M⟩ (C A fun r H=>Q r (cH _ H))
theorem t4(h:dc es k=Y)(Z:(cg k==2)=Y):∃l,k=.ab l/\eF (.ab l)=Y/\(es.all fun p=>cg p.1==2)=true:=by induction k using aa.casesOn with|ab l=>exact⟨l,rfl,bL (bL h),bR h⟩|_=>exact nB Z
theorem AV(h:dc es k=Y)(Z:(cg k==1)=Y):∃i,k=.int i/\(es.all fun p=>cg p.1==1)=true:=by induction k using aa.casesOn with|int l=>exact⟨l,rfl,bR h⟩|_=>exact nB Z
theorem AW(S:HR X σ c)(Z:σ[i]?=D (.dict es))(U:c.ak (.ref i) a):∃p o dD J,c.m[i]?=D p/\a=.ref p.1/\p.2=p.1/\(es.map (·.1)).Nodup/\c.s.heap.get? p.1=D o/\o.ExactDict/\o.data=.dict dD J/\F2 (DR X c.G c.m) es dD.toList:=by refine cps fun P H=>?_;obtain⟨p,Q,e,C⟩:=S.ref Z U;refine H ?_;cases C with|dict O nd E M L K=>exact⟨p,_,_,_,Q,e,O,nd,E,M,L,K⟩
theorem t8(S:HR X σ c)(Z:σ[i]?=D (.dict es))(H:c.ak (.ref i) a)(Q:(es.all fun q=>cg q.1==2)=Y):∃p xs,(c.m[i]?=D p/\a=.ref p.1/\p.2=p.1)/\F2 (Hr c.G c.m) es xs/\c.s.heap.DictOfH (dk X) p.1 xs:=by
 refine cps fun P O=>?_;obtain⟨p,o,dD,E,C,e,J,nd,M,L,K,A⟩:=AW S Z H;obtain⟨xs,U,g⟩:=Hr.of A Q;refine O ?_;refine⟨p,xs,⟨C,e,J⟩,U,o,dD,E,M,L,K,g,fun x Z=>?_,(F2.jw AU (fun h=>h.1.1) U).mp nd⟩;have:∀{es:List (aa×aa)}{xs:List (List aa×bq×aH)},F2 (Hr c.G c.m) es xs->∀x∈xs,(dk X).is c.s.heap x.1 x.2.1:=fun h=>by induction h with|nil=>exact fun x Z=>nomatch Z|cons h _ j=>exact fun x Z=>(cc.mp Z).elim (fun e=>e▸(by obtain⟨⟨d,U⟩,J,_⟩:=h;rw[d]at U J;exact⟨U,S.pure (wO 6 _ U) J⟩)) (j x)
 exact this U x Z
theorem t9(S:HR X σ c)(Z:eF (.ab l)=Y)(U:c.ak (.ab l) v):∃a,v=.ref a/\(dk X).is c.s.heap l a/\c.ak (.ab l) (.ref a):=by have h:=S.pure (wO 6 _ Z) U;cases U with|ab J H=>exact⟨_,rfl,⟨Z,h⟩,.ab J H⟩
theorem wW(S:HR X σ c)(U:σ[i]?=D (.dict es))(J:c.ak (.ref i) a)(H:(es.all fun q=>cg q.1==1)=Y):∃p xs,(c.m[i]?=D p/\a=.ref p.1/\p.2=p.1)/\F2 (Ir c.G c.m) es xs/\c.s.heap.DictOf (ik X) p.1 xs:=by refine cps fun P Q=>?_;obtain⟨p,o,dD,O,E,e,C,nd,M,L,K,A⟩:=AW S U J;obtain⟨xs,Z,g,j⟩:=Ir.of A H;refine Q ?_;exact⟨p,xs,⟨E,e,C⟩,Z,o,dD,O,M,L,K,fun e d=>j e (b?.mpr d),g,(F2.jw IW (fun h=>h.1) Z).mp nd⟩
theorem UW(U:A.units+50<cLine)(S:HR X σ c)(J:σ[i]?=D (.dict es))(H:(es.all fun q=>cg q.1==2)=Y)(O:eF (.ab l)=Y)(Z:b9 es (.ab l)=D d)(C:c.ak (.ref i) a)(M:c.ak (.ab l) b)(k:PV X c σ d Q):wpAny (model X.prog X.w) A (getItem a b) Q E c.s:=by
 refine cps fun P L=>?_;obtain⟨p,xs,⟨r,rfl,_⟩,K,g⟩:=t8 S J C H;obtain⟨a,rfl,j,_⟩:=t9 S O M;refine L ?_;rcases Hr.at (l:=l) K with⟨q,_⟩|⟨u,q,e1,e2,e3⟩;.exact nS (q.symm.trans Z)
 .cases Z.symm.trans e1;exact wpAny_getItem_heap (knd:=dk X) (show A.units+1+10<cLine by exact aC 0x150c841a0021ab8b400001 rfl U) j g e2 (k.here S e3 _)
theorem UX(Z:A.units+50<cLine)(U:(X.K.lookup mA).isSome=Y)(S:HR X σ c)(J:σ[i]?=D (.dict es))(H:(es.all fun q=>cg q.1==2)=Y)(O:eF (.ab l)=Y)(C:c.ak (.ref i) a)(M:c.ak (.ab l) b)(k:PV X c σ (.bool (b9 es (.ab l)).isSome) Q):wpAny (model X.prog X.w) A (o0 .In b a) Q E c.s:=by
 refine cps fun P L=>?_;obtain⟨p,xs,⟨g,rfl,_⟩,j,d⟩:=t8 S J C H;obtain⟨a,rfl,r,_⟩:=t9 S O M;refine L ?_;have u:(b9 es (.ab l)).isSome=(atKey xs l).isSome:=by rcases Hr.at (l:=l) j with⟨e1,e2⟩|⟨v,q,e1,e2,e3⟩<;>rw[e1,e2]<;>rfl
 rw[u]at k;exact wpAny_in_heap (knd:=dk X) (show A.units+1+10<cLine by exact aC 0x150c841a0021ab8b400001 rfl Z) r (S.tZ U g) d (k.here S .bool _)
theorem UY(Z:(X.K.lookup mA).isSome=Y)(S:HR X σ c)(U:σ[i]?=D (.dict es))(J:(es.all fun q=>cg q.1==1)=Y)(H:c.ak (.ref i) a)(O:c.ak (.int j) b)(k:PV X c σ (.bool (b9 es (.int j)).isSome) Q):wpAny (model X.prog X.w) A (o0 .In b a) Q E c.s:=by
 obtain⟨p,xs,⟨C,rfl,_⟩,M,L⟩:=wW S U H J;refine VR.iE O fun _=>?_;have g:(b9 es (.int j)).isSome=(valueAt xs j).isSome:=by rcases Ir.at (j:=j) M with⟨e1,e2⟩|⟨d,q,e1,e2,e3⟩<;>rw[e1,e2]<;>rfl
 rw[g]at k;exact wpAny_in_of (knd:=ik X) (k:=j) (aN rfl) (S.tZ Z C) L.mapOf (k.here S .bool _)
theorem UZ{Q:Unit->cI->Prop}(L:A.units+50<cLine)(S:HR X σ c)(U:i≠0)(K:σ[i]?=D (.dict es))(g:(es.all fun q=>cg q.1==2)=Y)(O:eF (.ab l)=Y)(hz:es.length<av)(j:c.ak (.ref i) a)(r:c.ak (.ab l) b)(u:c.ak d v)(k:PU X c (σ.set i (.dict (eR es (.ab l) d))) (Q ())):wpAny (model X.prog X.w) A (setItem a b v) Q E c.s:=by refine cps fun P J=>?_;obtain⟨p,xs,⟨m,rfl,f⟩,C,M⟩:=t8 S K j g;obtain⟨a,rfl,y,z⟩:=t9 S O r;refine J ?_;have Z:=Hr.iS O z u C ((by obtain⟨_,_,_,_,_,_,_,_,q⟩:=M;exact q));refine wpAny_setItem_heap (knd:=dk X) (show A.units+1+10<cLine by exact aC 0x150c841a0021ab8b400001 rfl L) y M (fun h' H t=>?_) (by rw[C.length];exact jI hz);refine cps fun P J=>?_;obtain⟨o,dD,x,g1,g2,g3,g4,g5,g6⟩:=H;refine J ?_;exact S.tX U (h':=h') m (fun b o e n n2=>(t.2 b n).trans e) (.dict f ((F2.jw AU (fun h=>h.1.1) Z).mpr g6) g1 g2 g3 (by rw[g4];exact Hr.rj Z)) k
theorem U0{Q:Unit->cI->Prop}(S:HR X σ c)(U:i≠0)(J:σ[i]?=D (.dict es))(L:(es.all fun q=>cg q.1==1)=Y)(hz:es.length<av)(K:c.ak (.ref i) a)(g:c.ak (.int j) b)(r:c.ak d v)(k:PU X c (σ.set i (.dict (eR es (.int j) d))) (Q ())):wpAny (model X.prog X.w) A (setItem a b v) Q E c.s:=by refine cps fun P H=>?_;obtain⟨p,xs,⟨u,rfl,m⟩,C,M⟩:=wW S J K L;refine H ?_;refine VR.iE g fun _=>?_;have Z:=Ir.iS (j:=j) r C ((by obtain⟨_,_,_,_,_,_,_,_,q⟩:=M;exact q));refine wpAny_setItem_pairs (knd:=ik X) (k:=j) (aN rfl) M (fun h' O f=>?_) (by rw[C.length];exact jI hz);refine cps fun P H=>?_;obtain⟨o,dD,z,g1,g2,g3,g4,g5,g6⟩:=O;refine H ?_;exact S.tX U (h':=h') u (fun b o e y t=>(f.2 b y).trans e) (.dict m ((F2.jw IW (fun h=>h.1) Z).mpr g6) g1 g2 g3 (Ir.rj Z g5 fun e J=>g4 e (b?.mp J))) k
theorem AX(f:Z->X):∀(l:List Z)(j:Nat),(l.eraseIdx j).map f=(l.map f).eraseIdx j|[],j=>rfl|x::r,0=>rfl|x::r,j+1=>aI (f x::·) (AX f r j)
theorem U1{Q:Unit->cI->Prop}(hu:A.units+50<cLine)(S:HR X σ c)(U2:i≠0)(he:σ[i]?=D (.dict es))(hk:(es.all fun q=>cg q.1==2)=Y)(ho:eF (.ab l)=Y)(hz:es.length<av)(hl:(b9 es (.ab l)).isSome=Y)(ha:c.ak (.ref i) a)(hb:c.ak (.ab l) b)(k:PU X c (σ.set i (.dict (o8 es (.ab l)))) (Q ())):wpAny (model X.prog X.w) A (delItem a b) Q E c.s:=by
 refine cps fun P hP=>?_;obtain⟨p,xs,⟨hp,rfl,h0⟩,h1,h2⟩:=t8 S he ha hk;obtain⟨a,rfl,h3,_⟩:=t9 S ho hb;refine hP ?_;have hT:=h2.typeIs;refine cps fun P hP=>?_;obtain⟨o,dD,ep,g1,g2,g3,g4,g5,g6⟩:=h2;refine hP ?_;refine c? hT (by decide) d? (sk d? hT PySem.F.entry_dict_delitem ?_ (PySem.F.args_dict_delitem_2 _ _));unfold Builtin.«dict.__delitem__»;refine aA ?_;unfold Builtin.Dict.dictSlotArgs;refine aA (wpAny_notOrdered_dict hT ?_);show wpAny _ _ (pure (Lw p.1,Lw a)) _ _ _;refine aW ?_;show wpAny _ _ (aP0 p.1 (.ref a)>>=_) _ _ _;refine aA ?_;unfold Builtin.Dict.takeOut;try with_reducible refine mB ?_
 have IZ:(dk X).room A.in1:=show A.units+1+10<cLine by exact aC 0x150c841a0021ab8b400001 rfl hu
 refine aA ((dk X).pyHash IZ h3 (aA (wpAny_dictFind_heap (s:={c.s with toks:=c.s.toks+(dk X).draws l}) IZ h3 g1 g3 g4 g5 g6 ?_ ?_)))
 .intro U3;rcases Hr.at (l:=l) h1 with⟨e1,_⟩|⟨d',q,_,e2,_⟩;.rw[e1]at hl;exact nB hl
  .exact nS ((atKey_none_of_get U3).symm.trans e2)
 .intro j pv hj;refine aA (wpAny_dictEntries (s:={c.s with toks:=c.s.toks+(dk X).draws l}) g1 g3 ?_);have I7:dD[j]?=D (B5 (dk X) (l,pv)):=by rw[entry_at g4,hj];rfl
  rw[I7];have rJ:dD.size<=sizeLine:=by rw[e? g4,h1.length];exact jI hz
  have mV:j<dD.size:=(f?.mp I7).1;have I8:(dD.eraseIdxIfInBounds j).toList=(xs.eraseIdx j).map (B5 (dk X)):=by rw[AX,g4.symm,g',dif_pos mV,g?]
  refine aA (wpAny_updateDictKeys (hz:=rJ) (s:={c.s with toks:=c.s.toks+(dk X).draws l}) g1 g3 (aW (aA (wpAny_letGo (aW ⟨_,rfl,?_⟩)))) (by rw[mE.symm,I8,aJ];exact ln (bh (List.length_eraseIdx_le _ _) (gG (e? g4).symm))));have U4:=Lx (h? fun x=>x.eraseIdxIfInBounds j) g1 (Obj.isFreed_of_dict (i? g3 _));have I9:=Hr.UV h1 g6 hj;exact S.tX U2 (h':=c.s.heap.update p.1 (h? fun x=>x.eraseIdxIfInBounds j)) hp (fun b o e n1 n2=>(Ly _ _ (g9 n1)).trans e) (.dict h0 ((F2.jw AU (fun h=>h.1.1) I9).mpr (by rw[AX];exact g6.sublist (List.eraseIdx_sublist _ _))) U4 (g2.mapDictKeys _) (i? g3 _) (by rw[I8];exact Hr.rj I9)) k
end
end
section
open PySem.W PySem.Calls PyProof.Rows
section
variable{X:Wx}{c:Cf}{xs:Array aH}
theorem HR.newList(S:HR X σ c){aa:bq}{out:Array aH}(U:∀b o,c.s.heap.get? b=D o->h'.get? b=D o)(Z:c.s.heap.get? aa=I)(J:h'.get? aa=D (l3 out n))(H:c.Vs l out.toList)(k:PV X c (σ++[.list l]) (.ref σ.length) Q):Q (.ref aa) {c.s with heap:=h',toks:=t}:=have T:=cp.new S Z;have⟨O,E,v⟩:=S.cell (p:=(aa,aa)) (t:=t) T T U (.list rfl J (F2.aq (·.aq (fun _ _ z=>z) fun i q e=>(ic (bo.mp e).1).trans e) H));k _ _ (bY.refl.cl Z Z U) O v
theorem U5(Z:∀{i v},R (.int i) v->∃t,v=.int i t):∀{l:List aa}{ns:List Int}{vs:List aH},jv l=D ns->F2 R l vs->xN vs ns:=fun e h=>F2.rec (motive:=fun l vs _=>∀ns,jv l=D ns->xN vs ns) (fun ns e=>by cases e;exact .nil) (fun{x _ _ _}h _ U ns e=>by induction x using aa.casesOn with|int i=>obtain⟨q,J,rfl⟩:=qo.mp e;obtain⟨t,rfl⟩:=Z h;exact .cons i t (U _ J)|_=>exact nS e) h _ e
theorem U6:∀{vs:List aH}{ns:List Int},xN vs ns->c.Vs (ns.map .int) vs:=fun h=>IntsAre.rec (motive:=fun vs ns _=>c.Vs (ns.map .int) vs) .nil (fun n t _ _ _ Z=>.cons .int Z) h
theorem U7(h:c.ak (.int i) v):∃t,v=.int i t:=by refine VR.iE h fun _=>?_;exact⟨_,rfl⟩
theorem Ja(x:Int):∀l:List Int,(nX x l).Perm (x::l):=by intro l;induction l with|nil=>exact .refl _|cons y r Z=>
show(if x<=y then x::y::r else y::nX x r).Perm _;split;.exact .refl _
.exact((Z).cons y).trans (.swap x y r)
theorem U8:∀l:List Int,(jX l).Perm l:=by intro l;induction l with|nil=>exact .refl _|cons x r Z=>exact(Ja x _).trans ((Z).cons x)
theorem U9(x:Int):∀l:List Int,l.Pairwise (·<=·)->(nX x l).Pairwise (·<=·):=by intro l;induction l with|nil=>intro _;exact List.pairwise_singleton _ _|cons y r U=>
intro h;have Z:=Lz.mp h;show(if x<=y then x::y::r else y::nX x r).Pairwise _;split;.rename_i q;exact Lz.mpr ⟨fun z hz=>(cc.mp hz).elim (fun e=>e▸q) fun hz=>uG q (Z.1 z hz),h⟩
.rename_i q;exact Lz.mpr ⟨fun z hz=>(cc.mp ((Ja x r).mem_iff.mp hz)).elim (fun e=>e▸mz (cX.mp q)) (Z.1 z),U Z.2⟩
theorem Va:∀l:List Int,(jX l).Pairwise (·<=·):=by intro l;induction l with|nil=>exact .nil|cons x r Z=>exact U9 x _ (Z)
theorem Vb(Z:l'.Perm l)(U:l'.Pairwise (·<=·)):l'=jX l:=(Z.trans (U8 l).symm).eq_of_pairwise (fun x y _ _ J H=>BQ J H) U (Va l)
theorem Vc:∀{vs:List aH}{ns:List Int},vs.length=ns.length->(∀(j:Nat)v,vs[j]?=D v->∃i t,ns[j]?=D i/\v=.int i t)->xN vs ns:=by intro vs;induction vs with
|nil=>
intro ns e h;rcases ns with _|⟨i,r⟩;.exact .nil
.cases e|cons v U Z=>
intro ns e h;rcases ns with _|⟨i,r⟩;.cases e
obtain⟨J,t,e1,e2⟩:=h 0 v rfl;cases e1;cases e2;exact .cons _ _ (Z (ZK e) fun j v e=>h (j+1) v e)
theorem Vd:∀{es:List (aa×aa)}{l:List Int},jv (es.map (·.1))=D l->(es.all fun q=>cg q.1==1)=Y/\∀{xs:List (Int×aH)}{G m},F2 (Ir G m) es xs->xs.map (·.1)=l:=by intro es;induction es with|nil=>intro l e;cases e;exact⟨rfl,fun h=>by cases h;rfl⟩|cons U r Z=>obtain⟨k,d⟩:=U;intro l e;induction k using aa.casesOn with|int i=>obtain⟨q,J,rfl⟩:=qo.mp e;have Z:=Z J;exact⟨Z.1,fun h=>by cases h with|cons h H=>rw[ij,Z.2 H,aa.int.inj h.1]⟩|_=>exact nS e
theorem Ve{l:List Int}{Q:aH->cI->Prop}(hh:A.handled=I)(hm:(X.K.lookup mA).isSome=Y)(S:HR X σ c)(he:σ[i]?=D (.dict es))(hi:jv (es.map (·.1))=D l)(hl:l.length<60)(ha:c.ak (.ref i) a)(k:PV X c (σ++[.list ((jX l).map .int)]) (.ref σ.length) Q):wpAny (model X.prog X.w) A (call (.builtin "sorted") [a]) Q E c.s:=by
 refine cps fun P hP=>?_;obtain⟨hk,wX⟩:=Vd hi;obtain⟨p,xs,⟨hp,rfl,_⟩,h1,h2⟩:=wW S he ha hk;obtain⟨ep,h3⟩:=h2.dictAt;refine hP ?_;have hx:=wX h1;have hn:xs.length=l.length:=by rw[hx.symm,aJ]
 refine call_function_entry kind_sorted plain_sorted entry_sorted (args_sorted1 _) ?_;unfold Builtin.«sorted»;refine aA (m:=checkCount "sorted" 1 1 _) (aW ?_);refine aA (kdu_collect (A:=A.in1) (kdl_dict (knd:=ik X) (S.tZ hm hp)) hh h3 (by rw[hn,wP];exact ax 0x1e083408600000050d000 rfl hl) fun h' tk dM oj Jb=>?_);have jf:dM.toList.length=l.length:=by rw[mE,Jb.1,hn]
 have hI:xN dM.toList l:=Vc jf fun j v e=>by obtain⟨k',x,e1,e2⟩:=Jb.2 j v (by rw[<-B6];exact e);obtain⟨t,e3⟩:=Lv e2;exact⟨k',t,by rw[hx.symm,gp,e1];rfl,e3⟩
 refine aA (wpAny_newList ?_ (by rw[jf,wP];exact ax 0x1e083408600000050d000 rfl hl));have AY:(h'.push (seqObj "list" dM.toList.toArray 0)).get? h'.objs.size=D (seqObj "list" dM.toList.toArray 0):=kx _ rfl;refine aA (mB (sk slot_list_sort ⟨_,AY,rfl⟩ entry_list_sort (list_sort_tree (s:={c.s with heap:=h'.push (seqObj "list" dM.toList.toArray 0),toks:=tk}) AY hI (by rw[jf];exact ax 0x3c10681088020d001 rfl hl) fun out ak0 a1 a2 a3=>⟨_,rfl,?_⟩) (args_list_sort _)));refine aW ⟨_,rfl,?_⟩;obtain⟨e,Vf⟩:=sortedHeap_at (vs:=dM.toList) (out:=out) AY;refine S.newList (l:=(jX l).map .int) (fun b o q=>?_) (uv.mp fun q=>?_) Vf (by rw[<-Vb a2 a3];exact U6 a1) k;.have mV:b<h'.objs.size:=sj (oj _ _ q);rw[sortedHeap_old (lh mV) (by rw[size_push'];exact j' mV),Heap.get?_push_ne _ _ _ (lh mV)];exact oj _ _ q
 .rcases r:c.s.heap.get? h'.objs.size with _|o;.exact q r
  exact nS ((k6 h').symm.trans (oj _ _ r))
theorem Jc(h:lF l i=D d):-(2^63:Int)<=i/\i<2^63/\∃j,seqIndex? i l.length=D j/\l[j]?=D d/\(0<=i->j=i.toNat)/\(i<0->0<=i+l.length/\j=(i+l.length).toNat):=by
 refine cps fun P Q=>?_;obtain⟨O,h⟩:=ca (p:=(small i&&decide (l.length<av))=Y) h;refine Q ?_;have J:=tY (bL O);refine⟨J.1,J.2.1,?_⟩;unfold seqIndex?;by_cases Z:0<=i;.rw[af Z]at h;have U:=(bo.mp h).1;refine⟨i.toNat,?_,h,fun _=>rfl,fun z=>ae z (ii.mpr Z)⟩;rw[am (ii.mpr Z)];exact af (by rw[aN Z,aN ((LA Z).mp U)];rfl)
 .rw[am Z]at h;obtain⟨H,h⟩:=ca h;have U:=(bo.mp h).1;refine⟨(i+l.length).toNat,?_,h,fun z=>ae z Z,fun _=>⟨H,rfl⟩⟩;rw[af (cX.mp Z)];exact af (by rw[aN H,aN (KI (Int.add_lt_add_right (cX.mp Z) _) (j? (k? _)))];rfl)
theorem getL{j:Nat}(h:c.Vs l xs.toList)(e:l[j]?=D d):∃v,xs[j]?=D v/\c.ak d v:=by rw[<-B6];exact h.iu e
theorem Vg{Q:aH->cI->Prop}(t:A.units+50<cLine)(S:HR X σ c)(e:cY σ x y=D d)(H:c.ak x a)(O:c.ak y b)(k:PV X c σ d Q):wpAny (model X.prog X.w) A (getItem a b) Q E c.s:=by induction x using aa.casesOn with
|ab l=>induction y using aa.casesOn with|int i=>cases O;refine VR.tE H fun _ _ _ C J=>?_;obtain⟨U,L,j,e1,e2,_⟩:=Jc e;obtain⟨v,e3,K⟩:=getL J e2;exact P.getItem_tuple (S.sub _ _ C) U L (by rw[fI J];exact e1) e3 (k.here S K _)|_=>exact nS e
|str s=>induction y using aa.casesOn with
 |int i=>
 refine VR.iE O fun _=>?_;refine VR.sE H fun _=>?_;obtain⟨m,e⟩:=ca (p:=(decide (0<=i)&&small i)=Y) e;have Z:0<=i:=cz (bL m);have U:=tY (bR m);obtain⟨h,e1,e'⟩:=qo.mp e;clear e;cases e';have g:=(f?.mp e1).1;refine P.getItem_str (c:=h) (by rw[bQ (ii.mpr U.1),bQ (cX.mpr U.2.1)];rfl) ?_ (k.here S .str _);have:seqIndex? i s.length=D i.toNat:=by unfold seqIndex? Str.length;rw[am (ii.mpr Z)];exact af (by rw[aN Z,aN ((LA Z).mp g)];rfl)
 rw[this];exact e1|_=>exact nS e
|ref i=>
 change(match σ[i]? with|some (.list xs)=>(match y with|.int k=>lF xs k|_=>I)|some (.dict es)=>if(dc es y&&cg y==2)=Y then b9 es y else I|_=>I)=_ at e;rcases q:σ[i]? with _|o;.exact nS (q▸e)
 rw[q]at e;induction o using AO.casesOn with
 |list ys=>induction y using aa.casesOn with|int j=>
 obtain⟨p,vs,n,hp,rfl,_,C,J⟩:=jJ S q H;refine VR.iE O fun _=>?_;refine cps fun P hP=>?_;obtain⟨U,L,u,e1,e2,e3,K⟩:=Jc e;obtain⟨v,r,f⟩:=getL J e2;refine hP ?_;rcases Int.lt_or_le j 0 with Z|Z;.clear e1 e2 e3;obtain⟨z1,rfl⟩:=K Z;have:=fI J;exact wpAny_getItem_list_neg ⟨_,C,rfl,n,rfl⟩ Z (Int.le_of_sub_nonneg (by rw[ZL,this];exact z1)) U (by rw[this];exact r) (k.here S f _)
 .rw[e3 Z]at r;exact wpAny_getItem_list ⟨_,C,rfl,n,rfl⟩ Z L r (k.here S f c.s.toks)|_=>exact nS e
 |dict es=>obtain⟨z,e⟩:=ca e;obtain⟨l,rfl,h1,h2⟩:=t4 (bL z) (bR z);exact UW t S q h2 h1 e H O k|_=>exact nS e
|_=>exact nS e
theorem Jd{n uU j:Nat}(e:bound n uU x=D j)(hv:c.ak x v):∃q:Option Int,B7 v q/\j=(match q with|none=>uU|some i=>if i<0 then(i+n).toNat else min i.toNat n):=by induction hv using VR.casesOn with|none=>cases e;exact⟨I,.none,rfl⟩|@int i t=>obtain⟨_,e⟩:=ca (p:=small i=Y) e;cases e;exact⟨D i,.int _ t,rfl⟩|_=>exact nS e
theorem AZ{i n:Int}(h:i<0):i+n<=n:=uG (Int.add_le_add_right (mz h) n) (j? (k? n))
theorem oL(i:Int)(n:Nat):max 0 (min (if i<0 then i+n else i) (n:Int))=((if i<0 then(i+n).toNat else min i.toNat n:Nat):Int)/\(if i<0 then(i+n).toNat else min i.toNat n)<=n:=by
 by_cases h:i<0;.rw[af h,af h,LB (AZ h)];exact⟨(l? _ _).trans (Int.ofNat_toNat _).symm,Int.toNat_le.mpr (AZ h)⟩
 .rw[am h,am h];obtain⟨k,rfl⟩:=m? (ii.mp h);refine⟨(n? (o?.mpr ⟨ib k,ib n⟩)).trans ?_,jU _ _⟩;show min (k:Int) n=((min k n:Nat):Int);rcases Nat.le_total k n with q|q;.rw[mq q,LB (nD.mpr q)]
  .rw[se q,Int.min_eq_right (nD.mpr q)]
theorem Je{lo hi:Option Int}{n p q:Nat}(h1:p=(match lo with|none=>0|some i=>if i<0 then(i+n).toNat else min i.toNat n))(h2:q=(match hi with|none=>n|some i=>if i<0 then(i+n).toNat else min i.toNat n)):B8 lo hi I n=((p:Int),(q:Int),1)/\p<=n/\q<=n:=by
 unfold sliceBounds;simp only[Option.getD_none,show(1:Int)>0 from by decide,if_true];subst h1 h2;rcases lo with _|i;.induction hi using cM with|none=>exact⟨rfl,bP _,aE _⟩|some i=>dsimp only;rw[(oL i n).1];exact⟨rfl,bP _,(oL i n).2⟩
 induction hi using cM with|none=>dsimp only;rw[(oL i n).1];exact⟨rfl,(oL i n).2,aE _⟩|some j=>dsimp only;rw[(oL i n).1,(oL j n).1];exact⟨rfl,(oL i n).2,(oL j n).2⟩
theorem Vh(l:List U)(p:Nat):∀m:Nat,(iW m).filterMap (fun j=>l[p+j]?)=(l.drop p).take m:=by intro m;induction m with|zero=>exact rfl|succ m Z=>rw[ZR,List.filterMap_append,Z,Lk,ZI,LC];cases l[p+m]?<;>rfl
theorem Jf(l:List Z)(p q:Nat):((iW (q-p)).map (p+·)).filterMap (l[·]?)=(l.take q).drop p:=by rw[p?,List.drop_take];exact Vh l p (q-p)
theorem Jg{lo hi:aa}{vl vu:aH}(e:dS l lo hi=D r)(hl:c.ak lo vl)(hh:c.ak hi vu)(h:c.Vs l xs.toList):∃ql qu,B7 vl ql/\B7 vu qu/\l.length<av/\c.Vs r (slicePick xs ql qu I).toList/\∃p q:Nat,B8 ql qu I xs.size=((p:Int),(q:Int),1)/\p<=xs.size/\q<=xs.size/\r=(l.take q).drop p:=by
 obtain⟨hz,e⟩:=ca (p:=l.length<av) e;rcases e1:bound l.length 0 lo with _|p;.rw[e1]at e;exact nS e
 rcases e2:bound l.length l.length hi with _|q;.rw[e1,e2]at e;exact nS e
 rw[e1,e2]at e;cases e;refine cps fun P hP=>?_;obtain⟨ql,q1,q2⟩:=Jd e1 hl;obtain⟨qu,q3,q4⟩:=Jd e2 hh;refine hP ?_;have b:=Je q2 q4;rw[<-fI h]at b;refine⟨ql,qu,q1,q3,hz,?_,p,q,b.1,b.2.1,b.2.2,rfl⟩;unfold slicePick;rw[b.1];dsimp only;rw[sliceRange_one,show(fun x:Nat=>xs[x]?)=fun x=>xs.toList[x]? from funext fun x=>(B6).symm,Jf];exact(F2.take h q).drop p
theorem Vi{xs:List aa}{lo hi:aa}(S:HR X σ c)(he:σ[i]?=D (.list xs))(e:dS xs lo hi=D r)(ha:c.ak (.ref i) a)(hl:c.ak lo vl)(hh:c.ak hi vu)(hs:c.s.heap.IsSliceOf sl vl vu .none)(k:PV X c (σ++[.list r]) (.ref σ.length) Q):wpAny (model X.prog X.w) A (getItem a (.ref sl)) Q E c.s:=by refine cps fun P hP=>?_;obtain⟨p,vs,n,hp,rfl,_,ho,hr⟩:=jJ S he ha;obtain⟨ql,qu,q1,q2,hz,q3,_⟩:=Jg e hl hh hr;refine hP ?_;exact wpAny_getItem_list_slice ⟨_,ho,rfl,n,rfl⟩ hs q1 q2 .none (fun z=>nomatch z) (S.newList (fun b o q=>gq _ q) (k6 _) (kx _ rfl) q3 k) (by rw[fI hr];exact jI hz)
theorem Jh(Z:B7 v q)(h:Q q s):wpAny (model X.prog X.w) A (aQ0 v) Q E s:=by induction Z using IsPart.casesOn with|none=>exact q? h|int i t=>exact slicePart_int h
theorem Vj(lo hi:Option Int)(n:Nat):r? lo hi 1 n=((B8 lo hi I n).1,(B8 lo hi I n).2.1):=by
 unfold Builtin.Slice.sliceAdjust sliceBounds;have h1:¬((1:Int)<0):=by decide
 simp only[Option.getD_none,show(1:Int)>0 from by decide,h1,if_true,if_false];have key:∀v:Int,(if v<0 then max (v+(n:Int)) 0 else min v n)=max 0 (min (if v<0 then v+n else v) (n:Int)):=fun v=>by
  by_cases h:v<0;.rw[af h,af h,LB (AZ h)];exact l? _ _
  .rw[am h,am h];exact(n? (o?.mpr ⟨ii.mp h,ib n⟩)).symm
 cases lo<;>cases hi<;>simp only[key]
theorem Vk{lo hi:aa}(S:HR X σ c)(e:dS l lo hi=D r)(ha:c.ak (.ab l) a)(hl:c.ak lo vl)(hh:c.ak hi vu)(hs:c.s.heap.IsSliceOf sl vl vu .none)(k:PV X c σ (.ab r) Q):wpAny (model X.prog X.w) A (getItem a (.ref sl)) Q E c.s:=by
 refine VR.tE ha fun p xs n ho hr=>?_;refine cps fun P hP=>?_;obtain⟨ql,qu,q1,q2,hz,q3,u,w,hb,hu,hw,rfl⟩:=Jg e hl hh hr;obtain⟨os,nh,ua,qb⟩:=id hs;refine hP ?_;have ht:IsTup c.s.heap p xs:=⟨_,S.sub _ _ ho,rfl,n,rfl⟩;have A0:=Vj ql qu xs.size;rw[hb]at A0;have Ji:LD (u:Int) (w:Int) 1=w-u:=by
  unfold Builtin.Slice.slicePlaces;rw[af (by decide),Int.ediv_one,Int.sub_add_cancel];by_cases h:(u:Int)<w;.rw[af h];exact Int.toNat_sub w u
  .rw[am h];exact(xJ (nD.mp (ii.mp h))).symm
 unfold getItem;try with_reducible refine mB ?_
 first|refine aA (aW ?_)|skip
 refine aA (s? ht.typeIs (by decide) ?_);refine aA (t? (name:=KK "__getitem__") ht.typeIs LF (sk LF ht.typeIs entry_tuple_getitem ?_ (args_tuple_getitem _ _)));show wpAny _ _ (ZW (.ref p)>>=_) _ _ _;refine aA (tupleItemsOf_ ht (aA (LG ⟨os,nh,ua⟩ ?_)));rw[af (by decide)];refine aA (m:=aR0 (.ref sl) (pure (xs.size:Int))) ?_;unfold Builtin.Slice.sliceApplied Builtin.Slice.sliceFields;refine aA (aA (uH nh qb (x:=vl) rfl (aA (uH nh qb (x:=vu) rfl (aA (uH nh qb (x:=.none) rfl (aW (aA (q? ?_)))))))));show wpAny _ _ (if((1:Int)==0)=Y then _ else _) _ _ _;rw[am (by decide)];refine aA (Jh q1 (aA (Jh q2 (aA (aW ?_)))));show wpAny _ _ (match r? ql qu 1 (xs.size:Int)with|(lo,hi)=>pure (lo,(1:Int),LD lo hi 1)) _ _ _;rw[A0];show wpAny _ _ (pure ((u:Int),(1:Int),LD (u:Int) (w:Int) 1)) _ _ _;rw[Ji];refine aW ?_;dsimp only;have Jj:((iW (w-u)).filterMap fun(k:Nat)=>xs[((u:Int)+(k:Int)*1).toNat]?).toArray.toList=(xs.toList.take w).drop u:=by
  have e1:(fun(k:Nat)=>xs[((u:Int)+(k:Int)*1).toNat]?)=(fun x=>xs.toList[x]?)∘fun x=>u+x:=funext fun j=>by show _=xs.toList[u+j]?;rw[Int.mul_one,B6];rfl
  rw[e1,p?.symm,Jf xs.toList u w]
 by_cases pU:((u:Int)==0&&(1:Int)==1&&(w-u)==xs.size)=Y
 .rw[af pU];have Vl:u=0:=dq (aU.mp (bL (bL pU)));have Vm:l.length<=w:=by rw[<-fI hr,(aU.mp (bR pU)).symm];exact qj _ _
  clear hb hu e q3 A0 Ji Jj pU;subst Vl;rw[uD,uF Vm]at k;refine aA (m:=aS0 (.ref p)) ?_;unfold Builtin.Tuple.tupleIsExact;refine aA (LG ht.typeIs (aW ?_));rw[af (by rfl)];exact aA (wpAny_rule (aA (aW (aW ⟨_,rfl,aW (k.here S (.ab ho hr) _)⟩))))
 .rw[am pU];have fk:=fun t=>PV.ab k S (zs:=((iW (w-u)).filterMap fun(k:Nat)=>xs[((u:Int)+(k:Int)*1).toNat]?).toArray) (n:=0) (by rw[Jj];exact(F2.take hr w).drop u) t;have rJ:sizeOk (.seq ((iW (w-u)).filterMap fun(k:Nat)=>xs[((u:Int)+(k:Int)*1).toNat]?).toArray):=by show _<=sizeLine;rw[LH];refine bh (u? _ _) ?_;rw[Li];exact bh (qj w u) (bh hw (by rw[fI hr];exact jI hz))
  first|exact aA (m:=B9 _) (xO (aW ⟨_,rfl,aW (fk _)⟩) rJ)|exact aA (m:=B9 _) (xO (aA (aW (aW ⟨_,rfl,aW (fk _)⟩))) rJ)|exact aA (aA (m:=B9 _) (xO (aW (aW ⟨_,rfl,aW (fk _)⟩)) rJ))|exact aA (aA (m:=B9 _) (xO (aW ⟨_,rfl,aW (fk _)⟩) rJ))
end
end
section
open PySem.W PySem.Calls PyProof.Rows
section
variable{c:Cf}
theorem Jk(X:cf x=Y):∀{l:List aa},l.all cf=Y->(fH l).any (fun y=>xL y (ga x))=l.contains x:=by intro l;induction l with|nil=>intro _;exact rfl|cons d r U=>intro Z;show(xL (ga d) (ga x)||(fH r).any _)=_;rw[U (bR Z),(wN 40).1 _ (bL Z) 40 _ X,List.contains_cons,AP];exact aI (·||_) (iG.mpr ⟨BH,BH⟩)
theorem Jl(g:A.units+50<cLine)(L:(X.K.lookup mA).isSome=Y)(S:HR X σ c)(e:ip σ x y=D q)(J:c.ak x a)(H:c.ak y b)(k:PV X c σ (.bool q) Q):wpAny (model X.prog X.w) A (o0 .In a b) Q E c.s:=by induction y using aa.casesOn with
|ab l=>obtain⟨h,e⟩:=ca (p:=(cf x&&l.all cf)=Y) e;cases e;refine VR.tE H fun _ _ _ d r=>?_;obtain⟨as,rc⟩:=(oJ 40).2 _ (l6 (bR h)) _ (eI.pure S.sub r (l6 (bR h)));obtain⟨bs,O⟩:=(oJ 40).1 _ (bL h) _ (S.pure (bL h) J);have Z:=(km 40).1 _ (bL h);rw[<-Jk (bL h) (bR h)]at k;exact SeqAt.in_tuple_reads (.tuple (S.sub _ _ d) rfl rfl rc) O ((km 40).2 _ (l6 (bR h))).1 Z.1 (IT ‹_› Z.2) (k.here S .bool c.s.toks)|ref i=>
 change(match σ[i]? with|some (.list xs)=>if(cf x&&xs.all cf)=Y then D (xs.contains x)else I|some (.dict es)=>if dc es x=Y then D (b9 es x).isSome else I|_=>I)=_ at e;rcases U:σ[i]? with _|o;.exact nS (U▸e)
 rw[U]at e;induction o using AO.casesOn with
 |list xs=>obtain⟨h,e⟩:=ca e;cases e;obtain⟨as,rc⟩:=AS S U H (bR h);obtain⟨bs,O⟩:=(oJ 40).1 _ (bL h) _ (S.pure (bL h) J);have Z:=(km 40).1 _ (bL h);rw[<-Jk (bL h) (bR h)]at k;exact SeqAt.in_list_reads rc O ((km 40).2 _ (l6 (bR h))).1 Z.1 (IT ‹_› Z.2) (k.here S .bool c.s.toks)|dict es=>obtain⟨C,e⟩:=ca e;cases e;induction x using aa.casesOn with|int j=>obtain⟨_,e,M⟩:=AV C rfl;cases e;exact UY L S U M H J k|ab l=>obtain⟨_,e,u,M⟩:=t4 C rfl;cases e;exact UX g L S U M u H J k|_=>exact nB (bR (bL C))
 |_=>exact nS e
|_=>exact nS e
theorem Vn(hu:A.units+50<cLine)(hm:(X.K.lookup mA).isSome=Y)(S:HR X σ c)(e:ip σ x y=D q)(ha:c.ak x a)(hb:c.ak y b)(k:PV X c σ (.bool (!q)) Q):wpAny (model X.prog X.w) A (o0 .NotIn a b) Q E c.s:=by
 have h3:wpAny (model X.prog X.w) A (contains b a>>=fun z=>pure (v? z)) (fun v s'=>∀z,v=.bool z->Q (.bool (!z)) s') E c.s:=Jl hu hm S e ha hb fun z v x' S' hv u hz=>by subst hz;cases hv;exact k z _ x' S' .bool
 show wpAny _ A (contains b a>>=fun z=>pure (v? (!z))) Q E c.s;intro oM p wY;have h4:=h3 oM p wY;rw[LI]at h4⊢;exact Ca _ oM _ (fun z p' s' h'=>h' z rfl) (fun _ _ _ h'=>h') p c.s h4
theorem Vp(Z:c.ak x a):(a==.none)=decide (x=.none):=by cases Z<;>rfl
theorem Vq(S:HR X σ c)(J:c.ak x a)(k:PV X c σ (.bool (decide (x=.none)==q)) Q):wpAny (model X.prog X.w) A (o0 (cond q .Is .IsNot) a .none) Q E c.s:=by
 rw[<-Vp J]at k;rcases q with _|_;.exact isnot_none_gen (by rw[beq_false]at k;exact k.here S .bool c.s.toks)
 exact is_none_gen (by rw[beq_true]at k;exact k.here S .bool c.s.toks)
noncomputable def A1(b:Bi):Value:=match b with|.len=>.builtin "len"|.max=>.builtin "max"|.min=>.builtin "min"|.sorted=>.builtin "sorted"|.tuple=>.type "tuple"|.str=>.type "str"
theorem Vt:∀(l:List Int)(m:Int),lG m l<=m/\∀x∈l,lG m l<=x:=by intro l;induction l with|nil=>intro m;exact⟨fR _,fun x X=>nomatch X⟩|cons y r Z=>
intro m;show lG (if y<m then y else m) r<=m/\∀x∈y::r,lG (if y<m then y else m) r<=x;have Z:=Z (if y<m then y else m);have U:(if y<m then y else m)<=m/\(if y<m then y else m)<=y:=by
 by_cases h:y<m;.rw[af h];exact⟨mz h,fR _⟩
 .rw[am h];exact⟨fR _,ii.mp h⟩
exact⟨uG Z.1 U.1,fun x X=>(cc.mp X).elim (fun e=>by rw[e];exact uG Z.1 U.2) (Z.2 x)⟩
theorem Vu:∀(l:List Int)(m:Int),lG m l∈m::l:=by intro l;induction l with|nil=>intro m;exact aV|cons y r Z=>
  intro m;show lG (if y<m then y else m) r∈m::y::r;rcases cc.mp (Z (if y<m then y else m))with h|h
  .rw[h];split;.exact cH _ aV
   .exact aV
  .exact cH _ (cH _ h)
theorem Vv{P:Int->Prop}(Z:0<=i)(X:i<10)(h:∀n:Nat,n<10->P (n:Int)):P i:=by have:=h i.toNat ((LA Z).mpr X);rwa[lr Z]at this
theorem Vw:∀n:Nat,n<10->(toString (n:Int):bc)=⟨#[48+n]⟩:=by decide+kernel
theorem Vx(u:A.handled=I)(S:HR X σ c)(m:σ[i]?=D (.list l))(hi:jv l=D (j::r))(O:c.ak (.ref i) a)(k:PV X c σ (.int (lG j r)) Q):wpAny (model X.prog X.w) A (call (.builtin "min") [a]) Q E c.s:=by
 refine cps fun P f=>?_;obtain⟨p,vs,n,x,rfl,_,y,z⟩:=jJ S m O;refine f ?_;have M:=U5 (R:=c.ak) U7 hi z;obtain⟨Z,L⟩:=M.allInts.items;have U:(j::r)=Z.toList.map (·.1):=by rw[<-M.numsOf,<-nums_intItems,<-L]
 have J:r.length+1=Z.size:=(aI r6 U).trans ((aJ ..).trans mE);have q:c.s.heap.IsList p.1 (intItems Z):=by rw[L.symm];exact⟨_,y,rfl,n,rfl⟩
 refine min_intList u q (aC 709906590732289 rfl J) fun v h' b h K=>?_;obtain⟨t,rfl⟩:=intItems_at h;obtain⟨g1,g2⟩:=argBest_lt (numAt Z) (Z.size-1);have H:numAt Z (argBest (fun i j=>decide (numAt Z i<numAt Z j)) (Z.size-1))∈(j::r):=by rw[U,numAt_eq];exact getD_mem (by rw[aJ,mE,J.symm];exact BP (J▸g1:_<=r.length+1-1))
 have C:∀a∈(j::r),numAt Z (argBest (fun i j=>decide (numAt Z i<numAt Z j)) (Z.size-1))<=a:=fun a O=>by rw[U]at O;obtain⟨j,g,rfl⟩:=mem_getD O;rw[aJ,mE]at g;rw[<-numAt_eq];exact g2 j (Nat.le_sub_one_of_lt g)
 have d:=Vt r j;rw[show lG j r=_ from BQ ((cc.mp H).elim (fun e=>e▸d.1) (d.2 _)) (C _ (Vu r j))]at k;exact k (c.hp h' b) _ (.more K) (S.more K) .int
theorem wZ{Z:Type}{f:aa->Option Z}{r:Z}(X:c.Vs as vs)(e:(nY as).bind f=D r):∃x a,vs=[a]/\c.ak x a/\f x=D r:=by induction X using F2.casesOn with|nil=>exact nS e|cons h U=>induction U using F2.casesOn with|nil=>exact⟨_,_,rfl,h,e⟩|cons=>exact nS e
theorem Vy{Z:Type}{f:Int×Int->Z}{r:Z}(h:c.ak x a)(h':c.ak y b)(e:(o9 [x,y]).map f=D r):∃i j t u,a=.int i t/\b=.int j u/\f (i,j)=r:=by induction h using VR.casesOn with
|int=>induction h' using VR.casesOn with|int=>exact⟨_,_,_,_,rfl,rfl,b8 e⟩|_=>exact nS e
|_=>exact nS e
theorem Jm{U:Type}{as:List aa}{vs:List aH}{f:Int×Int->U}{r:U}(J:c.Vs as vs)(e:(o9 as).map f=D r):∃i j t u,vs=[.int i t,.int j u]/\f (i,j)=r:=by
 have H:∀{x y z:aa}{l:List aa},o9 (x::y::z::l)=none:=fun{x y z l}=>by cases x<;>first|rfl|(cases y<;>rfl)
 have Z:∀{x:aa},o9 [x]=none:=fun{x}=>by cases x<;>rfl
 induction J using F2.casesOn with|nil=>exact nS e|cons h X=>induction X using F2.casesOn with|nil=>rw[Z]at e;exact nS e|cons h' X=>induction X using F2.casesOn with|nil=>obtain⟨i,j,t,u,rfl,rfl,e⟩:=Vy h h' e;exact⟨i,j,t,u,rfl,e⟩|cons=>rw[H]at e;exact nS e
theorem A2{Z:Type}{f:List aa->Option Z}{r:Z}(e:(nZ σ x).bind f=D r):∃i xs,x=.ref i/\σ[i]?=D (.list xs)/\f xs=D r:=by induction x using aa.casesOn with
|ref i=>
 change(match σ[i]? with|some (.list xs)=>D xs|_=>I:Option (List aa)).bind f=_ at e;rcases q:σ[i]? with _|o;.rw[q]at e;exact nS e
 rw[q]at e;induction o using AO.casesOn with|list xs=>exact⟨i,xs,rfl,q,e⟩|_=>exact nS e
|_=>exact nS e
theorem Jn(xs:List aa):(if xs.length<av then D (aa.int xs.length)else I)=D d->(xs.length:Int)<2^63/\d=.int xs.length:=fun e=>by obtain⟨hz,e⟩:=ca e;cases e;exact⟨AR hz,rfl⟩
theorem Vz(S:HR X σ c)(e:x8 σ x=D d)(J:c.ak x a)(k:PV X c σ d Q):wpAny (model X.prog X.w) A (call (.builtin "len") [a]) Q E c.s:=by induction J using VR.casesOn with
|ab Z U=>refine cps fun P H=>?_;obtain⟨h,rfl⟩:=Jn _ e;refine H ?_;rw[<-fI U]at h k;exact len_tuple ⟨_,S.sub _ _ Z,rfl,_,rfl⟩ h (k.here S .int _)|@ref i p O=>
 change(match σ[i]? with|some (.list xs)=>if xs.length<av then D (aa.int xs.length)else I|_=>I)=_ at e;rcases q:σ[i]? with _|o;.rw[q]at e;exact nS e
 have C:=S.cells i p o O q;rw[q]at e;induction C using OR.casesOn with|list M Z U=>obtain⟨h,rfl⟩:=Jn _ e;rw[<-fI U]at h k;exact call_len_list ⟨_,Z,rfl,_,rfl⟩ h (k.here S .int _)|_=>exact nS e
|_=>exact nS e
theorem VA(U:A.handled=I)(J:(X.K.lookup mA).isSome=Y)(S:HR X σ c)(e:qE σ x=D (d,Z))(H:c.ak x a)(k:PV X c Z d Q):wpAny (model X.prog X.w) A (call (.builtin "sorted") [a]) Q E c.s:=by induction x using aa.casesOn with
|ref i=>
 change(match σ[i]? with|some (.dict es)=>(jv (es.map (fun p:aa×aa=>p.1))).bind fun l=>if l.length<60 then D (aa.ref σ.length,σ++[AO.list ((jX l).map .int)])else I|_=>I)=_ at e;rcases q:σ[i]? with _|o;.rw[q]at e;exact nS e
 rw[q]at e;induction o using AO.casesOn with|dict es=>refine cps fun P O=>?_;obtain⟨l,hi,e⟩:=w?.mp e;obtain⟨hz,e⟩:=ca e;refine O ?_;cases e;exact Ve U J S q hi hz H k|_=>exact nS e
|_=>exact nS e
theorem VB(S:HR X σ c)(e:ya σ x=D d)(J:c.ak x a)(k:PV X c σ d Q):wpAny (model X.prog X.w) A (call (.type "tuple") [a]) Q E c.s:=by induction x using aa.casesOn with|ab l=>cases e;refine VR.tE J fun _ _ _ Z U=>?_;exact call_tuple_same ⟨_,S.sub _ _ Z,rfl,_,rfl⟩ (k.here S (.ab Z U) c.s.toks)|ref i=>obtain⟨_,xs,O,C,e⟩:=A2 e;cases O;obtain⟨hz,e⟩:=ca (p:=xs.length<av) e;cases e;refine cps fun P M=>?_;obtain⟨p,L,n,j,rfl,_,Z,U⟩:=jJ S C J;refine M ?_;exact call_tuple_list ⟨_,Z,rfl,n,rfl⟩ (fun h' H=>PV.ab (c:=c.hp h' c.s.toks) (fun z v K g=>k z v ((bY.more H).trans K) g) (S.more H) U _) (by rw[fI U];exact jI hz)|_=>exact nS e
theorem VC(S:HR X σ c)(e:yb x=D d)(ha:c.ak x a)(k:PV X c σ d Q):wpAny (model X.prog X.w) A (call (.type "str") [a]) Q E c.s:=by induction ha using VR.casesOn with|@int i t=>obtain⟨hz,e⟩:=ca (p:=(decide (0<=i)&&decide (i<10))=Y) e;cases e;have h0:0<=i:=cz (bL hz);have h1:i<10:=cz (bR hz);refine PySem.P.str_of_int (dL (Nat.log2_le_self _) (cv.mp (by rw[Z2 h0];exact rV h1 (by decide)))) ?_;rw[show(toString i:bc)=⟨#[48+i.toNat]⟩from Vv (P:=fun i=>(toString i:bc)=⟨#[48+i.toNat]⟩) h0 h1 Vw];exact k.here S .str _|_=>exact nS e
theorem Jo{o:Option X}(e:o.map f=D (d,Z)):∃z,o=D z/\f z=(d,Z):=qo.mp e
theorem VD{vs:List aH}{Q:aH->cI->Prop}(H:A.handled=I)(S:HR X σ c)(e:iJ .min σ as=D (d,U))(O:c.Vs as vs)(k:PV X c U d Q):wpAny (model X.prog X.w) A (call (.builtin "min") vs) Q E c.s:=by
 have C:(o9 as).map (fun p=>(aa.int (if p.2<p.1 then p.2 else p.1),σ))=D (d,U)->wpAny (model X.prog X.w) A (call (.builtin "min") vs) Q E c.s:=fun e=>by refine cps fun P J=>?_;obtain⟨i,j,t,u,rfl,e⟩:=Jm O e;refine J ?_;cases e;exact min_two_ints H fun h' K M=>k (c.hp h' K) _ (.more M) (S.more M) (by split<;>exact .int)
 induction O using F2.casesOn with|nil=>exact nS e|cons h L=>induction L using F2.casesOn with|cons h' L=>exact C e|nil=>
 obtain⟨z,Z,g⟩:=Jo e;clear e C;cases g;refine cps fun P J=>?_;obtain⟨i,xs,rfl,v,Z⟩:=A2 Z;obtain⟨q,hi,Z⟩:=w?.mp Z;refine J ?_;rcases q with _|⟨j,r⟩;.exact nS Z
 obtain⟨_,Z⟩:=ca (p:=r.length<av) Z;cases Z;exact Vx H S v hi h k
theorem VE{as:List aa}{Q:aH->cI->Prop}(H:A.handled=I)(C:(X.K.lookup mA).isSome=Y)(S:HR X σ c)(e:iJ f σ as=D (d,au))(J:c.Vs as vs)(k:PV X c au d Q):wpAny (model X.prog X.w) A (call (A1 f) vs) Q E c.s:=by
 have Z:∀{g:AH->aa->Option aa},(nY as).bind (fun x=>(g σ x).map fun d=>(d,σ))=D (d,au)->∃x a,vs=[a]/\c.ak x a/\g σ x=D d/\σ=au:=fun e=>by obtain⟨x,a,e1,U,e⟩:=wZ J e;obtain⟨z,M,L⟩:=Jo e;clear k e;cases L;exact⟨x,a,e1,U,M,rfl⟩
 induction f using Bi.casesOn with|len=>clear J;obtain⟨x,a,rfl,U,e2,rfl⟩:=Z (g:=x8) e;exact Vz S e2 U k|max=>clear Z;obtain⟨i,j,t,u,rfl,e⟩:=Jm J e;cases e;exact max_two_ints H fun h' r O=>k (c.hp h' r) _ (.more O) (S.more O) (by split<;>exact .int)|min=>exact VD H S e J k|sorted=>clear Z;obtain⟨x,a,rfl,U,e⟩:=wZ J e;exact VA H C S e U k|tuple=>clear J;obtain⟨x,a,rfl,U,e2,rfl⟩:=Z (g:=ya) e;exact VB S e2 U k|str=>clear J;obtain⟨x,a,rfl,U,e2,rfl⟩:=Z (g:=fun _=>yb) e;exact VC S e2 U k
end
end
section
open PySem.W PySem.Calls PyProof.Rows
structure oN(X:Wx):Prop where
rK:(X.K.lookup mA).isSome=Y
gx:∀c f x,WD.gx c f=Y->X.N.nm f=D x->(plainGet X.K (X.gc c) x=Y/\hasDictIn X.K (X.gc c)=Y)/\(∃ao,findIn X.K (.ref (X.gc c)) x=D ao/\noGet X.K ao=Y)/\findIn X.K (.ref (X.gc c)) "__setattr__"=D (D (.builtin "object.__setattr__"))/\plainOver X.K (X.gc c)=Y/\takerIn X.K (X.gc c) x=D I
n5:∀c k f x,WD.n5 c k=D f->X.N.nm k=D x->plainGet X.K (X.gc c) x=Y/\findIn X.K (.ref (X.gc c)) x=D (D (.ref (X.k4 f)))/\typeIn X.K (.ref (X.k4 f))=D (.type "function")
section
variable{p:bq×bq}
theorem VF:jW ((Z,d)::fs) f=if Z=f then D d else jW fs f:=rfl
theorem Jp{e:nP}(Z:e.key=.str y t)(h:y≠n):e.key.isStr n=false:=by rw[Z];exact gm.mpr h
theorem isStr{e:nP}(Z:e.key=.str n t):e.key.isStr n=true:=by rw[Z];exact beq_self_eq_true n
theorem FR.Jq(h:F2 (FR X G m) fs es):es.any (·.refKey)=false:=by induction h with|nil=>rfl|cons h _ Z=>obtain⟨⟨x,t,_,U⟩,_⟩:=h;rw[a?,Z,xD];unfold aT0;rw[U]
theorem FR.getL(Z:X.N.nm f=D n)(h:F2 (FR X G m) fs es):(jW fs f=I/\x? n es=D I)\/∃d v,jW fs f=D d/\x? n es=D (D v)/\VR G m d v:=by unfold PySem.W.getL;rw[FR.Jq h];induction h with|nil=>exact .inl ⟨rfl,rfl⟩|@cons p e _ _ h _ U=>
obtain⟨⟨y,t,J,H⟩,Q⟩:=h;obtain⟨O,d⟩:=p;rw[VF,xM];by_cases q:O=f;.clear U;subst q;cases Z.symm.trans J;rw[af rfl,isStr H];exact .inr ⟨d,_,rfl,rfl,Q⟩
.rw[am q,Jp H fun z=>q (X.AQ _ _ _ J (z▸Z))];exact U
theorem FR.iS(Z:X.N.nm f=D n)(H:VR G m d v)(h:F2 (FR X G m) fs es):F2 (FR X G m) (iI fs f d) (putL n E (.str n t) v es):=by induction h with|nil=>exact .ag ⟨⟨n,t,Z,rfl⟩,H⟩|@cons p e r K h C Q=>
have h':=h;obtain⟨⟨y,t',O,J⟩,M⟩:=h;clear M;obtain⟨U,L⟩:=p;show F2 _ (if U=f then(U,d)::r else(U,L)::iI r f d) (if e.key.isStr n=Y then _ else _);by_cases q:U=f;.clear Q;subst q;cases Z.symm.trans O;rw[af rfl,af (isStr J)];exact .cons ⟨⟨n,t',Z,J⟩,H⟩ C
.rw[am q,Jp J fun z=>q (X.AQ _ _ _ O (z▸Z))];exact .cons h' Q
theorem VG(n:bc)(Z:Int)(k v:aH):∀es:List nP,(putL n Z k v es).length<=es.length+1:=by intro es;induction es with|nil=>exact aE 1|cons e r X=>
show(if e.key.isStr n=Y then _ else _:List nP).length<=_;split;.exact dg _
.exact mj (X)
theorem VH:∀{fs:List (Nat×aa)},g∈(iI fs f d).map (·.1)->g∈fs.map (·.1)\/g=f:=by intro fs;induction fs with|nil=>intro h;exact .inr (aZ.mp h)|cons X r U=>
obtain⟨Z,J⟩:=X;intro h;change g∈(if Z=f then(Z,d)::r else(Z,J)::iI r f d).map (·.1)at h;by_cases q:Z=f;.rw[af q]at h;exact .inl h
.rw[am q]at h;exact(cc.mp h).elim (fun e=>.inl (e▸aV)) fun h=>(U h).imp_left (cH _)
theorem VI:∀{fs:List (Nat×aa)},(fs.map (·.1)).Nodup->((iI fs f d).map (·.1)).Nodup:=by intro fs;induction fs with|nil=>intro _;exact fg.mpr ⟨bJ,jQ⟩|cons X r U=>
obtain⟨Z,J⟩:=X;intro h;have h':=fg.mp h;show((if Z=f then(Z,d)::r else(Z,J)::iI r f d).map (·.1)).Nodup;by_cases q:Z=f;.rw[af q];exact h
.rw[am q];exact fg.mpr ⟨fun z=>(VH z).elim h'.1 q,U h'.2⟩
theorem A9(S:HR X σ c)(J:σ[i]?=D (.bj cl fs))(H:c.ak (.ref i) a):∃p es n,(c.m[i]?=D p/\a=.ref p.1/\p.2≠p.1)/\c.s.heap.get? p.2=D (dictOf es n)/\F2 (FR X c.G c.m) fs es/\(fs.map (·.1)).Nodup/\c.s.heap.get? p.1=D (instObj (X.gc cl) p.2)/\InstAt c.s.heap p.1 (instObj (X.gc cl) p.2) (X.gc cl) (D (dictOf es n)):=by refine cps fun P Q=>?_;obtain⟨p,O,e,C⟩:=S.ref J H;refine Q ?_;cases C with|bj E Z nd U M=>exact⟨p,_,_,⟨O,e,E⟩,U,M,nd,Z,Z,rfl,rfl,U⟩
theorem Jr(T:oN X)(S:HR X σ c)(e:eU WD σ x f=D d)(Z:X.N.nm f=D n)(H:c.ak x a)(k:PV X c σ d Q):wpAny (model X.prog X.w) A (getAttr a n U) Q E c.s:=by induction x using aa.casesOn with
|ref i=>
 change(match σ[i]? with|some (.bj c fs)=>if WD.gx c f=Y then jW fs f else I|_=>I)=_ at e;rcases q:σ[i]? with _|o;.rw[q]at e;exact nS e
 rw[q]at e;induction o using AO.casesOn with|bj cl fs=>
 refine cps fun P O=>?_;obtain⟨C,e⟩:=ca e;obtain⟨p,es,j,⟨r,rfl,u⟩,m,M,_,_,al⟩:=A9 S q H;obtain⟨⟨t1,L⟩,⟨J,K,g⟩,_⟩:=T.gx cl f n C Z;refine O ?_;rcases FR.getL Z M with⟨z,_⟩|⟨y,v,g1,g2,g3⟩;.exact nS (z.symm.trans e)
 .cases g1.symm.trans e;exact get_value S.hY al (LJ t1).1 (findObj_own L K g (by rw[lookIn_dict];exact g2)) (by clear k e g2 g1;cases g3<;>rfl) (k.here S g3 _)|_=>exact nS e
|_=>exact nS e
theorem Js(T:oN X)(S:HR X σ c)(e:pb WD σ x f d=D H)(m:X.N.nm f=D n)(l:c.ak x a)(h:c.ak d v)(k:PU X c H (Q ())):wpAny (model X.prog X.w) A (setAttr a n v) Q E c.s:=by induction x using aa.casesOn with
|ref i=>
 change(match σ[i]? with|some (.bj c fs)=>if(WD.gx c f&&decide (fs.length<500)&&i !=0)=Y then D (σ.set i (.bj c (iI fs f d)))else I|_=>I)=_ at e;rcases q:σ[i]? with _|o;.rw[q]at e;exact nS e
 rw[q]at e;induction o using AO.casesOn with|bj cl fs=>
 obtain⟨C,e⟩:=ca e;cases e;have hz:fs.length<500:=cz (bR (bL C));refine cps fun P hP=>?_;obtain⟨p,es,y,⟨hp,rfl,z⟩,H,M,L,U,al⟩:=A9 S q l;obtain⟨⟨t1,t2⟩,_,t5,t6,t7⟩:=T.gx cl f n (bL (bL C)) m;refine hP ?_;have hY:=S.hY;refine set_plain hY al t5 ?_;refine osa_open (s:={c.s with toks:=c.s.toks+1}) hY al t6 t7 fun b=>?_;obtain⟨cd,hc,K⟩:=any_some t2;refine aA (aW (aA (aA (y? U (aA ((looks_clsIn hY hc).here (s:={c.s with toks:=c.s.toks+1}) ?_))))));rw[K];refine aW (a:=D p.2) (aA (aW (aA ?_)));unfold nsSet;refine aA (aA (wpAny_askSetting (aW (aA (wpAny_mkText (aA (y? H ?_)))))));have g:z? n es.toArray=false:=by rw[aRefKeyMayBeTheName_at,<-Array.any_toList (as:=es.toArray) (p:=fun e:nP=>e.refKey),FR.Jq M,uE]
 show wpAny _ _ (if z? n es.toArray=Y then _ else _) _ _ _;rw[g];have J:LK n (xP X.w.params n) (.str n (c.s.toks+1)) v (dictOf es y)=dictOf (putL n (xP X.w.params n) (.str n (c.s.toks+1)) v es) (putN n es y):=putName_dict ..;have Z:=Lx (LK n (xP X.w.params n) (.str n (c.s.toks+1)) v) H (by rw[J];rfl);rw[J]at Z;have j:=VG n (xP X.w.params n) (.str n (c.s.toks+1)) v es;refine wpAny_updatePart H ?_;refine aA (wpAny_lookBehind Z (pastItsLine_dict (by rw[LH];exact bh j (mj (by rw[M.length];exact bh (lk hz) (ck rfl))))) (aW ?_));have t:∀b o,c.s.heap.get? b=D o->b≠p.2->(c.s.heap.update p.2 (LK n (xP X.w.params n) (.str n (c.s.toks+1)) v)).get? b=D o:=fun b o e hb=>(Ly _ _ (g9 hb)).trans e;exact S.tX (fx.mp (bR C)) hp (fun b o e n1 n2=>t b o e n2) (.bj z (t _ _ U (g9 z)) (VI L) Z (FR.iS m h M)) k|_=>exact nS e
|_=>exact nS e
noncomputable def nj(k:Nat):Str:=match k with|0=>"append"|1=>"extend"|2=>"pop"|_=>"get"
noncomputable def Ba(k:Nat):String:=match k with|0=>"list.append"|1=>"list.extend"|2=>"list.pop"|_=>"dict.get"
theorem VJ(S:HR X σ c)(J:σ[i]?=D (.list xs))(H:c.ak (.ref i) a)(O:k<3)(h:Q (.builtin (Ba k),[a]) c.s):wpAny (model X.prog X.w) A (getMethod a (nj k) pl) Q E c.s:=by
 obtain⟨p,vs,n,C,rfl,_,U,M⟩:=jJ S J H;have Z:c.s.TypeIs (.ref p.1) "list":=⟨_,U,rfl⟩;have nd:∀q,Lw p.1=.ref q->∃o,c.s.heap.get? q=D o/\o.dict=none:=fun q e=>by cases e;exact⟨_,U,rfl⟩
 rcases k with _|_|_|k;.exact Cb Z LL A' (by kernel_rfl) nd h
 .exact Cb Z LL A? (by kernel_rfl) nd h
 .exact Cb Z LL B? PySem.F.type_list_pop nd h
 .exact ae O (aB 0xe52968000005 rfl)
theorem VK(S:HR X σ c)(J:σ[i]?=D (.dict es))(H:c.ak (.ref i) a)(h:Q (.builtin "dict.get",[a]) c.s):wpAny (model X.prog X.w) A (getMethod a "get" pl) Q E c.s:=by refine cps fun P O=>?_;obtain⟨p,o,dD,C,M,rfl,_,L,Z,U,K,g⟩:=AW S J H;refine O ?_;exact Cb ⟨o,Z,U.1⟩ PySem.F.plainAttrs_dict LM (by kernel_rfl) (fun q e=>by cases e;exact⟨_,Z,U.2.1⟩) h
theorem ub(S:HR X σ c)(Z:i≠0)(f:Array aH->Array aH)(U:c.m[i]?=D p)(J:p.2=p.1)(H:c.s.heap.get? p.1=D (l3 xs n))(O:c.Vs l (f xs).toList)(k:PU X c (σ.set i (.list l)) Q):Q {c.s with heap:=c.s.heap.update p.1 (LN f),toks:=t}:=S.tX Z U (fun b o e E C=>(Ly _ _ (g9 E)).trans e) (.list J ((Lx _ H rfl).trans (aI D (show LN f (l3 xs n)=l3 (f xs) (if(f xs).size==xs.size then n else n+1)from rfl))) O) k
theorem VL(S:HR X σ c)(J:σ[i]?=D (.list xs))(H:c.ak (.ref i) a)(O:c.ak d b)(h:(decide (xs.length<av)&&i !=0)=Y)(k:PV X c (σ.set i (.list (xs++[d]))) .none Q):wpAny (model X.prog X.w) A (call (.builtin "list.append") [a,b]) Q E c.s:=by refine cps fun P C=>?_;obtain⟨p,ys,n,M,rfl,L,Z,U⟩:=jJ S J H;refine C ?_;exact LO A' ⟨_,Z,rfl⟩ entry_list_append (args_list_append _ _) (PySem.list_append p.1 ys n b (by rw[fI U];exact jI (cz (bL h)))) ⟨Z,ub S (fx.mp (bR h)) (·.push b) M L Z (by rw[Lm];exact U.append (.ag O)) fun z K g=>k z _ K g .none⟩
theorem VM(S:HR X σ c)(K:σ[i]?=D (.list xs))(g:σ[j]?=D (.list ys))(d:c.ak (.ref i) a)(r:c.ak (.ref j) b)(h:(decide (xs.length+ys.length<av)&&i !=j&&i !=0)=Y)(k:PV X c (σ.set i (.list (xs++ys))) .none Q):wpAny (model X.prog X.w) A (call (.builtin "list.extend") [a,b]) Q E c.s:=by refine cps fun P u=>?_;obtain⟨p,C,n,v,rfl,m,J,M⟩:=jJ S K d;obtain⟨f,Z,y,t,rfl,q,H,U⟩:=jJ S g r;refine u ?_;have hz:=jI (cz (bL (bL h)));have O:=fI M;have L:=fI U;refine LO A? ⟨_,J,rfl⟩ PySem.F.entry_list_extend (PySem.F.args_list_extend_2 _ _) (AutoSeq1.list_extend_list_list_0 p.1 C n f.1 Z y ?_ (oa 0x2d408ab7b0020ad000 rfl hz O) (mM 0x31508af408ad8b80202d815a0000 rfl hz O L)) ⟨J,H,ub S (fx.mp (bR h)) (·++Z) v m J (by rw[Z9];exact M.append U) fun z l e=>k z _ l e .none⟩;have:aU0 (C.size+Z.size)=false:=bQ (mM 0xc5822bd422a62e0082d505005 rfl hz O L);rw[this,uE];exact oT
theorem VN(S:HR X σ c)(K:σ[i]?=D (.list xs))(g:c.ak (.ref i) a)(O:xs.getLast?=D d)(h:(decide (xs.length<av)&&i !=0)=Y)(k:PV X c (σ.set i (.list xs.dropLast)) d Q):wpAny (model X.prog X.w) A (call (.builtin "list.pop") [a]) Q E c.s:=by
 refine cps fun P j=>?_;obtain⟨p,U,n,r,rfl,u,C,J⟩:=jJ S K g;refine j ?_;have H:=fI J;rw[List.getLast?_eq_getElem?]at O;have Z:=(bo.mp O).1;obtain⟨v,e1,e2⟩:=getL J O;rw[<-H]at e1;have M:c.Vs xs.dropLast (U.eraseIdxIfInBounds (U.size-1)).toList:=by rw[g',dif_pos (by rw[H];exact Z),g?,<-mE,List.eraseIdx_eq_dropLast (by rw[mE,H];exact rY (dL (bP _) Z)),BY,BY,J.length];exact J.take _
 exact LO B? ⟨_,C,rfl⟩ PySem.F.entry_list_pop (PySem.F.args_list_pop_1 _) (aV0 p.1 U n v e1 (by rw[H];exact jI (cz (bL h)))) ⟨C,ub S (fx.mp (bR h)) (fun xs=>xs.eraseIdxIfInBounds (U.size-1)) r u C M fun z L m=>k z v L m (e2.ext L)⟩
theorem VO(S:HR X σ c)(Z:σ[i]?=D (.list xs))(e:qF m i xs σ as=D (d,U))(J:c.ak (.ref i) a)(H:c.Vs as vs)(k:PV X c U d Q):m<3/\wpAny (model X.prog X.w) A (call (.builtin (Ba m)) (a::vs)) Q E c.s:=by
 rcases m with _|_|_|m;.refine cps fun P C=>?_;obtain⟨x,b,rfl,O,e⟩:=wZ H e;refine C ?_;obtain⟨h,e⟩:=ca e;cases e;exact⟨by decide,VL S Z J O h k⟩
 .obtain⟨x,b,rfl,O,e⟩:=wZ H e;induction x using aa.casesOn with
|ref j=>
  change(match σ[j]? with|some (.list ys)=>if(decide (xs.length+ys.length<av)&&i !=j&&i !=0)=Y then D (aa.none,σ.set i (.list (xs++ys)))else I|_=>I)=_ at e;rcases q:σ[j]? with _|o;.rw[q]at e;exact nS e
  rw[q]at e;induction o using AO.casesOn with|list ys=>obtain⟨h,e⟩:=ca e;cases e;exact⟨by decide,VM S Z q J O h k⟩|_=>exact nS e
 |_=>exact nS e
 .induction H using F2.casesOn with|cons=>exact nS e|nil=>
  change(match xs.getLast? with|some v=>if(decide (xs.length<av)&&i !=0)=Y then D (v,σ.set i (.list xs.dropLast))else I|none=>I)=_ at e;rcases q:xs.getLast? with _|z;.rw[q]at e;exact nS e
  rw[q]at e;obtain⟨h,e⟩:=ca e;cases e;exact⟨by decide,VN S Z J q h k⟩
 .exact nS e
theorem VP(r:A.units+50<cLine)(T:oN X)(S:HR X σ c)(L:σ[i]?=D (.dict es))(e:uV m es σ as=D (d,U))(K:c.ak (.ref i) a)(u:c.Vs as vs)(k:PV X c U d Q):m=3/\wpAny (model X.prog X.w) A (call (.builtin (Ba m)) (a::vs)) Q E c.s:=by
 rcases m with _|_|_|_|m;.exact nS e
 .exact nS e
 .exact nS e
 .refine⟨rfl,?_⟩;induction u using F2.casesOn with|nil=>exact nS e|cons g J=>induction J using F2.casesOn with
|nil=>
  obtain⟨Z,e⟩:=ca e;cases e;clear e;obtain⟨j,rfl,H⟩:=AV (bL Z) (bR Z);refine cps fun P O=>?_;obtain⟨p,xs,⟨C,rfl,_⟩,g1,g2⟩:=wW S L K H;refine O ?_;refine VR.iE g fun _=>?_;refine C' LM g2.typeIs C? (PySem.F.args_dict_get_2 _ _) (meets_dict_get (ik X) p.1 (k:=j) (aN rfl) (S.tZ T.rK C)) ⟨_,g2.mapOf,?_⟩;rcases Ir.at (j:=j) g1 with⟨e1,e2⟩|⟨f,v,e1,e2,e3⟩;.rw[e1]at k;rw[e2];exact k.here S .none _
  .rw[e1]at k;rw[e2];exact k.here S e3 _|cons M J=>induction J using F2.casesOn with|cons=>exact nS e|nil=>
  obtain⟨Z,e⟩:=ca e;cases e;clear e;obtain⟨l,rfl,y,H⟩:=t4 (bL Z) (bR Z);refine cps fun P O=>?_;obtain⟨p,xs,⟨C,rfl,_⟩,g1,g2⟩:=t8 S L K H;obtain⟨z,rfl,g4,_⟩:=t9 S y g;refine O ?_;refine C' LM g2.typeIs C? (PySem.F.args_dict_get_3 _ _ _) (meetsH_dict_get_default (dk X) p.1 z (S.tZ T.rK C) _) ⟨show A.units+1+10<cLine by exact aC 0x150c841a0021ab8b400001 rfl r,l,xs,g4,g2,?_⟩;rcases Hr.at (l:=l) g1 with⟨e1,e2⟩|⟨f,v,e1,e2,e3⟩;.rw[e1]at k;rw[e2];exact k.here S M _
  .rw[e1]at k;rw[e2];exact k.here S e3 _
 .exact nS e
end
end
section
open PySem.W PySem.Calls PyProof.Rows
section
theorem VQ(S:HR X σ c)(he:σ[i]?=D (.list xs))(h:(decide (0<=j)&&small j&&decide (j.toNat<xs.length)&&decide (xs.length<av)&&i !=0)=Y)(ha:c.ak (.ref i) a)(hb:c.ak (.int j) b)(hv:c.ak d v)(k:PU X c (σ.set i (.list (xs.set j.toNat d))) (Q ())):wpAny (model X.prog X.w) A (setItem a b v) Q E c.s:=by
 obtain⟨p,us,n,hp,rfl,h2,ho,hr⟩:=jJ S he ha;refine VR.iE hb fun t=>?_;have h0:0<=j:=cz (bL (bL (bL (bL h))));have s2:=(tY (bR (bL (bL (bL h))))).2.1;have hl:c.s.heap.IsList p.1 us:=⟨_,ho,rfl,n,rfl⟩;unfold setItem;try with_reducible refine mB ?_
 first|refine aA (aW ?_)|skip
 refine aA (s? hl.typeIs (by decide) ?_);refine aA (t? (name:=KK "__setitem__") hl.typeIs D' (sk D' hl.typeIs entry_list_setitem ?_ (args_list_setitem _ _ _)));show wpAny _ _ (D? (.int j t)>>=_) _ _ _;refine aA (wpAny_listSubscript_int (fitsIndex_of h0 s2) ?_);clear s2;obtain⟨q,rfl⟩:=m? h0;have hq:q<us.size:=by rw[fI hr];exact(cz (bR (bL (bL h))))
 show wpAny _ _ ((seqItemAt p.1 q>>=fun r=>pure (r.map (q,·)))>>=_) _ _ _;refine aA (aA (wpAny_seqItemAt ho rfl (aW ?_)));rw[show us[q]?=D us[q]from Array.getElem?_eq_getElem hq];show wpAny _ _ (setSeqItemAt p.1 q v>>=_) _ _ _;have fk:∀{t},Q () {c.s with heap:=c.s.heap.update p.1 (LN (·.setIfInBounds q v)),toks:=t}:=fun{t}=>ub S (fx.mp (bR h)) (·.setIfInBounds q v) hp h2 ho (l:=xs.set q d) (by rw[Array.toList_setIfInBounds];exact F2.set hv hr q) k;refine aA (wpAny_setSeqItemAt ho rfl ?_);first|exact aA (aW (aW ⟨.none,rfl,aW fk⟩))|exact aW ⟨.none,rfl,aW fk⟩
noncomputable def w6(Z U X:Int)(i:Nat):Bool:=if X>0 then Z<=i&&i<U&&(i-Z)%X==0 else U<i&&i<=Z&&(Z-i)%(-X)==0
theorem VS(l:List Z)(p:Nat):(l.zipIdx.filterMap fun(x,k)=>if w6 (p:Int) (l.length:Int) 1 k then I else D x)=l.take p:=by
 have key:∀(l:List Z)(n N:Nat),n+l.length=N->((l.zipIdx n).filterMap fun(x,k)=>if w6 (p:Int) (N:Int) 1 k then I else D x)=l.take (p-n):=by intro l;induction l with|nil=>exact fun n N h=>xH.symm|cons a r X=>
  intro n N h;rw[iF]at h;have e:w6 (p:Int) (N:Int) 1 n=decide (p<=n):=by show((decide ((p:Int)<=n)&&decide ((n:Int)<N))&&((n:Int)-p)%1==0)=_;rw[Int.emod_one,aN (show(n:Int)<N by exact c5 0xa96c0a0022ad009 rfl h),lj];exact(lj _).trans (iG.mpr nD)
  rw[List.zipIdx_cons,LC];dsimp only;rw[e,X (n+1) N (c5 0xb16a0a0022b54b400002 rfl h)];by_cases z:p<=n;.rw[aN z,af rfl,xJ z,xJ (ln z)];rfl
  .rw[bQ z,am oT,mK (Zf z)];rfl
 exact key l 0 l.length (gk _)
theorem VV(S:HR X σ c)(he:σ[i]?=D (.list xs))(h:(decide (0<=j)&&small j&&decide (xs.length<av)&&i !=0)=Y)(ha:c.ak (.ref i) a)(hb:c.ak (.int j) vl)(hs:c.s.heap.IsSliceOf sl vl .none .none)(k:PU X c (σ.set i (.list (xs.take j.toNat))) (Q ())):wpAny (model X.prog X.w) A (delItem a (.ref sl)) Q E c.s:=by refine cps fun P hP=>?_;obtain⟨p,us,n,hp,rfl,h2,ho,hr⟩:=jJ S he ha;refine hP ?_;cases hb with|@int _ t=>
 have hz:=jI (cz (bR (bL h)));have hl:c.s.heap.IsList p.1 us:=⟨_,ho,rfl,n,rfl⟩;refine cps fun P hP=>?_;obtain⟨os,nh,ua,qb⟩:=id hs;refine hP ?_;have Jt:c.s.TypeIs (.ref sl) "slice":=⟨os,nh,ua⟩;have s1:=fI hr;refine c? hl.typeIs (by decide) E' (sk E' hl.typeIs PySem.F.entry_list_delitem ?_ (PySem.F.args_list_delitem_2 _ _));show wpAny _ _ (D? (.ref sl)>>=_) _ _ _;refine aA ?_;unfold Builtin.List.listSubscript?;refine aA (Ln Jt slice_no_index ?_);rw[af (by rfl)];refine aW ?_;show wpAny _ _ (typeOf (.ref sl)>>=_) _ _ _;refine aA (LG Jt ?_);rw[am (by decide)];rw[listSliceParts_eq];refine aA (aA (uH nh qb (x:=.none) rfl (aA (LP .none ?_))));rw[am (by exact oT)];refine aA (uH nh qb (x:=.int j t) rfl (aA (LP (.int j t) ?_)));refine aA (uH nh qb (x:=.none) rfl (aA (LP .none (aW ?_))));refine aA (m:=aW0 (.ref p.1)) ?_;unfold Builtin.List.listItems;refine aA (Lq ho rfl (aW ?_));refine aA (wpAny_of_eq (sliceIndices_raw (D j) I I us.size (by simp)) ?_);rw[(Je (p:=min j.toNat us.size) (q:=us.size) (lo:=D j) (hi:=I) (am (ii.mpr (cz (bL (bL (bL h)))))).symm rfl).1];dsimp only;refine aA (wpAny_rule (aA ?_));refine listUpdate_at ho rfl ?_ (by rw[s1];exact hz) ?_
 .refine aA (wpAny_letGo (aW ⟨_,rfl,ub S (fx.mp (bR h)) (fun xs=>(xs.toList.zipIdx.filterMap fun(x,k)=>if w6 ((min j.toNat us.size:Nat):Int) (us.size:Int) 1 k then I else D x).toArray) hp h2 ho (l:=xs.take j.toNat) ?_ k⟩));show c.Vs _ (us.toList.zipIdx.filterMap _).toArray.toList;have e:=VS us.toList (min j.toNat us.size);rw[mE]at e;rw[e];have:us.toList.take (min j.toNat us.size)=us.toList.take j.toNat:=by rw[mE.symm,E?.symm,sd]
  rw[this];exact F2.take hr _
 .rw[LH];exact bh (u? _ _) (by rw[List.length_zipIdx,mE,s1];exact ln hz)
end
structure uc(X:Wx):Prop where
mI:∀g x d,X.N.gn g=D x->WD.mI g=D d->∃v,nsIn X.K js x=D (D v)/\VR (fun a=>X.K.lookup a) [] d v
fn:∀f x,X.N.fn f=D x->nsIn X.K js x=D (D (.ref (X.k4 f)))/\keepIn X.K (.ref (X.k4 f))=Y
cn:∀c x,X.N.cn c=D x->nsIn X.K js x=D (D (.ref (X.gc c)))/\keepIn X.K (.ref (X.gc c))=Y
bi:∀b,nsIn X.K js (tT b)=D I/\nsIn X.K qp (tT b)=D (D (A1 b))gr:nsIn X.K js "range"=D I/\nsIn X.K qp "range"=D (D (.type "range"))aQ:∀k,k<4->X.N.nm k=D (nj k)Ju:∀c k f,WD.n5 c k=D f->keepIn X.K (.ref (X.k4 f))=Y
Jv:∀c i,WD.uW c=D i->makesIn X.K (X.gc c)=Y/\(match i with|some f=>findIn X.K (.ref (X.gc c)) "__init__"=D (D (.ref (X.k4 f)))/\typeIn X.K (.ref (X.k4 f))=D (.type "function")|none=>findIn X.K (.ref (X.gc c)) "__init__"=D (D (.builtin "object.__init__")))
structure Bx where
X:Wx
C:ju
aa:Nat
U:Nat
noncomputable abbrev Bx.M(B:Bx):Model:=model B.X.prog B.X.w
def Rc(B:Bx)(A:my):Prop:=A.handled=I/\A.depth+B.aa<=F'/\A.units+B.U<=cLine
def Rm(B:Bx)(A:my):Prop:=A.handled=I/\A.depth+B.aa+5<=F'/\A.units+B.U+60<=cLine
theorem Rm.u(r:Rm B A):A.units+50<cLine:=by have:=r.2.2;exact c5 0xa87820da80004150c841a0001 rfl this
theorem Rm.c(r:Rm B A):Rc B A:=⟨r.1,by have:=r.2.1;exact c5 0x2c9ad000082d5a0000 rfl this,by have:=r.2.2;exact c5 0x160f041ad000082d5a0000 rfl this⟩
def nq(Q:aH->cI->Prop)(r:Result)(s':cI):Prop:=match r with|.ok (.ret v)=>Q v s'|_=>False
def w7(B:Bx):Prop:=∀{f vs σ k},B.C f vs σ k->∀{A:my}{y:Cf}{Z:List aH}{Q:aH->cI->Prop},Rc B A->HR B.X σ y->y.Vs vs Z->k7 B.X y k Q->codeAny B.M A (.call (.ref (B.X.k4 f)) ⟨Z,[]⟩) (nq Q) y.s
theorem nq.call(h:codeAny M A (.call f ⟨Z,[]⟩) (nq Q) s):wpAny M A (call f Z) Q E s:=wpAny_call (F? h fun r s' z=>by rcases r with e|(v|_|_|_)<;>first|exact z|exact z.elim)
structure fc(B:Bx):Prop where
t1:uc B.X
t2:oN B.X
call:w7 B
st:∀{f vs σ k},B.C f vs σ k->∃d au,k d au
structure LR(c:Cn)(env:mF)(lc:Lc)(y:Cf):Prop where
scope:env.scope=c.scope
fn:c.scope.kind=.function
aj:env.globals=js
blt:env.builtins=qp
len:lc.length=c.names.length
nodup:(c.names.filterMap id).Nodup
out:cp y env.locals
ns:∃mL,y.s.heap.Ns env.locals mL/\∀(i:Nat)x d,c.names[i]?=D (D x)->c.kd x=D .local->lc[i]?=D (D d)->∃v,mL x=D v/\y.ak d v
cell:∀x,c.kd x=D .cell->∃a,env.cells.lookup x=D a/\(cp y a/\a≠env.locals)/\∃q,y.s.heap.IsCell a q/\∀(i:Nat)d,c.names[i]?=D (D x)->lc[i]?=D (D d)->∃v,q=D v/\y.ak d v
apart:∀x y a,env.cells.lookup x=D a->env.cells.lookup y=D a->x=y
def w8(c:Cn)(env:mF)(x:bc)(a:bq):Prop:=(c.kd x=D .local/\a=env.locals)\/(c.kd x=D .cell/\env.cells.lookup x=D a)
def gh(c:Cn)(env:mF)(a:bq):Prop:=a=env.locals\/∃x,c.kd x=D .cell/\env.cells.lookup x=D a
section
variable{B:Bx}{c:Cn}
theorem LR.go(L:LR c env lc y)(Q:∀{d v},y.ak d v->z.ak d v)(X:∀{a o},gh c env a->cp y a->y.s.heap.get? a=D o->cp z a/\z.s.heap.get? a=D o):LR c env lc z:={L with
out:=(by obtain⟨_,⟨o,es,O,Z,r⟩,_⟩:=L.ns;exact(X (.inl rfl) L.out Z).1)
ns:=(by obtain⟨M,⟨o,es,O,Z,r⟩,U⟩:=L.ns;exact⟨M,⟨o,es,O,(X (.inl rfl) L.out Z).2,r⟩,fun i x d J H K=>(U i x d J H K).imp fun v q=>⟨q.1,Q q.2⟩⟩)
cell:=fun x E=>(by obtain⟨a,C,⟨T,A⟩,q,⟨o,Z,g⟩,U⟩:=L.cell x E;have n:=X (.inr ⟨x,E,C⟩) T Z;exact⟨a,C,⟨n.1,A⟩,q,⟨o,n.2,g⟩,fun i d J H=>(U i d J H).imp fun v q=>⟨q.1,Q q.2⟩⟩)}
theorem LR.ext(L:LR c env lc y)(x:bY y z):LR c env lc z:=L.go (fun h=>h.ext x) fun _ T Z=>T.ext x Z id
theorem LR.iB(L:LR c env lc y)(Z:¬gh c env a)(X:∀b o,b≠a->y.s.heap.get? b=D o->h'.get? b=D o):LR c env lc (y.hp h' t):=L.go id fun U T J=>⟨T,X _ _ (fun z=>Z (z▸U)) J⟩
theorem w8.aP(h:w8 c env x a):gh c env a:=h.elim (fun h=>.inl h.2) fun h=>.inr ⟨x,h⟩
theorem LR.Bb(L:LR c env lc y)(X:gh c env a):cp y a/\∃o,y.s.heap.get? a=D o/\((∃es U,o.data=.dict es U)\/∃q,o.data=.cell q):=by
 rcases X with rfl|⟨x,Q,O⟩;.refine cps fun P J=>?_;obtain⟨d,⟨o,es,U,X,E,r⟩,_⟩:=L.ns;refine J ?_;exact⟨L.out,o,X,.inl ⟨es,U,E⟩⟩
 .refine cps fun P J=>?_;obtain⟨b,C,M,q,⟨o,K,A⟩,_⟩:=L.cell x Q;refine J ?_;cases O.symm.trans C;exact⟨M.1,o,K,.inr ⟨q,A⟩⟩
theorem LR.iT{o:iH}(L:LR c env lc y)(e:y.s.heap.get? a=D o)(X:∀es Z,o.data≠.dict es Z)(U:∀q,o.data≠.cell q):¬gh c env a:=fun J=>by
 obtain⟨_,o',H,Q⟩:=L.Bb J;cases e.symm.trans H;rcases Q with⟨es,Z,h⟩|⟨q,h⟩;.exact X _ _ h
 .exact U _ h
theorem Jw(h:c.rE x=Y):c.kd x=D .local\/c.kd x=D .cell:=(r9.mp h).imp aU.mp aU.mp
theorem Jx(L:LR c env lc y)(U:c.var i x=Y)(J:lc[i]?=D (D d))(k:∀v,y.ak d v->Q v y.s):wpAny B.M A (loadName env x) Q E y.s:=by
 have H:=aU.mp (bL U);have O:env.scope.kind=.function:=by rw[L.scope];exact L.fn
 rcases Jw (bL (bR U))with Z|Z;.obtain⟨r,C,X⟩:=L.ns;obtain⟨v,a,b⟩:=X i x d H Z J;exact wpAny_loadName_local O (by show env.scope.names.lookup x=_;rw[L.scope];exact Z) C a (k v b)
 .refine cps fun P K=>?_;obtain⟨a,g,_,q,j,X⟩:=L.cell x Z;obtain⟨v,rfl,b⟩:=X i d H J;refine K ?_;exact wpAny_loadName_cell O (by show env.scope.names.lookup x=_;rw[L.scope];exact Z) g j (k v b)
theorem ud(L:LR c env lc y)(S:HR B.X σ y)(U:c.rF x=Y)(Z:nsIn B.X.K js x=D (D v)\/(nsIn B.X.K js x=D I/\nsIn B.X.K qp x=D (D v)))(h:Q v y.s):wpAny B.M A (eval (.Name x pos) env) Q E y.s:=by
 refine Name_function_global (by rw[L.scope];exact L.fn) (by show env.scope.names.lookup x=_;rw[L.scope];exact aU.mp (bL U)) ?_ (gX (bR U));unfold loadGlobal;rw[L.aj,L.blt];rcases Z with Z|⟨Z,J⟩;.exact aA ((LQ S.hY Z).here (aW h))
 .exact aA ((LQ S.hY Z).here (aA ((LQ S.hY J).here (aW h))))
theorem VW:∀{l:List (Option bc)}{i j:Nat},(l.filterMap id).Nodup->l[i]?=D (D x)->l[j]?=D (D x)->i=j:=by intro l;induction l with|nil=>intro i j _ h _;exact nS h|cons o r H=>
intro i j U Z X;have Q:(r.filterMap id).Nodup:=by induction o using cM with|none=>exact U|some y=>exact(fg.mp U).2
have J:o=D x->∀{k:Nat},r[k]?≠D (D x):=fun e k q=>by clear Z X;subst e;exact(fg.mp U).1 (List.mem_filterMap.mpr ⟨D x,jR q,rfl⟩)
rcases i with _|i;.induction j using nN with|zero=>rfl|succ j=>exact ae X (J (b8 Z))
induction j using nN with|zero=>exact ae Z (J (b8 X))|succ j=>exact aI (·+1) (H Q Z X)
theorem w9(L:LR c env lc y)(S:HR B.X σ y)(f:c.var i x=Y)(hi:i<lc.length)(hd:y.ak d v)(k:∀a h' t',w8 c env x a->(∀b o,b≠a->y.s.heap.get? b=D o->h'.get? b=D o)->LR c env (lc.set i (D d)) (y.hp h' t')->HR B.X σ (y.hp h' t')->Q () {y.s with heap:=h',toks:=t'}):wpAny B.M A (storeName env x v) Q E y.s:=by
 have t:=aU.mp (bL f);have hk:env.scope.kind=.function:=by rw[L.scope];exact L.fn
 have O:∀(j:Nat)U,c.names[j]?=D (D x)->(lc.set i (D d))[j]?=D (D U)->U=d:=fun j U e1 e2=>by cases VW L.nodup t e1;rw[uu hi]at e2;cases e2;rfl
 have Z:∀(j:Nat)y U,y≠x->c.names[j]?=D (D y)->(lc.set i (D d))[j]?=D (D U)->lc[j]?=D (D U):=fun j y U hy e1 e2=>by rwa[rZ fun z=>hy (b8 (b8 ((z▸e1).symm.trans t)))]at e2
 rcases Jw (bL (bR f))with K|K
 .obtain⟨mL,hn,hr⟩:=L.ns;refine wpAny_storeName_local (by show env.scope.names.lookup x=_;rw[L.scope];exact K) hn (fun h' g hs=>?_) (by rw[hk];rfl);have J:∀b o,b≠env.locals->y.s.heap.get? b=D o->h'.get? b=D o:=fun b o nb e=>(hs.2 b nb).trans e;refine k env.locals h' _ (.inl ⟨K,rfl⟩) J {L with len:=by rw[oY];exact L.len,ns:=⟨_,g,fun j w U e1 e2 e3=>?_⟩,cell:=fun w hw=>?_} (S.iB L.out J)
  .by_cases H:w=x;.clear f k t Z K g;subst H;rw[O j U e1 e3];exact⟨v,af rfl,hd⟩
   .obtain⟨u,a1,a2⟩:=hr j w U e1 e2 (Z j w U H e1 e3);exact⟨u,(am H).trans a1,a2⟩
  .refine cps fun P n=>?_;obtain⟨b,hb,l,q,⟨o,h,m⟩,C⟩:=L.cell w hw;refine n ?_;exact⟨b,hb,l,q,⟨o,J _ _ l.2 h,m⟩,fun j U e1 e3=>C j U e1 (Z j w U (fun z=>by clear f k t O Z g;subst z;cases K.symm.trans hw) e1 e3)⟩
 .obtain⟨a,ha,l,q,hc,hr⟩:=L.cell x K;refine wpAny_storeName_cell hk (by show env.scope.names.lookup x=_;rw[L.scope];exact K) ha hc fun h' VX hs=>?_;have J:∀b o,b≠a->y.s.heap.get? b=D o->h'.get? b=D o:=fun b o nb e=>(hs.2 b nb).trans e;refine k a h' y.s.toks (.inr ⟨K,ha⟩) J {L with len:=by rw[oY];exact L.len,ns:=?_,cell:=fun w hw=>?_} (S.iB l.1 J);.refine cps fun P n=>?_;obtain⟨mL,⟨o,es,ep,h,r⟩,C⟩:=L.ns;refine n ?_;exact⟨mL,⟨o,es,ep,J _ _ (g9 l.2) h,r⟩,fun j w U e1 e2 e3=>C j w U e1 e2 (Z j w U (fun z=>by clear f k t O Z ha hr;subst z;cases K.symm.trans e2) e1 e3)⟩
  .by_cases H:w=x;.clear f k t Z K hr;subst H;exact⟨a,ha,l,D v,VX,fun j U e1 e3=>⟨v,rfl,by rw[O j U e1 e3];exact hd⟩⟩
   .refine cps fun P n=>?_;obtain⟨b,hb,VY,q',⟨o,h,m⟩,C⟩:=L.cell w hw;refine n ?_;exact⟨b,hb,VY,q',⟨o,J _ _ (fun z=>H (L.apart w x a (z▸hb) ha)) h,m⟩,fun j U e1 e3=>C j U e1 (Z j w U H e1 e3)⟩
end
end
section
open PySem.W PySem.Calls PyProof.Rows
structure Si(B:Bx)(A:my)(c:Cn)(env:mF)(lc:Lc)(σ:AH)(y:Cf):Prop where
R:Rm B A
L:LR c env lc y
S:HR B.X σ y
section
variable(X:Wx)(y:Cf)
abbrev Bc(k:Bool->AH->Prop)(Q:Bool->cI->Prop):Prop:=∀b σ z,k b σ->bY y z->HR X σ z->Q b z.s
abbrev VZ(n:Nat)(k:List aa->AH->Prop)(Q:List aH->cI->Prop):Prop:=∀Z σ z vs,k Z σ->bY y z->HR X σ z->z.Vs Z vs->vs.length=n->Q vs z.s
end
section
variable(B:Bx)
abbrev bB(e:Ex):Prop:=∀{c x},bH B.X.N e c x=Y->∀{A E env lc σ y k Q},wE WD B.C e lc σ k->Si B A c env lc σ y->k7 B.X y k Q->wpAny B.M A (eval x env) Q E y.s
abbrev k8(es:Es):Prop:=∀{c l},k3 B.X.N es c l=Y->∀{pos A E env lc σ y k Q},lJ WD B.C es lc σ k->Si B A c env lc σ y->VZ B.X y l.length k Q->wpAny B.M A (spliced (backTo pos (starEach l env))) Q E y.s
abbrev hZ(t:Te):Prop:=∀{c x},jk B.X.N t c x=Y->∀{A E env w lc σ y k Q},wT WD B.C t lc σ k->Si B A c env lc σ y->(aG 1 x=ai->aG 22 x=ai->w=eval x env)->Bc B.X y k Q->wpAny B.M A (isTrue x env w) Q E y.s
end
section
variable{B:Bx}{y z:Cf}
theorem fv(h:aG n x=Y)(k:wpAny M A (eval (oG n x) env) Q E s):wpAny M A (eval x env) Q E s:=IJ (P:=fun x=>wpAny M A (eval x env) Q E s) h k
theorem xa(h:aG n x=Y)(k:wpAny M A (isTrue (oG n x) env w) Q E s):wpAny M A (isTrue x env w) Q E s:=IJ (P:=fun x=>wpAny M A (isTrue x env w) Q E s) h k
theorem Si.ext(Z:Si B A c env lc σ y)(x:bY y z)(S:HR B.X U z):Si B A c env lc U z:=⟨Z.R,Z.L.ext x,S⟩
theorem V0:bB B (.lit d):=fun{c x}m{A E env lc σ y k Q}h Z kk=>by refine fv (bL m) ?_;have kk:∀{v t},y.ak d v->Q v {y.s with toks:=t}:=fun U=>kk d σ _ _ h .tk Z.S.tk U;show wpAny _ A (eval (.Constant (wD x) (kE x) (bO x)) env) Q E y.s;rw[cz (bL (bR m))];induction d using aa.casesOn with|none=>exact G' (kk .none)|bool=>exact wpAny_Constant_bool (kk .bool)|int=>exact wpAny_Constant_int (kk .int)|str=>exact wpAny_Constant_str (kk .str)|_=>exact nB (bR (bR m))
theorem xb{o:Option (Option aa)}{p:aa->Prop}(h:gL o p):∃d,o=D (D d)/\p d:=by
 rcases o with _|_|d;.exact h.elim
 .exact h.elim
 .exact⟨d,rfl,h⟩
theorem V1:bB B (.var i):=fun{c x}m{A E env lc σ y k Q}h Z kk=>by refine fv (bL m) ?_;obtain⟨d,U,h⟩:=xb h;exact wpAny_Name (Jx Z.L (bR m) U fun v J=>kk d σ y v h .refl Z.S J) (gX (bR (bR (bR m))))
theorem VR.V2(S:HR X σ y)(Z:VR (fun a=>X.K.lookup a) [] d v):y.ak d v:=Z.aq (G:=fun a=>X.K.lookup a) (m:=[]) S.base (fun i p e=>nS e)
theorem V4(T:uc B.X):bB B (.aj g):=fun{c x}m{A E env lc σ y k Q}h Z kk=>by refine fv (bL m) ?_;refine cps fun P U=>?_;obtain⟨d,J,h⟩:=gO.out h;obtain⟨v,H,O⟩:=T.mI g _ d (aU.mp (bR (bR m))) J;refine U ?_;exact ud Z.L Z.S (bL (bR m)) (.inl H) (kk d σ y v h .refl Z.S (O.V2 Z.S))
theorem Jy(h:AI v=Y):attributeBase v a env t=t:=by induction v using gI with
|Call f as ks p=>induction ks using eQ with|nil=>exact nB h|cons=>induction f using gI with|Name=>cases as<;>rfl|_=>rfl
|_=>rfl
theorem V5(T:oN B.X)(U:bB B e):bB B (.ao e f):=fun{c x}m{A E env lc σ y k Q}h Z kk=>by refine fv (bL m) (Attribute_any_ ?_ (by rw[arm_eval_Attribute,Jy (bR (bR (bR m)))]));exact U (bL (bR m)) h Z fun M J z L H O S1 C=>(gO.out H).elim fun d q=>Jr T S1 q.1 (aU.mp (bL (bR (bR m)))) C (kk.at q.2 O)
def Jz(σ:AH)(d:aa):Prop:=match d with|.ab _=>True|.str _=>True|.ref i=>(∃xs,σ[i]?=D (.list xs))\/∃es,σ[i]?=D (.dict es)|.none=>False|.bool _=>False|.int _=>False
theorem Bd(S:HR B.X σ y)(hv:y.ak d v)(hd:Jz σ d):uI B.M y.s.heap (LS v) false:=by
 have go:∀{T:String}{id:String},y.s.TypeIs v T->typeLookup (.type T) "__getitem__"=pure (D (.builtin id))->(∀{s:cI},(∀a o,y.s.heap.get? a=D o->s.heap.get? a=D o)->s.TypeIs v T)->uI B.M y.s.heap (LS v) false:=fun _ hl hk=>by rw[getitemInPython_of_ne (by clear hd hk;cases hv<;>simp)];intro A Q E s kk q;exact aA (Ln (hk kk) hl (aW q))
 induction hv using VR.casesOn with
|ab ho hs=>exact go ⟨_,S.sub _ _ ho,rfl⟩ LF.lookup fun kk=>⟨_,kk _ _ (S.sub _ _ ho),rfl⟩|str=>exact go (T:="str") rfl PySem.F.slot_str_getitem.lookup fun kk=>rfl|ref hp=>
  rcases hd with⟨xs,hx⟩|⟨es,hx⟩;.cases S.cells _ _ _ hp hx with|list h2 ho hv=>exact go ⟨_,ho,rfl⟩ slot_list_getitem.lookup fun kk=>⟨_,kk _ _ ho,rfl⟩
  .cases S.cells _ _ _ hp hx with|dict h2 nd ho hc hd hv=>exact go ⟨_,ho,hc.1⟩ slot_dict_getitem.lookup fun kk=>⟨_,kk _ _ ho,hc.1⟩
 |_=>exact hd.elim
theorem V6(e:cY σ x i=D d):Jz σ x:=by induction x using aa.casesOn with
|ab=>trivial|str=>trivial|ref j=>
 change(match σ[j]? with|some (.list xs)=>(match i with|.int k=>lF xs k|_=>I)|some (.dict es)=>if(dc es i&&cg i==2)=Y then b9 es i else I|_=>I)=_ at e;rcases q:σ[j]? with _|o;.exact nS (q▸e)
 rw[q]at e;induction o using AO.casesOn with|list xs=>exact .inl ⟨xs,q⟩|dict es=>exact .inr ⟨es,q⟩|_=>exact nS e
|_=>exact nS e
theorem Be(J:subscripted H ai Z U=operate [a,b] (getItem Z U))(L:uI B.M y.s.heap (LS Z) ai)(h:wpAny B.M A (getItem Z U) Q E y.s):wpAny B.M A (G? C H Z U) Q E y.s:=by unfold subscriptTail;refine aA (L.here ?_);rw[J];exact aA (wpAny_operating (lw h (fun r s' O=>aA (wpAny_letTemporaryGo (aW O))) fun _ _ z=>z))
theorem V7(h:aG 18 Z=ai):subscripted Z ai a b=operate [a,b] (getItem a b):=by induction Z using gI with
|Slice l u U p=>induction U using cM with|none=>cases h|some=>rfl
|_=>rfl
theorem V8(C:bB B a)(hi:bB B i):bB B (.ad a i):=fun{c x}m{A E env lc σ y k Q}h Z kk=>by refine fv (bL m) (Subscript_ ?_);exact C (bL (bR m)) h Z fun r M z w L J S1 H=>hi (bL (bR (bR m))) L (Z.ext J S1) fun v K u f g U O j=>(gO.out g).elim fun d q=>Be (V7 (gX (bR (bR (bR m))))) (Bd O (H.ext U) (V6 q.1)) (Vg Z.R.u O q.1 (H.ext U) j (kk.at q.2 (J.trans U)))
theorem JA{o:Option cN}(U:bB B e)(m:wK (bH B.X.N e c) (isNone e) o=Y)(h:wE WD B.C e lc σ k)(Z:Si B A c env lc σ y)(kk:k7 B.X y k Q):wpAny B.M A (evalPart o env) Q E y.s:=by
 rcases o with _|l;.induction e using Ex.casesOn with|lit d=>clear U;cases cz m;exact aW (kk _ _ _ _ h .refl Z.S .none)|_=>exact nB m
 exact U m h Z kk
noncomputable abbrev ue(v w:aH):Obj:={cls:=.type "slice",data:=.fields #[v,w,.none]}
theorem V9{a lo hi:Ex}(ha:bB B a)(hl:bB B lo)(hh:bB B hi):bB B (.hH a lo hi):=fun{c x}m{A E env lc σ y k Q}h Z kk=>by refine fv (bL m) (Subscript_ ?_);show wpAny _ A (eval (e1 x) env) (fun o C=>wpAny _ A (eval (e2 x) env) (fun i M=>wpAny _ A (G? (e1 x) (e2 x) o i) Q E M) E C) E y.s;refine ha (bL (bR (bR m))) h Z fun d1 bX z v1 h1 f S1 w1=>?_;have e:=fb (bL (bR m));rw[e];refine wpAny_Slice (JA hl (bL (bR (bR (bR m)))) h1 (Z.ext f S1) fun H cy u L h2 t S2 w2=>JA hh (bR (bR (bR (bR m)))) h2 ((Z.ext f S1).ext t S2) fun O U w v3 h3 b S3 w3=>aW ?_);refine cps fun P hP=>?_;obtain⟨d,jd,J,n⟩:=gP.out h3;refine hP ?_;have K:bY w (w.hp (w.s.heap.push (ue L v3)) w.s.toks):=.more fun a o e=>gq _ e;have g:HR B.X U (w.hp (w.s.heap.push (ue L v3)) w.s.toks):=S3.more fun a o e=>gq _ e;have hs:(w.s.heap.push (ue L v3)).IsSliceOf w.s.heap.objs.size L v3 .none:=⟨_,kx _ rfl,rfl,rfl⟩;have q:=kk.at n (((f.trans t).trans b).trans K);have v:=((w1.ext t).ext b).ext K;have u2:=(w2.ext b).ext K;have u3:=w3.ext K;induction d1 using aa.casesOn with
|ab l=>
 rcases e2:dS l H O with _|r;.change(match dS l H O with|some r=>D (aa.ab r,U)|none=>I)=_ at J;rw[e2]at J;exact nS J
 change(match dS l H O with|some r=>D (aa.ab r,U)|none=>I)=_ at J;rw[e2]at J;clear n;cases J;exact Be (y:=w.hp _ w.s.toks) rfl (Bd g v trivial) (Vk g e2 v u2 u3 hs q)|ref j=>
 change(match U[j]? with|some (.list xs)=>(match dS xs H O with|some r=>D (aa.ref U.length,U++[AO.list r])|none=>I)|_=>I)=_ at J;rcases e3:U[j]? with _|o;.rw[e3]at J;exact nS J
 rw[e3]at J;induction o using AO.casesOn with|list xs=>
 rcases e2:dS xs H O with _|r;.change(match dS xs H O with|some r=>D (aa.ref U.length,U++[AO.list r])|none=>I)=_ at J;rw[e2]at J;exact nS J
 change(match dS xs H O with|some r=>D (aa.ref U.length,U++[AO.list r])|none=>I)=_ at J;rw[e2]at J;clear n;cases J;exact Be (y:=w.hp _ w.s.toks) rfl (Bd g v (.inl ⟨xs,e3⟩)) (Vi g e3 e2 v u2 u3 hs q)|_=>exact nS J
|_=>exact nS J
theorem Wa(H:bB B a)(O:bB B b):bB B (.aK op a b):=fun{c x}m{A E env lc σ y k Q}h Z kk=>by refine fv (bL m) (wpAny_BinOp ?_);exact H (bL (bR (bR m))) h Z fun v C z f M U S1 L=>O (bR (bR (bR m))) M (Z.ext U S1) fun t K u s g J j r=>(gP.out g).elim fun d q=>q.elim fun w q=>by rw[cz (bL (bR m))];exact UU j q.1 (L.ext J) r (kk.at q.2 (U.trans J))
theorem gi{p:Int->Prop}(h:jY d p):∃i,d=.int i/\p i:=by induction d using aa.casesOn with|int i=>exact⟨i,rfl,h⟩|_=>exact h.elim
theorem oO{p:Nat->Prop}(h:pf d p):∃i,d=.ref i/\p i:=by induction d using aa.casesOn with|ref i=>exact⟨i,rfl,h⟩|_=>exact h.elim
theorem Wb(J:bB B a):bB B (.neg a):=fun{c x}m{A E env lc σ y k Q}h Z kk=>by refine fv (bL m) (LU ?_);exact J (bR m) h Z fun M H z L U O S1 C=>(gi U).elim fun i q=>by clear U;obtain⟨rfl,q⟩:=q;refine VR.iE C fun _=>?_;exact aX0 ((kk.at q O).here S1 .int _)
theorem Wc(J:bB B a):bB B (.nV a):=fun{c x}m{A E env lc σ y k Q}h Z kk=>by refine fv (bL m) (LU ?_);exact J (bR m) h Z fun M H z L U O S1 C=>(gi U).elim fun i q=>by clear U;obtain⟨rfl,q⟩:=q;refine VR.iE C fun _=>?_;exact aY0 ((kk.at q O).here S1 .int _)
theorem xc{o:CmpOp}(h:aG 6 r=ai):LV o r=false:=by cases r<;>first|rfl|cases h
theorem We(H:bB B a)(O:bB B b):bB B (.ah op a b):=fun{c x}m{A E env lc σ y k Q}h Z kk=>by refine fv (bL m) (LW ?_ (xc (gX (bR (bR (bR (bR m)))))));exact H (bL (bR (bR m))) h Z fun w C z v M U S1 L=>O (bL (bR (bR (bR m)))) M (Z.ext U S1) fun f K u t g J j r=>(gO.out g).elim fun d q=>by rw[cz (bL (bR m))];exact AT Z.R.u j q.1 (L.ext J) r (kk.at q.2 (U.trans J))
theorem Wf{p:Bool}(U:bB B a):bB B (.dz p a):=fun{c x}m{A E env lc σ y k Q}h Z kk=>by refine fv (bL m) ?_;show wpAny _ A (eval (.Compare (e1 x) [o1 x] [e2 x] (bO x)) env) Q E y.s;rw[((fb (bL (bR (bR (bR m))))).trans (aI (fun q=>aZ0 q (kE (e2 x)) (bO (e2 x))) (cz (bR (bR (bR (bR m)))))))];refine LW (U (bL (bR (bR m))) h Z fun M J z L H O S1 C=>G' ?_) rfl;rw[cz (bL (bR m))];exact Vq S1 C (kk.at H O)
theorem Wg(T:oN B.X){p:Bool}(M:bB B a)(L:bB B b):bB B (.aX p a b):=fun{c x}m{A E env lc σ y k Q}h Z kk=>by
 refine fv (bL m) (LW ?_ (xc (gX (bR (bR (bR (bR m)))))));exact M (bL (bR (bR m))) h Z fun w K z v g J S1 H=>L (bL (bR (bR (bR m)))) g (Z.ext J S1) fun f j u t r U O C=>(gO.out r).elim fun d q=>by
  rw[cz (bL (bR m))];rcases p with _|_;.exact Vn Z.R.u T.rK O q.1 (H.ext U) C (kk.at (by have h:=q.2;rw[beq_false]at h;exact h) (J.trans U))
  exact Jl Z.R.u T.rK O q.1 (H.ext U) C (kk.at (by have h:=q.2;rw[beq_true]at h;exact h) (J.trans U))
theorem Wh(U:bB B a):bB B (.no a):=fun{c x}m{A E env lc σ y k Q}h Z kk=>by refine fv (bL m) (LU ?_);exact U (bR m) h Z fun K J z g H O S1 C=>(gO.out H).elim fun r q=>not_of (wU S1 q.1 C fun u M L=>kk _ _ _ _ q.2 (O.trans M) L .bool)
theorem JB(J:bB B b)(m:bH B.X.N b c (oH H x)=Y):∃U r,cL x=U::r/\∀{A E env lc σ y k Q},wE WD B.C b lc σ k->Si B A c env lc σ y->k7 B.X y k Q->wpAny B.M A (eval (.BoolOp H (cL x) (bO x)) env) Q E y.s:=by
 unfold oH at m;rcases q:cL x with _|⟨U,r⟩;.rw[q]at m;exact(AK m).elim
 rw[q]at m;rcases r with _|⟨_,_⟩;.exact⟨U,[],rfl,fun h Z kk=>BoolOp_one (J m h Z kk)⟩
 exact⟨U,_,rfl,fun h Z kk=>J m h Z kk⟩
theorem Wi(M:bB B a)(U:bB B b):bB B (.and a b):=fun{c x}m{A E env lc σ y k Q}h Z kk=>by
 refine fv (bL m) ?_;show wpAny _ A (eval (.BoolOp .And (e1 x::cL x) (bO x)) env) Q E y.s;obtain⟨g,r,q,U⟩:=JB U (bR (bR m));rw[q]at U⊢;refine BoolOp_and (M (bL (bR m)) h Z fun j L z d K H S1 O=>(gO.out K).elim fun t q=>wU S1 q.1 O fun u J C=>?_);rcases t with _|_;.exact kk _ _ _ _ q.2 (H.trans J) C (O.ext J)
 exact U q.2 ((Z.ext H S1).ext J C) (kk.ext (H.trans J))
theorem Wj(M:bB B a)(U:bB B b):bB B (.or a b):=fun{c x}m{A E env lc σ y k Q}h Z kk=>by
 refine fv (bL m) ?_;show wpAny _ A (eval (.BoolOp .Or (e1 x::cL x) (bO x)) env) Q E y.s;obtain⟨g,r,q,U⟩:=JB U (bR (bR m));rw[q]at U⊢;refine BoolOp_or (M (bL (bR m)) h Z fun j L z d K H S1 O=>(gO.out K).elim fun t q=>wU S1 q.1 O fun u J C=>?_);rcases t with _|_;.exact U q.2 ((Z.ext H S1).ext J C) (kk.ext (H.trans J))
 exact kk _ _ _ _ q.2 (H.trans J) C (O.ext J)
theorem Wk(O:hZ B t)(C:bB B a)(M:bB B b):bB B (.ite t a b):=fun{c x}m{A E env lc σ y k Q}h Z kk=>by
 refine fv (bL m) (wpAny_IfExp (O (bL (bR m)) h Z (fun _ _=>rfl) fun r L z H U S1=>?_));rcases r with _|_;.exact M (bR (bR (bR m))) H (Z.ext U S1) (kk.ext U)
 exact C (bL (bR (bR m))) H (Z.ext U S1) (kk.ext U)
theorem Wl(h:wpAny M A (eval (.Compare l [op] [r] pos) env) (fun v oP=>wpAny M A (truthy v) Q E oP) E s)(hm:LV op r=ai):wpAny M A (isTrue (.Compare l [op] [r] pos) env al0) Q E s:=fun oM p wY=>by have h:=h oM p wY;simp only[eval_Compare1,H' hm,LI,H?,I',I?]at h;simp only[isTrue_Compare1,H' hm,LI,H?,I',I?];exact Ca M oM _ (fun a am0 oP xd=>Ca M oM _ (fun b _ uf Bf=>Ca M oM _ (fun c Wm rL xe=>xe oM Wm wY) (fun _ _ _ h'=>h') _ _ Bf) (fun _ _ _ h'=>h') _ _ xd) (fun _ _ _ h'=>h') _ _ h
theorem Wn(m:bH N e c x=Y)(h:aG 9 x=Y):aG 6 (e2 x)=false:=by have Z:∀{n:Nat}{P:Prop},n≠9->aG n x=Y->P:=fun U J=>ae ((jL J).symm.trans (jL h)) U;induction e using Ex.casesOn with|ah=>exact gX (bR (bR (bR (bR m))))|aX=>exact gX (bR (bR (bR (bR m))))|dz=>exact aI (fun t=>cq t 6) (jL (bL (bR (bR (bR m)))))|i6=>exact Z (by decide) m|io=>exact Z (by decide) m|_=>exact Z (by decide) (bL m)
theorem Wo(O:aG 3 x=ai)(E:aG 1 x=ai)(Z:aG 22 x=ai)(J:aG 4 x=ai)(U:aG 19 x=ai)(H:∀b l p,x≠.BoolOp b l p)(Q:∀l o r p,x≠.Compare l o r p)(w:Sem aH):isTrue x env w=(do let v<-w;standAt x.pos;holding [v] (truthy v)):=by induction x using gI with
|UnaryOp o y pos=>clear E Z J U H Q;cases o<;>first|rfl|cases O
|BoolOp b l p=>exact ae rfl (H b l p)|IfExp=>cases J|Compare l o r p=>exact ae rfl (Q l o r p)|_=>rfl
theorem JC(m:bH N e c x=Y):aG 0 x=false:=by
 have Z:∀{n:Nat},n≠0->aG n x=Y->aG 0 x=false:=fun{n}U J=>by rw[aG,jL J];induction n using nN with|zero=>exact ae rfl U|succ=>rfl
 induction e using Ex.casesOn with|i6=>exact Z (by decide) m|io=>exact Z (by decide) m|_=>exact Z (by decide) (bL m)
theorem Wp(a:bB B e):hZ B (.ex e):=fun{c x}m{A E env w lc σ y k Q}h Z g kk=>by
 obtain⟨m,n⟩:bH B.X.N e c x=Y/\_:=⟨bL m,gX (bR m)⟩;obtain⟨j,n⟩:=tU n;obtain⟨K,n⟩:=tU n;obtain⟨J,n⟩:=tU n;obtain⟨d,O⟩:=tU n;rw[g K J];have U:wpAny B.M A (eval x env) (fun v L=>wpAny B.M A (truthy v) Q E L) E y.s:=a m h Z fun d1 bX z v1 h1 x1 S1 w1=>(gO.out h1).elim fun t q=>wU S1 q.1 w1 fun u x2 S2=>kk _ _ _ q.2 (x1.trans x2) S2;by_cases H:aG 9 x=Y;.have s:=Wn m H;rw[fb H]at U⊢;exact Wl U (xc s)
 .refine isTrue_plain U (Wo j K J d O (fun b l p e=>?_) (fun l o r p e=>?_) _)
  .have:=JC m;clear g m j n d O U H;subst e;rcases f:lf 1 l.length with _|_;.exact nB (this.symm.trans (show cq (c1 (lf 1 l.length) _) 0=Y by rw[f];rfl))
   induction b using B1 with|And=>exact nB (K.symm.trans (show cq (c1 (lf 1 l.length) _) 1=Y by rw[f];rfl))|Or=>exact nB (J.symm.trans (show cq (c1 (lf 1 l.length) _) 22=Y by rw[f];rfl))
  .have:=JC m;clear g m j K J n d U;subst e;have H:cq (cond (fO o&&fO r) 9 (c1 (l0 o&&l0 r) 19)) 9≠true:=H;have C:cq (cond (fO o&&fO r) 9 (c1 (l0 o&&l0 r) 19)) 19=false:=O;have i:cq (cond (fO o&&fO r) 9 (c1 (l0 o&&l0 r) 19)) 0=false:=this;revert H C i;cases fO o&&fO r<;>cases l0 o&&l0 r<;>intro H C i<;>first|exact H rfl|exact nB C.symm|exact nB i.symm
theorem Wq(U:hZ B t):hZ B (.no t):=fun{c x}m{A E env w lc σ y k Q}h Z C kk=>by refine xa (bL m) (isTrue_not ?_);exact U (bR m) h Z (fun _ _=>rfl) fun r J z H O S1=>kk _ _ _ H O S1
theorem JD(J:hZ B b)(m:jk B.X.N b c (oH H x)=Y):∀{A E env w lc σ y k Q},wT WD B.C b lc σ k->Si B A c env lc σ y->Bc B.X y k Q->wpAny B.M A (isTrue (.BoolOp H (cL x) (bO x)) env w) Q E y.s:=by intro A E env w lc σ y k Q h Z kk;unfold oH at m;induction q:cL x using eQ with
|nil=>rw[q]at m;induction b using Te.casesOn with|ex e=>exact(AK (bL m)).elim|_=>exact nB (bL m)
|cons g r=>rw[q]at m;induction r using eQ with
|nil=>induction H using B1 with|And=>exact isTrue_and (J m h Z (fun _ _=>rfl) fun r O z U L S1=>by have:=kk _ _ _ U L S1;induction r using xF with|true=>exact isTrue_and_nil this|false=>exact this)|Or=>exact isTrue_or (J m h Z (fun _ _=>rfl) fun r O z U L S1=>by have:=kk _ _ _ U L S1;induction r using xF with|true=>exact this|false=>exact isTrue_or_nil this)
|cons z r=>exact J m h Z (fun U K=>by induction H using B1 with|And=>exact nB U.symm|Or=>exact nB K.symm) kk
theorem Wr(H:hZ B a)(O:hZ B b):hZ B (.and a b):=fun{c x}m{A E env w lc σ y k Q}h Z j kk=>by
 refine xa (bL m) (isTrue_and (H (bL (bR m)) h Z (fun _ _=>rfl) fun r C z J U S1=>?_));rcases r with _|_;.exact kk _ _ _ J U S1
 exact JD O (bR (bR m)) J (Z.ext U S1) fun r M u L K g=>kk _ _ _ L (U.trans K) g
theorem Ws(H:hZ B a)(O:hZ B b):hZ B (.or a b):=fun{c x}m{A E env w lc σ y k Q}h Z j kk=>by
 refine xa (bL m) (isTrue_or (H (bL (bR m)) h Z (fun _ _=>rfl) fun r C z J U S1=>?_));rcases r with _|_;.exact JD O (bR (bR m)) J (Z.ext U S1) fun r M u L K g=>kk _ _ _ L (U.trans K) g
 exact kk _ _ _ J U S1
theorem Wt(q:bB B a)(e:bB B b)(n:bB B d):hZ B (.gr a b d):=fun{c x}m{A E env w lc σ y k Q}h Z hw kk=>by
 refine xa (bL m) ?_;show wpAny B.M A (isTrue (.Compare (e1 x) [o1 x,o2 x] [e2 x,e3 x] (bO x)) env w) Q E y.s;have m:=bR m;rw[cz (bL m),cz (bL (bR m))];have m:=bR (bR m);refine isTrue_chain (q (bL m) h Z fun d1 bX z1 v1 r C S1 w1=>test_link ?_) (by show LV .Lt (e3 x)=ai;exact xc (gX (bR (bR (bR m)))));refine e (bL (bR m)) r (Z.ext C S1) fun d2 cy z2 v2 U L S2 v=>?_;clear r;obtain⟨i,rfl,g2⟩:=gi U;refine cps fun P K=>?_;obtain⟨j,rfl,U⟩:=gi g2;refine K ?_;refine AT (op:=.le) Z.R.u S2 rfl (w1.ext L) v fun z3 v3 g f w3=>?_;refine VR.bE w3 ?_;refine Lu ?_;have H:=(C.trans L).trans g;by_cases J:i<=j;.have U:br (decide (i<=j)) _ _:=U;rw[aN J]at U;rw[show kH .le i j=Y from aN J];refine test_last (n (bL (bR (bR m))) U ((Z.ext C S1).ext (L.trans g) f) fun d4 jd z4 v4 h4 t S4 w4=>?_);refine cps fun P K=>?_;obtain⟨l,rfl,h5⟩:=gi h4;refine K ?_;refine AT (op:=.lt) Z.R.u S4 rfl ((v.ext g).ext t) w4 fun z5 v5 x5 S5 w5=>?_;refine VR.bE w5 ?_;exact Lu (kk _ _ _ h5 ((H.trans t).trans x5) S5)
 .have U:br (decide (i<=j)) _ _:=U;rw[bQ J]at U;rw[show kH .le i j=ai from bQ J];exact kk _ _ _ U H f
theorem JE:k8 B .nil:=fun{c l}m{pos A E env lc σ y k Q}h Z kk=>by
 rcases l with _|⟨_,_⟩;.exact wpAny_items_nil (kk _ _ _ _ h .refl Z.S .nil rfl)
 exact nB m
theorem JF(m:bH N e c x=Y):starEach (x::rest) env=(ai,eval x env)::starEach rest env:=by cases x<;>first|rfl|exact(AK m).elim
theorem JG(O:bB B e)(U:k8 B es):k8 B (.cons e es):=fun{c l}m{pos A E env lc σ y k Q}h Z kk=>by
 rcases l with _|⟨x,l⟩;.exact nB m
 exact wpAny_items_cons (O (bL m) h Z fun r C z w M J S1 L=>U (bR m) M (Z.ext J S1) fun v K u vs g H j d n=>kk _ _ _ _ g (J.trans H) j (.cons (L.ext H) d) (aI (·+1) n)) (JF (bL m))
theorem Bg:∀{es:Es}{l:List cN}{pos:Pos},k3 B.X.N es c l=Y->(backTo pos (starEach l env)).any (·.1)=ai|.nil,[],_,_=>rfl|.nil,_::_,_,m=>nB m|.cons e es,[],_,m=>nB m|.cons e es,x::l,pos,m=>by rw[JF (bL m)];exact Bg (pos:=pos) (bR m)
end
end
section
abbrev nt(K:ju):Prop:=∀{f vs σ k},K f vs σ k->∃d Z,k d Z
section
abbrev sE(K:ju)(e:Ex):Prop:=∀{lc σ k},wE WD K e lc σ k->∃d Z,k d Z
abbrev Wu(K:ju)(e:Es):Prop:=∀{lc σ k},lJ WD K e lc σ k->∃d Z,k d Z
abbrev sT(K:ju)(e:Te):Prop:=∀{lc σ k},wT WD K e lc σ k->∃d Z,k d Z
abbrev sI(K:ju)(e:It):Prop:=∀{lc σ k},wI WD K e lc σ k->∃d g Z,k d g Z
theorem bx{P:Z->X->Prop}{R:Prop}(h:∃a b,P a b)(f:∀{a b},P a b->R):R:=h.elim fun _ h=>h.elim fun _ h=>f h
theorem eJ{o:Option Z}{p:Z->Prop}{R:Prop}(h:gO o p)(f:∀{a},p a->R):R:=(gO.out h).elim fun _ h=>f h.2
theorem ug{o:Option (Z×AH)}{p:Z->AH->Prop}(h:gP o p):∃a σ,p a σ:=(gP.out h).elim fun a h=>h.elim fun σ h=>⟨a,σ,h.2⟩
theorem l7{A C R:Prop}(h:br c A C)(f:A->R)(g:C->R):R:=by cases c;exact g h;exact f h
theorem Wv{t:Tg}{cd:Te}{e:Ex}(X:sT K cd)(U:sE K e):∀{xs a:List aa}{lc:Lc}{σ:AH}{k:Po},jZ g t (wT WD K cd) (wE WD K e) xs a lc σ k->∃d au,k d au:=fun{xs}=>by induction xs with|nil=>exact fun h=>⟨_,_,h.2⟩|cons x r Z=>exact fun h=>eJ h.2 fun h=>bx (X h) fun h=>l7 h (fun h=>bx (U h) Z) Z
theorem Ww(X:nt K){Z σ:AH}{vs:List aa}{k:Po}(h:dr WD K m j Z σ vs k):∃d au,k d au:=by obtain⟨o,_,h⟩:=gO.out h;induction o using AO.casesOn with|bj c fs=>exact eJ h.2 X|list=>exact eJ h ug|dict=>exact eJ h ug
theorem Wy(Z:nt K){σ:AH}{vs:List aa}(h:lI WD K c vs σ k):∃d au,k d au:=by
 obtain⟨i,_,h⟩:=gO.out h;rcases i with _|f;.induction vs using eQ with|nil=>exact⟨_,_,h⟩|cons=>exact h.elim
 exact bx (Z h) fun{d au}h=>by induction d using aa.casesOn with|none=>exact⟨_,_,h⟩|_=>exact h.elim
mutual theorem cu(Z:nt K):∀e:Ex,sE K e|.lit d=>fun h=>⟨_,_,h⟩|.var i=>fun h=>(xb h).elim fun d h=>⟨_,_,h.2⟩|.aj g=>fun h=>eJ h fun h=>⟨_,_,h⟩|.ao e f=>fun h=>bx (cu Z e h) fun h=>eJ h fun h=>⟨_,_,h⟩|.ad a i=>fun h=>bx (cu Z a h) fun h=>bx (cu Z i h) fun h=>eJ h fun h=>⟨_,_,h⟩|.hH a l u=>fun h=>bx (cu Z a h) fun h=>bx (cu Z l h) fun h=>bx (cu Z u h) ug|.aK op a b=>fun h=>bx (cu Z a h) fun h=>bx (cu Z b h) ug|.neg a=>fun h=>bx (cu Z a h) fun h=>(gi h).elim fun _ h=>⟨_,_,h.2⟩|.nV a=>fun h=>bx (cu Z a h) fun h=>(gi h).elim fun _ h=>⟨_,_,h.2⟩|.ah op a b=>fun h=>bx (cu Z a h) fun h=>bx (cu Z b h) fun h=>eJ h fun h=>⟨_,_,h⟩|.dz p a=>fun h=>bx (cu Z a h) fun h=>⟨_,_,h⟩|.aX p a b=>fun h=>bx (cu Z a h) fun h=>bx (cu Z b h) fun h=>eJ h fun h=>⟨_,_,h⟩|.no a=>fun h=>bx (cu Z a h) fun h=>eJ h fun h=>⟨_,_,h⟩|.and a b=>fun h=>bx (cu Z a h) fun h=>eJ h fun h=>l7 h (cu Z b) fun h=>⟨_,_,h⟩|.or a b=>fun h=>bx (cu Z a h) fun h=>eJ h fun h=>l7 h (fun h=>⟨_,_,h⟩) (cu Z b)|.ite t a b=>fun h=>bx (nu Z t h) fun h=>l7 h (cu Z a) (cu Z b)|.ab es=>fun h=>bx (oQ Z es h) fun h=>⟨_,_,h⟩|.dA es=>fun h=>bx (oQ Z es h) fun h=>⟨_,_,h⟩|.io=>fun h=>⟨_,_,h⟩|.comp tg X cd e nc=>fun h=>(JH Z X h).elim fun _ h=>bx h fun h=>Wv (nu Z cd) (cu Z e) h|.call f es=>fun h=>bx (oQ Z es h) Z|.new c es=>fun h=>bx (oQ Z es h) (Wy Z)|.aQ m o es=>fun h=>bx (cu Z o h) fun h=>bx (oQ Z es h) fun h=>(oO h).elim fun _ h=>Ww Z h.2|.bi b es=>fun h=>bx (oQ Z es h) ug|.i6=>fun h=>h.elim theorem oQ(Z:nt K):∀e:Es,Wu K e|.nil=>fun h=>⟨_,_,h⟩|.cons e es=>fun h=>bx (cu Z e h) fun h=>bx (oQ Z es h) fun h=>⟨_,_,h⟩theorem nu(Z:nt K):∀e:Te,sT K e|.ex e=>fun h=>bx (cu Z e h) fun h=>eJ h fun h=>⟨_,_,h⟩|.no t=>fun h=>bx (nu Z t h) fun h=>⟨_,_,h⟩|.and a b=>fun h=>bx (nu Z a h) fun h=>l7 h (nu Z b) fun h=>⟨_,_,h⟩|.or a b=>fun h=>bx (nu Z a h) fun h=>l7 h (fun h=>⟨_,_,h⟩) (nu Z b)|.gr a b c=>fun h=>bx (cu Z a h) fun h=>bx (cu Z b h) fun h=>(gi h).elim fun _ h=>(gi h.2).elim fun _ h=>l7 h.2 (fun h=>bx (cu Z c h) fun h=>(gi h).elim fun _ h=>⟨_,_,h.2⟩) fun h=>⟨_,_,h⟩theorem JH(Z:nt K):∀e:It,sI K e|.ex e=>fun h=>bx (cu Z e h) fun h=>eJ h fun h=>⟨_,_,_,h⟩|.range n=>fun h=>bx (cu Z n h) fun h=>(gi h).elim fun _ h=>⟨_,_,_,h.2.2⟩end
abbrev sK(aw:Kt):Prop:=(∃lc σ,aw.kn lc σ)\/(∃d σ,aw.kr d σ)\/∃lc σ,aw.kc lc σ
abbrev sS(K:ju)(s:Sm):Prop:=∀{lc σ aw},wS WD K s lc σ aw->sK aw
abbrev xf(K:ju)(s:Ss):Prop:=∀{lc σ aw},wSs WD K s lc σ aw->sK aw
theorem k9(h:aw.kn lc σ):sK aw:=.inl ⟨_,_,h⟩
theorem JI(Z:xf K b){aw:Kt}{lc:Lc}(h:wSs WD K b lc σ (lL aw X))(f:∀{lc σ},X lc σ->sK aw):sK aw:=(Z h).elim (fun h=>bx h f) fun h=>h.elim (fun h=>.inr (.inl h)) fun h=>bx h f
theorem Wz(Z:xf K b){g:Option (Nat×List aa)}{t:Tg}{aw:Kt}:∀{xs:List aa}{lc:Lc}{σ:AH},pg g t (fun lc σ k=>wSs WD K b lc σ (lL aw k)) xs lc σ aw.kn->sK aw:=fun{xs}=>by induction xs with|nil=>exact fun h=>k9 h.2|cons x r X=>exact fun h=>eJ h.2 fun h=>JI Z h X
theorem WA{t:Te}(Z:sT K t)(X:xf K b){aw:Kt}:∀{n:Nat}{lc:Lc}{σ:AH},qG (wT WD K t) (fun lc σ k=>wSs WD K b lc σ (lL aw k)) n lc σ aw.kn->sK aw:=fun{n}=>by induction n with|zero=>exact fun h=>h.elim|succ n U=>exact fun h=>bx (Z h) fun h=>l7 h (fun h=>JI X h U) k9
mutual theorem WB(Z:nt K):∀s:Sm,sS K s|.an t e=>fun h=>bx (cu Z e h) fun h=>eJ h k9|.cS o f e=>fun h=>bx (cu Z e h) fun h=>bx (cu Z o h) fun h=>eJ h k9|.gs o i e=>fun h=>bx (cu Z e h) fun h=>bx (cu Z o h) fun h=>(oO h).elim fun _ h=>bx (cu Z i h.2) fun h=>eJ h k9|.qA i op e=>fun h=>(xb h).elim fun d h=>bx (cu Z e h.2) fun h=>(gi h).elim fun _ h=>(gi h.2).elim fun _ h=>eJ h.2 fun h=>eJ h k9|.o6 o f op e=>fun h=>bx (cu Z o h) fun h=>eJ h fun h=>bx (cu Z e h) fun h=>(gi h).elim fun _ h=>(gi h.2).elim fun _ h=>eJ h.2 fun h=>eJ h k9|.expr e=>fun h=>bx (cu Z e h) fun h=>l7 h k9 Ze|.ifs t a b=>fun h=>bx (nu Z t h) fun h=>l7 h (rM Z a) (rM Z b)|.for t X b=>fun h=>(JH Z X h).elim fun _ h=>bx h fun h=>Wz (rM Z b) h|.while t b=>fun h=>h.elim fun _ h=>WA (nu Z t) (rM Z b) h|.ret e=>fun h=>.inr (.inl (cu Z e h))|.sr=>fun h=>.inr (.inl ⟨_,_,h⟩)|.cont=>fun h=>.inr (.inr ⟨_,_,h⟩)|.o7 o i=>fun h=>bx (cu Z o h) fun h=>(oO h).elim fun _ h=>bx (cu Z i h.2) fun h=>eJ h k9|.qB o i=>fun h=>bx (cu Z o h) fun h=>(oO h).elim fun _ h=>bx (cu Z i h.2) fun h=>eJ h k9|.i6=>fun h=>h.elim theorem rM(Z:nt K):∀s:Ss,xf K s|.nil=>k9|.cons s X=>fun h=>(WB Z s h).elim (fun h=>bx h (rM Z X)) .inr end
theorem WC:∀n:Nat,nt (iM WD X n):=by intro n;induction n with|zero=>exact fun h=>(Ng h).elim|succ n Z=>exact fun h=>(CH h).elim fun F h=>h.elim fun lc h=>(rM (Z) F.body h.2.2).elim (fun h=>bx h fun h=>⟨_,_,h⟩) fun h=>h.elim id fun h=>bx h fun h=>⟨_,_,h⟩
end
end
section
open PySem.W PySem.Calls PyProof.Rows
section
variable{B:Bx}{y z:Cf}
theorem JJ(h:lf m 1000=Y)(e:n=m):n<=sizeLine:=by have:=J'.mp h;rw[e,wP];exact ax 0x1f4083408600000050d000 rfl this
theorem WE(X:k8 B es):bB B (.ab es):=fun{c x}m{A E env lc σ y k Q}h Z kk=>by refine fv (bL m) (wpAny_Tuple (X (bL (bR m)) h Z fun C U z vs J H S1 O n=>⟨JJ (bR (bR m)) n,?_⟩));exact PV.ab (kk.at J H) S1 (zs:=vs.toArray) (n:=0) O z.s.toks
theorem WF(X:k8 B es):bB B (.dA es):=fun{c x}m{A E env lc σ y k Q}h Z kk=>by refine fv (bL m) (wpAny_List (X (bL (bR m)) h Z fun C U z vs J H S1 O n=>⟨JJ (bR (bR m)) n,?_⟩));exact S1.newList (out:=vs.toArray) (n:=0) (fun b o e=>gq _ e) (k6 z.s.heap) (kx _ rfl) O (kk.at J H)
theorem WG:bB B .io:=fun{c x}m{A E env lc σ y k Q}h Z kk=>by refine fv m (wpAny_Dict_empty ?_);have T:=cp.new Z.S (k6 y.s.heap);have C:=Z.S.cell (t:=y.s.toks) (p:=(y.s.heap.objs.size,y.s.heap.objs.size)) T T (fun b o e=>gq _ e) (.dict (es:=[]) rfl .nil (kx y.s.heap (o:={cls:=.type "dict",data:=.dict #[]}) rfl) ⟨rfl,rfl,rfl⟩ rfl .nil);exact kk _ _ _ _ h (bY.refl.cl (k6 y.s.heap) (k6 y.s.heap) fun b o e=>gq _ e) C.1 C.2.2
theorem WH(X:Z.any (·.1)=ai)(h:wpAny M A (spliced Z) (fun vs s'=>Q ⟨vs,[]⟩ s') E s):wpAny M A (evalArgs f Y Z []) Q E s:=by
 rcases Z with _|⟨a,r⟩;.unfold evalArgs;show wpAny M A (spliced []>>=_) Q E s;exact aA (lw h (fun vs s' h'=>aA (aW (mB (aA (aW (aA (aW (aW h')))))))) fun _ _ z=>z)
 obtain⟨b,t⟩:=a;rcases b with _|_;.exact evalArgs_plain h
 exact nB X.symm
abbrev Bh(B:Bx)(f:aH):Prop:=∀h,B.X.K.In h->∃k,(k=Keeper.frame\/k=Keeper.machine\/k=Keeper.boundFrame)/\uI B.M h (keeperOf f) k
theorem uh(O:k8 B es)(m:k3 B.X.N es c l=Y)(h:lJ WD B.C es lc σ k)(Z:Si B A c env lc σ y)(L:Bh B f)(kk:∀J σ z vs,k J σ->bY y z->HR B.X σ z->z.Vs J vs->wpAny B.M A (call f (first++vs)) Q E z.s):wpAny B.M A (callWith pos f first (backTo U (starEach l env)) []) Q E y.s:=have H:=Bg (pos:=U) (env:=env) m;callWith_of (P:=fun h=>B.X.K.In h) (by rw[H];rfl) L (WH H (O m h Z fun J g z vs j d S1 r _=>⟨S1.hY,kk _ _ _ _ j d S1 r⟩))
theorem xg(Z:∀a,f≠.ref a):Bh B f:=fun h _=>by refine⟨.machine,.inr (.inl rfl),LX ?_⟩;unfold keeperOf;cases f<;>first|rfl|exact ae rfl (Z _)
theorem JK{p pos:Pos}(h:wpAny M A (eval (.Name x p) env) (fun f Z=>wpAny M A (callWith pos f [] (backTo pos (starEach l env)) []) Q E Z) E s):wpAny M A (eval (.Call (.Name x p) l [] pos) env) Q E s:=show wpAny M A (eval (.Name x p) env>>=fun f=>callWith pos f [] (backTo pos (starEach l env)) []) Q E s from aA h
theorem Bj(m:aG 10 x=Y)(m1:aG 15 (e1 x)=Y)(h:wpAny B.M A (eval (.Name (dQ (e1 x)) (bO (e1 x))) env) (fun f Z=>wpAny B.M A (callWith (bO x) f [] (backTo (bO x) (starEach (cL x) env)) []) Q E Z) E y.s):wpAny B.M A (eval x env) Q E y.s:=by refine fv m ?_;show wpAny _ A (eval (.Call (e1 x) (cL x) [] (bO x)) env) Q E y.s;rw[fb m1];exact JK h
theorem WJ(T:fc B)(X:k8 B es):bB B (.call f es):=fun{c x}m{A E env lc σ y k Q}h Z kk=>by have g:=T.t1.fn f _ (aU.mp (bL (bR (bR (bR m)))));exact Bj (bL m) (bL (bR m)) (ud Z.L Z.S (bL (bR (bR m))) (.inl g.1) (uh X (bR (bR (bR (bR m)))) h Z (LY g.2) fun C U z vs J H S1 O=>nq.call (T.call J Z.R.c S1 O (kk.ext H))))
theorem WK(T:fc B)(U:k8 B es):bB B (.bi b es):=fun{c x}m{A E env lc σ y k Q}h Z kk=>by have g:=T.t1.bi b;rw[<-aU.mp (bL (bR (bR (bR m))))]at g;exact Bj (bL m) (bL (bR m)) (ud Z.L Z.S (bL (bR (bR m))) (.inr g) (uh U (bR (bR (bR (bR m)))) h Z (xg (by clear m h g;cases b<;>(intro a z;cases z))) fun j J z vs H O S1 C=>(gP.out H).elim fun d q=>q.elim fun M q=>VE Z.R.1 T.t2.rK S1 q.1 C (kk.at q.2 O)))
theorem WL(a:bq)(rest:List aH):(uJ "type.__call__" ⟨.ref a::rest,[]⟩).weight<=3:=by rw[show(uJ "type.__call__" ⟨.ref a::rest,[]⟩).weight=(uJ "type.__call__" ⟨[.ref 0],[]⟩).weight by kernel_rfl];decide+kernel
theorem WM(a:bq)(rest:List aH):(uJ "type.__call__" ⟨.ref a::rest,[]⟩).cUnits<=10:=by rw[show(uJ "type.__call__" ⟨.ref a::rest,[]⟩).cUnits=(uJ "type.__call__" ⟨[.ref 0],[]⟩).cUnits by kernel_rfl];decide+kernel
theorem Rm.new(R:Rm B A)(a:bq)(rest:List aH):Rc B (A.under (.builtin "type.__call__" ⟨.ref a::rest,[]⟩)):=⟨R.1,bh (show A.depth+_+B.aa<=A.depth+B.aa+5 by have:=WL a rest;exact c5 0x3d4204da8005ab400000 rfl this) R.2.1,bh (show A.units+_+B.U<=A.units+B.U+60 by have:=WM a rest;exact c5 0x3aa1007820da8005ab400000 rfl this) R.2.2⟩
noncomputable abbrev Cf.nw(B:Bx)(y:Cf)(cl:Nat):Cf:=y.cl (y.s.heap.objs.size+1,y.s.heap.objs.size) ((y.s.heap.push Cc).push (instObj (B.X.gc cl) y.s.heap.objs.size)) y.s.toks
theorem JL{h:lu}{o:iH}(Z:o.isFreed=ai):((h.push Cc).push o).get? (h.objs.size+1)=D o:=by have:=kx (h.push Cc) Z;rwa[J?]at this
theorem WN{cl:Nat}(S:HR B.X σ y):HR B.X (σ++[.bj cl []]) (y.nw B cl)/\bY y (y.nw B cl)/\(y.nw B cl).ak (.ref σ.length) (.ref (y.s.heap.objs.size+1)):=by
 have Z:=k6 y.s.heap;have U:y.s.heap.get? (y.s.heap.objs.size+1)=none:=by
  rcases e:y.s.heap.get? (y.s.heap.objs.size+1)with _|o;.rfl
  exact ae (sj e) (hE.mpr (dg _))
 have J:∀b o,y.s.heap.get? b=D o->((y.s.heap.push Cc).push (instObj (B.X.gc cl) y.s.heap.objs.size)).get? b=D o:=fun b o e=>gq _ (gq _ e);have C:=S.cell (t:=y.s.toks) (p:=(y.s.heap.objs.size+1,y.s.heap.objs.size)) (cp.new S U) (cp.new S Z) J (.bj (n:=0) (fs:=[]) (lh (mh _)) (JL rfl) jQ (gq _ (kx _ rfl)) .nil);exact⟨C.1,bY.refl.cl U Z J,C.2.2⟩
theorem WO{p:Prop}(h:CG d p):d=.none/\p:=by induction d using aa.casesOn with|none=>exact⟨rfl,h⟩|_=>exact h.elim
theorem WP(T:fc B){es:Es}(h0:k8 B es):bB B (.new cl es):=fun{c x}m{A E env lc σ y k Q}h Z kk=>by
 have g:=T.t1.cn cl _ (aU.mp (bL (bR (bR (bR m)))));refine Bj (bL m) (bL (bR m)) (ud Z.L Z.S (bL (bR (bR m))) (.inl g.1) (uh h0 (bR (bR (bR (bR m)))) h Z (LY g.2) fun ds bX z vs h1 x1 S1 w1=>nq.call ?_));obtain⟨i,hi,h1⟩:=gO.out h1;obtain⟨S2,x2,v2⟩:=WN (cl:=cl) S1;have mk:=T.t1.Jv cl i hi;rcases i with _|f;.induction w1 using F2.casesOn with|cons=>exact h1.elim|nil=>have ci:=makes_of (M:=B.M) S1.hY mk.1;refine make_core ci (K? S1.hY mk.2) (fun ui=>LX (oi_bind ui)) (.inr ⟨rfl,rfl⟩) ?_;refine codeAny_call_builtin oi_plain entry_oi (@check_slot B.M _ _ _ "object.__init__" "object" "__init__" (.ref (z.s.heap.objs.size+1)) [] [] _ oi_kind oi_split (((Looks.ld (JL rfl)).andThen .now).andThen (ci.top.keeps fun b o e=>gq _ (gq _ e))) (oi_args (.ref (z.s.heap.objs.size+1))) ?_);show wpAny _ _ (Builtin.«object.__init__» ⟨[.ref (z.s.heap.objs.size+1)],[]⟩) _ _ _;rw[oi_run];exact aW (And.intro rfl (kk _ _ _ _ h1 (x1.trans x2) S2 v2))
 refine make_core (makes_of S1.hY mk.1) (K? S1.hY mk.2.1) (fun ui=>bind_fn S1.hY ui mk.2.2) (.inl rfl) ?_;refine F? (T.call (y:=z.nw B cl) h1 (Q:=fun v s'=>v=.none/\Q (.ref (z.s.heap.objs.size+1)) s') (Z.R.new _ _) S2 (.cons v2 (eI.ext w1 x2)) fun d eb u v h3 x3 S3 w3=>?_) fun r s' z=>?_;.obtain⟨rfl,h3⟩:=WO h3;refine VR.nE w3 ?_;exact⟨rfl,kk _ _ _ _ h3 ((x1.trans x2).trans x3) S3 (v2.ext x3)⟩
 .rcases r with e|(v|_|_|_)<;>first|exact z|exact z.elim
theorem WQ(T:fc B){o:Ex}(ho:bB B o)(h0:k8 B es):bB B (.aQ k o es):=fun{c x}m{A E env lc σ y q Q}h Z kk=>by
 have m1:=bR m;have O:B.X.N.nm k=D (dQ (e1 x)):=aU.mp (bL (bR (bR m1)));have m2:=bR (bR (bR m1));have me:=bL (bR m2);have ml:=bR (bR m2);refine fv (bL m) ?_;show wpAny _ A (eval (.Call (e1 x) (cL x) [] (bO x)) env) Q E y.s;have e:=fb (bL m1);generalize hn:dQ (e1 x)=n at O;have e:e1 x=.Attribute (e1 (e1 x)) n (bO (e1 x)):=hn▸e;generalize hp:bO (e1 x)=ap at e ml;rw[e,arm_eval_Call,Jy (bL m2)];have WR:methodCallForm ((cL x).length+([]:List Keyword).length) (backTo (bO x) (starEach (cL x) env)) (backToKw (bO x) (keywordEach [] env))=true:=by
  unfold methodCallForm;have q1:(backTo (bO x) (starEach (cL x) env)).all (fun x=>!x.1)=true:=by rw[List.all_eq_not_any_not];simpa using Bg (pos:=bO x) (env:=env) me
  rw[q1];exact aN (show(cL x).length+0+0<30 by have:=J'.mp (bL ml);exact ax 0xa0434087c10909400001 rfl this)
 have WS:LZ Y (e1 (e1 x)) env ap (bO x)=pure (bO x):=by unfold LZ;rw[aU.mpr (jL (bR ml))];rfl
 refine aA (ho (bL (bR m1)) h Z fun d1 bX z v1 h1 x1 S1 w1=>aA (Cd ?_));unfold methodCall;rw[WR];have fk:∀{f:aH}{b:aH},Bh B f->(∀t σ u vs,pf d1 (fun j=>dr WD B.C k j bX σ t q)->bY z u->HR B.X σ u->u.Vs t vs->wpAny B.M A (call f ([b]++vs)) Q E u.s)->wpAny B.M A (LZ Y (e1 (e1 x)) env ap (bO x)>>=fun L=>callWith L f [b] (backTo (bO x) (starEach (cL x) env)) (backToKw (bO x) (keywordEach [] env))) Q E z.s:=fun hk kq=>by rw[WS];exact aA (aW (uh h0 me h1 (Z.ext x1 S1) hk kq))
 refine cps fun P l=>?_;obtain⟨t,cy,J⟩:=oQ T.st es h1;obtain⟨j,rfl,J⟩:=oO J;obtain⟨ob,hj,J⟩:=gO.out J;refine l ?_;have go:∀{t σ},pf (.ref j) (fun j=>dr WD B.C k j bX σ t q)->dr WD B.C k j bX σ t q:=id;induction ob using AO.casesOn with|bj cl fs=>
  refine cps fun P l=>?_;have hl:=J.1;have J:=J.2;obtain⟨f,H,_⟩:=gO.out J;obtain⟨t1,t2,t3⟩:=T.t2.n5 cl k f n H O;obtain⟨p,Bk,n',⟨jA,rfl,q1⟩,q2,q3,_,_,al⟩:=A9 S1 hj w1;refine l ?_;have HY:shadowIn (D (dictOf Bk n')) n=D false:=by
   rcases FR.getL O q3 with⟨_,g⟩|⟨d,v,g,_⟩;.show(lookIn n (dictOf Bk n')).map _=_;rw[lookIn_dict,g];rfl
   .exact nS (hl.symm.trans g)
  refine aA (mB (method_fn S1.hY al (LJ t1).1 (LJ t1).2 t2 t3 HY ?_));refine fk (LY (T.t1.Ju cl k f H)) fun t σ u vs U x2 S2 w2=>?_;obtain⟨ob,K,U⟩:=gO.out (go U);cases hj.symm.trans K;obtain⟨f',AD,U⟩:=gO.out U.2;cases H.symm.trans AD;exact nq.call (T.call U Z.R.c S2 (.cons (w1.ext x2) w2) (kk.ext (x1.trans x2)))|list xs=>
  obtain⟨WT,WU,J⟩:=gO.out J;obtain⟨d,eb,H,_⟩:=gP.out J;have i:k<3:=by
   rcases k with _|_|_|k;.decide
   .decide
   .decide
   .exact nS H
  clear hn e;obtain rfl:n=nj k:=b8 (O.symm.trans (T.t1.aQ k (ax 262027890689 rfl i)));refine aA (mB (VJ S1 hj w1 i ?_));refine fk (xg (by intro a z;cases z)) fun t σ u vs U x2 S2 w2=>?_;obtain⟨ob,K,U⟩:=gO.out (go U);cases hj.symm.trans K;refine cps fun P l=>?_;obtain⟨ys,w,U⟩:=gO.out U;obtain⟨d,eb,H,U⟩:=gP.out U;refine l ?_;obtain⟨_,_,e,w,e'⟩:=A2 (f:=D) (r:=ys) (by rw[w];rfl);cases(e);cases(e');exact(VO S2 w H (w1.ext x2) w2 (kk.at U (x1.trans x2))).2|dict Bk=>
  obtain⟨WT,WU,J⟩:=gO.out J;obtain⟨d,eb,H,_⟩:=gP.out J;have i:k=3:=by
   rcases k with _|_|_|_|k;.exact nS H
   .exact nS H
   .exact nS H
   .rfl
   .exact nS H
  clear m h m1 h1 J H;subst i;clear hn e;obtain rfl:n=nj 3:=b8 (O.symm.trans (T.t1.aQ 3 (by decide)));refine aA (mB (VK S1 hj w1 ?_));refine fk (xg (by intro a z;cases z)) fun t σ u vs U x2 S2 w2=>?_;refine cps fun P l=>?_;obtain⟨ob,K,U⟩:=gO.out (go U);refine l ?_;cases hj.symm.trans K;refine cps fun P l=>?_;obtain⟨ys,w,U⟩:=gO.out U;obtain⟨d,eb,H,U⟩:=gP.out U;refine l ?_;change(match σ[j]? with|some (.dict es)=>D es|_=>I)=_ at w;rcases q:σ[j]? with _|o;.rw[q]at w;exact nS w
  rw[q]at w;induction o using AO.casesOn with|dict es=>cases(w);exact(VP Z.R.u T.t2 S2 q H (w1.ext x2) w2 (kk.at U (x1.trans x2))).2|_=>exact nS w
end
end
section
open PySem.W PySem.Calls PyProof.Rows
def uj(c:Cn)(env:mF)(t:List Nat)(a:bq):Prop:=∃i∈t,∃x,c.names[i]?=D (D x)/\w8 c env x a
theorem uj.aP(h:uj c env t a):gh c env a:=h.elim fun _ h=>h.2.elim fun _ h=>h.2.aP
section
abbrev PT(B:Bx)(c:Cn)(env:mF)(t:List Nat)(Z:Lc)(σ:AH)(y:Cf)(Q:Unit->cI->Prop):Prop:=∀h' t',(∀b o,¬uj c env t b->y.s.heap.get? b=D o->h'.get? b=D o)->LR c env Z (y.hp h' t')->HR B.X σ (y.hp h' t')->Q () {y.s with heap:=h',toks:=t'}
theorem JM(m:(aG 15 x&&c.var i (dQ x))=Y)(hi:i<lc.length)(L:LR c env lc y)(S:HR B.X σ y)(U:y.ak d v)(k:PT B c env [i] (lc.set i (D d)) σ y Q):wpAny B.M A (assign x env v) Q E y.s:=by rw[fb (bL m)];refine L? (w9 L S (bR m) hi U fun a h' t' J Z H O=>k h' t' (fun b o C e=>Z b o (fun z=>C ?_) e) H O);clear Z;subst z;exact⟨i,.head _,_,aU.mp (bL (bR m)),J⟩
theorem WV:∀{Z:List Nat}{es:List cN}{l:List aa}{vs:List aH}{lc:Lc}{y:Cf}{Q:Unit->cI->Prop},wH c Z es=Y->n8 lc Z l=D U->LR c env lc y->HR B.X σ y->y.Vs l vs->PT B c env Z U σ y Q->(lz es env).length=l.length/\(lz es env).findIdx? (·.1)=I/\wpAny B.M A (M' ((lz es env).map (·.2)) vs) Q E y.s:=by intro Z;induction Z with
|nil=>
intro es l vs lc y Q m e L S O k;rcases es with _|⟨_,_⟩;.induction O using F2.casesOn with|cons=>exact nS e|nil=>cases e;exact⟨rfl,rfl,aW (k y.s.heap y.s.toks (fun b o _ e=>e) L S)⟩
exact nB m|cons i Z J=>
intro es l vs lc y Q m e L S O k;rcases es with _|⟨x,es⟩;.exact nB m
induction O using F2.casesOn with|nil=>exact nS e|@cons d v l f n h=>
obtain⟨hi,e⟩:=ca (p:=i<lc.length) e;have m1:(aG 15 x&&c.var i (dQ x))=true:=by rw[bL m,bL (bR m)];rfl
have a:=fun(h':lu)t'(C:∀b o,¬uj c env [i] b->y.s.heap.get? b=D o->h'.get? b=D o)K g=>J (y:=y.hp h' t') (bR (bR m)) e K g h fun r u H=>k r u fun b o z e=>H b o ((by rintro⟨j,w,q⟩;exact z ⟨j,.tail _ w,q⟩)) (C b o ((by rintro⟨j,w,q⟩;exact z ⟨j,by rw[aZ.mp w];exact .head _,q⟩)) e);have e0:lz (x::es) env=(ai,assign x env)::lz es env:=by rw[(fb (bL m))];rfl
rw[e0];have t:(lz es env).length=l.length/\(lz es env).findIdx? (·.1)=none:=by
 have:∀{Z:List Nat}{es:List cN}{l:List aa}{lc U:Lc},wH c Z es=Y->n8 lc Z l=D U->(lz es env).length=l.length/\(lz es env).findIdx? (·.1)=none:=fun{Z}=>by induction Z with
|nil=>
      intro es l lc U m e;rcases es with _|⟨_,_⟩;.induction l using eQ with|cons=>exact nS e|nil=>exact⟨rfl,rfl⟩
      exact nB m|cons i Z J=>
      intro es l lc U m e;rcases es with _|⟨x,es⟩;.exact nB m
      induction l using eQ with|nil=>exact nS e|cons d l=>have J:=J (bR (bR m)) (ca (p:=i<lc.length) e).2;rw[fb (bL m),show lz (oG 15 x::es) env=(ai,assign (oG 15 x) env)::lz es env from rfl];exact⟨aI (·+1) J.1,by rw[M?,J.2];rfl⟩
 exact this (bR (bR m)) e
refine⟨aI (·+1) t.1,by rw[M?,t.2];rfl,?_⟩;show wpAny _ A (holding f (assign x env v)>>=fun _=>M' ((lz es env).map (·.2)) f) Q E y.s;exact aA (mB (JM m1 hi L S n fun h' t' C K g=>(a h' t' C K g).2.2))
theorem Bl(j:A.handled=I)(m:p9 c t x=Y)(e:fi lc t d=D U)(L:LR c env lc y)(S:HR B.X σ y)(C:y.ak d v)(k:PT B c env t.slots U σ y Q):wpAny B.M A (assign x env v) Q E y.s:=by induction t using Tg.casesOn with|ag i=>obtain⟨hi,e⟩:=ca (p:=i<lc.length) e;cases e;exact JM m hi L S C k|fT f=>induction C using VR.casesOn with|@ab l a xs n r K=>have k2:=fun(h':lu)(J:∀b o,y.s.heap.get? b=D o->h'.get? b=D o)=>WV (A:=A) (E:=E) (y:=y.hp h' y.s.toks) (bR m) e (L.ext (.more J)) (S.more J) K fun H O Z=>k H O fun b o u e=>Z b o u (J b o e);have g:=k2 y.s.heap fun _ _ e=>e;rw[fb (bL m)];exact wpAny_assign_Tuple (items:=xs) j ⟨_,S.sub _ _ r,rfl,n,rfl⟩ (by rw[g.1,K.length.symm,mE]) g.2.1 fun h' w=>(k2 h' fun b o e=>w b o (lh (sj e)) e).2.2|_=>exact nS e
end
noncomputable def rN(n:Nat):List aa:=(iW n).map fun i=>.int (kt i)
inductive de(xs:List aa)(al:bq)(k:Nat)(y:Cf):Option (Nat×List aa)->Prop where|list{i:Nat}{p:bq×bq}(hp:y.m[i]?=D p)(h:y.s.heap.IsListIter al p.1 k):de xs al k y (D (i,xs))|ab{t:bq}{ys:Array aH}{n:Nat}(ho:y.G t=D (rG ys n))(hv:y.Vs xs ys.toList)(h:y.s.heap.IsTupleIter al t k):de xs al k y I|gr{n:Nat}(hn:n<1000000)(hx:xs=rN n)(hk:k<=n)(h:IsRangeIter y.s.heap al k (n-k) 1):de xs al k y I
section
variable{B:Bx}
theorem de.obj(x:de xs al k y g):∃o,y.s.heap.get? al=D o/\(∀es U,o.data≠.dict es U)/\∀q,o.data≠.cell q:=by induction x using de.casesOn with|list J h=>obtain⟨o,Z,_,X⟩:=h;exact⟨o,Z,by rw[X];exact⟨nofun,nofun⟩⟩|ab _ _ h=>obtain⟨o,Z,_,X⟩:=h;exact⟨o,Z,by rw[X];exact⟨nofun,nofun⟩⟩|gr _ _ _ h=>exact⟨_,h,nofun,nofun⟩
theorem de.go(x:de xs al k y g)(J:∀(i:Nat)p,y.m[i]?=D p->z.m[i]?=D p)(H:∀a o,y.G a=D o->z.G a=D o)(Z:∀o,y.s.heap.get? al=D o->z.s.heap.get? al=D o):de xs al k z g:=by induction x using de.casesOn with|list Q h=>obtain⟨o,X,r⟩:=h;exact .list (J _ _ Q) ⟨o,Z _ X,r⟩|ab X O h=>obtain⟨o,U,r⟩:=h;exact .ab (H _ _ X) (F2.aq (·.aq H J) O) ⟨o,Z _ U,r⟩|gr E C M h=>exact .gr E C M (Z _ h)
theorem de.ext(x:de xs al k y g)(T:cp y al)(e:cD P y z)(U:¬P al):cp z al/\de xs al k z g:=by obtain⟨o,X,_⟩:=x.obj;have q:=T.ext e X U;exact⟨q.1,x.go e.mm e.g fun o' Z=>by cases X.symm.trans Z;exact q.2⟩
theorem de.xh(x:de xs al k y g)(e:∀o,y.s.heap.get? al=D o->h'.get? al=D o):de xs al k (y.hp h' t) g:=x.go (fun _ _ h=>h) (fun _ _ h=>h) e
theorem de.iT(x:de xs al k y g)(L:LR c env lc y):¬gh c env al:=by obtain⟨o,Z,X,U⟩:=x.obj;exact L.iT Z X U
theorem WW(h:k<n):(rN n)[k]?=D (.int k):=by unfold rN;rw[gp,List.getElem?_range h];rfl
theorem Bm(n:Nat):(rN n).length=n:=by unfold rN;rw[aJ,Li]
theorem JN{i:Nat}{p:bq×bq}(S:HR B.X σ y)(Z:y.m[i]?=D p)(U:σ[i]?=D (.list xs)):∃vs n,y.s.heap.get? p.1=D (l3 vs n)/\y.Vs xs vs.toList:=by cases S.cells i p _ Z U with|list _ J H=>exact⟨_,_,J,H⟩
theorem JO{Q:Option aH->cI->Prop}(x:de xs al k y g)(T:cp y al)(S:HR B.X σ y)(w:lH g σ)(O:xs[k]?=D d)(q:∀v h' t',y.ak d v->(∀b o,b≠al->y.s.heap.get? b=D o->h'.get? b=D o)->de xs al (k+1) (y.hp h' t') g->HR B.X σ (y.hp h' t')->Q (D v) {y.s with heap:=h',toks:=t'}):wpAny B.M A (pyNext (.ref al)) Q E y.s:=by have U:∀{v h' t'},y.ak d v->y.s.heap.SameBut al h'->de xs al (k+1) (y.hp h' t') g->Q (D v) {y.s with heap:=h',toks:=t'}:=fun C J hi=>let L:∀b o,b≠al->y.s.heap.get? b=D o->_:=fun b o m e=>(J.2 b m).trans e;q _ _ _ C L hi (S.iB T L);induction x using de.casesOn with|list u h=>obtain⟨vs,n,K,j⟩:=JN S u w;obtain⟨v,C,r⟩:=getL j O;exact wpAny_pyNext_list_item h ⟨_,K,rfl,n,rfl⟩ C fun h' Z J=>U (t':=y.s.toks) r J (.list u Z)|ab K j h=>obtain⟨v,C,r⟩:=getL j O;exact wpAny_pyNext_tuple_item h ⟨_,S.sub _ _ K,rfl,_,rfl⟩ C fun h' Z J=>U (t':=y.s.toks) r J (.ab K j Z)|@gr n f z c h=>
clear q;subst z;have H:k<n:=by rw[<-Bm n];exact(bo.mp O).1
rw[WW H]at O;cases O;refine wpAny_pyNext_range_item h (Int.sub_pos_of_lt (cv.mpr H)) fun h' Z J=>U .int J (.gr f rfl H ?_);rw[show((k:Int)+1)=((k+1:Nat):Int)from rfl,(Int.sub_sub _ _ _:(n:Int)-k-1=(n:Int)-((k+1:Nat):Int))]at Z;exact Z
theorem JP{Q:Option aH->cI->Prop}(J:A.handled=I)(x:de xs al k y g)(T:cp y al)(S:HR B.X σ y)(C:lH g σ)(U:xs.length<=k)(q:∀h' t',(∀b o,b≠al->y.s.heap.get? b=D o->h'.get? b=D o)->HR B.X σ (y.hp h' t')->Q I {y.s with heap:=h',toks:=t'}):wpAny B.M A (pyNext (.ref al)) Q E y.s:=by induction x using de.casesOn with|list L h=>obtain⟨vs,n,H,O⟩:=JN S L C;exact wpAny_pyNext_list_end J h ⟨_,H,rfl,n,rfl⟩ (N' (by rw[fI O];exact U)) fun h' Z=>q h' y.s.toks Z (S.iB T Z)|ab H O h=>exact wpAny_pyNext_tuple_end J h ⟨_,S.sub _ _ H,rfl,_,rfl⟩ (N' (by rw[fI O];exact U)) fun h' Z=>q h' y.s.toks Z (S.iB T Z)|gr d K j h=>subst K;rw[Bm]at U;exact wpAny_pyNext_range_end J h (Int.sub_nonpos_of_le (nD.mpr U)) fun h' Z=>q h' y.s.toks Z (S.iB T Z)
theorem WX(x:de xs al k y g)(h:Q (.ref al) y.s):wpAny B.M A (pyIter (.ref al)) Q E y.s:=by induction x using de.casesOn with|list H X=>exact wpAny_pyIter_listiter X h|ab O C U=>have Z:=U.typeIs;refine N? Z O' (sk O' Z F.entry_tuple_iterator_iter ?_ (F.args_tuple_iterator_iter_1 _));show wpAny _ _ (ret (.ref al)) _ _ _;exact aW ⟨_,rfl,"tuple_iterator",_,Z,F.slot_tuple_iterator_next.lookup,h⟩|gr L K j J=>have Z:y.s.TypeIs (.ref al) "range_iterator":=⟨_,J,rfl⟩;refine N? Z O? (sk O? Z F.entry_range_iterator_iter ?_ (F.args_range_iterator_iter_1 _));show wpAny _ _ (ret (.ref al)) _ _ _;exact aW ⟨_,rfl,"range_iterator",_,Z,F.slot_range_iterator_next.lookup,h⟩
theorem JQ(m:p9 c t x=Y)(O:de xs al k y g)(h:Q () y.s):wpAny B.M A (L0 x (.ref al) v) Q E y.s:=by induction t using Tg.casesOn with|ag i=>rw[fb (bL m)];exact aW h|fT K=>rw[fb (bL m)];induction v using uK with
|ref a=>induction O using de.casesOn with|list j J=>obtain⟨o,J,X,U⟩:=J;exact aA (L1 J (by rw[X,U];exact aW h))|ab d r X=>obtain⟨o,X,U,C⟩:=X;exact aA (L1 X (by rw[U,C];exact aW h))|gr u w f U=>exact aA (L1 U (aW h))
|_=>exact aW h
abbrev WY(X:Wx)(y:Cf)(k:List aa->Option (Nat×List aa)->AH->Prop)(Q:aH->cI->Prop):Prop:=∀xs g σ z al,k xs g σ->xs.length<av->bY y z->HR X σ z->cp z al->y.s.heap.get? al=I->de xs al 0 z g->Q (.ref al) z.s
abbrev xi(B:Bx)(U:It):Prop:=∀{c x},AJ B.X.N U c x=Y->∀{A E env lc σ y k Q},wI WD B.C U lc σ k->Si B A c env lc σ y->WY B.X y k Q->wpAny B.M A (eval x env) (fun v Z=>wpAny B.M A (pyIter v) Q E Z) E y.s
theorem WZ(K:bB B e):xi B (.ex e):=fun{c x}m{A E env lc σ y k Q}h Z kk=>K m h Z fun d U z v J H S1 M=>by obtain⟨p,e,J⟩:=gO.out J;have O:=k6 z.s.heap;induction d using aa.casesOn with
|ab l=>obtain⟨hz,e⟩:=ca (p:=l.length<av) e;cases e;refine VR.tE M fun a _ _ C L=>?_;refine wpAny_pyIter_tuple ⟨_,S1.sub _ _ C,rfl,_,rfl⟩ ?_;have X:∀b o,z.s.heap.get? b=D o->(z.s.heap.push {cls:=.type "tuple_iterator",data:=.fields #[.ref a,.int 0 0]}).get? b=D o:=fun b o e=>gq _ e;exact kk _ _ _ (z.hp _ z.s.toks) _ J hz (H.trans (bY.more X)) (S1.more X) (show cp z _ from cp.new S1 O) (H.iV O) (.ab C L ⟨_,kx _ rfl,rfl,rfl⟩)|ref i=>
 change(match U[i]? with|some (.list xs)=>if xs.length<av then D (xs,D (i,xs))else I|_=>I)=_ at e;rcases q:U[i]? with _|o;.rw[q]at e;exact nS e
 rw[q]at e;induction o using AO.casesOn with|list ys=>obtain⟨hz,e⟩:=ca e;cases e;refine cps fun P g=>?_;obtain⟨p,vs,n,j,rfl,_,C,L⟩:=jJ S1 q M;refine g ?_;refine wpAny_pyIter_list (items:=vs) ⟨_,C,rfl,n,rfl⟩ ?_;have X:∀b o,z.s.heap.get? b=D o->(z.s.heap.push {cls:=.type "list_iterator",data:=.fields #[.ref p.1,.int 0 0]}).get? b=D o:=fun b o e=>gq _ e;exact kk _ _ _ (z.hp _ z.s.toks) _ J hz (H.trans (bY.more X)) (S1.more X) (show cp z _ from cp.new S1 O) (H.iV O) (.list j ⟨_,kx _ rfl,rfl,rfl⟩)|_=>exact nS e
|_=>exact nS e
theorem W0(T:uc B.X)(he:bB B e):xi B (.range e):=fun{c x}m{A E env lc σ y k Q}h Z kk=>by
 have m1:=bR (bR (bR m));have g:=T.gr;rw[<-aU.mp (bL m1)]at g;refine fv (Q:=fun v oP=>wpAny B.M A (pyIter v) Q E oP) (bL m) ?_;show wpAny _ A (eval (.Call (e1 x) (cL x) [] (bO x)) env) _ E y.s;have vb:cL x=[(cL x).headD dE]:=by
  have q:=bL (bR m1);rcases r:cL x with _|⟨a,l⟩;.rw[r]at q;exact nB q
  rw[r]at q;induction l using eQ with|nil=>rfl|cons=>exact nB q
 rw[fb (bL (bR m)),vb];refine JK (ud Z.L Z.S (bL (bR (bR m))) (.inr g) ?_);have me:k3 B.X.N (.cons e .nil) c [(cL x).headD dE]=true:=by show(bH _ _ _ _&&Y)=Y;rw[(bR (bR m1))];rfl
 refine uh (es:=.cons e .nil) (JG he JE) (first:=[]) me (k:=fun ds σ=>match ds with|[d]=>jY d fun i=>(i<1000000&&small i)=Y/\k (rN i.toNat) I σ|_=>False) h Z (xg (by intro a z;cases z)) fun ds bX z vs h1 x1 S1 w1=>?_;induction w1 using F2.casesOn with|nil=>exact h1.elim|cons w1 hs=>induction hs using F2.casesOn with|cons=>exact h1.elim|nil=>
  obtain⟨n,rfl,hn,h1⟩:=gi h1;refine VR.iE w1 fun t=>?_;show wpAny _ A (call (.type "range") [.int n t]) _ E _;refine call_range_1 ?_;have n1:n<1000000:=cz (bL hn);have W1:a00 0 n 1=true:=by exact small_one (by decide) (by decide) (uG (by decide+kernel) (mz (xZ.mp (bR hn)).1)) (rV n1 (by decide+kernel))
  refine wpAny_pyIter_range (IsRange.new ..) W1 ?_;have xj:∀b o,z.s.heap.get? b=D o->(z.s.heap.push {cls:=.type "range",data:=.fields #[.int 0 z.s.toks,.int n t,.int 1 (z.s.toks+1)]}).get? b=D o:=fun b o e=>gq _ e;generalize uk:z.s.heap.push {cls:=.type "range",data:=.fields #[.int 0 z.s.toks,.int n t,.int 1 (z.s.toks+1)]}=H2 at xj;have n0:=k6 H2;have x2:bY y (z.hp H2 (z.s.toks+1+1)):=x1.trans (bY.more xj);have S2:HR B.X bX (z.hp H2 (z.s.toks+1+1)):=S1.more xj;have Bn:∀b o,H2.get? b=D o->(H2.push {cls:=.type "range_iterator",data:=.fields #[rawInt 0,rawInt (P? 0 n 1),rawInt 1]}).get? b=D o:=fun b o e=>gq _ e;have e:P? 0 n 1=((n.toNat:Nat):Int)-((0:Nat):Int):=by
   rw[rangeSize_one];by_cases h:0<n;.rw[af h,lr (mz h)];rfl
   .rw[am h,Int.toNat_of_nonpos (ii.mp h)];rfl
  have nT:n.toNat<1000000:=(Int.toNat_lt' (fe _)).mpr n1;have fk:=kk _ _ _ ((z.hp H2 (z.s.toks+1+1)).hp _ (z.s.toks+1+1)) H2.objs.size h1 (by rw[Bm];exact gZ nT (ck rfl)) (x2.trans (bY.more Bn)) (S2.more Bn) (show cp (z.hp H2 (z.s.toks+1+1)) _ from cp.new S2 n0) (x2.iV n0) (.gr (n:=n.toNat) nT rfl (bP _) (by rw[e.symm];exact kx _ rfl));clear xj n0 x2 S2 Bn;subst uk;exact fk
end
end
section
open PySem.W PySem.Calls PyProof.Rows
section
theorem W2(al:Nat->cI->Prop)(W3:∀n s,al n s->wpAny (model prog w) A (pyNext it) (fun r oP=>match r with|none=>R (.ok .next) oP|some v=>wpAny (model prog w) A (L0 target it v) (fun _ xk=>wpAny (model prog w) A (assign target env v) (fun _ uf=>wpAny (model prog w) A (forIn ifs Y fun c r=>if r=Y then do let ok<-isTrue c env (eval c env);pure (mw ok)else pure (mw r)) (fun ok rL=>if ok=Y then wpAny (model prog w) A (eval kF env) (fun x rO=>wpAny (model prog w) A (call (.builtin "list.append") [dM,x]) (fun _ xl=>∃m,m<n/\al m xl) (notedBy (model prog w) A env fun e s'=>R (.error e) s') rO) (notedBy (model prog w) A env fun e s'=>R (.error e) s') rL else∃m,m<n/\al m rL) (notedBy (model prog w) A env fun e s'=>R (.error e) s') uf) (notedBy (model prog w) A env fun e s'=>R (.error e) s') xk) (notedBy (model prog w) A env fun e s'=>R (.error e) s') oP) (notedBy (model prog w) A env fun e s'=>R (.error e) s') s)(n:Nat)(h:al n s):codeAny (model prog w) A (.compLoop (.ListComp kF [⟨target,iter,ifs,0⟩] scope pos) 0 it dM env) R s:=by
 refine codeAny_loop rfl al (fun n s hI=>?_) n h;show wpAny _ A ((compTurn (.ListComp kF [⟨target,iter,ifs,0⟩] scope pos) 0 it dM env).onRaise (fun x=>do noteFrame x env;theTreesLotGoes x)) _ _ s;refine wpAny_noted ?_;rw[compTurn_list];refine aA (Cd (aA (lw (W3 n s hI) (fun r oP xd=>?_) fun _ _ h'=>h')));rcases r with _|v;.exact aW xd
 refine aA (lw xd (fun _ xk W4=>?_) fun _ _ h'=>h');refine aA (lw W4 (fun _ uf Bf=>aA (lw Bf (fun ok rL xe=>?_) fun _ _ h'=>h')) fun _ _ h'=>h');rcases ok with _|_;.exact aW ⟨rfl,xe⟩
 exact aA (aA (lw xe (fun x rO W5=>aA (lw W5 (fun _ xl W6=>aW (aW ⟨rfl,W6⟩)) fun _ _ h'=>h')) fun _ _ h'=>h'))
end
theorem JR(Z:qk)(x:bc):∀l:List (bc×qr),(l.map fun(n,k)=>if(k==.free&&Z.kind==.function&&Z.names.lookup n==D .cell)then(n,L4)else(n,k)).lookup x=(l.lookup x).map fun k=>if(k==.free&&Z.kind==.function&&Z.names.lookup x==D .cell)then .cell else k:=by intro l;induction l with|nil=>exact rfl|cons X r U=>
obtain⟨n,k⟩:=X;rw[ij,jt];have e:∀{b:Bool},(if b=Y then(n,L4)else(n,k))=(n,if b=Y then L4 else k):=fun{b}=>by cases b<;>rfl
show((if _ then _ else _:bc×qr)::_).lookup x=_;rw[e,jt,jt];rcases J:x==n with _|_;.exact(U)
rw[aU.mp J];rfl
theorem W7:∀(l:List (bc×qr))(dM:List (bc×bq)),(∀x∈l,x.2=.free->(env.cells.lookup x.1).isSome=Y)->(∀x a,dM.lookup x=D a->env.cells.lookup x=D a)->∃cl,(forIn l dM fun(x:bc×qr)cs=>if(x.2==.free)=Y then(do let a<-cellOf env x.1;pure (mw ((x.1,a)::cs)))else pure (mw cs):Sem _)=pure cl/\(∀x a,cl.lookup x=D a->env.cells.lookup x=D a)/\(∀x∈l,x.2=.free->cl.lookup x.1=env.cells.lookup x.1)/\(∀x a,dM.lookup x=D a->cl.lookup x=D a):=by intro l;induction l with|nil=>intro dM _ h;exact⟨dM,rfl,h,fun _ hx=>(nomatch hx),fun _ _ e=>e⟩|cons x0 r ih=>
  obtain⟨n,k⟩:=x0;intro dM hf h;rw[B2];by_cases hk:k=.free
  .subst hk;obtain⟨a,ha⟩:=BU.mp (hf (n,.free) (.head _) rfl);have ui:((n,a)::dM).lookup n=D a:=by rw[jt,beq_self_eq_true]
   have W8:∀x b,((n,a)::dM).lookup x=D b->env.cells.lookup x=D b:=fun x b e=>by
    rw[jt]at e;rcases hx:x==n with _|_;.rw[hx]at e;exact h x b e
    rw[hx]at e;cases e;rw[aU.mp hx];exact ha
   refine cps fun P hP=>?_;obtain⟨cl,e1,e2,e3,e4⟩:=ih ((n,a)::dM) (fun x hx=>hf x (.tail _ hx)) W8;refine hP ?_;refine⟨cl,?_,e2,fun x hx hk=>(cc.mp hx).elim (fun e=>by rw[e];exact(e4 n a ui).trans ha.symm) fun hx=>e3 x hx hk,fun x b e=>e4 x b ?_⟩;.rw[af (by rfl),show cellOf env n=pure a by unfold cellOf;rw[ha]];exact e1
   .rw[jt];rcases hx:x==n with _|_;.exact e
    rw[<-h x b e,aU.mp hx,ha]
  .refine cps fun P hP=>?_;obtain⟨cl,e1,e2,e3,e4⟩:=ih dM (fun x hx=>hf x (.tail _ hx)) h;refine hP ?_;exact⟨cl,by rw[am (by rw[gm.mpr hk];exact oT)];exact e1,e2,fun x hx oj=>(cc.mp hx).elim (fun e=>ae (e▸oj:(n,k).2=.free) hk) fun hx=>e3 x hx oj,e4⟩
structure rP(c:Cn)(sc:qk)(tg:Tg)(nc:List (Option bc)):Prop where
fn:sc.kind=.function
JS:c.scope.kind=.function
Bo:∀x∈sc.names,x.2≠.cell
rE:∀x∈sc.names,x.2=.local->sc.names.lookup x.1=D .local
free:∀x∈sc.names,x.2=.free->c.kd x.1=D .cell
nd:(nc.filterMap id).Nodup
len:nc.length=c.names.length
Bp:wG c sc tg.slots 0 nc=Y
JT:IM sc nc tg.slots=Y
theorem JU(h:IN c J tg nc=Y):rP c J tg nc:=have Z:∀{p:bc×qr->Bool},J.names.all p=Y->∀x∈J.names,p x=true:=fun h=>fQ.mp h;have X:∀{k E:qr}{b:Bool},(k !=E||b)=Y->k=E->b=true:=fun h e=>(r9.mp h).resolve_left fun z=>fx.mp z e;have H:=bR (bR h);have Q:=bR (bR H);have O:=bR (bR Q);{fn:=aU.mp (bL h),JS:=aU.mp (bL (bR h)),Bo:=fun x U=>fx.mp (Z (bL H) x U),rE:=fun x U e=>aU.mp (X (Z (bL (bR H)) x U) e),free:=fun x U e=>aU.mp (X (Z (bL Q) x U) e),nd:=cz (bL (bR Q)),len:=cz (bL O),Bp:=bL (bR O),JT:=bR (bR O)}
theorem JV:∀{nc:List (Option bc)}{k i:Nat}{x:bc},wG c Z tg k nc=Y->nc[i]?=D (D x)->(Z.names.lookup x=D .local/\(k+i)∈tg)\/(Z.names.lookup x=D .free/\c.names[k+i]?=D (D x)/\c.kd x=D .cell):=by intro nc;induction nc with|nil=>intro k i x h e;exact nS e|cons o r X=>
intro k i x h e;rcases i with _|i;.cases e;exact(r9.mp (bL h)).imp (fun h=>⟨aU.mp (bL h),Q?.mp (bR h)⟩) fun h=>⟨aU.mp (bL h),aU.mp (bL (bR h)),aU.mp (bR (bR h))⟩
have:=X (i:=i) (bR h) e;rwa[r5]at this
noncomputable def iC:List Nat->Lc->Lc|[],lc=>lc|i::r,lc=>(iC r lc).set i I
theorem xm:∀(Z:List Nat)(lc:Lc),(iC Z lc).length=lc.length:=by intro Z;induction Z with|nil=>intro _;exact rfl|cons i r X=>intro lc;exact oY.trans (X lc)
theorem xn:∀(is:List Nat)(lc:Lc)(j:Nat)(d:aa),(iC is lc)[j]?=D (D d)->lc[j]?=D (D d)/\j∉is:=by intro is;induction is with|nil=>intro lc j d h;exact⟨h,bJ⟩|cons i r Z=>
  intro lc j d h;change((iC r lc).set i I)[j]?=_ at h;by_cases e:i=j
  .subst e;by_cases q:i<(iC r lc).length;.rw[uu q]at h;exact nS (b8 h)
   .rw[jp (by rw[oY];exact hE.mp q)]at h;exact nS h
  .rw[rZ e]at h;have Z:=Z lc j d h;exact⟨Z.1,fun m=>(cc.mp m).elim (fun q=>e q.symm) Z.2⟩
theorem W9:∀(Z:List Nat)(lc:Lc)(j:Nat),j∉Z->(iC Z lc)[j]?=lc[j]?:=by intro Z;induction Z with|nil=>intro _ _ _;exact rfl|cons i r X=>intro lc j h;exact(rZ fun e=>h (by rw[e];exact aV)).trans (X lc j fun q=>h (cH _ q))
theorem JW:∀{X:List Nat}{l:List aa}{lc Z:Lc},lc.length=Z.length->(∀j,j∉X->lc[j]?=Z[j]?)->n8 lc X l=n8 Z X l
|[],[],lc,Z,_,h=>aI D (Zw fun j=>h j bJ)|[],_::_,_,_,_,_=>rfl|_::_,[],_,_,_,_=>rfl|i::X,d::l,lc,Z,U,h=>by
  show(if i<lc.length then n8 (lc.set i (D d)) X l else I)=if i<Z.length then n8 (Z.set i (D d)) X l else I;rw[U];by_cases q:i<Z.length
  .rw[af q,af q];refine JW (by rw[oY,oY,U]) fun j J=>?_;by_cases e:i=j;.clear J;subst e;rw[uu (U▸q),uu q]
   .rw[rZ e,rZ e];exact h j fun m=>(cc.mp m).elim (fun q=>e q.symm) J
  .rw[am q,am q]
theorem Xa(lc:Lc)(t:Tg)(d:aa):fi (iC t.slots lc) t d=fi lc t d:=by induction t using Tg.casesOn with|ag i=>show(if i<(iC [i] lc).length then D ((lc.set i I).set i (D d))else I)=_;rw[xm,List.set_set];rfl|fT X=>induction d using aa.casesOn with|ab l=>exact JW (xm _ _) fun j Z=>W9 _ _ _ Z|_=>rfl
section
theorem LR.iC(L:LR c env lc y)(U:List Nat):LR c env (iC U lc) y:={L with
len:=(xm _ _).trans L.len
ns:=(by obtain⟨J,Z,X⟩:=L.ns;exact⟨J,Z,fun i x d e1 e2 e3=>X i x d e1 e2 (xn _ _ _ _ e3).1⟩)
cell:=fun x H=>(by obtain⟨a,Z,X,q,Q,O⟩:=L.cell x H;exact⟨a,Z,X,q,Q,fun i d e1 e2=>O i d e1 (xn _ _ _ _ e2).1⟩)}
theorem Xb{cond:Te}(JX:hZ B cond)(m:wL (jk B.X.N cond c) (wM cond) fs=Y)(h:wT WD B.C cond lc σ k)(Z:Si B A c env lc σ y)(kk:Bc B.X y k Q):wpAny B.M A (forIn fs Y fun c r=>if r=Y then do let ok<-isTrue c env (eval c env);pure (mw ok)else pure (mw r)) Q E y.s:=by
 rcases fs with _|⟨f,r⟩;.induction cond using Te.casesOn with
|ex e=>induction e using Ex.casesOn with|lit d=>clear JX;cases cz m;exact wpAny_tests_nil (kk _ _ _ h .refl Z.S)|_=>exact nB m
 |_=>exact nB m
 rcases r with _|⟨_,_⟩;.exact wpAny_tests_one (JX m h Z (fun _ _=>rfl) kk)
 exact nB m
theorem JY{X:Type}{k:X}:∀{l:List (bc×X)},l.lookup x=D k->(x,k)∈l:=by intro l;induction l with|nil=>intro h;exact nS h|cons U r J=>
obtain⟨n,H⟩:=U;intro h;rw[jt]at h;rcases Z:x==n with _|_;.rw[Z]at h;exact .tail _ (J h)
rw[Z]at h;cases h;rw[aU.mp Z];exact .head _
theorem Xc(k:rP c Z tg nc)(L:LR c env lc y)(X:∀x a,cl.lookup x=D a->env.cells.lookup x=D a)(J:∀x∈Z.names,x.2=.free->cl.lookup x.1=env.cells.lookup x.1)(H:∀b o,y.s.heap.get? b=D o->h'.get? b=D o)(j:y.s.heap.get? C=I)(r:cp y C)(u:h'.Ns C w):LR (c.aX nc Z) (compEnvC Z cl C env) (iC tg.slots lc) (y.hp h' t):=by
 have A:∀x,(p8 Z c.scope).names.lookup x=(Z.names.lookup x).map fun k=>if(k==.free&&c.scope.kind==.function&&c.scope.names.lookup x==D .cell)then .cell else k:=fun x=>JR c.scope x Z.names;refine⟨?_,k.fn,L.aj,L.blt,(xm _ _).trans (L.len.trans k.len.symm),k.nd,r,⟨w,u,fun i x d e1 e2 e3=>?_⟩,fun x O=>?_,fun x y a e1 e2=>L.apart x y a (X x a e1) (X y a e2)⟩;.show relabel Z env=p8 Z c.scope;unfold relabel p8 Env.kindOf;rw[L.scope]
 .have e3:=(xn _ _ _ _ e3).2;rcases JV k.Bp e1 with⟨_,Q⟩|⟨E,_,v⟩;.rw[gk]at Q;exact ae Q e3
  .have e2:(p8 Z c.scope).names.lookup x=D .local:=e2;rw[A,E,k.JS,show c.scope.names.lookup x=_ from v]at e2;cases e2
 .have O:(p8 Z c.scope).names.lookup x=D .cell:=O;rw[A]at O;obtain⟨kk,M,K⟩:=qo.mp O;by_cases z:(kk==.free&&c.scope.kind==.function&&c.scope.names.lookup x==D .cell)=Y
  .have U:=aU.mp (bL (bL z));clear K;subst U;refine cps fun P m=>?_;obtain⟨a,g,f,q,l,e⟩:=(L.ext (bY.more H)).cell x (aU.mp (bR z));refine m ?_;refine⟨a,(J _ (JY M) rfl).trans g,⟨f.1,fun n=>?_⟩,q,l,fun i d e1 e2=>?_⟩;.obtain⟨b,h,_,q',⟨o,ho,_⟩,_⟩:=L.cell x (aU.mp (bR z));cases g.symm.trans h;exact nn ho ((show a=C from n)▸j)
   .rcases JV k.Bp e1 with⟨E,_⟩|⟨_,Q,_⟩;.cases M.symm.trans E
    .rw[gk]at Q;exact e i d Q (xn _ _ _ _ e2).1
  .rw[am z]at K;exact ae K (k.Bo _ (JY M))
theorem JZ(L:LR c env lc y)(k:rP c sc tg nc):∃cl,closureFor sc env=pure cl/\(∀x a,cl.lookup x=D a->env.cells.lookup x=D a)/\(∀x∈sc.names,x.2=.free->cl.lookup x.1=env.cells.lookup x.1):=by obtain⟨cl,e1,e2,e3,_⟩:=W7 (env:=env) sc.names [] (fun x hx hf=>by obtain⟨a,ha,_⟩:=L.cell x.1 (k.free x hx hf);rw[ha];rfl) (fun x a e=>nS e);refine⟨cl,?_,e2,e3⟩;unfold closureFor;rw[bind_pure];exact e1
theorem Bq(h:aG 6 i=ai)(x:aH):foldedSetIterable i env x=pure x:=by cases i<;>first|rfl|cases h
end
end
section
open PySem.W PySem.Calls PyProof.Rows
inductive CI(B:Bx)(A:my)(c':Cn)(J0:mF)(tg:Tg)(g:Option (Nat×List aa))(cond:Te)(kF:Ex)(xs:List aa)(al L:bq)(k:Po)(y0:Cf):Nat->cI->Prop where|mk{z:Cf}{j:Nat}{done:List aa}{lc:Lc}{σ:AH}{vs:Array aH}{nn:Nat}(hj:j<=xs.length)(X:bY y0 z)(Z:Si B A c' J0 (iC tg.slots lc) σ z)(T1:cp z al)(I1:de xs al j z g)(TL:cp z L)(hL:z.s.heap.get? L=D (l3 vs nn))(hV:z.Vs done vs.toList)(hl:done.length<=j)(hN:jZ g tg (wT WD B.C cond) (wE WD B.C kF) (xs.drop j) done lc σ k):CI B A c' J0 tg g cond kF xs al L k y0 (xs.length-j) z.s
section
theorem Xd(K:rP c Z tg nc)(h:uj (c.aX nc Z) (compEnvC Z cl C env) tg.slots a):a=C:=by
 obtain⟨i,hi,x,X,H⟩:=h;have X:nc[i]?=D (D x):=X;have J:=fQ.mp K.JT i hi;rw[X]at J;have U:(p8 Z c.scope).names.lookup x=D .local:=(JR c.scope x Z.names).trans (by rw[aU.mp J];rfl);rcases H with⟨_,q⟩|⟨q,_⟩;.exact q
 .cases U.symm.trans q
theorem Xe{cond:Te}(i:hZ B cond)(Br:bB B O)(K:rP c U tg nc)(ht:p9 (c.aX nc U) tg t=Y)(he:bH B.X.N O (c.aX nc U) e=Y)(hf:wL (jk B.X.N cond (c.aX nc U)) (wM cond) fs=Y)(xo:y0.s.heap.get? al=I)(Xf:y0.s.heap.get? C=I)(Xg:y0.s.heap.get? L=I)(iL:al≠L)(lC:L≠C)(hx:xs.length<av){R:Result->cI->Prop}(kk:∀z ds vs n mC au,k (.ref au.length) (au++[.list ds])->bY y0 z->HR B.X au z->cp z L->cp z C->z.s.heap.get? L=D (l3 vs n)->z.Vs ds vs.toList->z.s.heap.Ns C mC->R (.ok .next) z.s)(h:CI B A (c.aX nc U) (compEnvC U cl C env) tg g cond O xs al L k y0 n s):wpAny B.M A (pyNext (.ref al)) (fun r w=>match r with|none=>R (.ok .next) w|some v=>wpAny B.M A (L0 t (.ref al) v) (fun _ xk=>wpAny B.M A (assign t (compEnvC U cl C env) v) (fun _ uf=>wpAny B.M A (forIn fs Y fun c r=>if r=Y then do let ok<-isTrue c (compEnvC U cl C env) (eval c (compEnvC U cl C env));pure (mw ok)else pure (mw r)) (fun ok f=>if ok=Y then wpAny B.M A (eval e (compEnvC U cl C env)) (fun x rO=>wpAny B.M A (call (.builtin "list.append") [.ref L,x]) (fun _ xl=>∃m,m<n/\CI B A (c.aX nc U) (compEnvC U cl C env) tg g cond O xs al L k y0 m xl) E rO) E f else∃m,m<n/\CI B A (c.aX nc U) (compEnvC U cl C env) tg g cond O xs al L k y0 m f) E uf) E xk) E w) E s:=by induction h using CI.casesOn with|@mk z j done lc σ vs nn hj X Z T1 I1 TL hL hV hl Q=>
 rcases qg j xs.length with H|Xh
 .rw[Lj H]at Q;have yT:=Q.1;have Q:=Q.2;obtain⟨Xi,l,Q⟩:=gO.out Q;refine JO I1 T1 Z.S yT (dK H) fun v h2 t2 hv J I2 S2=>JQ (y:=z.hp h2 t2) ht I2 ?_;have L2:LR (c.aX nc U) (compEnvC U cl C env) (iC tg.slots lc) (z.hp h2 t2):=Z.L.iB (I1.iT Z.L) J;have J1:=J _ _ (g9 iL) hL;rw[<-Xa]at l;refine Bl (y:=z.hp h2 t2) Z.R.1 ht l L2 S2 hv fun h3 t3 Bs L3 S3=>?_;have Xj:=Bs _ _ (fun ow=>L2.iT J1 nofun nofun ow.aP) J1;have I3:de xs al (j+1) (z.hp h3 t3) g:=I2.xh fun o e=>Bs _ _ (fun ow=>I2.iT L2 ow.aP) e;have X3:bY y0 (z.hp h3 t3):=X.l5 (fun b=>b=al\/b=C) (fun a o e z=>Bs a o (fun ow=>z (.inr (Xd K ow))) (J a o (fun q=>z (.inl q)) e)) fun a q=>q.elim (fun q=>q▸xo) fun q=>q▸Xf;have lt:xs.length-(j+1)<xs.length-j:=R' H (mh j);refine Xb (y:=z.hp h3 t3) i hf Q ⟨Z.R,L3,S3⟩ fun b cy z4 h4 d S4=>?_;have q4:=cp.ext (y:=z.hp h3 t3) TL d Xj id;have i4:=I3.ext T1 d id;rcases b with _|_;.exact⟨_,lt,.mk H (X3.trans d) ⟨Z.R,(L3.ext d).iC _,S4⟩ i4.1 i4.2 q4.1 q4.2 (eI.ext (y:=z.hp h3 t3) hV d) (ln hl) h4⟩
  refine Br he h4 ⟨Z.R,L3.ext d,S4⟩ fun d5 fE z5 v5 h5 x5 S5 w5=>?_;have q5:=cp.ext q4.1 x5 q4.2 id;have i5:=i4.2.ext i4.1 x5 id;have L5:=(L3.ext d).ext x5;have Xk:=(eI.ext (eI.ext (y:=z.hp h3 t3) hV d) x5);refine wpAny_list_append_plain ⟨nn,q5.2⟩ (fun H6 Xl Xm=>?_) (by rw[fI hV];exact bh hl (bh (lk H) (jI hx)));obtain⟨an0,Xn⟩:=Xl;have u:∀b o,b≠L->z5.s.heap.get? b=D o->H6.get? b=D o:=fun b o nb e=>(Xm.2 b nb).trans e;exact⟨_,lt,.mk (z:=z5.hp H6 z5.s.toks) H (((X3.trans d).trans x5).l5 (·=L) (fun a o e z=>u a o z e) fun a q=>q▸Xg) ⟨Z.R,(L5.iB (L5.iT q5.2 nofun nofun) u).iC _,S5.iB q5.1 u⟩ i5.1 (i5.2.xh fun o e=>u _ _ iL e) q5.1 Xn (by rw[Lm];exact F2.append Xk (.ag w5)) (by rw[aT];exact mj hl) h5⟩
 .have e:=fw hj Xh;subst e;rw[BV]at Q;refine JP Z.R.1 I1 T1 Z.S Q.1 (aE _) fun h2 t2 J S2=>?_;have L2:LR (c.aX nc U) (compEnvC U cl C env) (iC tg.slots lc) (z.hp h2 t2):=Z.L.iB (I1.iT Z.L) J;refine cps fun P hP=>?_;obtain⟨Xo,Xp,_⟩:=L2.ns;refine hP ?_;exact kk (z.hp h2 t2) _ vs nn Xo σ Q.2 (X.l5 (·=al) (fun a o e z=>J a o z e) fun a q=>q▸xo) S2 TL L2.out (J _ _ (g9 iL) hL) hV Xp
theorem J2{cond:Te}(q:hZ B cond)(Br:bB B l)(K:rP c Q tg nc)(ht:p9 (c.aX nc Q) tg t=Y)(he:bH B.X.N l (c.aX nc Q) e=Y)(hf:wL (jk B.X.N cond (c.aX nc Q)) (wM cond) fs=Y)(Xq:∀x a,cl.lookup x=D a->env.cells.lookup x=D a)(Xr:∀x∈Q.names,x.2=.free->cl.lookup x.1=env.cells.lookup x.1)(x0:bY y0 y)(xo:y0.s.heap.get? al=I)(Z:Si B A c env lc σ y)(hI:cp y al)(J3:de xs al 0 y g)(hx:xs.length<av)(ec:jZ g tg (wT WD B.C cond) (wE WD B.C l) xs [] lc σ k){RR:aH->bq->Result->cI->Prop}(kk:∀L C z ds vs n mC O,k (.ref O.length) (O++[.list ds])->bY y0 z->HR B.X O z->cp z L->cp z C->L≠C->y0.s.heap.get? L=I->y0.s.heap.get? C=I->z.s.heap.get? L=D (l3 vs n)->z.Vs ds vs.toList->z.s.heap.Ns C mC->RR (.ref L) C (.ok .next) z.s):wpAny B.M A (newList []) (fun dM rL=>wpAny B.M A (newFunctionEnv Q env.globals cl [] env.qual I .none (D env)) (fun u rO=>codeAny B.M A (.compStart (.ListComp e [⟨t,i,fs,0⟩] Q pos) 0 (.ref al) dM {u with scope:=relabel Q env}) (RR dM u.locals) rO) E rL) E y.s:=by
 refine xO (wpAny_newFunctionEnv K.Bo (fun y hy=>nomatch hy) (fun w J U=>?_) K.fn);dsimp only at J U⊢;generalize uk:y.s.heap.push {cls:=.type "list",dict:=I,data:=.seq ([]:List aH).toArray}=H2 at J U⊢;have hC:H2.objs.size=y.s.heap.objs.size+1:=by rw[uk.symm,J?]
 have r:∀a,y.s.heap.objs.size<=a->y.s.heap.get? a=none:=fun a ha=>by
  rcases e:y.s.heap.get? a with _|o';.rfl
  exact ae (sj e) (hE.mpr ha)
 have lC:y.s.heap.objs.size≠H2.objs.size:=by rw[hC];exact lh (mh _)
 have H:∀b o,y.s.heap.get? b=D o->w.get? b=D o:=fun b o e=>U.extBut b o (by rw[hC];exact lh (j' (sj e))) (gq _ (uk▸gq _ e));have nC:y.s.heap.get? H2.objs.size=none:=r _ (by rw[hC];exact dg _);have nL:y.s.heap.get? y.s.heap.objs.size=none:=r _ (aE _);have iL:al≠y.s.heap.objs.size:=fun z=>by obtain⟨o,ho,_⟩:=J3.obj;exact nn ho (z▸nL)
 let z:Cf:=y.hp w (y.s.toks+([]:List (bc×aH)).length);have v:de xs al 0 z g:=J3.xh fun o e=>H _ o e;have m:codeAny B.M A (.compLoop (.ListComp e [⟨t,i,fs,0⟩] Q pos) 0 (.ref al) (.ref y.s.heap.objs.size) (compEnvC Q cl H2.objs.size env)) (RR (.ref y.s.heap.objs.size) H2.objs.size) z.s:=W2 (CI B A (c.aX nc Q) (compEnvC Q cl H2.objs.size env) tg g cond l xs al y.s.heap.objs.size k y0) (fun n s' h=>Xe q Br K ht he hf xo (x0.iV nC) (x0.iV nL) iL lC hx (fun z ds vs n mC O a b c d e f g h=>kk _ _ z ds vs n mC O a b c d e lC (x0.iV nL) (x0.iV nC) f g h) h) xs.length (.mk (j:=0) (bP _) (x0.trans (bY.more H)) ⟨Z.R,(Xc K Z.L Xq Xr H nC (cp.new Z.S nC) J),Z.S.more H⟩ hI v (show cp y _ from cp.new Z.S nL) (U.extBut _ _ lC (gq _ (uk▸kx _ rfl))) .nil (aE _) ec);exact codeAny_compStart_list m (WX v m)
theorem J4{G:Comprehension}(h:G.is_async=0):G=⟨G.target,G.iter,G.ifs,0⟩:=by cases(G);cases h;rfl
theorem Xs{cond:Te}(r:xi B it)(H:hZ B cond)(j:bB B u):bB B (.comp tg it cond u nc):=fun{c x}m{A E env lc σ y k Q}h Z kk=>by have m1:=bR (bR m);have K:=JU (bL m1);have m2:=bR (bR m1);have m3:=bR (bR m2);obtain⟨cl,c1,c2,c3⟩:=JZ Z.L K;refine fv (bL m) ?_;have e:fZ x=⟨(fZ x).target,(fZ x).iter,(fZ x).ifs,0⟩:=J4 (aU.mp (bL (bR m)));show wpAny _ A (eval (.ListComp (e1 x) [fZ x] (nf x) (bO x)) env) Q E y.s;rw[e,eval_ListComp];refine R? (use:=I) rfl (Bq (gX (bL (bR m2)))) c1 K.fn K.rE ?_;refine r (bL m2) h Z fun xs g bX z J h1 hx x1 S1 T1 n1 I1=>?_;refine J2 H j K (bL (bR m1)) (bL m3) (bR m3) c2 c3 x1 n1 (Z.ext x1 S1) T1 I1 hx h1 (RR:=fun w C=>compPost B.M A E I Q w C) ?_;intro L C O ds vs n mC v h2 x2 S2 TL TC f nL nC hL hV l;refine⟨mC,l,fun U d=>?_⟩;have hk:∀b o,b≠C->O.s.heap.get? b=D o->U.get? b=D o:=fun b o nb e=>(d.2 b nb).trans e;have S3:HR B.X v (O.hp U O.s.toks):=S2.iB TC hk;have S4:=S3.cell (t:=O.s.toks) (p:=(L,L)) (h':=U) TL TL (fun _ _ e=>e) (.list rfl (hk _ _ f hL) (F2.aq (·.aq (fun _ _ z=>z) fun i q e=>(ic (bo.mp e).1).trans e) hV));exact kk _ _ ((O.hp U O.s.toks).cl (L,L) U O.s.toks) _ h2 ((x2.l5 (·=C) (fun a o e z=>hk a o z e) fun a q=>q▸nC).cl nL nL fun _ _ e=>e) S4.1 S4.2.2
end
section
mutual theorem cj(T:fc B):∀e:Ex,bB B e|.lit d=>V0|.var i=>V1|.aj g=>V4 T.t1|.ao e f=>V5 T.t2 (cj T e)|.ad a i=>V8 (cj T a) (cj T i)|.hH a lo hi=>V9 (cj T a) (cj T lo) (cj T hi)|.aK op a b=>Wa (cj T a) (cj T b)|.neg a=>Wb (cj T a)|.nV a=>Wc (cj T a)|.ah op a b=>We (cj T a) (cj T b)|.dz p a=>Wf (cj T a)|.aX p a b=>Wg T.t2 (cj T a) (cj T b)|.no a=>Wh (cj T a)|.and a b=>Wi (cj T a) (cj T b)|.or a b=>Wj (cj T a) (cj T b)|.ite t a b=>Wk (l8 T t) (cj T a) (cj T b)|.ab es=>WE (qc T es)|.dA es=>WF (qc T es)|.io=>WG|.comp tg X cond Z nc=>Xs (Bt T X) (l8 T cond) (cj T Z)|.call f es=>WJ T (qc T es)|.new c es=>WP T (qc T es)|.aQ m o es=>WQ T (cj T o) (qc T es)|.bi b es=>WK T (qc T es)|.i6=>by intro m A E env lc σ y k Q h;exact h.elim theorem qc(T:fc B):∀es:Es,k8 B es|.nil=>JE|.cons e es=>JG (cj T e) (qc T es)theorem l8(T:fc B):∀t:Te,hZ B t|.ex e=>Wp (cj T e)|.no t=>Wq (l8 T t)|.and a b=>Wr (l8 T a) (l8 T b)|.or a b=>Ws (l8 T a) (l8 T b)|.gr a b c=>Wt (cj T a) (cj T b) (cj T c)theorem Bt(T:fc B):∀Z:It,xi B Z|.ex e=>WZ (cj T e)|.range n=>W0 T.t1 (cj T n)end
end
end
section
open PySem.W PySem.Calls PyProof.Rows
structure rQ(B:Bx)(A:my)(c:Cn)(env:mF)(y:Cf)(aw:Kt)(Q:Flow->cI->Prop):Prop where
n:∀{lc σ z},aw.kn lc σ->cD (gh c env) y z->Si B A c env lc σ z->Q .next z.s
r:∀{d σ z v},aw.kr d σ->cD (gh c env) y z->HR B.X σ z->z.ak d v->Q (.ret v) z.s
c:∀{lc σ z},aw.kc lc σ->cD (gh c env) y z->Si B A c env lc σ z->Q .cont z.s
section
variable(B:Bx)
abbrev iD(Z:Sm):Prop:=∀{c x},IP B.X.N Z c x=Y->∀{A E env lc σ y aw Q},wS WD B.C Z lc σ aw->Si B A c env lc σ y->rQ B A c env y aw Q->wpAny B.M A (exec x env) Q E y.s
abbrev oR(Z:Ss):Prop:=∀{c l},oI B.X.N Z c l=Y->∀{A E env lc σ y aw Q},wSs WD B.C Z lc σ aw->Si B A c env lc σ y->rQ B A c env y aw Q->wpAny B.M A (execs l env) Q E y.s
end
section
variable{B:Bx}{c:Cn}
theorem cD.o(x:bY y z):cD P y z:=x.UN fun _ q=>q.elim
theorem rQ.go(k:rQ B A c env y aw Q)(x:cD (gh c env) y z):rQ B A c env z aw Q:=⟨fun h X Z=>k.n h (x.trans X) Z,fun h X S U=>k.r h (x.trans X) S U,fun h X Z=>k.c h (x.trans X) Z⟩
theorem jl(h:iA n x=Y)(k:wpAny M A (exec (AF n x) env) Q E s):wpAny M A (exec x env) Q E s:=UC (P:=fun x=>wpAny M A (exec x env) Q E s) h k
theorem ul(h:(aG 7 v||aG 8 v)=ai):Ce v t n env=pure false:=by induction v using gI with|ListComp e g s p=>exact nB (h.symm.trans (by show(cq (cond (fO g) 7 8) 7||Nat.beq (cond (fO g) 7 8) 8)=Y;cases fO g<;>rfl))|SetComp=>cases h|DictComp=>cases h|GeneratorExp=>cases h|_=>rfl
theorem um(Z:LR c env X (y.hp h' t))(U:∀b o,¬gh c env b->y.s.heap.get? b=D o->h'.get? b=D o):cD (gh c env) y (y.hp h' t):=.heap (fun b o e J=>U b o J e) fun b H _=>(Z.Bb H).2.elim fun o h=>nn h.1
theorem Xu(T:fc B){o e:Ex}:iD B (.cS o f e):=fun{c x}m{A E env lc σ y aw Q}h Z kk=>by have m1:=bR (bR m);refine jl (bL m) ?_;show wpAny _ A (exec (.Assign [t1 x] (vS x) (fP x)) env) Q E y.s;rw[fb (bL (bR m))];refine plainObj_wpAny_Assign_Attribute (cj T e (bL (bR (bR m1))) h Z fun v H z k O X S1 C=>cj T o (bL m1) O (Z.ext X S1) fun t M u q L U K g=>?_) (ul (gX (bR (bR (bR m1)))));obtain⟨j,e3,d⟩:=gO.out L;exact Js T.t2 K e3 (aU.mp (bL (bR m1))) g (C.ext U) fun w J r=>kk.n d ((X.trans U).trans J).o (Z.ext ((X.trans U).trans J) r)
theorem Xv(g:A.units+50<cLine)(S:HR B.X σ y)(e:i7 σ j Z d=D U)(J:y.ak (.ref j) a)(H:y.ak Z b)(O:y.ak d v)(k:PU B.X y U (Q ())):wpAny B.M A (setItem a b v) Q E y.s:=by
 rcases q:σ[j]? with _|o;.unfold i7 at e;rw[q]at e;exact nS e
 induction o using AO.casesOn with
|dict es=>unfold i7 at e;rw[q]at e;obtain⟨h,e⟩:=ca e;cases e;have C:=bL (bL h);have K:=fx.mp (bR h);have hz:es.length<av:=cz (bR (bL h));induction Z using aa.casesOn with|int z=>obtain⟨_,e,L⟩:=AV C rfl;cases e;exact U0 S K q L hz J H O k|ab l=>obtain⟨_,e,r,L⟩:=t4 C rfl;cases e;exact UZ g S K q L r hz J H O k|_=>exact nB (bR (bL C))
 |list xs=>induction Z using aa.casesOn with|int z=>unfold i7 at e;rw[q]at e;obtain⟨h,e⟩:=ca e;cases e;exact VQ S q h J H O k|_=>unfold i7 at e;rw[q]at e;exact nS e
 |_=>unfold i7 at e;rw[q]at e;exact nS e
theorem Xw(T:fc B){o i e:Ex}:iD B (.gs o i e):=fun{c x}m{A E env lc σ y aw Q}h Z kk=>by have m1:=bR (bR m);refine jl (bL m) ?_;show wpAny _ A (exec (.Assign [t1 x] (vS x) (fP x)) env) Q E y.s;rw[fb (bL (bR m))];refine wpAny_Assign_Subscript (cj T e (bL (bR (bR m1))) h Z fun d1 C z v1 M X S1 L=>cj T o (bL m1) M (Z.ext X S1) fun d2 K u v2 H U g d=>?_) (ul (gX (bR (bR (bR m1)))));refine cps fun P r=>?_;obtain⟨j,rfl,H⟩:=oO H;refine r ?_;refine cj T i (bL (bR m1)) H ((Z.ext X S1).ext U g) fun d3 v w v3 k J f t=>?_;obtain⟨q,b,l⟩:=gO.out k;exact Xv Z.R.u f b (d.ext J) t ((L.ext U).ext J) fun w O a=>kk.n l (((X.trans U).trans J).trans O).o (Z.ext (((X.trans U).trans J).trans O) a)
theorem J5(e:yc op i j=D w)(k:∀t t',Q (.int w t) {s with toks:=t'}):wpAny B.M A (inplaceOp (wJ op) (.int i t) (.int j u)) Q E s:=by induction op using iZ.casesOn with|add=>cases e;exact a10 (k _ _)|sub=>cases e;exact a20 (k _ _)|_=>exact nS e
theorem Xx(T:fc B):iD B (.qA i op e):=fun{c x}m{A E env lc σ y aw Q}h Z kk=>by have m1:=bR (bR m);refine jl (bL m) ?_;show wpAny _ A (exec (.AugAssign (t1 x) (tS x) (vS x) (fP x)) env) Q E y.s;rw[fb (bL (bR m)),cz (bL (bR m1))];obtain⟨k,X,h⟩:=xb h;refine wpAny_AugAssign_Name (Jx Z.L (bL m1) X fun v0 O=>cj T e (bR (bR m1)) h Z fun f C z q U J S1 M=>?_);clear X h;obtain⟨l,rfl,g1⟩:=gi U;clear U;obtain⟨i1,rfl,g1⟩:=gi g1;obtain⟨w,e2,g1⟩:=gO.out g1;refine VR.iE O fun _=>?_;refine VR.iE M fun _=>?_;refine J5 e2 fun t t'=>?_;refine cps fun P K=>?_;obtain⟨g,e3,g1⟩:=gO.out g1;obtain⟨hi,e3⟩:=ca (p:=i<lc.length) e3;refine K ?_;cases e3;refine w9 (y:=z.hp z.s.heap t') (Z.L.ext (J.trans bY.tk)) S1.tk (bL m1) hi .int fun a h' j d r H u=>?_;exact kk.n g1 ((J.trans (bY.tk (t:=t'))).o.trans (um (y:=z.hp z.s.heap t') H fun b o v e=>r b o (fun z=>v (z▸d.aP)) e)) ⟨Z.R,H,u⟩
theorem Xy(T:fc B){o e:Ex}:iD B (.o6 o f op e):=fun{c x}m{A E env lc σ y aw Q}h Z kk=>by have m1:=bR (bR m);refine jl (bL m) ?_;show wpAny _ A (exec (.AugAssign (t1 x) (tS x) (vS x) (fP x)) env) Q E y.s;rw[fb (bL (bR m)),cz (bL (bR (bR m1)))];have J:=aU.mp (bL (bR m1));refine wpAny_AugAssign_AttributeAny (cj T o (bL m1) h Z fun j d i v0 r H S0 O=>?_);obtain⟨a,e1,C⟩:=gO.out r;refine Jr T.t2 S0 e1 J O fun z1 v1 X S1 v=>cj T e (bR (bR (bR m1))) C (Z.ext (H.trans X) S1) fun d2 k U v2 M L z q=>?_;clear e1 C;obtain⟨i0,rfl,g1⟩:=gi M;clear M;obtain⟨i1,rfl,g1⟩:=gi g1;obtain⟨w,e2,g1⟩:=gO.out g1;obtain⟨b,e3,g1⟩:=gO.out g1;refine VR.iE v fun _=>?_;refine VR.iE q fun _=>?_;have K:=(H.trans X).trans L;exact J5 e2 fun t t'=>Js (c:=U.hp U.s.heap t') T.t2 z.tk e3 J (show U.ak j v0 from(O.ext X).ext L) .int fun u g l=>kk.n g1 ((K.trans (bY.tk (t:=t'))).trans g).o (Z.ext ((K.trans (bY.tk (t:=t'))).trans g) l)
theorem Xz(T:fc B):iD B (.expr e):=fun{c x}m{A E env lc σ y aw Q}h Z kk=>by
 refine jl (bL m) (wpAny_Expr (cj T e (bL (bR m)) h Z fun J O z M X H S1 C=>?_) ?_ (ul ?_))
 .rcases U:iK J with _|_;.have X:br (iK J) _ _:=X;rw[U]at X;exact X.elim
  have X:br (iK J) _ _:=X;rw[U]at X;have q:=kk.n X H.o (Z.ext H S1);induction C using VR.casesOn with|ab=>exact nB U|ref=>exact nB U|_=>exact q
 .unfold interactive;rw[Z.L.scope,Z.L.fn];rfl
 .have t:=jL (bR (bR m));show(cq (wC (t1 x)) 7||Nat.beq (wC (t1 x)) 8)=ai;rw[t];rfl
theorem XA(T:fc B):iD B (.ret e):=fun{c x}m{A E env lc σ y aw Q}h Z kk=>by refine jl (bL m) (wpAny_Return_some (cj T e (bR m) h Z fun O X z C U J S1 H=>kk.r U J.o S1 H))
theorem J6{o i:cN}{p pos:Pos}(h:wpAny M A (eval o env) (fun U Z=>wpAny M A (eval i env) (fun iv X=>wpAny M A (delItem U iv) (fun _=>Q .next) E X) E Z) E s):wpAny M A (exec (.Delete [.Subscript o i p] pos) env) Q E s:=by
 refine wpAny_Delete (wpAny_deleteEach_cons ?_);show wpAny M A (do
 let U<-eval o env let iv<-holding [U] (eval i env)standAt p
 holding [U,iv] (delItem U iv)release [U,iv] []) _ _ _;refine aA (lw h (fun U Z J=>aA (mB (lw J (fun iv X H=>?_) fun _ _ z=>z))) fun _ _ z=>z);exact aA (Cd (aA (mB (lw H (fun _ C O=>wpAny_release (wpAny_deleteEach_nil O)) fun _ _ z=>z))))
theorem XB(J:A.units+50<cLine)(S:HR B.X σ y)(e:uX σ j H=D Z)(O:y.ak (.ref j) a)(C:y.ak H b)(k:PU B.X y Z (Q ())):wpAny B.M A (delItem a b) Q E y.s:=by
 unfold uX at e;rcases q:σ[j]? with _|o;.rw[q]at e;exact nS e
 rw[q]at e;induction o using AO.casesOn with|dict es=>obtain⟨h,e⟩:=ca e;cases e;have U:=bL (bL h);clear e;obtain⟨l,rfl,L,K⟩:=t4 (bL (bL U)) (bR (bL U));exact U1 J S (fx.mp (bR h)) q K L (cz (bR (bL h))) (bR U) O C k|_=>exact nS e
theorem XC(T:fc B){o i:Ex}:iD B (.o7 o i):=fun{c x}m{A E env lc σ y aw Q}h Z kk=>by have m1:=bR (bR m);refine jl (bL m) ?_;show wpAny _ A (exec (.Delete [t1 x] (fP x)) env) Q E y.s;rw[fb (bL (bR m))];refine J6 (cj T o (bL m1) h Z fun f O z t X U S1 C=>?_);refine cps fun P M=>?_;obtain⟨j,rfl,X⟩:=oO X;refine M ?_;refine cj T i (bR m1) X (Z.ext U S1) fun q L u b K J g d=>?_;obtain⟨r,e3,v⟩:=gO.out K;exact XB Z.R.u g e3 (C.ext J) d fun w H k=>kk.n v ((U.trans J).trans H).o (Z.ext ((U.trans J).trans H) k)
theorem XD(S:HR B.X σ y)(e:pe σ j l=D Z)(U:y.ak (.ref j) a)(J:y.ak l H)(O:y.s.heap.IsSliceOf C H .none .none)(k:PU B.X y Z (Q ())):wpAny B.M A (delItem a (.ref C)) Q E y.s:=by
 rcases q:σ[j]? with _|o;.unfold pe at e;rw[q]at e;exact nS e
 induction o using AO.casesOn with
|list xs=>induction l using aa.casesOn with|int i=>unfold pe at e;rw[q]at e;obtain⟨h,e⟩:=ca e;cases e;exact VV S q h U J O k|_=>unfold pe at e;rw[q]at e;exact nS e
 |_=>unfold pe at e;rw[q]at e;exact nS e
theorem XE(T:fc B){o lo:Ex}:iD B (.qB o lo):=fun{c x}m{A E env lc σ y aw Q}h Z kk=>by
 have m1:=bR (bR m);have m2:=bR (bR m1);refine jl (bL m) ?_;show wpAny _ A (exec (.Delete [t1 x] (fP x)) env) Q E y.s;rw[fb (bL (bR m))];show wpAny _ A (exec (.Delete [.Subscript (e1 (t1 x)) (e2 (t1 x)) _] (fP x)) env) Q E y.s;have e:e2 (t1 x)=.Slice (tR (e2 (t1 x))) (wF (e2 (t1 x))) I (bO (e2 (t1 x))):=fb (bL m1);rw[nJ.mp (bR m2)]at e;rw[e];refine J6 (cj T o (bL (bR m1)) h Z fun i K z v1 H O S1 g=>wpAny_Slice ?_);refine cps fun P d=>?_;obtain⟨j,rfl,H⟩:=oO H;refine d ?_;have U:=bL m2;rcases X:tR (e2 (t1 x))with _|l;.rw[X]at U;exact nB U
 rw[X]at U;refine cj T lo U H (Z.ext O S1) fun d2 r u M v C k f=>aW (aW ?_);obtain⟨t,e3,q⟩:=gO.out v;have J:bY u (u.hp (u.s.heap.push (ue M .none)) u.s.toks):=.more fun a o e=>gq _ e;exact XD (y:=u.hp (u.s.heap.push (ue M .none)) u.s.toks) (k.more fun a o e=>gq _ e) e3 ((g.ext C).ext J) (f.ext J) ⟨_,kx _ rfl,rfl,rfl⟩ fun w L b=>kk.n q (((O.trans C).trans J).trans L).o (Z.ext (((O.trans C).trans J).trans L) b)
theorem XF(T:fc B)(J:oR B a)(H:oR B b):iD B (.ifs t a b):=fun{c x}m{A E env lc σ y aw Q}h Z kk=>by
 refine jl (bL m) (wpAny_If (l8 T t (bL (bR m)) h Z (fun _ _=>rfl) fun r O z U X S1=>?_));rcases r with _|_;.exact H (bR (bR (bR m))) U (Z.ext X S1) (kk.go X.o)
 exact J (bL (bR (bR m))) U (Z.ext X S1) (kk.go X.o)
theorem XG:oR B .nil:=fun{c l}m{A E env lc σ y aw Q}h Z kk=>by
 rcases l with _|⟨_,_⟩;.exact L6 (kk.n h bY.refl Z)
 exact nB m
theorem XH{H:Sm}(O:iD B H)(C:oR B M):oR B (.cons H M):=fun{c l}m{A E env lc σ y aw Q}h Z kk=>by
 rcases l with _|⟨x,l⟩;.exact nB m
 exact wpAny_execs_cons (O (bL m) h Z ⟨fun h X U=>C (bR m) h U (kk.go X),fun h X S L=>kk.r h X S L,fun h X U=>kk.c h X U⟩)
inductive FI(B:Bx)(A:my)(c:Cn)(env:mF)(t:Tg)(g:Option (Nat×List aa))(b:Ss)(xs:List aa)(al:bq)(aw:Kt)(y0:Cf):Nat->cI->Prop where|mk{z:Cf}{j:Nat}{lc:Lc}{σ:AH}(hj:j<=xs.length)(X:cD (gh c env) y0 z)(Z:Si B A c env lc σ z)(T:cp z al)(I1:de xs al j z g)(hN:pg g t (fun lc σ k=>wSs WD B.C b lc σ (lL aw k)) (xs.drop j) lc σ aw.kn):FI B A c env t g b xs al aw y0 (xs.length-j) z.s
theorem XI(T:fc B)(hb:oR B b):iD B (.for t it b):=fun{c x}m{A E env lc σ y aw Q}h Z kk=>by have m1:=bR (bR m);refine jl (bL m) (wpAny_For (Bt T it (bL m1) h Z fun xs g RV z0 al h0 hx x0 S0 T0 n0 I0=>?_) (Bq (gX (bR (bR m1)))));refine codeAny_forLoop_any (FI B A c env t g b xs al aw y) (fun n s' hI=>?_) xs.length (.mk (j:=0) (bP _) x0.o (Z.ext x0 S0) T0 I0 h0);induction hI using FI.casesOn with|@mk z j lc σ hj X Z w I1 J=>
rcases qg j xs.length with H|f;.rw[Lj H]at J;have l:=J.1;have J:=J.2;obtain⟨Xi,M,J⟩:=gO.out J;have O:=I1.iT Z.L;refine JO I1 w Z.S l (dK H) fun v K d i U I2 S2=>JQ (y:=z.hp K d) (bL (bR m)) I2 ?_;refine Bl (y:=z.hp K d) Z.R.1 (bL (bR m)) M (Z.L.iB O U) S2 i fun h3 t3 u L3 S3=>?_;have X3:cD (gh c env) y (z.hp h3 t3):=(X.l5 (·=al) (fun a o e z=>U a o z e) fun a q=>q▸n0).trans (um (y:=z.hp K d) L3 fun b o nb e=>u b o (fun z=>nb z.aP) e);have nx:∀{lc σ z4},pg g t (fun lc σ k=>wSs WD B.C b lc σ (lL aw k)) (xs.drop (j+1)) lc σ aw.kn->cD (gh c env) (z.hp h3 t3) z4->Si B A c env lc σ z4->∃m,m<xs.length-j/\FI B A c env t g b xs al aw y m z4.s:=fun h x Z=>have q:=(I2.xh fun o e=>u _ _ (fun ow=>O ow.aP) e).ext w x O;⟨_,R' H (mh j),.mk H (X3.trans x) Z q.1 q.2 h⟩;exact hb (bL (bR m1)) (y:=z.hp h3 t3) J ⟨Z.R,L3,S3⟩ ⟨nx,fun h x S i=>kk.r h (X3.trans x) S i,nx⟩
.cases fw hj f;rw[BV]at J;exact JP Z.R.1 I1 w Z.S J.1 (aE _) fun K d U S2=>L6 (kk.n (z:=z.hp K d) J.2 (X.l5 (·=al) (fun a o e z=>U a o z e) fun a q=>q▸n0) ⟨Z.R,Z.L.iB (I1.iT Z.L) U,S2⟩)
inductive WI(B:Bx)(A:my)(c:Cn)(env:mF)(t:Te)(b:Ss)(aw:Kt)(y0:Cf):Nat->cI->Prop where|mk{z:Cf}{n:Nat}{lc:Lc}{σ:AH}(X:cD (gh c env) y0 z)(Z:Si B A c env lc σ z)(hN:qG (wT WD B.C t) (fun lc σ k=>wSs WD B.C b lc σ (lL aw k)) n lc σ aw.kn):WI B A c env t b aw y0 n z.s
theorem XJ(T:fc B)(g:oR B b):iD B (.while t b):=fun{c x}m{A E env lc σ y aw Q}h Z kk=>by obtain⟨j,h⟩:=h;refine jl (bL m) (wpAny_While (codeAny_whileLoop (WI B A c env t b aw y) (fun n s' d=>?_) j (.mk bY.refl Z h)));induction d using WI.casesOn with|@mk z n lc σ X Z M=>
rcases n with _|n;.exact M.elim
refine l8 T t (bL (bR m)) M Z (fun _ _=>rfl) fun r u w L J S1=>?_;have H:=X.trans J.o;rcases r with _|_;.exact L6 (kk.n L H (Z.ext J S1))
have K:∀{lc σ O},qG (wT WD B.C t) (fun lc σ k=>wSs WD B.C b lc σ (lL aw k)) n lc σ aw.kn->cD (gh c env) w O->Si B A c env lc σ O->∃m,m<n+1/\WI B A c env t b aw y m O.s:=fun h x Z=>⟨n,mh n,.mk (H.trans x) Z h⟩;exact g (bR (bR m)) L (Z.ext J S1) ⟨K,fun h x S v=>kk.r h (H.trans x) S v,K⟩
theorem XK(m:bH N e c x=Y)(h:(aG 7 x||aG 8 x)=Y):aG 7 x=Y/\∃tg U cond Z nc,e=.comp tg U cond Z nc:=by
 have X:∀{n:Nat}{P:Prop},(cq n 7||Nat.beq n 8)=ai->aG n x=Y->P:=fun{n P}J H=>by rw[aG,aG,jL H]at h;exact nB (J.symm.trans h)
 induction e using Ex.casesOn with|comp tg U cond Z nc=>exact⟨bL m,_,_,_,_,_,rfl⟩|i6=>exact X rfl m|io=>exact X rfl m|_=>exact X rfl (bL m)
theorem XM(T:fc B){cond:Te}{p pos:Pos}(hv:c.var i n=Y)(m:bH B.X.N (.comp tg it cond O nc) c v=Y)(k:Ce v (D (.Name n p)) pos.line env=pure Y)(h:wE WD B.C (.comp tg it cond O nc) lc σ fun v σ=>gO (fi lc (.ag i) v) fun j=>aw.kn j σ)(Z:Si B A c env lc σ y)(kk:rQ B A c env y aw Q):wpAny B.M A (exec (.Assign [.Name n p] v pos) env) Q E y.s:=by have m1:=bR (bR m);have K:=JU (bL m1);have m2:=bR (bR m1);have m3:=bR (bR m2);refine cps fun P f=>?_;obtain⟨cl,c1,c2,c3⟩:=JZ Z.L K;refine f ?_;rw[exec_Assign_Name_used _ _ _ _ k];refine aA (Cd (aA ?_));rw[(fb (bL m))];have e:fZ v=⟨(fZ v).target,(fZ v).iter,(fZ v).ifs,0⟩:=J4 (aU.mp (bL (bR m)));show wpAny _ A (evalThenUse (.ListComp (e1 v) [fZ v] (nf v) (bO v)) env _) _ E y.s;rw[e];show wpAny _ A (do let _<-comprehension (.ListComp (e1 v) [⟨(fZ v).target,(fZ v).iter,(fZ v).ifs,0⟩] (nf v) (bO v)) (nf v) env _ (newList []) ai (eval (fZ v).iter env) (D (assign (.Name n p) env))) _ _ _;refine aA (lw (R? (use:=D (assign (.Name n p) env)) (Q:=fun _ s'=>Q .next s') rfl (Bq (gX (bL (bR m2)))) c1 K.fn K.rE ?_) (fun _ s' hq=>aW (aW hq)) fun _ _ e=>e);refine Bt T it (bL m2) h Z fun xs g bX z J h1 hx x1 S1 T1 n1 I1=>?_;refine J2 (l8 T cond) (cj T O) K (bL (bR m1)) (bL m3) (bR m3) c2 c3 x1 n1 (Z.ext x1 S1) T1 I1 hx h1 (RR:=fun l C=>compPost B.M A E (D (assign (.Name n p) env)) (fun _ s'=>Q .next s') l C) ?_;intro L C U ds vs n mC cy h2 x2 S2 TL TC d nL nC hL hV x;have S4:=S2.cell (t:=U.s.toks) (p:=(L,L)) (h':=U.s.heap) TL TL (fun _ _ e=>e) (.list rfl hL (F2.aq (·.aq (fun _ _ z=>z) fun i q e=>(ic (bo.mp e).1).trans e) hV));have x3:bY y (U.cl (L,L) U.s.heap U.s.toks):=x2.cl nL nL fun _ _ e=>e;have r:¬gh c env C:=fun o=>(Z.L.Bb o).2.elim fun o' h=>nn h.1 nC;refine cps fun P f=>?_;obtain⟨j,e3,h3⟩:=gO.out h2;obtain⟨hi,e3⟩:=ca (p:=i<lc.length) e3;refine f ?_;cases e3;refine L? (w9 (y:=U.cl (L,L) U.s.heap U.s.toks) (Z.L.ext x3) S4.1 hv hi S4.2.2 fun a h' t' ow hk L5 S5=>?_);refine⟨mC,x.at' fun o e=>hk _ _ (fun z=>r (z▸ow.aP)) e,fun u w=>?_⟩;have H:∀b o,b≠C->h'.get? b=D o->u.get? b=D o:=fun b o nb e=>(w.2 b nb).trans e;exact kk.n (z:=(U.cl (L,L) U.s.heap U.s.toks).hp u t') h3 ((x3.o.trans (um (y:=U.cl (L,L) U.s.heap U.s.toks) L5 fun b o nb e=>hk b o (fun z=>nb (z▸ow.aP)) e)).l5 (·=C) (fun a o e z=>H a o z e) fun a q=>q▸nC) ⟨Z.R,L5.iB r H,S5.iB (⟨TC.1,fun i p e=>(rI e).elim (TC.2 i p) fun e=>e.2▸⟨g9 d,g9 d⟩⟩) H⟩
theorem XN{p:Pos}(h:aG 7 v=Y):∃b,Ce v (D (.Name n p)) k env=pure b:=by rw[fb h];exact⟨_,rfl⟩
theorem XO{p:Pos}(h:aG 17 v=ai):swappedStores [.Tuple es k p] v env=pure none:=by cases v<;>first|rfl|exact nB (h.symm.trans rfl)
theorem XP(T:fc B):iD B (.an t e):=fun{c x}m{A E env lc σ y aw Q}h Z kk=>by have m1:=bR (bR m);have mt:=bL (bR m);have me:=bL m1;refine jl (bL m) ?_;show wpAny _ A (exec (.Assign [t1 x] (vS x) (fP x)) env) Q E y.s;induction t using Tg.casesOn with
|ag i=>
 rw[fb (bL mt)];have plain:Ce (vS x) (D (.Name (dQ (t1 x)) (bO (t1 x)))) (fP x).line env=pure ai->wpAny B.M A (exec (.Assign [.Name (dQ (t1 x)) (bO (t1 x))] (vS x) (fP x)) env) Q E y.s:=fun hs=>by refine wpAny_Assign_Name (cj T e me h Z fun d1 bX z v1 h1 x1 S1 w1=>?_) hs;refine cps fun P hP=>?_;obtain⟨j0,e3,h3⟩:=gO.out h1;obtain⟨hi,e3⟩:=ca (p:=i<lc.length) e3;refine hP ?_;cases e3;exact w9 (Z.L.ext x1) S1 (bR mt) hi w1 fun a h' t' ow hk L' S'=>kk.n (z:=z.hp h' t') h3 (x1.o.trans (um L' fun b o nb e=>hk b o (fun z=>nb (z▸ow.aP)) e)) ⟨Z.R,L',S'⟩
 cases hc:aG 7 (vS x)||aG 8 (vS x)with|false=>exact plain (ul hc)|true=>
 clear m1 m;obtain⟨h7,tg,it,cond,kF,nc,rfl⟩:=XK me hc;obtain⟨b,hb⟩:=XN (n:=dQ (t1 x)) (p:=bO (t1 x)) (k:=(fP x).line) (env:=env) h7;rcases b with _|_;.exact plain hb
 exact XM T (bR mt) me hb h Z kk
|fT is=>
 have XQ:aG 15 (t1 x)=false:=by have q:=bL mt;rw[aG]at q⊢;rw[jL q];rfl
 have hw:=tU (gX ((r9.mp (bR m1)).resolve_left fun z=>nB (XQ.symm.trans z)));have et:=fb (bL mt);rw[et];refine Assign_Tuple (cj T e me h Z fun d1 bX z v1 h1 x1 S1 w1=>?_) (by unfold swapsWithSole;exact ul hw.2) (XO hw.1);obtain⟨j0,e3,h3⟩:=gO.out h1;rw[show a30 (cL (t1 x)) (kE (t1 x)) (bO (t1 x))=t1 x from et.symm];exact Bl Z.R.1 mt e3 (Z.L.ext x1) S1 w1 fun h' t' hk L' S'=>kk.n (z:=z.hp h' t') h3 (x1.o.trans (um L' fun b o nb e=>hk b o (fun z=>nb z.aP) e)) ⟨Z.R,L',S'⟩
theorem XR:iD B .sr:=fun{c x}m{A E env lc σ y aw Q}h Z kk=>jl m (wpAny_Return_none (kk.r h bY.refl Z.S .none))
theorem XS:iD B .cont:=fun{c x}m{A E env lc σ y aw Q}h Z kk=>jl m (wpAny_Continue (kk.c h bY.refl Z))
end
section
mutual theorem XT(T:fc B):∀Z:Sm,iD B Z|.an t e=>XP T|.cS o f e=>Xu T|.gs o i e=>Xw T|.qA i op e=>Xx T|.o6 o f op e=>Xy T|.expr e=>Xz T|.ifs t a b=>XF T (rR T a) (rR T b)|.for t X b=>XI T (rR T b)|.while t b=>XJ T (rR T b)|.ret e=>XA T|.sr=>XR|.cont=>XS|.o7 o i=>XC T|.qB o lo=>XE T|.i6=>by intro m A E env lc σ y k Q h;exact h.elim theorem rR(T:fc B):∀Z:Ss,oR B Z|.nil=>XG|.cons X Z=>XH (XT T X) (rR T Z)end
end
end
section
open PySem.W PySem.Calls PyProof.Rows
noncomputable def lb:List (bc×aH)->List (bc×aH)->List (bc×aH)|sl,[]=>sl|sl,x::r=>if(sl.lookup x.1).isNone=Y then lb (sl++[(x.1,x.2)]) r else lb sl r
theorem XU:∀(l sl:List (bc×aH)),(forIn l sl fun(x:bc×aH)r=>if(r.lookup x.1).isNone=Y then pure (mw (r++[(x.1,x.2)]))else pure (mw r):Sem _)=pure (lb sl l):=by intro l;induction l with|nil=>intro sl;exact rfl|cons x l ih=>
intro sl;rw[B2];unfold lb;split;.rw[pure_bind];exact ih _
.rw[pure_bind];exact ih _
theorem XV:∀(l l' Z:List (bc×aH)),(∀x∈l,(Z.lookup x.1).isSome=Y)->lb Z (l++l')=lb Z l':=by intro l;induction l with|nil=>intro l' Z _;exact rfl|cons x l U=>
intro l' Z h;have X:=h x (.head _);rw[List.cons_append];conv=>lhs;unfold lb
rw[am (by induction q:Z.lookup x.1 using cM with|none=>rw[q]at X;cases X|some _=>simp)];exact U l' Z fun y J=>h y (.tail _ J)
theorem J7{l:List (bc×aH)}(h:n∉l.map (·.1)):l.lookup n=none:=by induction l with|nil=>rfl|cons x l Z=>have k:=x.1;have v:=x.2;simp only[ij,cc,not_or]at h;rw[jt,gm.mpr h.1];exact Z h.2
theorem J8{l:List (bc×aH)}(h:n∈l.map (·.1)):(l.lookup n).isSome=true:=by induction l with|nil=>simp at h|cons x l Z=>
obtain⟨k,v⟩:=x;simp only[ij,cc]at h;rw[jt];rcases e:n==k with _|_;.exact Z (h.resolve_left (gm.mp e))
rfl
theorem XX:∀(l Z:List (bc×aH)),((Z++l).map (·.1)).Nodup->lb Z l=Z++l:=by intro l;induction l with|nil=>intro Z _;simp[lb]|cons x l X=>
intro Z h;unfold lb;have U:x.1∉Z.map (·.1):=fun z=>by rw[g8,oW]at h;exact h.2.2 _ z _ (by simp) rfl
rw[af (by rw[J7 U];rfl),X _ (by simpa[dx]using h),dx];rfl
theorem xp{ps:List bc}{vs:List aH}(h:vs.length<=ps.length):(ps.zip vs).map (·.1)=ps.take vs.length:=by induction ps generalizing vs with|nil=>cases vs<;>simp at h⊢|cons p ps Z=>
rcases vs with _|⟨v,vs⟩;.rfl
simp only[List.zip_cons_cons,ij,iF,List.take_succ_cons];rw[Z (by simpa using h)]
theorem XY:∀{ps:List bc}{vs:List aH}(Z:List (bc×aH)),ps.Nodup->ps.length=vs.length->(∀p∈ps,p∉Z.map (·.1))->ps.filterMap (fun n=>KP (fun x=>(n,x)) ((Z++ps.zip vs).lookup n))=ps.zip vs:=by intro ps;induction ps with|nil=>intro vs Z _ _ _;simp|cons p ps Q=>
intro vs Z O U J;rcases vs with _|⟨v,vs⟩;.simp at U
have X:=fg.mp O;have e1:(Z++(p::ps).zip (v::vs)).lookup p=D v:=by rw[List.lookup_append,J7 (J p (.head _))];simp[jt]
rw[LC,e1];simp only[Option.map_some,List.zip_cons_cons];congr 1;have:=Q (vs:=vs) (Z++[(p,v)]) X.2 (by simpa using U) (fun q H=>by simp only[g8,ij,uA,dH,aZ,not_or];exact⟨J q (.tail _ H),fun z=>X.1 (z▸H)⟩);simpa[dx]using this
theorem XZ{M:Model}{A:my}(hp:fd.params=⟨[],as,I,[],[],I,hO⟩)(hn:(as.map (·.arg)).Nodup)(hd:uI M s.heap (seqItems? fd.defaults) r){dl:List aH}(X0:(r.getD #[]).toList=dl)(h1:eo.length<=as.length)(h2:as.length<=eo.length+dl.length)(h3:dl.length<=as.length)(h:Q ((as.map (·.arg)).zip (eo++dl.drop (dl.length-(as.length-eo.length)))) s):wpAny M A (bindArgs fd ⟨eo,[]⟩) Q E s:=by
 unfold bindArgs;rw[hp];simp only[uA,xA,bK,List.forIn_nil,pure_bind,B2,Option.isNone_none,lj];refine aA (hd.here ?_);rw[X0];generalize X1:as.map (·.arg)=ps at*;have jf:as.length=ps.length:=by rw[<-X1,aJ]
 rw[jf]at h1 h2 h3 h;rw[am (by rw[bQ (hE.mpr h1)];exact nofun)];obtain⟨f,hq⟩:∃f,ps.length=f+dl.length:=⟨_,(rY h3).symm⟩;obtain⟨e,hv⟩:∃e,eo.length=f+e:=⟨_,(uC (Nat.le_of_add_le_add_right (hq▸h2))).symm⟩;have he:e<=dl.length:=Nat.le_of_add_le_add_left (hq▸hv▸h1);have X2:ps.length-dl.length=f:=by rw[hq,ZB]
 have X4:dl.length-(ps.length-eo.length)=e:=by rw[hq,hv,Nat.add_sub_add_left,S? he]
 have hw:(eo++dl.drop e).length=ps.length:=by rw[aT,sf,hv,hq,eL,uC he]
 have ht:(ps.take eo.length).length=eo.length:=by rw[ig,mq h1]
 rw[X4]at h;rw[(xJ h3),uD,X2];have X5:Zz (fun n=>(T? n (ps.zip eo)).isNone) (List.take f ps)=[]:=by
  rw[ZC];intro n p6;have:n∈(ps.zip eo).map (·.1):=by rw[xp h1];rw[show ps.take f=(ps.take eo.length).take f by rw[E?,mq (hv▸b7 f e)]]at p6;exact List.mem_of_mem_take p6
  have:=J8 this;rcases q:T? n (ps.zip eo)with _|_;.rw[q]at this;cases this
  exact nofun
 rw[X5];rw[am (by simp)];rw[XU];refine aA (aW ?_);rw[am (by simp)];refine aW ?_;have X6:lb (ps.zip eo) ((ps.drop f).zip dl)=ps.zip (eo++dl.drop e):=by
  have e1:(ps.drop f).zip dl=((ps.drop f).take e).zip (dl.take e)++(ps.drop eo.length).zip (dl.drop e):=by have:=L7 (l₁:=(ps.drop f).take e) (r₁:=(ps.drop f).drop e) (l₂:=dl.take e) (r₂:=dl.drop e) (by rw[ig,sf,ig,hq,xE]);rw[kw,kw,List.drop_drop,hv.symm]at this;exact this
  have e2:ps.zip (eo++dl.drop e)=ps.zip eo++(ps.drop eo.length).zip (dl.drop e):=by have:=L7 (l₁:=ps.take eo.length) (r₁:=ps.drop eo.length) (l₂:=eo) (r₂:=dl.drop e) ht;rw[kw]at this;rw[this];have h5:=L7 (l₁:=ps.take eo.length) (r₁:=ps.drop eo.length) (l₂:=eo) (r₂:=([]:List aH)) ht;rw[kw,bK,List.zip_nil_right,bK]at h5;rw[h5]
  rw[e1,XV,XX,e2];.rw[e2.symm,xp (gG hw)];exact(List.take_sublist _ _).nodup hn
  .intro x hx;apply J8;rw[xp h1];have h6:x.1∈(ps.drop f).take e:=(U? hx).1;rw[List.take_drop,hv.symm]at h6;exact List.mem_of_mem_drop h6
 rw[X6];have:=XY (ps:=ps) (vs:=eo++dl.drop e) [] hn hw.symm (by simp);rw[xA]at this;rw[this];exact h
theorem X7:∀(l:List (bc×qr))(n:Nat)(Z:List (bc×bq)),(Z.lookup x).isSome=Y->((Cg n l Z).lookup x).isSome=true:=by intro l;induction l with|nil=>intro _ _ h;exact h|cons U r X=>
  obtain⟨k,q⟩:=U;intro n Z h;unfold cellsFrom;split
  .refine X _ _ ?_;rw[jt];rcases x==k with _|_;.exact h
   rfl
  .exact X _ _ h
theorem J9:∀(l:List (bc×qr))(n:Nat)(Z:List (bc×bq)),l.lookup x=D .cell->((Cg n l Z).lookup x).isSome=true:=by intro l;induction l with|nil=>intro _ _ h;simp at h|cons U r X=>
  obtain⟨k,q⟩:=U;intro n Z h;rw[jt]at h;unfold cellsFrom;rcases e:x==k with _|_
  .rw[e]at h;split;.exact X _ _ h
   .exact X _ _ h
  rw[e]at h;cases h;rw[af (by rfl)];refine X7 r _ _ ?_;rw[jt,e];rfl
theorem X8:∀(l:List (bc×aH))(Z:bc->Option aH),x∉l.map (·.1)->L8 J l Z x=Z x:=by intro l;induction l with|nil=>intro Z _;exact rfl|cons X r U=>
have n:=X.1;have v:=X.2;intro Z h;simp only[ij,cc,not_or]at h;unfold PySem.bindL;rw[U _ h.2];split;.simp[h.1]
.rfl
theorem X9:∀(l:List (bc×aH))(Z:bc->Option aH),x∉l.map (·.1)->L9 J l Z x=Z x:=by intro l;induction l with|nil=>intro Z _;exact rfl|cons X r U=>
have n:=X.1;have v:=X.2;intro Z h;simp only[ij,cc,not_or]at h;unfold PySem.bindC;rw[U _ h.2];split;.rfl
.simp[h.1]
theorem Yb(H:Q x=D .local):∀(l:List (bc×aH))(X:bc->Option aH),(l.map (·.1)).Nodup->(x,v)∈l->L8 Q l X x=D v:=by intro l;induction l with|nil=>intro X _ h;simp at h|cons U r O=>
have n:=U.1;have u:=U.2;intro X J h;have Z:=fg.mp J;unfold PySem.bindL;rcases cc.mp h with e|h;.clear J h;cases e;rw[X8 r _ Z.1,af H];simp
.exact O _ Z.2 h
theorem Yc(Q:O x=D .cell):∀(l:List (bc×aH))(X:bc->Option aH),(l.map (·.1)).Nodup->(x,v)∈l->L9 O l X x=D v:=by intro l;induction l with|nil=>intro X _ h;simp at h|cons J r E=>
have n:=J.1;have u:=J.2;intro X H h;have Z:=fg.mp H;unfold PySem.bindC;rcases cc.mp h with e|h;.clear H h;cases e;rw[X9 r _ Z.1,am (by rw[Q];decide)];simp
.exact E _ Z.2 h
def xq(X:Wx)(v:aH)(ds:List aa):Prop:=(v=.none/\ds=[])\/∃T c O items n E,v=.ref T/\X.K.lookup T=D ⟨c,O,.seq items n,E⟩/\eI (fun a=>X.K.lookup a) [] ds items.toList
structure un(X:Wx)(a:bq)(F:Fn)(cls:aH)(dict:Option bq)(fd:FuncData)(sl:Array (Option aH))(as:List Arg)(hO:List cN)(body:List jr)(names:List (Option bc)):Prop where
obj:X.K.lookup a=D ⟨cls,dict,.func fd,sl⟩Ka:fd.params=⟨[],as,I,[],[],I,hO⟩nd:(as.map (·.arg)).Nodup
dT:as.length=F.dT
kI:names.length=F.kI
take:names.take F.dT=as.map fun a=>D a.arg
Kb:(names.filterMap id).Nodup
Kc:fd.body=.stmts body
mt:oI X.N F.body ⟨names,fd.scope⟩ body=Y
Ke:fd.closure=[]aj:fd.globals=js
blt:fd.builtins=qp
kind:fd.scope.kind=.function
co:fd.scope.isCoroutine=ai
gen:fd.scope.isGenerator=ai
code:codeIn X.K fd.code fd.qualname=Y
pk:∀a∈as,fd.scope.names.lookup a.arg=D .local\/fd.scope.names.lookup a.arg=D .cell
Kf:xq X fd.defaults F.hO
Bu:F.hO.length<=F.dT
section
theorem cD.Bv(k:∀a o,y.s.heap.get? a=D o->h.get? a=D o)(x:cD P (y.hp h t) z)(hp:∀a,P a->y.s.heap.get? a=I):bY y z where fr:=x.fr;g:=x.g;gn a o e:=(x.gn a o e).imp id fun q=>uv.mp fun w=>(sg.mp w).elim fun o e=>nn (k _ _ e) q;mm:=x.mm;mn i p e:=(x.mn i p e).imp id fun q=>⟨uv.mp fun w=>(sg.mp w).elim fun o e=>nn (k _ _ e) q.1,uv.mp fun w=>(sg.mp w).elim fun o e=>nn (k _ _ e) q.2⟩;keep a o e _ hm:=x.keep a o (k a o e) (fun z=>nn e (hp a z)) hm;gf a e:=(sg.mp e).elim fun o e=>x.gf a (nn (k _ _ e))
end
theorem Kg{ps:List bc}{i:Nat}(Z:eI G m ds vs)(X:ps[i]?=D x)(U:ds[i]?=D d):∃v,(x,v)∈ps.zip vs/\VR G m d v:=(Z.iu U).elim fun v h=>⟨v,jR (List.getElem?_zip_eq_some.mpr ⟨X,h.1⟩:(ps.zip vs)[i]?=D (x,v)),h.2⟩
theorem xq.Yd(M:Model)(x:xq X v ds)(Z:X.K.In h):∃r dl,uI M h (seqItems? v) r/\(r.getD #[]).toList=dl/\eI (fun a=>X.K.lookup a) [] ds dl:=by
 rcases x with⟨rfl,rfl⟩|⟨T,c,H,items,n,O,rfl,U,J⟩;.exact⟨I,[],LX rfl,rfl,.nil⟩
 .refine⟨D items,items.toList,?_,rfl,J⟩;intro A Q E s k q;exact Lq (k _ _ (Z _ _ U)) rfl q
structure Bw(X:Wx)(fn:Nat->Option Fn):Prop where
Kh:∀f F,fn f=D F->∃cls dict fd sl as hO body names,un X (X.k4 f) F cls dict fd sl as hO body names
av:nsOkIn X.K cStatics=Y/\nsIn X.K cStatics "sys.recursionlimit"=D I
t1:uc X
t2:oN X
section
variable{vs ds:List aa}
theorem Ki(Z:un X a F M O fd r as L E U)(J:ds.length=F.dT){i:Nat}(C:U[i]?=D (D x))(H:(ds.map D++BF (F.kI-F.dT) I)[i]?=D (D d)):(as.map (·.arg))[i]?=D x/\ds[i]?=D d:=by
 have hi:i<F.dT:=by
  rcases qg i F.dT with z|z;.exact z
  .rw[jN (by rw[aJ,J];exact z)]at H;cases(List.mem_replicate.mp (jR H)).2
 rw[ic (by rw[aJ,J];exact hi),gp]at H;obtain⟨u,K,A⟩:=qo.mp H;cases A;have Q:(U.take F.dT)[i]?=D (D x):=(BX hi).trans C;rw[Z.take,gp]at Q;obtain⟨a,g,j⟩:=qo.mp Q;clear C Q;cases j;exact⟨by rw[gp,g];rfl,K⟩
theorem Ye(Z:un X a F cls dict fd sl as hO body names)(S:HR X σ y)(hv:y.Vs ds ws)(xr:ds.length=F.dT){env:mF}{s':cI}(he:env=newEnv fd.scope y.s.heap.objs.size fd.globals (Cg (y.s.heap.objs.size+1) fd.scope.names []) qn (D a) fd.code I fd.builtins)(x:InCallC y.s env.locals (L8 env.kindOf ((as.map (·.arg)).zip ws) fun _=>I) env.cells (L9 env.kindOf ((as.map (·.arg)).zip ws) fun _=>I) s')(hs:y.s.heap.objs.size=env.locals)(h':lu)(t:Nat)(e':s'={y.s with heap:=h',toks:=t})(keep:∀a o,y.s.heap.get? a=D o->h'.get? a=D o):LR ⟨names,fd.scope⟩ env (ds.map D++BF (F.kI-F.dT) I) (y.hp h' t)/\∀b,gh ⟨names,fd.scope⟩ env b->y.s.heap.get? b=none:=by
 subst e';have iV:∀a,y.s.heap.objs.size<=a->y.s.heap.get? a=none:=fun a ha=>by
  rcases e:y.s.heap.get? a with _|o';.rfl
  exact ae (sj e) (hE.mpr ha)
 have Kj:env.scope=fd.scope:=by rw[he];rfl
 have Kk:env.kindOf=fun x=>fd.scope.names.lookup x:=by funext y;show env.scope.names.lookup y=_;rw[Kj]
 have ua:env.cells=Cg (y.s.heap.objs.size+1) fd.scope.names []:=by rw[he];rfl
 have wX:(((as.map (·.arg)).zip ws).map (·.1)).Nodup:=by
  have q:ws.length=(as.map (·.arg)).length:=by rw[hv.length,xr,aJ,Z.dT]
  rw[xp (gG q),q,sd];exact Z.nd
 refine⟨⟨Kj,Z.kind,by rw[he];exact Z.aj,by rw[he];exact Z.blt,?_,Z.Kb,(show cp y _ from cp.new S (iV _ (gG hs))),⟨_,x.toInCall.ns,fun i y d' h1 h2 h3=>?_⟩,fun u hy=>?_,fun y z a h1 h2=>name_of_addr x.apart (Ch h1) (Ch h2)⟩,fun a o=>?_⟩
 .have:F.dT<=F.kI:=by have:=aI r6 Z.take;rw[ig,aJ,Z.dT,Z.kI]at this;exact this▸jU _ _
  rw[aT,aJ,xr,List.length_replicate];exact(uC this).trans Z.kI.symm
 .refine cps fun P hP=>?_;obtain⟨q1,q2⟩:=Ki Z xr h1 h3;obtain⟨v,q3,q4⟩:=Kg hv q1 q2;refine hP ?_;exact⟨v,Yb (by rw[Kk];exact h2) _ _ wX q3,q4⟩
 .obtain⟨a,ha⟩:=BU.mp (J9 fd.scope.names (_+1) [] hy);rw[<-ua]at ha;have Kl:=x.above u a (Ch ha);refine⟨a,ha,⟨(show cp y _ from cp.new S (iV a (bh (gG hs) (lk Kl)))),jm Kl⟩,_,x.cell u a ha,fun i d' h1 h3=>?_⟩;obtain⟨q1,q2⟩:=Ki Z xr h1 h3;obtain⟨v,q3,q4⟩:=Kg hv q1 q2;exact⟨v,Yc (by rw[Kk];exact hy) _ _ wX q3,q4⟩
 .rcases o with rfl|⟨y,_,hy⟩;.exact iV _ (gG hs)
  .exact iV _ (bh (gG hs) (lk (x.above y a (Ch hy))))
theorem Yg(Z:un X a F cls dict fd sl as hO body z)(K:ju)(T:fc ⟨X,K,n,u⟩)(J:nsOkIn X.K cStatics=Y/\nsIn X.K cStatics "sys.recursionlimit"=D I)(c:bindL F vs=D lc)(h:wSs WD K F.body lc σ (kR k))(R:Rc ⟨X,K,n+6,u+63⟩ A)(S:HR X σ y)(v:y.Vs vs ws)(kk:k7 X y k Q):codeAny (model X.prog X.w) A (.call (.ref a) ⟨ws,[]⟩) (nq Q) y.s:=by
 obtain⟨O,c⟩:=ca c;cases c;have m:=S.hY;refine cps fun P t=>?_;obtain⟨r,dl,b,l,g⟩:=Z.Kf.Yd (model X.prog X.w) m;refine t ?_;have E:=g.length;have C:=v.length;have f:=Z.dT;have h1:vs.length<=F.dT:=cz (bL O);have h2:F.dT<=vs.length+F.hO.length:=cz (bR O);have h3:=Z.Bu;have j:(vs++F.hO.drop (F.hO.length-(F.dT-vs.length))).length=F.dT:=by rw[aT,sf,S? (Nat.sub_le_iff_le_add'.mpr h2),uC h1]
 refine codeAny_call_function (iX (KM (fe _)) R.2.1) (m _ _ Z.obj) rfl Z.co Z.gen Z.Kc (codeRec_of m Z.code) (XZ Z.Ka Z.nd b l (by rw[C,f];exact h1) (by rw[C,f,E];exact h2) (by rw[E,f];exact Z.Bu) ?_);rw[Z.Ke,E,f,C];refine wpAny_newFunctionEnv_cells Z.kind (fun y hy=>?_) fun env he s' x=>?_;.refine cps fun P t=>?_;obtain⟨a,ha,M⟩:=g7.mp ((U? hy).1:y.1∈as.map (·.arg));refine t ?_;exact(Z.pk a ha).imp (fun q=>M▸q) fun q=>⟨M▸q,J9 _ _ _ (M▸q)⟩
 obtain⟨h',tk,rfl,U⟩:=x.done;have d:X.K.In h':=fun a o e=>U _ _ (m a o e);obtain⟨L,H⟩:=Ye Z S (F2.append v ((F2.aq (fun q=>q.aq S.base (fun i p e=>nS (List.getElem?_nil.symm.trans e))) g).drop _)) j he x (by rw[he];rfl) h' tk rfl U;refine⟨⟨h'.nsMap cStatics,.of_isNs (isNs_of_in d J.1),nsMap_none_of_in d J.1 J.2⟩,codeAny_func ?_⟩;have hR:Rm ⟨X,K,n,u⟩ (A.deeper env):=by
  refine⟨R.1,?_,?_⟩;.have:=R.2.1;show A.depth+1+n+5<=_;dsimp only at this;exact c5 0x2caa8280082c9a968000000 rfl this
  .have:=R.2.2;show A.units+3+u+60<=_;dsimp only at this;rw[eL,eL,nA 3];exact this
 exact rR T F.body Z.mt (y:=y.hp h' tk) h ⟨hR,L,S.more U⟩ ⟨fun h x Z=>kk _ _ _ _ h (cD.Bv U x H) Z.S .none,fun h x S v=>kk _ _ _ _ h (cD.Bv U x H) S v,fun h x Z=>kk _ _ _ _ h (cD.Bv U x H) Z.S .none⟩
end
theorem Yh(T:Bw X U)(H:w7 ⟨X,iM WD U n,d,u⟩)(h:iM WD U (n+1) f vs σ k){Q:aH->cI->Prop}(R:Rc ⟨X,iM WD U n,d+6,u+63⟩ A)(S:HR X σ y)(C:y.Vs vs M)(kk:k7 X y k Q):codeAny (model X.prog X.w) A (.call (.ref (X.k4 f)) ⟨M,[]⟩) (nq Q) y.s:=by refine cps fun P L=>?_;obtain⟨F,lc,K,g,h⟩:=CH h;obtain⟨j,O,fd,v,as,r,E,J,Z⟩:=T.Kh f F K;refine L ?_;exact Yg Z (iM WD U n) ⟨T.t1,T.t2,H,WC n⟩ T.av g h R S C kk
theorem Yi(T:Bw X Z)(n:Nat):w7 ⟨X,iM WD Z n,6*n,63*n⟩:=Nat.rec (motive:=fun n=>w7 ⟨X,iM WD Z n,6*n,63*n⟩) (fun h=>(show False from h).elim) (fun n H=>fun h=>Yh T H h) n
end
section
open PySem.W PySem.Calls PyProof.Rows
section
variable(K:Frag)
noncomputable def By(d:Data)(p:List aH->Bool):Bool:=match d with|.seq xs _=>p xs.toList|_=>ai
theorem Km{p:List aH->Bool}(h:By d p=Y):∃xs n,d=.seq xs n/\p xs.toList=true:=by cases d with|seq xs n=>exact⟨xs,n,rfl,h⟩|_=>exact nB h
noncomputable def Ko(o:Option iH)(p:List aH->Bool):Bool:=o.any fun b=>decide (b.cls=.type "tuple")&&(b.dict.isNone&&(b.slots.toList.isEmpty&&By b.data p))
noncomputable def xt:aH->aH->Bool|.none,.none=>Y|.bool a,.bool b=>a==b|.int i _,.int j _=>i==j|.str s _,.str t _=>s==t|_,_=>ai
mutual noncomputable def Bz:aa->aH->Bool|.none,v=>xt .none v|.bool a,v=>xt (.bool a) v|.int i,v=>xt (.int i 0) v|.str s,v=>xt (.str s 0) v|.ab l,v=>(match v with|.ref a=>Ko (K.lookup a) (xu l)|_=>ai)|.ref _,_=>ai noncomputable def xu:List aa->List aH->Bool|[],l=>l.isEmpty|d::r,l=>(match l with|v::Z=>Bz d v&&xu r Z|[]=>ai)end
theorem Yj{o:Option iH}{p:List aH->Bool}(h:Ko o p=Y):∃xs n,o=D (rG xs n)/\p xs.toList=true:=by
 rcases o with _|b;.exact nB h
 obtain⟨c,d,Z,X⟩:=b;obtain⟨xs,n,e,U⟩:=Km (bR (bR (bR h)));refine⟨xs,n,?_,U⟩;rw[show Z=_ from e,show c=_ from cz (bL h),show d=I from nJ.mp (bL (bR h)),show X=#[]from Array.toList_eq_nil_iff.mp (nM.mp (bL (bR (bR h))))]
variable{K}
mutual theorem Kp:∀{d:aa}{v:aH},Bz K d v=Y->VR (fun a=>K.lookup a) [] d v
|.none,v,h=>by induction v using uK with|none=>exact .none|_=>exact nB h
|.bool a,v,h=>by induction v using uK with|bool b=>cases aU.mp (show(a==b)=Y from h);exact .bool|_=>exact nB h
|.int a,v,h=>by induction v using uK with|int b t=>cases aU.mp (show(a==b)=Y from h);exact .int|_=>exact nB h
|.str a,v,h=>by cases v with|str b t=>cases aU.mp (show(a==b)=Y from h);exact .str|_=>exact nB h
|.ab l,v,h=>by induction v using uK with|ref a=>exact(by obtain⟨xs,n,e,h⟩:=Yj h;exact .ab e (BA h))|_=>exact nB h
|.ref i,v,h=>nB h theorem BA:∀{Z:List aa}{vs:List aH},xu K Z vs=Y->eI (fun a=>K.lookup a) [] Z vs
|[],vs,h=>by induction vs using eQ with|nil=>exact .nil|cons=>exact nB h
|d::r,vs,h=>by induction vs using eQ with|nil=>exact nB h|cons v X=>exact .cons (Kp (bL h)) (BA (bR h))end
variable(K)
noncomputable def Kq(o:Option iH)(p:List aH->Bool):Bool:=o.any fun b=>By b.data p
theorem Yk{o:Option iH}{p:List aH->Bool}(h:Kq o p=Y):∃c d items n Z,o=D ⟨c,d,.seq items n,Z⟩/\p items.toList=true:=by
 rcases o with _|b;.exact nB h
 obtain⟨c,d,X,Z⟩:=b;obtain⟨xs,n,e,U⟩:=Km h;exact⟨c,d,xs,n,Z,by rw[show X=_ from e],U⟩
noncomputable def Kr(v:aH)(Z:List aa):Bool:=match v with|.none=>Z.isEmpty|.ref T=>Kq (K.lookup T) (xu K Z)|_=>ai
theorem Yl{X:Wx}(h:Kr X.K v ds=Y):xq X v ds:=by induction v using uK with|none=>exact .inl ⟨rfl,nM.mp h⟩|ref T=>exact(by obtain⟨c,d,items,n,Z,e,h⟩:=Yk h;exact .inr ⟨T,c,d,items,n,Z,rfl,e,BA h⟩)|_=>exact nB h
noncomputable def Ks(d:Data):Option FuncData:=match d with|.func fd=>D fd|_=>I
noncomputable def BB(o:Option iH):Option FuncData:=o.bind fun b=>Ks b.data
noncomputable def Ku(a:Arguments):Bool:=a.posonlyargs.isEmpty&&(a.vararg.isNone&&(a.kwonlyargs.isEmpty&&(a.kw_defaults.isEmpty&&a.kwarg.isNone)))
theorem Ym(h:Ku a=Y):a=⟨[],a.args,I,[],[],I,a.defaults⟩:=by obtain⟨p,as,v,Z,X,U,J⟩:=a;rw[show p=[]from nM.mp (bL h),show v=I from nJ.mp (bL (bR h)),show Z=[]from nM.mp (bL (bR (bR h))),show X=[]from nM.mp (bL (bR (bR (bR h)))),show U=I from nJ.mp (bR (bR (bR (bR h))))]
noncomputable def Yn(N:rD)(F:Fn)(c:Cn)(b:FuncBody):Bool:=match b with|.stmts Z=>oI N F.body c Z|.expr _=>ai
noncomputable def Kv(N:rD)(a:bq)(F:Fn)(Z:List (Option bc)):Bool:=(BB (K.lookup a)).any fun fd=>Ku fd.params&&(decide ((fd.params.args.map (·.arg)).Nodup)&&(fd.params.args.length==F.dT&&(Z.length==F.kI&&(decide (Z.take F.dT=fd.params.args.map fun a=>D a.arg)&&(decide ((Z.filterMap id).Nodup)&&(fd.closure.isEmpty&&(fd.globals==js&&(fd.builtins==qp&&(fd.scope.kind==.function&&(!fd.scope.isCoroutine&&(!fd.scope.isGenerator&&(codeIn K fd.code fd.qualname&&(fd.params.args.all (fun a=>fd.scope.names.lookup a.arg==D .local||fd.scope.names.lookup a.arg==D .cell)&&(Kr K fd.defaults F.hO&&(decide (F.hO.length<=F.dT)&&Yn N F ⟨Z,fd.scope⟩ fd.body)))))))))))))))
theorem Yo{o:Option iH}(h:BB o=D fd):∃X Z U,o=D ⟨X,Z,.func fd,U⟩:=by
 rcases o with _|b;.exact nS h
 obtain⟨c,d,J,U⟩:=b;have h:Ks J=D fd:=h;cases J with|func f=>cases h;exact⟨_,_,_,rfl⟩|_=>exact nS h
theorem Yp{X:Wx}(h:Kv X.K X.N a F names=Y):∃Q Z fd M as L U names,un X a F Q Z fd M as L U names:=by refine cps fun P A=>?_;obtain⟨fd,d,j⟩:=(Ma ..).mp h;refine A ?_;clear h;refine cps fun P A=>?_;obtain⟨Q,Z,M,r⟩:=Yo d;refine A ?_;have h:=bR j;have O:=bR (bR (bR h));have E:=bR (bR (bR O));have C:=bR (bR (bR E));have J:=bR (bR (bR C));have H:=bR (bR (bR J));induction g:fd.body using FuncBody.casesOn with|stmts U=>rw[g]at H;exact⟨Q,Z,fd,M,fd.params.args,fd.params.defaults,U,names,{obj:=r,Ka:=Ym (bL j),nd:=cz (bL h),dT:=aU.mp (bL (bR h)),kI:=aU.mp (bL (bR (bR h))),take:=cz (bL O),Kb:=cz (bL (bR O)),Kc:=g,mt:=H,Ke:=nM.mp (bL (bR (bR O))),aj:=aU.mp (bL E),blt:=aU.mp (bL (bR E)),kind:=aU.mp (bL (bR (bR E))),co:=gX (bL C),gen:=gX (bL (bR C)),code:=bL (bR (bR C)),pk:=fun a u=>(r9.mp (fQ.mp (bL J) a u)).imp (fun e=>aU.mp e) fun e=>aU.mp e,Kf:=Yl (bL (bR J)),Bu:=cz (bL (bR (bR J)))}⟩|expr=>rw[g]at H;exact nB H
noncomputable def Yq(C:bq)(x:bc):Bool:=plainGet K C x&&(hasDictIn K C&&((match findIn K (.ref C) x with|some Z=>noGet K Z|none=>ai)&&(findIn K (.ref C) "__setattr__"==D (D (.builtin "object.__setattr__"))&&(plainOver K C&&takerIn K C x==D I))))
noncomputable def Yr(C:bq)(x:bc)(f:bq):Bool:=plainGet K C x&&(findIn K (.ref C) x==D (D (.ref f))&&typeIn K (.ref f)==D (.type "function"))
noncomputable def Ys(C:bq)(i:Option bq):Bool:=makesIn K C&&(match i with|some f=>findIn K (.ref C) "__init__"==D (D (.ref f))&&typeIn K (.ref f)==D (.type "function")|none=>findIn K (.ref C) "__init__"==D (D (.builtin "object.__init__")))
noncomputable def Kw(x:bc)(a:bq):Bool:=nsIn K js x==D (D (.ref a))&&keepIn K (.ref a)
noncomputable def Kx(x:bc)(d:aa):Bool:=(nsIn K js x).any fun o=>o.any fun v=>Bz K d v
end
noncomputable def gj(p:Nat->Z->Bool):Nat->List Z->Bool|_,[]=>Y|i,x::r=>p i x&&gj p (i+1) r
theorem Kz{Z:Type}{p:Nat->Z->Bool}:∀{l:List Z}{k i:Nat}{x:Z},gj p k l=Y->l[i]?=D x->p (k+i) x=Y
|[],k,i,x,_,h=>nS h|y::r,k,i,x,h,e=>by
 rcases i with _|i;.cases e;exact bL h
 exact(r5 k 1 i:k+1+i=k+(i+1))▸Kz (bR h) e
theorem oS{Z:Type}{p:Nat->Z->Bool}{l:List Z}{x:Z}(h:gj p 0 l=Y)(e:l[i]?=D x):p i x=true:=gk i▸Kz h e
theorem rS{p:Nat->Z->Bool}:∀(n:Nat){k:Nat}{l:List Z},gj p k (l.take n)=Y->gj p (k+n) (l.drop n)=Y->gj p k l=Y|0,_,_,_,h=>h|_+1,_,[],_,_=>rfl|n+1,k,_::_,h,X=>eK.mpr ⟨bL h,rS n (bR h) ((r5 k 1 n).symm▸X)⟩
end
section
open PySem.W PySem.Calls PyProof.Rows
noncomputable def KF(P:uL):Frag:=(iW 1229).zip (H.mH P)
noncomputable def Yt:List Nat:=[21,36,57,77,96,103,110,117,163,170,177,192,200,208,216,223,230,237,243,252,259,266,273,280,287,294,299,306,313,320,327,341,348,355,362,369,376,383,390,397,404,411,418,425,432,439,446,453,465,472,479,486,491,498,505,512,517,524,531,536,543,550,557,564,571,591,598,605,612,619,640,647,654,661,668,675,682,696,703,710,717,724,731,738,745,752,759,766,773,780,787,794,801,808,815,822,829,836,843,850,857,864,869,874,881,888,895,900,907,914,921,928,935,942,949,956,963,970,977,984,991,998,1005,1012,1019,1026,1033,1040,1054,1073,1085,1093,1100,1107,1114,1121,1128,1135,1140,1147,1152,1159,1164,1171,1178,1185,1192,1199,1204,1209,1216,1223,1228]
noncomputable def Yu:List Nat:=[39,60,80,120,180,456,622,685,1057,1076]
noncomputable def nz(i:Nat):Addr:=Yt.getD i 0
noncomputable def rT(i:Nat):Addr:=Yu.getD i 0
noncomputable def NM:rD where nm i:=mJ[i]?;gn i:=yk[i]?;fn i:=(qI[i]?).getD I;cn i:=ym[i]?
noncomputable def Yv(K:Frag)(a:bq)(n:Nat):List (Option bc):=let l:=(BB (K.lookup a)).elim [] fun fd=>fd.scope.names.filterMap fun x=>if x.2=.globalImplicit then I else D (D x.1);l++BF (n-l.length) I
section
variable(P:uL)
noncomputable abbrev uo:Nat->Option Fn->Bool:=fun i F=>F.all fun F=>Kv (KF P) NM (nz i) F (Yv (KF P) (nz i) F.kI)
theorem Yw:gj (uo P) 0 (kJ.take 40)=true:=by kernel_rfl
theorem Yx:gj (uo P) 40 ((kJ.drop 40).take 40)=true:=by kernel_rfl
theorem Yy:gj (uo P) 80 (((kJ.drop 40).drop 40).take 40)=true:=by kernel_rfl
theorem Yz:gj (uo P) 120 (((kJ.drop 40).drop 40).drop 40)=true:=by kernel_rfl
theorem YA:gj (uo P) 0 kJ=true:=rS 40 (Yw P) (rS 40 (Yx P) (rS 40 (Yy P) (Yz P)))
theorem YB:gj (fun c l=>l.all fun f=>match mJ[f]? with|some x=>Yq (KF P) (rT c) x|none=>Y) 0 u6=true:=by kernel_rfl
theorem KA:gj (fun c l=>l.all fun q=>keepIn (KF P) (.ref (nz q.2))&&match mJ[q.1]? with|some x=>Yr (KF P) (rT c) x (nz q.2)|none=>Y) 0 qJ=true:=by kernel_rfl
theorem YC:gj (fun c i=>match i with|some j=>Ys (KF P) (rT c) (j.map nz)|none=>Y) 0 yn=true:=by kernel_rfl
noncomputable abbrev xv:Nat->Option bc->Bool:=fun f x=>match x with|some x=>Kw (KF P) x (nz f)|none=>Y
theorem YD:gj (xv P) 0 (qI.take 50)=true:=by kernel_rfl
theorem YE:gj (xv P) 50 ((qI.drop 50).take 50)=true:=by kernel_rfl
theorem YF:gj (xv P) 100 ((qI.drop 50).drop 50)=true:=by kernel_rfl
theorem YG:gj (xv P) 0 qI=true:=rS 50 (YD P) (rS 50 (YE P) (YF P))
theorem YH:gj (fun c x=>Kw (KF P) x (rT c)) 0 ym=true:=by kernel_rfl
theorem YI:gj (fun g x=>match yl[g]? with|some d=>Kx (KF P) x d|none=>Y) 0 yk=true:=by kernel_rfl
theorem KB:∀b,(nsIn (KF P) js (tT b)==D I&&nsIn (KF P) qp (tT b)==D (D (A1 b)))=true:=by intro b;cases b<;>kernel_rfl
theorem KD:(nsIn (KF P) js "range"==D I&&nsIn (KF P) qp "range"==D (D (.type "range")))=true:=by kernel_rfl
theorem KE:(nsOkIn (KF P) cStatics&&nsIn (KF P) cStatics "sys.recursionlimit"==D I)=true:=by kernel_rfl
theorem YJ:((KF P).lookup mA).isSome=true:=by kernel_rfl
end
theorem YK:(decide mJ.Nodup)=true:=by kernel_rfl
theorem YL:(decide (mJ.take 4=[nj 0,nj 1,nj 2,nj 3]))=true:=by kernel_rfl
noncomputable def XW(w:qm):Wx where prog:=H.pw;w:=w;K:=KF w.params;N:=NM;gc:=rT;k4:=nz;AQ:=fun i j x h1 h2=>by obtain⟨hi,e1⟩:=bo.mp h1;obtain⟨hj,e2⟩:=bo.mp h2;exact(xy (cz YK)).mp (e1.trans e2.symm)
theorem KG:∀{l:List (Nat×Nat)}{k v:Nat},sA l k=D v->(k,v)∈l
|[],k,v,h=>nS h|(a,b)::r,k,v,h=>by
 by_cases e:a=k;.cases(af e).symm.trans h;cases e;exact .head _
 .exact .tail _ (KG ((am e).symm.trans h))
theorem KH{c k f:Nat}(h:WD.n5 c k=D f):∃l,qJ[c]?=D l/\(k,f)∈l:=by cases e:qJ[c]? with|none=>exact nS ((show(match qJ[c]? with|some l=>sA l k|none=>I)=D f from h).symm.trans (by rw[e])|>.symm)|some l=>exact⟨l,rfl,KG ((show(match qJ[c]? with|some l=>sA l k|none=>I)=D f from h).symm.trans (by rw[e])|>.symm)⟩
theorem BC{bz:Type}{l:List (Option bz)}{i:Nat}{x:bz}(h:(l[i]?).getD I=D x):l[i]?=D (D x):=by cases e:l[i]? with|none=>rw[e]at h;exact nS h|some y=>rw[e]at h;exact aI D h
theorem YM(w:qm):oN (XW w)where
rK:=YJ w.params;gx c f x h hx:=by have h':(match u6[c]? with|some l=>l.contains f|none=>ai)=true:=h;cases hl:u6[c]? with|none=>rw[hl]at h';exact nB h'|some l=>rw[hl]at h';have h2:=fQ.mp (oS (YB w.params) hl) f (Q?.mp h');rw[show mJ[f]?=D x from hx]at h2;have h4:=bR (bR h2);refine⟨⟨bL h2,bL (bR h2)⟩,?_,aU.mp (bL (bR h4)),bL (bR (bR h4)),aU.mp (bR (bR (bR h4)))⟩;have q:=bL h4;cases ha:findIn (KF w.params) (.ref (rT c)) x with|none=>rw[ha]at q;exact nB q|some a=>rw[ha]at q;exact⟨a,ha,q⟩
n5 c k f x h hx:=by obtain⟨l,hl,hm⟩:=KH h;have h2:=bR (fQ.mp (oS (KA w.params) hl) _ hm);rw[show mJ[k]?=D x from hx]at h2;exact⟨bL h2,aU.mp (bL (bR h2)),aU.mp (bR (bR h2))⟩
theorem YN(w:qm):uc (XW w)where
mI g x d hx hd:=by have h1:=oS (YI w.params) (show yk[g]?=D x from hx);rw[show yl[g]?=D d from hd]at h1;have h2:Kx (KF w.params) x d=true:=h1;obtain⟨o,ho,h3⟩:=(Ma ..).mp h2;obtain⟨v,rfl,h4⟩:=(Ma ..).mp h3;exact⟨v,ho,Kp h4⟩
fn f x hx:=by have h1:=oS (YG w.params) (BC (show(qI[f]?).getD I=D x from hx));exact⟨aU.mp (bL h1),bR h1⟩
cn c x hx:=by have h1:=oS (YH w.params) (show ym[c]?=D x from hx);exact⟨aU.mp (bL h1),bR h1⟩
bi b:=⟨aU.mp (bL (KB w.params b)),aU.mp (bR (KB w.params b))⟩;gr:=⟨aU.mp (bL (KD w.params)),aU.mp (bR (KD w.params))⟩;aQ k hk:=by
 have h2:(mJ.take 4)[k]?=D (nj k):=by rw[show mJ.take 4=_ from cz YL];induction k,hk using qM<;>rfl
 exact(BX hk).symm.trans h2
Ju c k f h:=by obtain⟨l,hl,hm⟩:=KH h;exact bL (fQ.mp (oS (KA w.params) hl) _ hm)
Jv c i h:=by have h1:=oS (YC w.params) (BC (show(yn[c]?).getD I=D i from h));refine⟨bL h1,?_⟩;cases i with|none=>exact aU.mp (bR h1)|some f=>exact⟨aU.mp (bL (bR h1)),aU.mp (bR (bR h1))⟩
theorem YO(w:qm):Bw (XW w) lM where
Kh f F h:=by have h0:kJ[f]?=D (D F):=BC (show(kJ[f]?).getD I=D F from(by cases e:kJ[f]?<;>rfl:(kJ[f]?).getD I=(kJ[f]?).join).trans h);exact Yp (X:=XW w) (oS (YA w.params) h0)
av:=⟨bL (KE w.params),aU.mp (bR (KE w.params))⟩;t1:=YN w;t2:=YM w
end
section
open PySem.W PySem.Calls PyProof.Rows
theorem YQ(P:uL):((KF P).all fun p=>p.2.cls !=.type "list")=true:=by kernel_rfl
theorem YR(P:uL):(decide ((H.mH P).length=1229))=true:=by kernel_rfl
theorem YS(P:uL):((H.mH P).all fun o=>!o.isFreed)=true:=by kernel_rfl
theorem YT:∀{l:List iH}{k a:Nat}{o:iH},((K7 k l.length).zip l).lookup a=D o->∃i,a=k+i/\l[i]?=D o:=by intro l;induction l with|nil=>intro k a o h;exact nS h|cons x r Z=>intro k a o h;simp only[iF,List.range'_succ,List.zip_cons_cons,jt]at h;induction e:a==k using xF with|true=>rw[e]at h;exact⟨0,aU.mp e,h⟩|false=>rw[e]at h;obtain⟨i,X,U⟩:=Z h;exact⟨i+1,X.trans (r5 k 1 i),U⟩
theorem YU{X:Type}{k:X}:∀{l:List (Nat×X)},l.lookup x=D k->(x,k)∈l:=by intro l;induction l with|nil=>intro h;exact nS h|cons U r J=>obtain⟨n,v⟩:=U;intro h;rw[jt]at h;induction Z:x==n using xF with|true=>rw[Z]at h;cases h;rw[aU.mp Z];exact .head _|false=>rw[Z]at h;exact .tail _ (J h)
theorem YV(ci:H.YP w h):(KF w.params).In h:=by intro a o e;unfold KF at e;rw[K8,<-(cz (YR w.params))]at e;obtain⟨i,X,Z⟩:=YT e;rw[gk]at X;subst X;refine ci a o ?_;have J:=gX (fQ.mp (YS w.params) o (jR Z));show(match(⟨⟨H.mH w.params⟩,{}⟩:lu).objs[a]? with|some ⟨_,_,.freed,_⟩=>I|o=>o)=D o;have U:(⟨⟨H.mH w.params⟩,{}⟩:lu).objs[a]?=D o:=(List.getElem?_toArray ..).trans Z;rw[U];clear e Z U;obtain⟨c,d,Q,O⟩:=o;cases Q with|freed=>exact nB ((show Y=ai from J).symm)|_=>rfl
theorem YW(h:H.hG.toRowW.claim.pre args=Y):∃l:List Int,args=[.list (l.map .int)]/\l.length<=63:=by
 obtain⟨X,U⟩:=pre_splitW h;clear h;obtain⟨d,r,rfl,J,Q⟩:=hasAllW_cons (e:=.list .int) (es:=[]) X;obtain rfl:=hasAllW_nil Q;obtain⟨xs,rfl,O⟩:=hasW_list J;have E:∀xs:List WData,WShape.hasItems H.hG.records xs .int=Y->∃l:List Int,xs=l.map .int:=by intro xs;induction xs with|nil=>intro _;exact⟨[],rfl⟩|cons x xs C=>intro h;obtain⟨i,rfl⟩:=hasW_int (bL h);obtain⟨l,rfl⟩:=C (bR h);exact⟨i::l,rfl⟩
 obtain⟨l,rfl⟩:=E xs O;refine⟨l,rfl,?_⟩;have Z:Mb [] (.and (.not (.lt (.lit (.int 63)) (.len (.arg 0)))) (.lit (.bool Y))) {args:=[.list (l.map .int)]}=true:=U;unfold WTm.holds at Z;simp[V']at Z;have e:less? (V? 63) (V? (l.length:Int))=D (decide ((63:Int)<l.length)):=rfl;rw[e]at Z;rcases qg 63 l.length with q|q;.rw[aN (show(63:Int)<l.length by exact ax 0x281f88210d03f10409 rfl q)]at Z;simp at Z
 .exact q
theorem YX:∀{l:List Int}{vs:List aH},WellAll P h vs (l.map .int)->∀{G:Gm}{m:Mp},eI G m (l.map .int) vs:=by intro l;induction l with|nil=>intro vs Z G m;cases Z;exact .nil|cons i l X=>intro vs Z G m;cases Z with|cons U J=>cases U;exact .cons .int (X J)
theorem YY(P:uL):(nsIn (KF P) js H.hG.name==D (D (.ref (nz 152))))=true:=by kernel_rfl
theorem YZ(h:CW n f vs σ k):iM WD lM n f vs σ k:=by unfold CW at h;exact h
def BD:Prop:=∀l:List Int,l.length<=63->CW 111 152 [.ref 0] [.list (l.map .int)] fun d _=>d=.bool Y
theorem uq{x p:Z}(e:[x][i]?=D p):i=0/\p=x:=by induction i using nN with|zero=>cases e;exact⟨rfl,rfl⟩|succ i=>cases e
set_option tactic.hygienic true in theorem Y0(C:BD):WalkO H.qv H.o5 (XL H.qv []) H.YP H.hG.toRowW H.nU [] (fun f vs=>PySem.call f vs):=by
 intro w X U mg mb G ci a o pm cd doc dV kV s h ao0 hD O hg args eo as E M K r ap0;clear M K;obtain⟨l,rfl,L⟩:=YW E;have u:=YV ci;have k:a=nz 152:=by have h2:mg H.hG.name=D (.ref a):=O;rw[(mg_of u G.T.g (aU.mp (YY w.params)))]at h2;clear s O;cases h2;rfl
 clear s O;subst k;cases r with|cons m c=>cases c;cases m with|list J Z=>
 rename_i b vs;have nG:(KF w.params).lookup b=none:=by induction e:(KF w.params).lookup b using cM with|none=>rfl|some o'=>have e1:=u b o' e;rw[J]at e1;cases e1;have q:=fQ.mp (YQ w.params) _ (YU e);exact nB (bne_self_eq_false (Value.type "list")▸q)
 let y:Cf:=⟨fun z=>(KF w.params).lookup z,[(b,b)],U⟩;have S:HR (XW w) [.list (l.map .int)] y:=by
  refine⟨u,fun _ _ e=>e,rfl,fun i j p q e1 e2 t=>?_,fun i p e=>?_,fun i p o e1 e2=>?_⟩;.exact ae ((uq e1).1.trans (uq e2).1.symm) t
  .obtain⟨rfl,rfl⟩:=uq e;exact⟨nG,nG⟩
  .obtain⟨rfl,rfl⟩:=uq e1;cases e2;exact .list (vs:=vs.toArray) (n:=0) rfl J (YX Z)
 have hc:=Yi (YO w) 111 (YZ (C l L)) (A:=callerA) (y:=y) (Q:=fun v s'=>GoodWG H.hG.toRowW.claim (classAt X.heap) (ExcName.means X.heap) [.list (l.map .int)] U (.ok (.ret v)) s') ⟨rfl,(by show(301:Nat)+6*111<=1000;decide),(by show(4:Nat)+63*111<=9900;decide)⟩ S (.ag (.ref (p:=(b,b)) rfl)) fun d σ z v h x S' hv=>?_;.exact nq.call hc
 .subst h;refine VR.bE hv ?_;refine GoodW.toG ⟨.inl ⟨_,.bool Y,[],rfl,fun _=>rfl,.bool Y,(by show Mb [] (.eq .res (.lit (.bool Y))) _=Y;simp[Mb,V',same]),fun _=>⟨.nil,fun a k=>nomatch k⟩⟩,fun b' o' e=>?_,by rw[x.fr],by rw[x.fr];exact hg⟩;exact x.keep b' o' e id fun i p hi hp=>ae (uq hp).1 hi
theorem Y1(Z:Ci.wellSaid=Y)(X:H.hG.wellSaid=Y)(C:BD):PySem.Challenge.rw_pq0593_01.Holds:=⟨Z,H.Nc X (Y0 C)⟩
end
section
open PySem.W PySem.Calls PyProof.Rows
theorem Y2:BD:=fun l h=>Uz (n:=0) h fun _=>rfl
end
section
open PySem.W PySem.Calls PyProof.Rows
set_option maxRecDepth 1000000
set_option maxHeartbeats 0
noncomputable abbrev rU:Program:=(Fast.tw2368527892694137696 Ci).toRowW.prog
noncomputable abbrev qd:List Stmt:=rU.main.body
theorem Y3:xQ rU qd ⟨⟨[118,97,114,115]⟩⟩=false:=by kernel_rfl
theorem Y4:xQ rU qd ⟨⟨[100,105,114]⟩⟩=false:=by kernel_rfl
theorem Y5:xQ rU qd ⟨⟨[108,111,99,97,108,115]⟩⟩=false:=by kernel_rfl
theorem Y6{f:bc->Bool}{a b c:bc}(h:f a=ai)(i:f b=ai)(j:f c=ai):Mc f [a,b,c]=[]:=by unfold R.filterR;simp only[h,i,j]
theorem Y7:W? {strict:=ai,foot:=I} qd=true:=by kernel_rfl
theorem Y8{c:Bool}{l:List bc}(h:c=ai)(i:Mc (xQ rU qd) l=[]):W? {strict:=c,foot:=I,bare:=Mc (xQ rU qd) l} qd=true:=by rw[h,i];exact Y7
theorem Y9:a40 Ci=true:=by
 unfold PySem.W.Fast.tw9446332074065402090 PySem.W.Fast.tw17960256430627541270 PySem.W.Fast.tw2436336058641802641 PySem.W.Fast.tw12908688711261696721;repeat'(with_reducible refine look_both ?_ ?_)
 all_goals(first|(with_reducible rfl)|(with_reducible refine Y8 ?_ ?_;kernel_rfl;exact Y6 Y3 Y4 Y5)|decide+kernel)
theorem joined:PySem.Challenge.rw_pq0593_01.Holds:=have h:Ci.wellSaid=true:=(congrFun a50 _).trans Y9;Y1 h (row_said h) Y2
end
end Mine
theorem PySem.Challenge.cw_pq0593_01_holds : PySem.Challenge.rw_pq0593_01.Holds :=
  Mine.joined
