import PyProof.Rows.All
import Wide.All
import OpenK.AllK
import Wide.FinOn
import KE.KSortAsk
import KE.KPar
import Lean
import PySem.Challenge.RW_xm0459_01
set_option Elab.async false
set_option maxRecDepth 100000
set_option linter.unusedVariables false
set_option genInjectivity false
set_option genSizeOf false
namespace Mine
noncomputable section
section
namespace H
open PySem PySem.W PyProof.Rows
set_option maxHeartbeats 0
abbrev PW:Program:=PySem.Challenge.pw_xm0459_01
noncomputable def nth{α:Type}(d:α):List α→Nat→α
 |[],_=>d
 |a::_,0=>a
 |_::l,n+1=>nth d l n
abbrev B:List Stmt:=behindTheImports PW
noncomputable def S(i:Nat):Stmt:=nth (.Pass default) B i
def M(i j:Nat):Stmt:=match S i with
 | .ClassDef _ _ _ b _ _ _ _ _ _ _=>nth (.Pass default) b j
 |s=>s
noncomputable def sv(x:String)(t:Nat):Value:=.str (Str.ofString x) t
noncomputable def tu(l:List Value):Obj:=⟨.type "tuple",none,.seq l.toArray 0,#[]⟩
def de(P:Params)(x:String)(t:Nat)(v:Value):DictEntry:=⟨PyData.keyHash P (Str.ofString x),.str (Str.ofString x) t,v⟩
noncomputable def fP:Stmt→Arguments
 | .FunctionDef _ a _ _ _ _ _ _ _ _=>a
 |_=>default
noncomputable def fB:Stmt→List Stmt
 | .FunctionDef _ _ b _ _ _ _ _ _ _=>b
 |_=>default
noncomputable def fS:Stmt→Scope
 | .FunctionDef _ _ _ _ _ _ s _ _ _=>s
 |_=>default
def fo(c:Value)(s:Stmt)(n q:String)(g:Nat)(d kd doc pm code ct:Value)(b:Nat):Obj:=
 ⟨c,none,.func {name:=Str.ofString n,qualname:=Str.ofString q,params:=fP s,body:=.stmts (fB s),scope:=fS s,globals:=g,closure:=[],defaults:=d,kwdefaults:=kd,doc:=doc,pyModule:=pm,annotations:=none,code:=code,closureTuple:=ct,builtins:=b},#[]⟩
noncomputable def vi(a:Nat):Value:=.int a 0
noncomputable def re(a:Nat):Value:=.ref a
noncomputable def no:Value:=.none
def e0:Obj:=tu []
noncomputable def fl(l:Array Value):Obj:=⟨.none,none,.fields l,#[]⟩
def e1:Obj:=fl #[]
def co(n q:String)(t a b c d e r:Nat)(v:Bool)(s:Nat)(w x y z:Value)(u k f:Nat):Obj:=⟨.type "code",none,.fields #[sv n t,sv q (t+1),sv "/claim/cut.py" (t+2),vi a,vi b,vi c,vi d,vi e,re r,.bool v,vi 181,re s,w,x,y,z,vi u,vi k,sv "/claim/cut.py" f],#[]⟩
def fn(s:Stmt)(n q m:String)(t c:Nat)(d:Value):Obj:=fo (.type "function") s n q 3 d no no (sv m t) (re c) no 0
def fz(s:Stmt)(n q:String):Obj:=fo .none s n q 0 no no no no no no 0
def f1(s:Stmt)(n m:String)(t c:Nat):Obj:=fn s n n m t c no
def g1(s:Stmt)(n:String):Obj:=fz s n n
def cl(n:String)(a s t u:Nat):Obj:=⟨.type "type",none,.cls {name:=n,bases:=[.type "object"],mro:=[.ref a,.type "object"],ns:=s,qualname:=n,hasDict:=true,slotNames:=[],subclasses:=[],abstract:=false,collection:=none,hasDel:=false},#[none,none,some (sv n t),some (sv n u),some (.builtin "object.__new__"),some (.bool true)]⟩
def di(l:Array DictEntry)(n:Nat):Obj:=⟨.type "dict",none,.dict l n,#[]⟩
def gd(n:String)(t a:Nat)(x y:String):Obj:=⟨.type "getset_descriptor",none,.fields #[sv n t,re a,.builtin x,.builtin y],#[]⟩
def su(a:Nat):Obj:=⟨.type "super",none,.fields #[re a,re a,re a],#[]⟩
def bf(x:String)(v:Value):Obj:=⟨.type "builtin_function_or_method",none,.fields #[.builtin x,v],#[]⟩
def fr(a b:Nat)(m:String)(t:Nat):Obj:=⟨.type "frame",none,.plain,#[some (re a),some (.ref 3),some (re b),none,some (sv m t),none,some (.ref 0)]⟩
noncomputable def N(o:Obj)(a b:BT):BT:=.node o a b
noncomputable def Z:BT:=.nil
def L(o:Obj):BT:=N o Z Z
def eD(a:Nat)(s:String)(t:Nat):DictEntry:=⟨a,.int a (t - 1),sv s t⟩
structure FO where
 a:Obj
 b:Obj
 c:Obj
 d:Obj
noncomputable def fN:Stmt→Str
 | .FunctionDef n _ _ _ _ _ _ _ _ _=>n
 |_=>default
noncomputable def lN:Stmt→Nat
 | .FunctionDef _ _ _ _ _ _ _ _ _ p=>p.line
 |_=>0
noncomputable def aN(s:Stmt):List Str:=(fP s).args.map (·.arg)
noncomputable def sq(t:Nat):List Str→List Value
 |[]=>[]
 |x::r=>.str x t::sq (t+1) r
def f2(c:Value)(s:Stmt)(q:Str)(g:Nat)(d pm code:Value):Obj:=
 ⟨c,none,.func {name:=fN s,qualname:=q,params:=fP s,body:=.stmts (fB s),scope:=fS s,globals:=g,closure:=[],defaults:=d,kwdefaults:=no,doc:=no,pyModule:=pm,annotations:=none,code:=code,closureTuple:=no,builtins:=0},#[]⟩
def cQ(s:Stmt)(q:Str)(r t a n:Nat):Obj:=⟨.type "code",none,.fields #[.str (fN s) t,.str q (t+1),sv "/claim/cut.py" (t+2),vi (lN s),vi a,vi 0,vi 0,vi 3,re r,.bool true,vi 181,re (r+1),no,re (r+2),re (r+3),re (r+4),vi (t+3+n),vi (lN s),sv "/claim/cut.py" (t+4+n)],#[]⟩
def W(s:Stmt)(q:Str)(x:List Str)(r t:Nat)(k d:Value):FO:=⟨tu (sq (t+3) (aN s++x)),f2 .none s q 0 no no no,cQ s q r t (aN s).length ((aN s).length+x.length),f2 (.type "function") s q 3 d k (re (r+5))⟩
def G(i r t:Nat)(k d:Value):FO:=W (S i) (fN (S i)) [] r t k d
def Y(i j:Nat)(q:Str)(r t:Nat)(k d:Value):FO:=W (M i j) q [] r t k d
def I(i:Nat)(x:List Str)(r t:Nat)(k d:Value):FO:=W (S i) (fN (S i)) x r t k d
def J(i j:Nat)(q:Str)(x:List Str)(r t:Nat)(k d:Value):FO:=W (M i j) q x r t k d
def k0:=sv "__main__" 164
def k1:=sv "kindkeep.nodes" 194
def k2:=sv "kindkeep.diags" 645
def k3:=sv "kindkeep.types" 879
def k4:=sv "kindkeep.shapes" 1196
def k5:=sv "kindkeep.hosts" 1236
def k6:=sv "kindkeep.flow" 1553
def k7:=sv "kindkeep.binder" 1631
def k8:=sv "kindkeep.calls" 1710
def k9:=sv "kindkeep.cguard" 1728
def k10:=sv "kindkeep.cfields" 1839
def k11:=sv "kindkeep.rawhost" 2054
def k12:=sv "kindkeep.ccore" 2088
def k13:=sv "law_xm0459_01" 2789
structure CO where
 a:Params→Obj
 b:Params→Obj
 c:Obj
 d:Obj
 e:Obj
 f:Obj
 g:Obj
 h:Obj
noncomputable def ts(t:Nat)(l:List String):Obj:=tu (sq t (l.map Str.ofString))
noncomputable def mE(P:Params)(i:Nat):Nat→List (Nat×Nat)→List DictEntry→List DictEntry
 |_,[],r=>r
 |j,a::l,r=>⟨PyData.keyHash P (fN (M i j)),.str (fN (M i j)) a.1,re a.2⟩::mE P i (j+1) l r
noncomputable def mL(i:Nat):Nat→List (Nat×Nat)→List Value
 |_,[]=>[]
 |j,a::l=>vi (lN (M i j))::vi 4::re (a.2 - 1)::mL i (j+1) l
noncomputable def mT(P:Params)(e s:Nat):Nat→List DictEntry
 |0=>[de P "__dict__" (s+2) (re (e+2)),de P "__weakref__" (s+4) (re (e+3)),de P "__doc__" (s+5) no]
 |1=>[de P "__weakref__" (s+2) (re (e+2)),de P "__doc__" (s+3) no]
 |_=>[de P "__doc__" (s+1) no]
def C(i:Nat)(n:String)(k:Value)(r t l e s w:Nat)(m:List (Nat×Nat)):CO:=
 ⟨λP=>di (de P "__module__" t k::de P "__qualname__" (t+2) (sv n (t+1))::de P "__firstlineno__" (t+4) (.int l (t+3))::mE P i 0 m [de P "__static_attributes__" s (re (e - 1))]).toArray (m.length+4),
  λP=>di (de P "__module__" t k::de P "__firstlineno__" (t+4) (.int l (t+3))::mE P i 0 m (de P "__static_attributes__" s (re (e - 1))::mT P e s w)).toArray (4 - w),
  co n n (t - 5) l 0 0 0 0 (r+1) false (r+2) no no no no (t - 2) l (t - 1),
  ⟨.type "frame",none,.plain,#[some (re (r+3)),some (.ref 3),some (re r),none,some k,none,some (.ref 0)]⟩,
  cl n (e+1) e (t - 7) (t+1),
  gd "__dict__" (s+1) (e+1) "function.__dict__" "function.__dict__#set",
  ⟨.type "getset_descriptor",none,.fields #[sv "__weakref__" (s+3),re (e+1),.builtin "ExceptionGroup.__weakref__",.none],#[]⟩,
  fl (mL i 0 m).toArray⟩
noncomputable def Tw(a b c d e f g h i j k l:Obj):BT:=N a (N b (N c (L d) (L e)) (N f (L g) Z)) (N h (N i (L j) Z) (N k (L l) Z))
noncomputable def Te(a b c d f g h i j k l:Obj):BT:=N a (N b (N c (L d) Z) (N f (L g) Z)) (N h (N i (L j) Z) (N k (L l) Z))
noncomputable def Tf(a b c d e f g:Obj)(h i j k l m n o:BT):BT:=N a (N b (N c h i) (N d j k)) (N e (N f l m) (N g n o))
noncomputable def q1(P:Params)(a:String×Nat×Value):DictEntry:=de P a.1 a.2.1 a.2.2
noncomputable def qr(x:String)(t a:Nat):String×Nat×Value:=(x,t,re a)
noncomputable def qi(x:String)(t:Nat)(a:Int):String×Nat×Value:=(x,t,.int a (t - 1))
noncomputable def bp:=bf "type.__prepare__" (.type "type")
noncomputable def bi(a:Nat):=bf "object.__init_subclass__" (re a)
variable(P:Params)
def o13:=co "<module>" "<module>" 182 1 0 0 0 0 11 false 12 no no no no 185 1 186
def u15:=G 0 15 187 k0 no
def o22:=di #[eD 1 "number" 293,eD 2 "text" 296,eD 3 "template" 299,eD 4 "true" 302,eD 5 "false" 305,eD 6 "null" 308,eD 7 "undefined" 311,eD 8 "name" 314,eD 9 "this" 317,eD 10 "super" 320,eD 11 "array literal" 323,eD 12 "object literal" 326,eD 13 "property" 329,eD 14 "short property" 332,eD 15 "spread" 335,eD 16 "member" 338,eD 17 "index" 341,eD 18 "call" 344,eD 19 "new" 347,eD 20 "optional chain" 350,eD 21 "unary operator" 353,eD 22 "update" 356,eD 23 "binary operator" 359,eD 24 "logical operator" 362,eD 25 "assignment" 365,eD 26 "choice" 368,eD 27 "function" 371,eD 28 "parameter" 374,eD 29 "as" 377,eD 30 "as const" 380,eD 31 "satisfies" 383,eD 32 "non-null mark" 386,eD 33 "parentheses" 389,eD 34 "object pattern" 392,eD 35 "array pattern" 395,eD 36 "binding" 398,eD 40 "file" 401,eD 41 "variable statement" 404,eD 42 "declarator" 407,eD 43 "expression statement" 410,eD 44 "if" 413,eD 45 "while" 416,eD 46 "do" 419,eD 47 "for" 422,eD 48 "for of" 425,eD 49 "for in" 428,eD 50 "switch" 431,eD 51 "case" 434,eD 52 "return" 437,eD 53 "break" 440,eD 54 "continue" 443,eD 55 "label" 446,eD 56 "throw" 449,eD 57 "try" 452,eD 58 "catch" 455,eD 59 "block" 458,eD 60 "empty statement" 461,eD 61 "class" 464,eD 62 "field" 467,eD 63 "index signature" 470,eD 64 "interface" 473,eD 65 "type alias" 476,eD 66 "enum" 479,eD 67 "enum member" 482,eD 68 "im\x70ort" 485,eD 69 "imported name" 488,eD 70 "export" 491,eD 71 "row of nodes" 494,eD 80 "keyword type" 497,eD 81 "type name" 500,eD 82 "literal type" 503,eD 83 "union type" 506,eD 84 "intersection type" 509,eD 85 "array type" 512,eD 86 "tuple type" 515,eD 87 "tuple element" 518,eD 88 "object type" 521,eD 89 "keyof" 524,eD 90 "indexed type" 527,eD 91 "mapped type" 530,eD 92 "conditional type" 533,eD 93 "infer" 536,eD 94 "template type" 539,eD 95 "typeof type" 542,eD 96 "predicate" 545,eD 97 "readonly type" 548,eD 98 "type parentheses" 550,eD 99 "property signature" 552,eD 100 "type parameter" 554] 89
def o23:=di #[eD 18 "call" 344,eD 19 "new" 347,eD 20 "optional chain" 350,eD 21 "unary operator" 353,eD 22 "update" 356,eD 23 "binary operator" 359,eD 24 "logical operator" 362,eD 25 "assignment" 365,eD 26 "choice" 368,eD 27 "function" 371,eD 28 "parameter" 374,eD 29 "as" 377,eD 30 "as const" 380,eD 31 "satisfies" 383,eD 32 "non-null mark" 386,eD 33 "parentheses" 389,eD 34 "object pattern" 392] 17
def o24:=di #[eD 35 "array pattern" 395,eD 36 "binding" 398,eD 40 "file" 401,eD 41 "variable statement" 404,eD 42 "declarator" 407,eD 43 "expression statement" 410,eD 44 "if" 413,eD 45 "while" 416,eD 46 "do" 419,eD 47 "for" 422,eD 48 "for of" 425,eD 49 "for in" 428,eD 50 "switch" 431,eD 51 "case" 434,eD 52 "return" 437,eD 53 "break" 440,eD 54 "continue" 443] 17
def o25:=di #[eD 55 "label" 446,eD 56 "throw" 449,eD 57 "try" 452,eD 58 "catch" 455,eD 59 "block" 458,eD 60 "empty statement" 461,eD 61 "class" 464,eD 62 "field" 467,eD 63 "index signature" 470,eD 64 "interface" 473,eD 65 "type alias" 476,eD 66 "enum" 479,eD 67 "enum member" 482,eD 68 "im\x70ort" 485,eD 69 "imported name" 488,eD 70 "export" 491,eD 71 "row of nodes" 494] 17
def o26:=di #[eD 80 "keyword type" 497,eD 81 "type name" 500,eD 82 "literal type" 503,eD 83 "union type" 506,eD 84 "intersection type" 509,eD 85 "array type" 512,eD 86 "tuple type" 515,eD 87 "tuple element" 518,eD 88 "object type" 521,eD 89 "keyof" 524,eD 90 "indexed type" 527,eD 91 "mapped type" 530,eD 92 "conditional type" 533,eD 93 "infer" 536,eD 94 "template type" 539,eD 95 "typeof type" 542,eD 96 "predicate" 545] 17
def o27:=di #[eD 97 "readonly type" 548,eD 98 "type parentheses" 550,eD 99 "property signature" 552,eD 100 "type parameter" 554] 4
def u35:=Y 51 0 "Node.__init__" 35 572 k1 no
def v43:=C 51 "Node" k1 30 567 54 43 590 0 [(583,41)]
def u49:=G 52 49 598 k1 no
def u56:=G 53 56 609 k1 no
def u63:=G 54 63 617 k1 no
def u70:=G 55 70 624 k1 no
def u77:=G 56 77 631 k1 no
def u84:=G 57 84 638 k1 no
def o91:=tu [.type "Exception"]
def u99:=Y 60 0 "KeepError.__init__" 99 662 k2 (re 98)
def v107:=C 60 "KeepError" k2 93 656 88 107 672 1 [(669,105)]
def o109:Obj:=⟨.type "getset_descriptor",none,.fields #[sv "__weakref__" 673,re 108,.builtin "ExceptionGroup.__weakref__",.none],#[]⟩
def o112:=tu [re 108]
def o119:=tu [.int 2589 692,sv "" 693]
def u120:=Y 61 0 "TooDeep.__init__" 120 694 k2 (re 119)
def v128:=C 61 "TooDeep" k2 114 687 93 128 705 2 [(702,126)]
def o129:Obj:=⟨.type "type",none,.cls {name:="TooDeep",bases:=[re 108],mro:=[re 129,re 108,.type "Exception",.type "BaseException",.type "object"],ns:=128,qualname:="TooDeep",hasDict:=true,slotNames:=[],subclasses:=[],abstract:=false,collection:=none,hasDel:=false},#[some (re 112),none,some (sv "TooDeep" 680),some (sv "TooDeep" 688),some (.builtin "Exception.__new__"),some (.bool true)]⟩
def o132:=tu [re 108]
def u140:=Y 62 0 "HostFault.__init__" 140 722 k2 (re 139)
def v148:=C 62 "HostFault" k2 134 716 98 148 732 2 [(729,146)]
def o149:Obj:=⟨.type "type",none,.cls {name:="HostFault",bases:=[re 108],mro:=[re 149,re 108,.type "Exception",.type "BaseException",.type "object"],ns:=148,qualname:="HostFault",hasDict:=true,slotNames:=[],subclasses:=[],abstract:=false,collection:=none,hasDel:=false},#[some (re 132),none,some (sv "HostFault" 709),some (sv "HostFault" 717),some (.builtin "Exception.__new__"),some (.bool true)]⟩
def u159:=Y 63 0 "Diag.__init__" 159 748 k2 no
def u166:=Y 63 1 "Diag.row" 166 759 k2 no
def v174:=C 63 "Diag" k2 154 743 103 174 770 0 [(758,165),(765,172)]
def o182:=di #[de P "__module__" 785 (sv "kindkeep.diags" 645),de P "__qualname__" 787 (sv "Diags" 786),de P "__firstlineno__" 789 (.int 113 788),de P "__init__" 798 (re 194),de P "put" 808 (re 201),de P "numbers" 814 (re 206),de P "__static_attributes__" 817 (re 207)] 7
def o184:=fl #[vi 115,vi 4,re 193,vi 119,vi 4,re 200,vi 122,vi 4,re 205]
def o185:=co "Diags" "Diags" 780 113 0 0 0 0 183 false 184 no no no no 783 113 784
def u188:=Y 64 0 "Diags.__init__" 188 791 k2 (re 187)
def u195:=Y 64 1 "Diags.put" 195 799 k2 no
def o204:=fz (M 64 2) "numbers" "Diags.numbers"
def o205:=co "numbers" "Diags.numbers" 809 122 1 0 0 3 202 true 203 no no no (re 204) 812 122 813
def o206:=fn (M 64 2) "numbers" "Diags.numbers" "kindkeep.diags" 645 205 no
def o208:=di #[de P "__module__" 785 (sv "kindkeep.diags" 645),de P "__firstlineno__" 789 (.int 113 788),de P "__init__" 798 (re 194),de P "put" 808 (re 201),de P "numbers" 814 (re 206),de P "__static_attributes__" 817 (re 207),de P "__dict__" 819 (re 210),de P "__weakref__" 821 (re 211),de P "__doc__" 822 (.none)] 4
def o209:=cl "Diags" 209 208 778 786
def o210:=gd "__dict__" 818 209 "function.__dict__" "function.__dict__#set"
def o211:Obj:=⟨.type "getset_descriptor",none,.fields #[sv "__weakref__" 820,re 209,.builtin "ExceptionGroup.__weakref__",.none],#[]⟩
def u221:=Y 65 0 "Notes.__init__" 221 837 k2 no
def u228:=Y 65 1 "Notes.put" 228 844 k2 no
def u235:=J 65 2 "Notes.codes" ["found","code","at"] 235 853 k2 no
def u242:=Y 65 3 "Notes.clean" 242 863 k2 no
def v250:=C 65 "Notes" k2 216 832 124 250 871 0 [(843,227),(852,234),(862,241),(869,248)]
def o256:=tu [.int 1 881,sv "any" 949]
def o257:=tu [.int 1 881,sv "unknown" 950]
def o258:=tu [.int 1 881,sv "never" 951]
def o259:=tu [.int 1 881,sv "void" 952]
def o260:=tu [.int 1 881,sv "undefined" 953]
def o261:=tu [.int 1 881,sv "null" 954]
def o262:=tu [.int 1 881,sv "string" 955]
def o263:=tu [.int 1 881,sv "number" 956]
def o264:=tu [.int 2 883,.int 0 957,.int 0 958]
def o265:=tu [.int 2 883,.int 1 959,.int 0 960]
def o266:=tu [.int 1 881,sv "object" 961]
def o272:=tu [.int 8 893,re 267,re 268,re 269,re 270,re 271,.int 0 962]
def o273:=tu [.int 8 963,.int 9 964]
def o274:=tu [.int 6 891,re 273]
def o275:=tu [.int 1 881,sv "error" 965]
def o276:=tu [.int 2 883,.int 0 966,.int 1 967]
def o277:=tu [.int 2 883,.int 1 968,.int 1 969]
def o278:=tu [re 256,re 257,re 258,re 259,re 260,re 261,re 262,re 263,re 264,re 265,re 266,re 272,re 274,re 275,re 276,re 277]
def o279:=tu [.int 2 883,.int 3 885,.int 4 887,.int 5 889,.int 8 893]
def u287:=J 103 0 "TypeTable.__init__" ["row"] 287 984 k3 no
def u294:=Y 103 1 "TypeTable.row" 294 992 k3 no
def u301:=J 103 2 "TypeTable.put" ["t"] 301 1000 k3 no
def v309:=C 103 "TypeTable" k3 282 979 177 309 1019 0 [(991,293),(999,300),(1008,307)]
def u322:=Y 104 0 "Decl.__init__" 322 1039 k3 no
def v330:=C 104 "Decl" k3 317 1034 203 330 1064 0 [(1048,328)]
def u336:=G 105 336 1072 k3 no
def o345:=g1 (S 106) "sorted_props"
def o346:=co "sorted_props" "sorted_props" 1081 223 1 0 0 3 343 true 344 no no no (re 345) 1084 223 1085
def o347:=f1 (S 106) "sorted_props" "kindkeep.types" 879 346
def o352:=tu [re 348,re 349,re 350,re 351,.int 0 1087]
def u353:=G 107 353 1088 k3 (re 352)
def o361:=tu [re 360,.int 0 1101]
def u362:=G 108 362 1102 k3 (re 361)
def u369:=G 109 369 1114 k3 no
def u376:=I 110 ["decl"] 376 1122 k3 no
def u383:=I 111 ["row"] 383 1132 k3 no
def u390:=I 112 ["kind"] 390 1141 k3 no
def u397:=I 113 ["row"] 397 1149 k3 no
def u404:=G 114 404 1158 k3 no
def u411:=G 115 411 1165 k3 no
def u418:=I 116 ["t"] 418 1174 k3 no
def o427:=g1 (S 117) "union"
def o428:=co "union" "union" 1182 272 2 0 0 3 425 true 426 no no no (re 427) 1185 272 1186
def o429:=f1 (S 117) "union" "kindkeep.types" 879 428
def u430:=G 118 430 1188 k3 no
def o437:=tu [.int 1 881,.int 2 883,.int 3 885,.int 4 887,.int 5 889]
def o438:=tu [.int 11 899,.int 12 901]
def u439:=I 123 ["owners","prop","hidden"] 439 1202 k4 no
def u446:=I 124 ["out","seen","waiting","at","row","more"] 446 1212 k4 no
def u453:=I 125 ["turn","row"] 453 1226 k4 no
def u467:=Y 129 0 "Thin.__init__" 467 1254 k5 no
def u474:=Y 129 1 "Thin.force" 474 1262 k5 no
def u481:=Y 129 2 "Thin.put_deferred" 481 1270 k5 no
def u488:=Y 129 3 "Thin.put_cond" 488 1278 k5 no
def u495:=Y 129 4 "Thin.lay_row" 495 1287 k5 no
def u502:=Y 129 5 "Thin.bound" 502 1296 k5 no
def u509:=Y 129 6 "Thin.shape" 509 1304 k5 no
def u516:=Y 129 7 "Thin.fits" 516 1312 k5 no
def u523:=Y 129 8 "Thin.lies" 523 1321 k5 no
def u530:=Y 129 9 "Thin.infers" 530 1330 k5 no
def u537:=Y 129 10 "Thin.tpl_fits" 537 1340 k5 no
def u544:=Y 129 11 "Thin.shape_fits" 544 1349 k5 no
def u551:=Y 129 12 "Thin.put_in" 551 1358 k5 no
def u558:=Y 129 13 "Thin.own_sig" 558 1367 k5 no
def u565:=Y 129 14 "Thin.forget" 565 1376 k5 no
def u572:=Y 129 15 "Thin.list_prop" 572 1383 k5 no
def u579:=Y 129 16 "Thin.list_index" 579 1392 k5 no
def u586:=Y 129 17 "Thin.elem_met" 586 1400 k5 no
def u593:=Y 129 18 "Thin.error_class" 593 1408 k5 no
def v601:=C 129 "Thin" k5 462 1249 335 601 1420 0 [(1261,473),(1269,480),(1277,487),(1286,494),(1295,501),(1303,508),(1311,515),(1320,522),(1329,529),(1339,536),(1348,543),(1357,550),(1366,557),(1375,564),(1382,571),(1391,578),(1399,585),(1407,592),(1414,599)]
def u607:=I 130 ["row","bound"] 607 1428 k5 no
def u614:=G 131 614 1438 k5 no
def u621:=I 132 ["place"] 621 1446 k5 no
def u628:=I 133 ["prop"] 628 1454 k5 no
def o637:=g1 (S 134) "is_digits"
def o638:=co "is_digits" "is_digits" 1463 419 1 0 0 3 635 true 636 no no no (re 637) 1466 419 1467
def o639:=f1 (S 134) "is_digits" "kindkeep.hosts" 1236 638
def u640:=G 135 640 1469 k5 no
def u647:=G 136 647 1476 k5 no
def u654:=I 137 ["row","prop"] 654 1483 k5 no
def u661:=G 138 661 1494 k5 no
def o670:=g1 (S 139) "late_place"
def o671:=co "late_place" "late_place" 1502 440 2 0 0 3 668 true 669 no no no (re 670) 1505 440 1506
def o672:=f1 (S 139) "late_place" "kindkeep.hosts" 1236 671
def u673:=G 140 673 1508 k5 no
def u680:=I 141 ["row","shape"] 680 1517 k5 no
def u687:=G 142 687 1528 k5 no
def o696:=g1 (S 143) "prop_type"
def o697:=co "prop_type" "prop_type" 1538 460 3 0 0 3 694 true 695 no no no (re 696) 1541 460 1542
def o698:=f1 (S 143) "prop_type" "kindkeep.hosts" 1236 697
def u699:=G 144 699 1544 k5 no
def u713:=Y 154 0 "Graph.__init__" 713 1583 k6 no
def u720:=Y 154 1 "Graph.make" 720 1590 k6 no
def v728:=C 154 "Graph" k6 708 1578 478 728 1615 0 [(1589,719),(1600,726)]
def o736:=g1 (S 156) "own_ref"
def o737:=co "own_ref" "own_ref" 1625 503 2 0 0 3 734 true 735 no no no (re 736) 1628 503 1629
def o738:=f1 (S 156) "own_ref" "kindkeep.decls" 1623 737
def u746:=Y 159 0 "Symbol.__init__" 746 1647 k7 no
def v754:=C 159 "Symbol" k7 741 1642 508 754 1668 0 [(1659,752)]
def u767:=Y 160 0 "Bound.__init__" 767 1688 k7 no
def v775:=C 160 "Bound" k7 762 1683 519 775 1702 0 [(1695,773)]
def u781:=I 162 ["symbol","node"] 781 1712 k8 no
def o790:=g1 (S 163) "own_ctors"
def o791:=co "own_ctors" "own_ctors" 1722 536 1 0 0 3 788 true 789 no no no (re 790) 1725 536 1726
def o792:=f1 (S 163) "own_ctors" "kindkeep.calls" 1710 791
def u793:=I 173 ["mark"] 793 1746 k9 no
def u800:=I 174 ["mark"] 800 1754 k9 no
def o809:=g1 (S 175) "is_param_prop"
def o810:=co "is_param_prop" "is_param_prop" 1762 564 1 0 0 3 807 true 808 no no no (re 809) 1765 564 1766
def o811:=f1 (S 175) "is_param_prop" "kindkeep.cguard" 1728 810
def u812:=I 176 ["ctor"] 812 1768 k9 no
def o821:=g1 (S 177) "param_props"
def o822:=co "param_props" "param_props" 1776 572 1 0 0 3 819 true 820 no no no (re 821) 1779 572 1780
def o823:=f1 (S 177) "param_props" "kindkeep.cguard" 1728 822
def u824:=I 178 ["rows","ctor","param","kid","mark"] 824 1782 k9 no
def u831:=I 179 ["node"] 831 1794 k9 no
def u838:=I 180 ["rows","key","firsts","name","mark","side"] 838 1803 k9 no
def u845:=I 181 ["out","seen"] 845 1817 k9 no
def u852:=I 182 ["one","mark"] 852 1827 k9 no
def o859:=tu [.int 33 234,.int 32 232,.int 29 228,.int 31 230,.int 20 220]
def u860:=I 189 ["first"] 860 1850 k10 no
def u867:=G 190 867 1859 k10 no
def u874:=G 191 874 1869 k10 no
def u881:=I 192 ["at"] 881 1876 k10 no
def u888:=I 193 ["out","stack","node","parent","nested"] 888 1887 k10 no
def u895:=G 194 895 1901 k10 no
def o904:=g1 (S 195) "param_inits"
def o905:=co "param_inits" "param_inits" 1911 675 1 0 0 3 902 true 903 no no no (re 904) 1914 675 1915
def o906:=f1 (S 195) "param_inits" "kindkeep.cfields" 1839 905
def u907:=I 196 ["seen","waiting","number"] 907 1917 k10 no
def u914:=G 197 914 1928 k10 no
def u921:=G 198 921 1937 k10 no
def u928:=I 199 ["mark"] 928 1945 k10 no
def u935:=I 200 ["mark"] 935 1956 k10 no
def u942:=G 201 942 1967 k10 no
def u949:=I 202 ["node","holder","role","nested","name","found","mark"] 949 1974 k10 no
def u956:=I 203 ["node","holder","role","nested","graph","name","mark"] 956 1990 k10 no
def u963:=I 204 ["node","kid","init"] 963 2007 k10 no
def u970:=I 205 ["declared","flow"] 970 2020 k10 no
def u977:=I 206 ["param","init","use"] 977 2032 k10 no
def u984:=G 207 984 2045 k10 no
def o991:=tu [re 602]
def u998:=Y 209 0 "BoundHost.bound" 998 2068 k11 no
def u1005:=Y 209 1 "BoundHost.shape" 1005 2076 k11 no
def v1013:=C 209 "BoundHost" k11 993 2063 787 1013 2084 2 [(2075,1004),(2083,1011)]
def o1014:Obj:=⟨.type "type",none,.cls {name:="BoundHost",bases:=[re 602],mro:=[re 1014,re 602,.type "object"],ns:=1013,qualname:="BoundHost",hasDict:=true,slotNames:=[],subclasses:=[],abstract:=false,collection:=none,hasDel:=false},#[some (re 991),none,some (sv "BoundHost" 2056),some (sv "BoundHost" 2064),some (.builtin "object.__new__"),some (.bool true)]⟩
def u1024:=Y 212 0 "Guard.access" 1024 2104 k12 no
def u1031:=Y 212 1 "Guard.readonly" 1031 2115 k12 no
def u1038:=Y 212 2 "Guard.reckons" 1038 2125 k12 no
def v1046:=C 212 "Guard" k12 1019 2099 796 1046 2136 0 [(2114,1030),(2124,1037),(2135,1044)]
def u1059:=Y 213 0 "Roads.__init__" 1059 2156 k12 no
def u1066:=Y 213 1 "Roads.unset" 1066 2163 k12 no
def v1074:=C 213 "Roads" k12 1054 2151 806 1074 2175 0 [(2162,1065),(2173,1072)]
def u1087:=Y 214 0 "Judge.__init__" 1087 2195 k12 no
def u1094:=Y 214 1 "Judge.fits" 1094 2202 k12 no
def u1101:=Y 214 2 "Judge.lies" 1101 2212 k12 no
def u1108:=Y 214 3 "Judge.excess" 1108 2222 k12 no
def u1115:=Y 214 4 "Judge.meets" 1115 2232 k12 no
def u1122:=Y 214 5 "Judge.same" 1122 2242 k12 no
def u1129:=Y 214 6 "Judge.reduced" 1129 2252 k12 no
def u1136:=Y 214 7 "Judge.met" 1136 2262 k12 no
def u1143:=Y 214 8 "Judge.words" 1143 2271 k12 no
def u1150:=Y 214 9 "Judge.explain" 1150 2280 k12 no
def v1158:=C 214 "Judge" k12 1082 2190 813 1158 2294 0 [(2201,1093),(2211,1100),(2221,1107),(2231,1114),(2241,1121),(2251,1128),(2261,1135),(2270,1142),(2279,1149),(2292,1156)]
def u1171:=Y 215 0 "Patterns.spread" 1171 2314 k12 no
def u1178:=Y 215 1 "Patterns.element" 1178 2325 k12 no
def u1185:=Y 215 2 "Patterns.names" 1185 2335 k12 no
def v1193:=C 215 "Patterns" k12 1166 2309 844 1193 2345 0 [(2324,1177),(2334,1184),(2344,1191)]
def u1206:=Y 216 0 "Giver.given" 1206 2365 k12 no
def v1214:=C 216 "Giver" k12 1201 2360 857 1214 2375 0 [(2374,1212)]
def u1227:=Y 217 0 "Places.self_kind" 1227 2395 k12 no
def u1234:=Y 217 1 "Places.base_kind" 1234 2404 k12 no
def v1242:=C 217 "Places" k12 1222 2390 861 1242 2413 0 [(2403,1233),(2412,1240)]
def u1255:=Y 218 0 "FuncRule.check" 1255 2433 k12 no
def v1263:=C 218 "FuncRule" k12 1250 2428 868 1263 2443 0 [(2442,1261)]
def u1276:=Y 219 0 "Sheet.__init__" 1276 2463 k12 no
def u1283:=Y 219 1 "Sheet.expr" 1283 2477 k12 no
def u1290:=Y 219 2 "Sheet.stmt" 1290 2486 k12 no
def u1297:=Y 219 3 "Sheet.typed" 1297 2494 k12 no
def u1304:=Y 219 4 "Sheet.read" 1304 2502 k12 no
def u1311:=Y 219 5 "Sheet.wants" 1311 2512 k12 no
def u1318:=Y 219 6 "Sheet.fits" 1318 2523 k12 no
def u1325:=Y 219 7 "Sheet.func" 1325 2535 k12 no
def u1332:=Y 219 8 "Sheet.declared_of" 1332 2544 k12 no
def u1339:=Y 219 9 "Sheet.fault" 1339 2552 k12 no
def u1346:=J 219 10 "Sheet.tell" ["diag"] 1346 2562 k12 no
def u1353:=Y 219 11 "Sheet.words" 1353 2573 k12 no
def u1360:=Y 219 12 "Sheet.note" 1360 2581 k12 no
def u1367:=Y 219 13 "Sheet.keep" 1367 2590 k12 no
def u1374:=Y 219 14 "Sheet.declare" 1374 2599 k12 no
def u1381:=J 219 15 "Sheet.mark" ["told"] 1381 2608 k12 no
def u1388:=Y 219 16 "Sheet.back" 1388 2616 k12 no
def u1395:=Y 219 17 "Sheet.tried" 1395 2624 k12 no
def u1402:=Y 219 18 "Sheet.given" 1402 2633 k12 no
def u1409:=Y 219 19 "Sheet.self_kind" 1409 2642 k12 no
def u1416:=Y 219 20 "Sheet.base_kind" 1416 2650 k12 no
def u1423:=Y 219 21 "Sheet.solid" 1423 2658 k12 no
def u1430:=Y 219 22 "Sheet.short" 1430 2667 k12 no
def u1437:=Y 219 23 "Sheet.road" 1437 2676 k12 no
def v1445:=C 219 "Sheet" k12 1271 2458 873 1445 2743 0 [(2476,1282),(2485,1289),(2493,1296),(2501,1303),(2511,1310),(2522,1317),(2534,1324),(2543,1331),(2551,1338),(2561,1345),(2572,1352),(2580,1359),(2589,1366),(2598,1373),(2607,1380),(2615,1387),(2623,1394),(2632,1401),(2641,1408),(2649,1415),(2657,1422),(2666,1429),(2675,1436),(2684,1443)]
def o1453:=g1 (S 220) "stays_told"
def o1454:=co "stays_told" "stays_told" 2751 1009 2 0 0 3 1451 true 1452 no no no (re 1453) 2754 1009 2755
def o1455:=f1 (S 220) "stays_told" "kindkeep.ccore" 2088 1454
def o1458:=g1 (S 221) "take_back"
def o1459:=co "take_back" "take_back" 2757 1013 2 0 0 3 1456 true 1457 no no no (re 1458) 2760 1013 2761
def o1460:=f1 (S 221) "take_back" "kindkeep.ccore" 2088 1459
def u1461:=I 222 ["mark","chains"] 1461 2763 k12 no
def u1468:=I 223 ["fits","codes","code"] 1468 2774 k12 no
def u1475:=I 225 ["spot"] 1475 2791 k13 no
def o1482:=tu [.int 0 2800]
def u1483:=I 226 ["node"] 1483 2801 k13 (re 1482)
def u1490:=G 227 1490 2813 k13 no
def u1497:=I 228 ["word","form","name","whose","holder","key","one"] 1497 2821 k13 no
def o1506:=g1 (S 229) "_law_func"
def o1507:=co "_law_func" "_law_func" 2837 1086 3 0 0 3 1504 true 1505 no no no (re 1506) 2840 1086 2841
def o1508:=f1 (S 229) "_law_func" "law_xm0459_01" 2789 1507
def u1509:=I 230 ["held","field"] 1509 2843 k13 no
def u1516:=I 231 ["how","part","param","one"] 1516 2852 k13 no
def u1523:=I 232 ["way","kids","lap","target","init"] 1523 2865 k13 no
def u1530:=I 233 ["pattern","init"] 1530 2878 k13 no
def u1537:=G 234 1537 2887 k13 no
def o1546:=g1 (S 235) "_law_step"
def o1547:=co "_law_step" "_law_step" 2896 1130 2 0 0 3 1544 true 1545 no no no (re 1546) 2899 1130 2900
def o1548:=f1 (S 235) "_law_step" "law_xm0459_01" 2789 1547
def o1551:=g1 (S 236) "_law_rows"
def o1552:=co "_law_rows" "_law_rows" 2902 1158 2 0 0 3 1549 true 1550 no no no (re 1551) 2905 1158 2906
def o1553:=f1 (S 236) "_law_rows" "law_xm0459_01" 2789 1552
def u1554:=I 237 ["step","one"] 1554 2908 k13 no
def o1563:=g1 (S 238) "_law_roads"
def o1564:=co "_law_roads" "_law_roads" 2920 1182 5 0 0 3 1561 true 1562 no no no (re 1563) 2923 1182 2924
def o1565:=f1 (S 238) "_law_roads" "law_xm0459_01" 2789 1564
def u1566:=I 239 ["step","one"] 1566 2926 k13 no
def u1573:=I 240 ["met","at","place","state","after","to"] 1573 2936 k13 no
def o1582:=g1 (S 241) "_law_unset"
def o1583:=co "_law_unset" "_law_unset" 2950 1214 2 0 0 3 1580 true 1581 no no no (re 1582) 2953 1214 2954
def o1584:=f1 (S 241) "_law_unset" "law_xm0459_01" 2789 1583
def u1585:=I 242 ["body","init"] 1585 2956 k13 no
def u1592:=G 243 1592 2967 k13 no
def u1599:=I 244 ["head"] 1599 2974 k13 no
def u1606:=G 245 1606 2983 k13 no
def o1615:=g1 (S 246) "_law_say"
def o1616:=co "_law_say" "_law_say" 2993 1245 5 0 0 3 1613 true 1614 no no no (re 1615) 2996 1245 2997
def o1617:=f1 (S 246) "_law_say" "law_xm0459_01" 2789 1616
def o1620:=g1 (S 247) "law"
def o1621:=co "law" "law" 2999 1263 1 0 0 3 1618 true 1619 no no no (re 1620) 3002 1263 3003
def o1622:=f1 (S 247) "law" "law_xm0459_01" 2789 1621
def g3:List (String×Nat×Value):=[("__doc__",166,(.none)),("__package__",167,(.none)),("__loader__",168,(.builtin "__main__.__loader__#opaque")),("__spec__",169,(.none)),qr "__annotations__" 170 6,qr "__builtins__" 171 4,("__file__",173,(sv "/claim/cut.py" 172)),("__cached__",174,(.none)),qr "_wall" 193 21,qi "K_NUM" 197 1,qi "K_STR" 199 2,qi "K_TPL" 201 3,qi "K_NULL" 203 6,qi "K_NAME" 205 8,qi "K_THIS" 207 9,qi "K_SUPER" 209 10,qi "K_ARRAY" 211 11,qi "K_SHORT" 213 14,qi "K_MEMBER" 215 16,qi "K_INDEX" 217 17,qi "K_CALL" 219 18,qi "K_CHAIN" 221 20,qi "K_ASSIGN" 223 25,qi "K_FUNC" 225 27,qi "K_PARAM" 227 28,qi "K_AS" 229 29,qi "K_SATISFIES" 231 31,qi "K_NONNULL" 233 32,qi "K_PAREN" 235 33,qi "K_OBJPAT" 237 34,qi "K_ARRPAT" 239 35,qi "K_BIND" 241 36,qi "K_EXPRST" 243 43,qi "K_IF" 245 44,qi "K_WHILE" 247 45,qi "K_BLOCK" 249 59,qi "K_CLASS" 251 61,qi "K_FIELD" 253 62,qi "K_LIST" 255 71,qi "K_TKEY" 257 80,qi "K_TELEM" 259 87,qi "K_TPAREN" 261 98,qi "F_ARROW" 263 4,qi "F_EXPRBODY" 265 8,qi "F_METHOD" 267 32,qi "F_GET" 269 64,qi "F_SET" 271 128,qi "F_CTOR" 273 256,qi "F_OPT" 275 4096,qi "F_PRIVATE" 277 16384,qi "F_PROTECTED" 279 32768,qi "F_PUBLIC" 281 65536,qi "F_READONLY" 283 131072,qi "F_STATIC" 285 262144,qi "F_ABSTRACT" 287 524288,qi "F_BANG" 289 2097152,qi "F_AMBIENT" 291 4194304,qr "NODE_WORDS" 559 22,qr "Node" 597 44,qr "flagged" 608 55,qr "has" 616 62,qr "bare" 623 69,qr "literal_key" 630 76,qr "member_name" 637 83,qr "is_type" 644 90,qi "U_FIELD" 648 12,qr "KeepError" 679 108,qr "TooDeep" 708 129,qr "HostFault" 735 149,qr "Diag" 777 175,qr "Diags" 824 209,qr "Notes" 878 251,qi "Y_KEY" 882 1,qi "Y_BOOL" 884 2,qi "Y_STR" 886 3,qi "Y_NUM" 888 4,qi "Y_ENUM" 890 5,qi "Y_UNION" 892 6,qi "Y_OBJ" 894 8,qi "Y_REF" 896 9,qi "Y_PARAM" 898 10,qi "Y_ARRAY" 900 11,qi "Y_TUPLE" 902 12,qi "Y_SIG" 904 13,qi "Y_TPL" 906 18,qi "ANY" 908 0,qi "UNKNOWN" 910 1,qi "NEVER" 912 2,qi "UNDEF" 914 4,qi "STRING" 916 6,qi "NUMBER" 918 7,qi "FALSE_T" 920 8,qi "TRUE_T" 922 9,qi "EMPTY" 924 11,qi "ERR" 926 13,qi "FRESH_F" 928 14,qi "FRESH_T" 930 15,qi "P_OPT" 932 1,qi "P_READONLY" 934 2,qi "P_PRIVATE" 936 8,qi "P_PROTECTED" 938 16,qi "E_OPT" 940 1,qi "E_REST" 942 2,qi "E_SPREAD" 944 3,qi "D_CLASS" 946 1,qi "MAX_UNION" 948 400,qr "FIRST_ROWS" 970 278,qr "MARKED_ROWS" 971 279,qr "TypeTable" 1026 310,qr "Decl" 1071 331,qr "ref_type" 1080 342,qr "sorted_props" 1086 347,qr "obj_type" 1100 359,qr "sig_type" 1113 368,qr "func_type" 1121 375,qr "new_decl" 1131 382,qr "parts_of" 1140 389,qr "whole_of_row" 1148 396,qr "regular_twin" 1157 403,qr "join_bools" 1164 410,qr "stays_beside" 1173 417,qr "top_of" 1181 424,qr "union" 1187 429,qr "add_undef" 1195 436,qi "MOST_PLAIN" 1199 40,qr "PLAIN_ROWS" 1200 437,qr "LIST_ROWS" 1201 438,qr "hidden_apart" 1211 445,qr "final_parts" 1225 452,qr "plain_shape" 1235 459,qi "MOST_ROUNDS" 1239 200,qi "MOST_SHAPES" 1241 40,qr "Thin" 1427 602,qr "bound_of" 1437 613,qr "elem_read" 1445 620,qr "told_places" 1453 627,qr "find_prop" 1462 634,qr "is_digits" 1468 639,qr "place_of" 1475 646,qr "is_number_name" 1482 653,qr "prop_row" 1493 660,qr "read_type" 1501 667,qr "late_place" 1507 672,qr "list_read" 1516 679,qr "index_read" 1527 686,qr "part_type" 1537 693,qr "prop_type" 1543 698,qr "tuple_at" 1552 705,qi "L_DEAD" 1556 0,qi "L_START" 1558 1,qi "L_JOIN" 1560 2,qi "L_LOOP" 1562 3,qi "L_SET" 1564 4,qi "L_TRUE" 1566 5,qi "L_FALSE" 1568 6,qi "L_CALL" 1570 7,qr "Graph" 1622 729,qr "own_ref" 1630 738,qi "M_CLASS" 1634 6,qr "Symbol" 1675 755,qr "Bound" 1709 776,qr "calls_class_node" 1721 787,qr "own_ctors" 1727 792,qi "MK_FIELD" 1731 1,qi "MK_ACCESS" 1733 2,qi "MK_METHOD" 1735 4,qi "MK_ABSTRACT" 1737 8,qi "MK_STATIC" 1739 16,qi "MK_SET" 1741 32,qi "MK_CTOR" 1743 64,qi "MK_CLOSED" 1745 128,qr "field_mark" 1753 799,qr "mark_of" 1761 806,qr "is_param_prop" 1767 811,qr "ctor_with_body" 1775 818,qr "param_props" 1781 823,qr "member_marks" 1793 830,qr "marks_of" 1802 837,qr "first_marks" 1816 844,qr "chain_of" 1826 851,qr "find_mark" 1838 858,qi "USE_READ" 1842 0,qi "USE_WRITE" 1844 1,qi "USE_CALL" 1846 2,qi "NAME_ONLY" 1848 2,qr "THROUGH" 1849 859,qr "role_in" 1858 866,qr "is_self" 1868 873,qr "is_super_call" 1875 880,qr "push_kids" 1886 887,qr "uses_of" 1900 894,qr "push_inner" 1910 901,qr "param_inits" 1916 906,qr "early_road" 1927 913,qr "field_kind" 1936 920,qr "lacks_undef" 1944 927,qr "own_mark" 1955 934,qr "is_plain_field" 1966 941,qr "extends_some" 1973 948,qr "abstract_use" 1989 955,qr "check_ctor_use" 2006 962,qr "is_arrow_field" 2019 969,qr "check_early_read" 2031 976,qr "check_ctor_this" 2044 983,qr "check_param_use" 2053 990,qr "BoundHost" 2087 1014,qi "MOST_DEEP" 2091 50,qr "Guard" 2143 1047,qr "Roads" 2182 1075,qr "Judge" 2301 1159,qr "Patterns" 2352 1194,qr "Giver" 2382 1215,qr "Places" 2420 1243,qr "FuncRule" 2450 1264,qr "Sheet" 2750 1446,qr "stays_told" 2756 1455,qr "take_back" 2762 1460,qr "given_kind" 2773 1467,qr "want_fit" 2788 1474,qr "_law_take" 2799 1481,qr "_law_node" 2812 1489,qr "_law_list" 2820 1496,qr "_law_use" 2836 1503,qr "_law_func" 2842 1508,qr "_law_foreign" 2851 1515,qr "_law_part" 2864 1522,qr "_law_pattern" 2877 1529,qr "_law_param" 2886 1536,qr "_law_held" 2895 1543,qr "_law_step" 2901 1548,qr "_law_rows" 2907 1553,qr "_law_lay" 2919 1560,qr "_law_roads" 2925 1565,qr "_law_walk" 2935 1572,qr "_law_run" 2949 1579,qr "_law_unset" 2955 1584,qr "_law_member" 2966 1591,qr "_law_near" 2973 1598,qr "_law_head" 2982 1605,qr "_law_say_param" 2992 1612,qr "_law_say" 2998 1617,qr "law" 3004 1622]
def h3(nm:Value)(m n:Nat)(P:Params):Obj:=⟨.type "dict",none,.dict ((⟨PyData.keyHash P (Str.ofString "__name__"),.str (Str.ofString "__name__") 165,nm⟩:DictEntry)::(g3.take m).map (q1 P)).toArray n,#[]⟩
def g12:List Value:=[vi 1,vi 0,re 20,vi 54,vi 0,re 33,vi 63,vi 0,re 54,vi 65,vi 0,re 61,vi 67,vi 0,re 68,vi 71,vi 0,re 75,vi 80,vi 0,re 82,vi 84,vi 0,re 89,vi 88,vi 0,re 96,vi 93,vi 0,re 117,vi 98,vi 0,re 137,vi 103,vi 0,re 157,vi 113,vi 0,re 185,vi 124,vi 0,re 219,vi 177,vi 0,re 285,vi 203,vi 0,re 320,vi 221,vi 0,re 341,vi 223,vi 0,re 346,vi 228,vi 0,re 358,vi 230,vi 0,re 367,vi 232,vi 0,re 374,vi 234,vi 0,re 381,vi 238,vi 0,re 388,vi 245,vi 0,re 395,vi 254,vi 0,re 402,vi 259,vi 0,re 409,vi 263,vi 0,re 416,vi 267,vi 0,re 423,vi 272,vi 0,re 428,vi 289,vi 0,re 435,vi 295,vi 0,re 444,vi 301,vi 0,re 451,vi 317,vi 0,re 458,vi 335,vi 0,re 465,vi 397,vi 0,re 612,vi 403,vi 0,re 619,vi 407,vi 0,re 626,vi 414,vi 0,re 633,vi 419,vi 0,re 638,vi 422,vi 0,re 645,vi 424,vi 0,re 652,vi 430,vi 0,re 659,vi 438,vi 0,re 666,vi 440,vi 0,re 671,vi 443,vi 0,re 678,vi 447,vi 0,re 685,vi 456,vi 0,re 692,vi 460,vi 0,re 697,vi 465,vi 0,re 704,vi 478,vi 0,re 711,vi 503,vi 0,re 737,vi 508,vi 0,re 744,vi 519,vi 0,re 765,vi 529,vi 0,re 786,vi 536,vi 0,re 791,vi 547,vi 0,re 798,vi 552,vi 0,re 805,vi 564,vi 0,re 810,vi 567,vi 0,re 817,vi 572,vi 0,re 822,vi 577,vi 0,re 829,vi 588,vi 0,re 836,vi 595,vi 0,re 843,vi 606,vi 0,re 850,vi 614,vi 0,re 857,vi 626,vi 0,re 865,vi 637,vi 0,re 872,vi 643,vi 0,re 879,vi 645,vi 0,re 886,vi 651,vi 0,re 893,vi 668,vi 0,re 900,vi 675,vi 0,re 905,vi 689,vi 0,re 912,vi 703,vi 0,re 919,vi 705,vi 0,re 926,vi 710,vi 0,re 933,vi 713,vi 0,re 940,vi 716,vi 0,re 947,vi 718,vi 0,re 954,vi 728,vi 0,re 961,vi 752,vi 0,re 968,vi 763,vi 0,re 975,vi 772,vi 0,re 982,vi 779,vi 0,re 989,vi 787,vi 0,re 996,vi 796,vi 0,re 1022,vi 806,vi 0,re 1057,vi 813,vi 0,re 1085,vi 844,vi 0,re 1169,vi 857,vi 0,re 1204,vi 861,vi 0,re 1225,vi 868,vi 0,re 1253,vi 873,vi 0,re 1274,vi 1009,vi 0,re 1454,vi 1013,vi 0,re 1459,vi 1032,vi 0,re 1466,vi 1045,vi 0,re 1473,vi 1056,vi 0,re 1480,vi 1062,vi 0,re 1488,vi 1068,vi 0,re 1495,vi 1070,vi 0,re 1502,vi 1086,vi 0,re 1507,vi 1089,vi 0,re 1514,vi 1095,vi 0,re 1521,vi 1112,vi 0,re 1528,vi 1124,vi 0,re 1535,vi 1128,vi 0,re 1542,vi 1130,vi 0,re 1547,vi 1158,vi 0,re 1552,vi 1168,vi 0,re 1559,vi 1182,vi 0,re 1564,vi 1192,vi 0,re 1571,vi 1204,vi 0,re 1578,vi 1214,vi 0,re 1583,vi 1217,vi 0,re 1590,vi 1227,vi 0,re 1597,vi 1231,vi 0,re 1604,vi 1238,vi 0,re 1611,vi 1245,vi 0,re 1616,vi 1263,vi 0,re 1621]
def h12(m:Nat):Obj:=⟨.none,none,.fields (g12.take m).toArray,#[]⟩
def h2a:Obj:=⟨.none,none,.dict #[] 0,#[]⟩
def h2b(P:Params):Obj:=⟨.none,none,.dict #[de P "type.__subclasses__.Exception.0" 676 (vi 108),de P "type.__subclasses__.Exception.n" 677 (vi 1)] 2,#[]⟩
def h108(l:List Value):Obj:=⟨.type "type",none,.cls {name:="KeepError",bases:=[.type "Exception"],mro:=[re 108,.type "Exception",.type "BaseException",.type "object"],ns:=107,qualname:="KeepError",hasDict:=true,slotNames:=[],subclasses:=l,abstract:=false,collection:=none,hasDel:=false},#[some (re 91),none,some (sv "KeepError" 649),some (sv "KeepError" 657),some (.builtin "Exception.__new__"),some (.bool true)]⟩
def h602(l:List Value):Obj:=⟨.type "type",none,.cls {name:="Thin",bases:=[.type "object"],mro:=[re 602,.type "object"],ns:=601,qualname:="Thin",hasDict:=true,slotNames:=[],subclasses:=l,abstract:=false,collection:=none,hasDel:=false},#[none,none,some (sv "Thin" 1242),some (sv "Thin" 1250),some (.builtin "object.__new__"),some (.bool true)]⟩
def w127:=Tw (ts 703 ["number","text"]) (bi 251) u509.a v1046.d u1530.c e0 e0 e0 o639 e1 e0 u1402.c
def w191:=Tw e0 v330.h e0 e0 e0 e0 u1339.b e1 u699.b v1214.e e0 e0
def w159:=Tw e0 e0 u537.d e0 e1 u793.d e0 u411.b o671 u1178.c u921.d u1437.a
def w223:=Te u221.a e0 e0 u1115.b e0 e1 u474.c e1 (bi 1243) o991 u1497.d
def w143:=Tw e0 e0 u523.b e1 o1551 u781.a u1290.c u397.a e1 e0 u907.b e0
def w207:=Tw (ts 815 ["file","rows"]) (bi 331) u586.c u1101.a o1615 u845.a u1353.d e0 u713.d u1227.b u970.c u1483.b
def w175:=Tw v174.e u301.a e1 u1066.c o1583 e0 u1325.a e1 e0 e0 e1 o1455
def w239:=Te u235.b u362.c u621.a u1129.d u874.c e0 e0 u746.c (v1263.b P) u1005.a e0
def x15:=Tf e0 e0 e0 v107.h (su 44) u77.a (bi 108) w127 w191 w159 w223 w143 w207 w175 (w239 P)
def w135:=Tw e0 o263 e0 e0 u1537.d (v775.b P) u1283.b e1 e0 v1158.e e1 u1409.d
def w199:=Tw u195.b u322.c u579.b e1 e1 e1 u1346.c u453.a v728.c e0 u963.b u1475.b
def w167:=Tw e1 e1 e0 u1059.b u1573.a e0 e1 u418.c u673.d u1185.d e0 v1445.f
def w231:=Te e0 u353.d e1 u1122.c u867.b u1381.a u481.d v754.h e0 e1 u1509.a
def w151:=Tw (bi 149) o279 u530.c v1046.e u1554.c o791 u1297.d e0 u661.a u1171.b u914.c e1
def w215:=Te bp e0 u593.d e0 e0 e0 u467.b (ts 1601 ["at","busy","ends","epoch","extras","hidden","hits","kinds","memo","nodes","open","prevs","sets","starts"]) u1234.c u977.d u1490.c
def w183:=Tw e0 v309.f u565.a (bi 1075) u1585.d o823 e0 e0 e1 e1 u949.a u1461.a
def w247:=Te u242.c u369.d e0 e0 u881.d u1395.b e1 (bi 755) (v1445.a P) (su 1014) u1523.b
def x23:=Tf o23 u35.b e1 u99.b u49.d e0 o119 (w135 P) w199 w167 w231 w151 w215 w183 (w247 P)
def w131:=Tw (bi 129) o259 u509.d e0 u1537.a u767.b e0 u383.b e0 u1150.c u895.b u1409.a
def w195:=Tw e0 e1 e0 u1087.b u1599.b u831.b e1 u446.c bp (bi 1215) e0 e0
def w163:=Tw u159.b u287.b e0 e0 u1566.c e0 u1311.b e1 u673.a u1185.a e0 u1437.d
def w227:=Te u221.d u353.a u607.b e1 e0 u1374.c u481.a e0 e0 v1013.h o1507
def w147:=Tw (ts 730 ["number","text"]) o275 e1 u1038.c e1 u781.d u1297.a u397.d u654.c e0 e1 u1423.b
def w211:=Tw o211 e0 u593.a u1101.d e1 u845.d e0 e0 e0 e1 u977.a e1
def w179:=Tw (bi 175) u301.d u558.c v1074.e u1585.a e0 u1325.d u430.c u687.b v1214.h u942.c o1459
def w243:=Te e1 u369.a u621.d e0 u881.a e0 u495.b v754.e (su 1264) u1005.d e0
def x19:=Tf u15.b e0 u63.b e0 u49.a u77.d e0 w131 w195 w163 w227 w147 w211 w179 w243
def w139:=Tw (ts 721 [""]) e0 e0 u1031.b o1547 (su 776) e1 u390.c u647.b (bi 1159) e0 e0
def w203:=Tw e1 v330.e e1 u1094.c u1606.c u838.c u1353.a u453.d u713.a e0 e1 e0
def w171:=Tw u166.c u294.c u551.b e1 u1573.d o811 u1318.c o427 e0 v1193.f u935.b e0
def w235:=Te e0 e1 u614.c u1129.a e1 u1381.d e0 e1 u1255.b u998.c u1509.d
def w155:=Tw e0 e0 u537.a (bi 1047) o1563 u793.a e0 e0 u661.d e1 u921.a u1430.c
def w219:=Te v250.c o347 v601.f e0 o859 u1367.b e1 v728.g v1242.e e0 u1497.a
def w187:=Tw (ts 790 [""]) e0 u565.d e0 e0 e0 e0 u439.b e0 u1206.c u949.d u1461.d
def w251:=Te v250.e e0 e0 u1143.b e0 e1 u502.c e0 v1445.d (v1046.a P) e1
def x27:=Tf o27 (v43.b P) u70.c (v107.b P) e0 o91 e0 w139 w203 w171 w235 w155 w219 w187 (w251 P)
def w129:=Tw o129 o257 u509.b e1 e0 u767.a u1276.c u383.a e1 e0 u895.a e0
def w193:=Tw u188.c v330.d u572.c u1087.a u1599.a u831.a u1339.d e0 u699.d v1214.g u956.c u1468.c
def w161:=Tw u159.a u287.a e1 v1074.c e0 e1 u1311.a u411.d e0 e0 e1 u1437.b
def w225:=Te u221.b e0 u607.a u1115.d u860.c e0 e0 o737 bp (v1013.a P) e1
def w145:=Tw u140.c o273 u523.d e0 o1553 u781.b e0 u397.b e0 v1193.c u907.d u1423.a
def w209:=Tw o209 e1 e0 u1101.b o1617 u845.b e1 v601.c e1 u1227.d e0 u1483.d
def w177:=Tw v174.g u301.b e0 (ts 2174 ["given"]) e0 u812.c u1325.b e0 u687.a (v1214.a P) e0 e1
def w241:=Te u235.d e0 u621.b e1 e0 u1388.c u495.a (ts 1660 ["home","name","nodes","scope","sid","tag","what","written"]) v1263.f u1005.b u1516.c
def x17:=Tf u15.a v43.c u63.a v107.d e0 u77.b bp w129 w193 w161 (w225 P) w145 w209 (w177 P) w241
def w137:=Tw v148.c o265 u516.c u1031.a e1 v775.f u1283.d e0 u647.a v1158.g o905 e1
def w201:=Tw u195.d (ts 1049 ["abstract","at","bases","body","busy","did","extends_class","file","kind","members","name","nid","params","static","variances"]) u579.d e0 e0 e0 e0 u453.b e0 v1242.c u963.d u1475.d
def w169:=Tw e0 e0 u551.a u1059.d u1573.b o809 e0 e0 e1 (v1193.b P) u935.a (su 1446)
def w233:=Te u228.c o361 e0 e0 u867.d u1381.b e1 v754.d u1255.a e0 u1509.b
def w153:=Tw bp bp e0 v1046.g e0 e0 e1 u404.c u661.b u1171.d e0 e0
def w217:=Te e0 o345 (v601.b P) u1108.c u852.c u1367.a u467.d v728.e e0 e1 e0
def w185:=Tw o185 (su 310) u565.b bp e1 e1 u1332.c u439.a o697 e0 u949.b u1461.b
def w249:=Te (ts 870 ["rows"]) e1 u628.c u1143.a e1 u1395.d e0 bp v1445.h e0 u1523.d
def x25:=Tf o25 u35.d e0 u99.d e1 u84.c e1 w137 w201 (w169 P) w233 w153 (w217 P) w185 w249
def w133:=Tw bp o261 e1 u1024.c u1537.b u767.d u1283.a u383.d u640.c (ts 2293 ["given"]) u895.d u1409.b
def w197:=Tw u195.a e0 u579.a u1087.d u1599.d u831.d e0 e0 e0 bp u963.a u1475.a
def w165:=Tw u159.d u287.d u544.c u1059.a e0 u800.c u1311.d e0 u673.b u1185.b u928.c (v1445.b P)
def w229:=Te e1 u353.b u607.d e0 u867.a e0 u481.b (v754.a P) v1263.c v1013.d e0
def w149:=Tw o149 o277 e0 e0 e0 e1 u1297.b e1 e0 u1171.a e0 u1423.d
def w213:=Tw (bi 209) u336.c u593.b e1 o1621 e1 u1360.c u467.a u720.c e0 u977.b e0
def w181:=Tw bp (v309.b P) e0 v1074.g u1585.b o821 e1 o437 u687.d v1214.d e0 e0
def w245:=Te e0 u369.b e1 u1136.c u881.b u1395.a u495.d v754.g e0 (v1013.b P) u1523.a
def x21:=Tf u15.d u35.a u63.d u99.a u49.b e1 v128.c w133 w197 (w165 P) (w229 P) w149 w213 (w181 P) (w245 P)
def w141:=Tw e1 e0 u523.a u1031.d e0 e0 e0 e0 u647.d bp u907.a u1416.c
def w205:=Tw o205 v330.g e0 e0 e0 e0 u1353.b bp u713.b u1227.a e0 u1483.a
def w173:=Tw (ts 766 ["args","at","file","number"]) e0 u551.d e0 e1 e1 e0 o429 u680.c (su 1194) u935.d o1453
def w237:=Te u235.a e0 e0 u1129.b e0 e1 u488.c e0 u1255.d e0 e1
def w157:=Tw v174.c v309.c u537.b bp o1565 u793.b u1304.c u411.a e1 e0 u921.b e0
def w221:=Te e0 e0 (su 602) u1115.a e1 u1367.d e0 (bi 729) v1242.g u984.c u1497.b
def w189:=Tw e1 (v330.a P) e1 v1158.c u1592.c u824.c u1339.a u439.d u699.a e0 e1 e1
def w253:=Te v250.g u376.c o637 u1143.d u888.c e0 e0 v775.c e1 v1046.h e0
def x29:=Tf bp v43.f e0 o109 u56.c (v107.a P) u120.c w141 w205 w173 w237 w157 w221 (w189 P) w253
def w128:=Tw (v128.b P) o256 e0 e0 u1530.d e1 u1276.b e1 e0 u1150.a e1 u1402.d
def w192:=Tw u188.b v330.c u572.b e1 e1 e1 u1339.c u446.a u699.c v1214.f u956.b u1468.b
def w160:=Tw e1 e1 e0 v1074.h u1566.a e0 e1 u411.c o672 u1178.d e0 e0
def w224:=Te e0 o352 e1 u1115.c u860.b u1374.a u474.d o736 e0 bp e0
def w144:=Tw u140.b o272 u523.c u1038.a o1552 e0 u1290.d e0 u654.a v1193.h u907.c e1
def w208:=Tw (o208 P) e0 u586.d e0 o1616 e0 e0 v601.h e0 u1227.c u970.d u1483.c
def w176:=Tw v174.f e0 u558.a u1066.d o1584 u812.b e0 u430.a e1 bp u942.a e0
def w240:=Te u235.c u362.d e0 e0 u874.d u1388.b e1 u746.d v1263.e e0 u1516.b
def x16:=Tf e1 v43.h e1 v107.c (bi 44) e0 o112 (w128 P) w192 w160 w224 w144 (w208 P) w176 w240
def w136:=Tw v148.h o264 u516.b e1 e0 v775.e u1283.c u390.a e1 v1158.f o904 e0
def w200:=Tw u195.c u322.d u579.c u1094.a u1606.a u838.a u1346.d e0 v728.d v1242.h u963.c u1475.c
def w168:=Tw u166.a u294.a e1 u1059.c e0 e1 u1318.a u418.d e0 e0 e1 v1445.g
def w232:=Te u228.b e0 u614.a u1122.d u867.c e0 e0 v754.c e1 u998.a e0
def w152:=Tw e0 e0 u530.d v1046.f u1554.d o792 e0 u404.b e0 u1171.c u914.d u1430.a
def w216:=Te (v250.a P) e1 (ts 1415 ["deep","lib","most_deep","most_rounds","tab"]) u1108.b u852.b e1 u467.c (v728.b P) u1234.d e0 u1490.d
def w184:=Tw o184 v309.g e0 e0 e0 e0 u1332.b e1 o696 u1206.a e0 e0
def w248:=Te u242.d e0 u628.b e1 e0 u1395.c u502.a e0 e0 (bi 1014) u1523.c
def x24:=Tf o24 u35.c u70.a u99.c e0 u84.b e0 w136 w200 w168 w232 w152 (w216 P) w184 w248
def w132:=Tw o132 o260 e0 u1024.b e0 u767.c e1 u383.c u640.b u1150.d u895.c e0
def w196:=Tw e1 u322.a e1 u1087.c u1599.c u831.c u1346.a u446.d (v728.a P) e0 e1 e1
def w164:=Tw u159.c u287.c u544.b e1 u1566.d u800.b u1311.c u418.a e0 e0 u928.b (ts 2685 ["asker","banged","bound","bound_decls","busy","called","callees","chains","const_enums","consts","declared","deep","diags","drawn","dropped","exprs","func_at","funcs","giver","globals","got_by","graph","guard","guesses","heads","host","inits","inside","judge","late","later","lent","loops","marks","namer","notes","owners","paired","patterns","places","preset","ready","rets","roads","roots","rounds","selves_of","sigs","sorts","stmts","stops","tab","targets","this_of","told_names","trail","types","under"])
def w228:=Te e0 e0 u607.c u1122.a e1 u1374.d e0 bp v1263.h v1013.c o1508
def w148:=Tw (v148.b P) o276 u530.a u1038.d u1554.a e0 e0 e0 u654.d e1 u914.a u1423.c
def w212:=Tw (su 209) u336.b e0 e0 o1620 e0 u1360.b e1 u720.b u1234.a e0 u1490.a
def w180:=Tw e0 (ts 1009 ["bounds","decls","defaults","index","names","origins","putting","renamed","rows","shaping"]) u558.d v1074.f e0 e1 e0 u430.d u687.c v1214.c u942.d o1460
def w244:=Te u242.a e0 e0 u1136.b e0 e1 u495.c v754.f (bi 1264) e0 e1
def x20:=Tf u15.c e1 u63.c e1 e0 e0 v128.h w132 (w196 P) w164 w228 (w148 P) w212 w180 w244
def w140:=Tw e0 e0 e1 u1031.c o1548 (bi 776) u1290.a u390.d u647.c e0 e1 u1416.b
def w204:=Tw o204 v330.f u586.a u1094.d u1606.d u838.d e0 e0 e0 e1 u970.a e1
def w172:=Tw u166.d u294.d u551.c u1066.a e0 e0 u1318.d o428 u680.b v1193.g u935.c e1
def w236:=Te e1 u362.a u614.d e0 u874.a e0 u488.b u746.a u1255.c u998.d e0
def w156:=Tw v174.h v309.h e0 e0 o1564 e0 u1304.b e1 e0 u1178.a e0 u1430.d
def w220:=Te v250.d e0 v601.g e1 e0 u1367.c u474.a (su 729) v1242.f u984.b e0
def w188:=Tw e0 bp e0 v1158.h u1592.b u824.b e1 u439.c e1 u1206.d e0 e0
def w252:=Te v250.f u376.b e1 u1143.c u888.b u1402.a u502.d v775.h e0 e0 u1530.a
def w130:=Tw (su 129) o258 u509.c u1024.a e1 e0 u1276.d e0 u640.a u1150.b e0 e1
def w194:=Tw u188.d e0 u572.d e0 e0 e0 e0 u446.b e0 (su 1215) u956.d u1468.d
def w162:=Tw e0 e0 u544.a v1074.d u1566.b u800.a e0 e0 e1 e1 u928.a u1437.c
def w226:=Te u221.c e1 e0 e0 u860.d u1374.b e1 o738 (v1263.a P) e0 o1506
def w146:=Tw u140.d o274 e0 u1038.b e0 u781.c e1 u397.c u654.b v1193.d e0 e0
def w210:=Tw o210 u336.a e1 u1101.c e0 u845.c u1360.a v601.d u720.a e0 e1 e0
def w178:=Tw (su 175) u301.c u558.b (v1074.b P) e1 u812.d u1325.c u430.b e0 e0 u942.b o1458
def w242:=Te e0 e1 u621.c u1136.a e1 u1388.d e0 (v754.b P) v1263.g u1005.c u1516.d
def x18:=Tf e0 v43.d e0 (ts 661 [""]) e1 u77.c (v128.a P) w130 w194 w162 (w226 P) w146 w210 (w178 P) (w242 P)
def w138:=Tw v148.d o266 u516.d e0 o1546 v775.g e0 u390.b e0 (su 1159) o906 u1416.a
def w202:=Tw e0 (v330.b P) e0 u1094.b u1606.b u838.b e1 u453.c e1 v1242.d e0 o1482
def w170:=Tw u166.b u294.b e0 e0 u1573.c o810 u1318.b e1 u680.a v1193.e e0 (bi 1446)
def w234:=Te u228.d e0 u614.b e1 e0 u1381.c u488.a e0 e0 u998.b u1509.c
def w154:=Tw (v174.a P) (v309.a P) e1 (su 1047) e1 e1 u1304.a u404.d u661.c e0 e1 u1430.b
def w186:=Tw (fr 185 182 "kindkeep.diags" 645) (bi 310) u565.c (v1158.a P) u1592.a u824.a u1332.d e0 o698 u1206.b u949.c u1461.c
def w250:=Te (v250.b P) u376.a u628.d e0 u888.a e0 u502.b (v775.a P) v1445.c bp e0
def w134:=Tw (v148.a P) o262 u516.a u1024.d u1537.c (ts 1696 ["decl","diags","of_node","scopes","symbols","use"]) e0 e0 u640.d (v1158.b P) e0 u1409.c
def w198:=Tw e0 u322.b e0 e0 e0 e0 u1346.b e1 v728.h (v1242.a P) e0 e0
def w166:=Tw e0 e0 u544.d e0 e1 u800.d e0 u418.b u673.c u1185.c u928.d v1445.e
def w230:=Te u228.a u353.c e0 u1122.b e0 e1 u481.c e0 v1263.d e0 e1
def w150:=Tw (su 149) o278 u530.b (v1046.b P) u1554.b o790 u1297.c u404.a e1 e0 u914.b e0
def w214:=Tw e0 u336.d u593.c u1108.a o1622 u852.a u1360.d e0 u720.d u1234.b u977.c u1490.b
def w182:=Tw (o182 P) v309.e e1 (su 1075) u1585.c o822 u1332.a o438 e0 e0 e1 e1
def w246:=Te u242.b u369.c u628.a u1136.d u881.c e0 e0 (su 755) bp o1014 e0
def x22:=Tf o22 e0 e0 e0 u49.c u84.a v128.d (w134 P) (w198 P) w166 w230 (w150 P) w214 (w182 P) w246
def w142:=Tw u140.a e0 e0 e0 e1 e1 u1290.b e1 e0 (v1193.a P) e0 u1416.d
def w206:=Tw o206 (su 331) u586.b e1 e1 e1 u1353.c (v601.a P) u713.c e0 u970.b e0
def w174:=Tw (v174.b P) e1 e0 u1066.b o1582 u812.a e1 e0 u680.d (bi 1194) e0 o1454
def w238:=Te e0 u362.b e1 u1129.c u874.b u1388.a u488.d u746.b e0 e1 u1516.a
def w158:=Tw v174.d v309.d u537.c (v1074.a P) e0 u793.c u1304.d e0 o670 u1178.b u921.c e1
def w222:=Te e1 e0 (bi 602) e0 u860.a e0 u474.b e0 (su 1243) u984.d u1497.c
def w190:=Tw u188.a e0 u572.a v1158.d u1592.d u824.d e0 e0 e0 (v1214.b P) u956.a u1468.a
def w254:=Te (su 251) u376.d o638 e0 u888.d u1402.b e1 v775.d u1276.a v1046.c u1530.b
def x30:=Tf (v43.a P) v43.g e1 (su 108) u56.d e0 u120.d (w142 P) (w206 P) (w174 P) w238 (w158 P) w222 (w190 P) w254
def TF(a2 a3 a12 a108 a602:Obj)(P:Params):BT:=(N (boot_o_0 P) (N (boot_o_1 P) (N a3 (N (boot_o_7 P) (x15 P) (x23 P)) (N e0 x19 (x27 P))) (N (boot_o_5 P) (N (boot_o_9 P) (x17 P) (x25 P)) (N o13 (x21 P) (x29 P)))) (N a2 (N (boot_o_4 P) (N (boot_o_8 P) (x16 P) (x24 P)) (N a12 (x20 P) (N e0 (N v43.e (N u70.d w140 w204) (N a108 w172 w236)) (N u56.b (N bp w156 w220) (N u120.b w188 w252))))) (N (boot_o_6 P) (N (boot_o_10 P) (x18 P) (N o26 (N (ts 584 ["a","at","flags","kids","kind","nid"]) (N u70.b w138 (w202 P)) (N (ts 670 ["number","text"]) w170 w234)) (N u56.a (N u84.d (w154 P) (N v250.h (N o346 (N a602 (L u1108.d) Z) (N u852.d (L e0) Z)) (N e0 (N v728.f (L (v1242.b P)) Z) (N u984.a (L e1) Z)))) (N u120.a (w186 P) (w250 P))))) (N (fr 13 3 "__main__" 164) (x22 P) (x30 P)))))
def St(n toks:Nat)(a2:Params→Obj)(nm:Value)(m mn t12:Nat)(s108 s602:List Value)(w:World)(os:OsState):SharedT:=
 {tree:=TF (a2 w.params) (h3 nm m mn w.params) (h12 t12) (h108 s108) (h602 s602) w.params,n:=n,life:={},gens:=#[],drawn:={},toks:=toks,os:=os}
def env:Env:={scope:=PW.main.scope,locals:=mainNs,globals:=mainNs,cells:=[],code:=.ref 13,frame:=some 14}
abbrev cd:Code:=.body B env
def seg(i m:Nat):List Stmt:=(B.drop i).take m
abbrev y(_:Params):=h2a
abbrev x1:=[re 1014]
abbrev x2:=[re 129,re 149]
abbrev m0:=sv "__main__" 164
abbrev m1:=sv "kindkeep.nodes" 194
abbrev m2:=sv "kindkeep.diags" 645
abbrev m3:=sv "kindkeep.types" 879
abbrev m4:=sv "kindkeep.shapes" 1196
abbrev m5:=sv "kindkeep.hosts" 1236
abbrev m6:=sv "kindkeep.flow" 1553
abbrev m7:=sv "kindkeep.binder" 1631
abbrev m8:=sv "kindkeep.cguard" 1728
abbrev m9:=sv "kindkeep.cfields" 1839
abbrev m10:=sv "kindkeep.rawhost" 2054
abbrev m11:=sv "kindkeep.ccore" 2088
abbrev m12:=sv "law_xm0459_01" 2789
abbrev s0:=St 15 187 y m0 8 9 0 x2 x1
abbrev q0:Pos:=⟨0,0,0,0⟩
abbrev s42:=St 22 276 y m1 49 50 3 x2 x1
abbrev q42:Pos:=⟨44,0,44,5⟩
abbrev s50:=St 22 292 y m1 57 58 3 x2 x1
abbrev q50:Pos:=⟨52,0,52,9⟩
abbrev s51:=St 28 560 y m1 58 59 3 x2 x1
abbrev q51:Pos:=⟨53,0,53,10⟩
abbrev s57:=St 84 638 y m1 64 65 21 x2 x1
abbrev q57:Pos:=⟨80,0,83,36⟩
abbrev s61:=St 112 680 h2b m2 67 68 27 [] x1
abbrev q61:Pos:=⟨88,0,92,24⟩
abbrev s62:=St 132 709 h2b m2 68 69 30 [re 129] x1
abbrev q62:Pos:=⟨93,0,97,24⟩
abbrev s63:=St 152 736 h2b m2 69 70 33 x2 x1
abbrev q63:Pos:=⟨98,0,102,24⟩
abbrev s64:=St 180 778 h2b m2 70 71 36 x2 x1
abbrev q64:Pos:=⟨103,0,112,48⟩
abbrev s65:=St 214 825 h2b m2 71 72 39 x2 x1
abbrev q65:Pos:=⟨113,0,123,50⟩
abbrev s75:=St 256 897 h2b m3 80 81 42 x2 x1
abbrev q75:Pos:=⟨148,0,148,5⟩
abbrev s103:=St 280 972 h2b m3 108 109 42 x2 x1
abbrev q103:Pos:=⟨176,0,176,11⟩
abbrev s104:=St 315 1027 h2b m3 109 110 45 x2 x1
abbrev q104:Pos:=⟨177,0,202,16⟩
abbrev s109:=St 369 1114 h2b m3 114 115 60 x2 x1
abbrev q109:Pos:=⟨230,0,231,76⟩
abbrev s124:=St 446 1212 h2b m4 128 129 93 x2 x1
abbrev q124:Pos:=⟨295,0,300,26⟩
abbrev s129:=St 460 1242 h2b m5 132 133 99 x2 x1
abbrev q129:Pos:=⟨334,0,334,11⟩
abbrev s130:=St 607 1428 h2b m5 133 134 102 x2 []
abbrev q130:Pos:=⟨335,0,396,17⟩
abbrev s143:=St 694 1538 h2b m5 146 147 141 x2 []
abbrev q143:Pos:=⟨456,0,459,83⟩
abbrev s154:=St 706 1571 h2b m6 156 157 147 x2 []
abbrev q154:Pos:=⟨477,0,477,6⟩
abbrev s159:=St 739 1635 h2b m7 159 160 153 x2 []
abbrev q159:Pos:=⟨507,0,507,7⟩
abbrev s160:=St 760 1676 h2b m7 160 161 156 x2 []
abbrev q160:Pos:=⟨508,0,518,20⟩
abbrev s173:=St 793 1746 h2b m8 171 172 165 x2 []
abbrev q173:Pos:=⟨546,0,546,9⟩
abbrev s189:=St 860 1850 h2b m9 186 187 195 x2 []
abbrev q189:Pos:=⟨625,0,625,7⟩
abbrev s201:=St 942 1967 h2b m9 198 199 231 x2 []
abbrev q201:Pos:=⟨713,0,715,59⟩
abbrev s209:=St 991 2056 h2b m10 205 206 252 x2 []
abbrev q209:Pos:=⟨786,0,786,8⟩
abbrev s212:=St 1017 2092 h2b m11 207 208 255 x2 x1
abbrev q212:Pos:=⟨795,0,795,9⟩
abbrev s213:=St 1052 2144 h2b m11 208 209 258 x2 x1
abbrev q213:Pos:=⟨796,0,805,17⟩
abbrev s214:=St 1080 2183 h2b m11 209 210 261 x2 x1
abbrev q214:Pos:=⟨806,0,812,49⟩
abbrev s215:=St 1164 2302 h2b m11 210 211 264 x2 x1
abbrev q215:Pos:=⟨813,0,843,55⟩
abbrev s216:=St 1199 2353 h2b m11 211 212 267 x2 x1
abbrev q216:Pos:=⟨844,0,856,21⟩
abbrev s217:=St 1220 2383 h2b m11 212 213 270 x2 x1
abbrev q217:Pos:=⟨857,0,860,17⟩
abbrev s218:=St 1248 2421 h2b m11 213 214 273 x2 x1
abbrev q218:Pos:=⟨861,0,867,17⟩
abbrev s219:=St 1269 2451 h2b m11 214 215 276 x2 x1
abbrev q219:Pos:=⟨868,0,872,51⟩
abbrev s220:=St 1451 2751 h2b m11 215 216 279 x2 x1
abbrev q220:Pos:=⟨873,0,1008,19⟩
abbrev s233:=St 1530 2878 h2b m12 227 228 315 x2 x1
abbrev q233:Pos:=⟨1112,0,1123,52⟩
abbrev s246:=St 1613 2993 h2b m12 240 241 354 x2 x1
abbrev q246:Pos:=⟨1238,0,1244,47⟩
abbrev s248:=St 1623 3005 h2b m12 242 243 360 x2 x1
abbrev q248:Pos:=⟨1263,0,1324,112⟩
abbrev St1:=World→OsState→SharedT
abbrev Pw(i m n:Nat)(s t:St1)(p r:Pos)(w:World):Prop:=∀os,Fast.tw10110043849684766642 Fast.tw14364793385576792824 PW w 11 (some (.ref 6)) 1 n (s w os) (piecesOf (seg i m) env cd p [topFrame ⟨0,0,0,0⟩])=some (.next,t w os,cd,r)
abbrev Pp(i m n:Nat)(s t:St1)(p r:Pos):Prop:=∀w,Pw i m n s t p r w
theorem p0:Pp 0 42 399 s0 s42 q0 q42:=λw os=>by kernel_rfl
theorem p42:Pp 42 8 73 s42 s50 q42 q50:=λw os=>by kernel_rfl
theorem p50:Pp 50 1 1700 s50 s51 q50 q51:=byRow2 "special-get-raises" (P:=Pw 50 1 1700 s50 s51 q50 q51) (λw os=>by kernel_rfl) λw os=>by kernel_rfl
theorem p51:Pp 51 6 382 s51 s57 q51 q57:=λw os=>by kernel_rfl
theorem p57:Pp 57 4 279 s57 s61 q57 q61:=λw os=>by kernel_rfl
theorem p61:Pp 61 1 251 s61 s62 q61 q62:=λw os=>by kernel_rfl
theorem p62:Pp 62 1 249 s62 s63 q62 q63:=λw os=>by kernel_rfl
theorem p63:Pp 63 1 260 s63 s64 q63 q64:=λw os=>by kernel_rfl
theorem p64:Pp 64 1 288 s64 s65 q64 q65:=λw os=>by kernel_rfl
theorem p65:Pp 65 10 401 s65 s75 q65 q75:=λw os=>by kernel_rfl
theorem p75:Pp 75 28 362 s75 s103 q75 q103:=λw os=>by kernel_rfl
theorem p103:Pp 103 1 297 s103 s104 q103 q104:=λw os=>by kernel_rfl
theorem p104:Pp 104 5 379 s104 s109 q104 q109:=λw os=>by kernel_rfl
theorem p109:Pp 109 15 385 s109 s124 q109 q124:=λw os=>by kernel_rfl
theorem p124:Pp 124 5 96 s124 s129 q124 q129:=λw os=>by kernel_rfl
theorem p129:Pp 129 1 812 s129 s130 q129 q130:=λw os=>by kernel_rfl
theorem p130:Pp 130 13 393 s130 s143 q130 q143:=λw os=>by kernel_rfl
theorem p143:Pp 143 11 139 s143 s154 q143 q154:=λw os=>by kernel_rfl
theorem p154:Pp 154 5 323 s154 s159 q154 q159:=λw os=>by kernel_rfl
theorem p159:Pp 159 1 235 s159 s160 q159 q160:=λw os=>by kernel_rfl
theorem p160:Pp 160 13 376 s160 s173 q160 q173:=λw os=>by kernel_rfl
theorem p173:Pp 173 16 375 s173 s189 q173 q189:=λw os=>by kernel_rfl
theorem p189:Pp 189 12 380 s189 s201 q189 q201:=λw os=>by kernel_rfl
theorem p201:Pp 201 8 251 s201 s209 q201 q209:=λw os=>by kernel_rfl
theorem p209:Pp 209 3 295 s209 s212 q209 q212:=λw os=>by kernel_rfl
theorem p212:Pp 212 1 294 s212 s213 q212 q213:=λw os=>by kernel_rfl
theorem p213:Pp 213 1 257 s213 s214 q213 q214:=λw os=>by kernel_rfl
theorem p214:Pp 214 1 529 s214 s215 q214 q215:=λw os=>by kernel_rfl
theorem p215:Pp 215 1 293 s215 s216 q215 q216:=λw os=>by kernel_rfl
theorem p216:Pp 216 1 224 s216 s217 q216 q217:=λw os=>by kernel_rfl
theorem p217:Pp 217 1 256 s217 s218 q217 q218:=λw os=>by kernel_rfl
theorem p218:Pp 218 1 224 s218 s219 q218 q219:=λw os=>by kernel_rfl
theorem p219:Pp 219 1 1046 s219 s220 q219 q220:=λw os=>by kernel_rfl
theorem p220:Pp 220 13 394 s220 s233 q220 q233:=λw os=>by kernel_rfl
theorem p233:Pp 233 13 394 s233 s246 q233 q246:=λw os=>by kernel_rfl
theorem p246:Pp 246 2 53 s246 s248 q246 q248:=λw os=>by kernel_rfl
abbrev ann:Option Value:=some (.ref 6)
abbrev tf:List Frame:=[topFrame ⟨0,0,0,0⟩]
theorem seg_tw{w:World}{n:Nat}{s s':SharedT}{t:Thread}{f:Flow}{c:Code}{q:Pos}(h:Fast.tw10110043849684766642 Fast.tw14364793385576792824 PW w 11 ann 1 n s t=some (f,s',c,q)):
  segRun treeTable PW w 11 ann 1 n s.abs t=some (f,s'.abs,c,q):=by
 refine segRun_of ?_
 rw[Fast.te10110043849684766642,Fast.te14364793385576792824]
 exact h
theorem next{w:World}{i m n N:Nat}{s s' r:Shared}{pos p':Pos}(h:segRun treeTable PW w 11 ann 1 n s (piecesOf (seg i m) env cd pos tf)=some (.next,s',cd,p'))
  (k:topRun treeTable PW w 11 ann N s' (restOf (B.drop (i+m)) env cd p' tf)=some r):topRun treeTable PW w 11 ann (n+N) s (restOf (B.drop i) env cd pos tf)=some r:=by
 have e:=piece_app h k
 have q:seg i m++B.drop (i+m)=B.drop i:=by
  unfold seg
  rw[← List.drop_drop,List.take_append_drop]
 rwa [q] at e
theorem fin0(w:World)(os:OsState):Fast.tw14082659384304107361 Fast.tw14364793385576792824 PW w 11 ann 2 (s248 w os).abs ⟨doneF .next,cd,q248,tf⟩=some (s248 w os).abs:=by kernel_rfl
theorem fin1(w:World)(os:OsState):topRun treeTable PW w 11 ann 2 (s248 w os).abs (restOf (B.drop 248) env cd q248 tf)=some (s248 w os).abs:=by
 have e:B.drop 248=[]:=by kernel_rfl
 rw[e,Fast.te14082659384304107361,Fast.te14364793385576792824]
 exact fin0 w os
abbrev Rr(i N:Nat)(s:St1)(p:Pos):Prop:=∀w os,topRun treeTable PW w 11 ann N (s w os).abs (restOf (B.drop i) env cd p tf)=some (s248 w os).abs
theorem nx{i m n N:Nat}{s t:St1}{p r:Pos}(a:Pp i m n s t p r)(b:Rr (i+m) N t r):Rr i (n+N) s p:=λw os=>next (seg_tw (a w os)) (b w os)
theorem r248:Rr 248 2 s248 q248:=fin1
theorem r0:Rr 0 13346 s0 q0:=nx p0 (nx p42 (nx p50 (nx p51 (nx p57 (nx p61 (nx p62 (nx p63 (nx p64 (nx p65 (nx p75 (nx p103 (nx p104 (nx p109 (nx p124 (nx p129 (nx p130 (nx p143 (nx p154 (nx p159 (nx p160 (nx p173 (nx p189 (nx p201 (nx p209 (nx p212 (nx p213 (nx p214 (nx p215 (nx p216 (nx p217 (nx p218 (nx p219 (nx p220 (nx p233 (nx p246 r248)))))))))))))))))))))))))))))))))))
theorem blk(w:World)(os:OsState):Fast.tw14374325043358763698 Fast.tw14364793385576792824 PW w 11 ann 1 1 (s0 w os).abs (blockOf B env cd ⟨0,0,0,0⟩ tf)=some (.next,(s0 w os).abs,cd,⟨0,0,0,0⟩):=by kernel_rfl
theorem pre0(w:World)(os:OsState):Fast.tw15667345088766844465 Fast.tw14364793385576792824 PW w 11 ann 12 ⟨boot_heap w.params,Array.mk [],boot_drawn,boot_toks,os⟩ (topStub PW)=some ((s0 w os).abs,⟨Fast.tw11892475500146522536 Fast.tw14364793385576792824 cd,cd,⟨0,0,0,0⟩,tf⟩):=by kernel_rfl
theorem run(w:World)(os:OsState):topRun treeTable PW w 11 ann 13359 ⟨boot_heap w.params,Array.mk [],boot_drawn,boot_toks,os⟩ (topStub PW)=some (s248 w os).abs:=by
 have b:segRun treeTable PW w 11 ann 1 1 (s0 w os).abs (blockOf B env cd ⟨0,0,0,0⟩ tf)=some (.next,(s0 w os).abs,cd,⟨0,0,0,0⟩):=by
  rw[Fast.te14374325043358763698,Fast.te14364793385576792824];exact blk w os
 have k:=piece_block (q:=⟨0,0,0,0⟩) (n:=1) (N:=13346) b (r0 w os)
 refine go_top (n:=12) (N:=13347) ?_ (by rw[Nat.add_comm] at k;exact k)
 rw[Fast.te15667345088766844465,Fast.te14364793385576792824,Fast.te11892475500146522536]
 exact pre0 w os
abbrev row:OpenRow:=PySem.Challenge.rw_xm0459_01.row
def q:Program:={PW with main:={PW.main with body:=[S 247]}}
def loose:List Str:=List.map Str.ofString ["_wall","K_NUM","K_STR","K_TPL","K_NULL","K_NAME","K_THIS","K_SUPER","K_ARRAY","K_SHORT","K_MEMBER","K_INDEX","K_CALL","K_CHAIN","K_ASSIGN","K_FUNC","K_PARAM","K_AS","K_SATISFIES","K_NONNULL","K_PAREN","K_OBJPAT","K_ARRPAT","K_BIND","K_EXPRST","K_IF","K_WHILE","K_BLOCK","K_CLASS","K_FIELD","K_LIST","K_TKEY","K_TELEM","K_TPAREN","F_ARROW","F_EXPRBODY","F_METHOD","F_GET","F_SET","F_CTOR","F_OPT","F_PRIVATE","F_PROTECTED","F_PUBLIC","F_READONLY","F_STATIC","F_ABSTRACT","F_BANG","F_AMBIENT","NODE_WORDS","Node","flagged","has","bare","literal_key","member_name","is_type","U_FIELD","KeepError","TooDeep","HostFault","Diag","Diags","Notes","Y_KEY","Y_BOOL","Y_STR","Y_NUM","Y_ENUM","Y_UNION","Y_OBJ","Y_REF","Y_PARAM","Y_ARRAY","Y_TUPLE","Y_SIG","Y_TPL","ANY","UNKNOWN","NEVER","UNDEF","STRING","NUMBER","FALSE_T","TRUE_T","EMPTY","ERR","FRESH_F","FRESH_T","P_OPT","P_READONLY","P_PRIVATE","P_PROTECTED","E_OPT","E_REST","E_SPREAD","D_CLASS","MAX_UNION","FIRST_ROWS","MARKED_ROWS","TypeTable","Decl","ref_type","sorted_props","obj_type","sig_type","func_type","new_decl","parts_of","whole_of_row","regular_twin","join_bools","stays_beside","top_of","union","add_undef","MOST_PLAIN","PLAIN_ROWS","LIST_ROWS","hidden_apart","final_parts","plain_shape","MOST_ROUNDS","MOST_SHAPES","Thin","bound_of","elem_read","told_places","find_prop","is_digits","place_of","is_number_name","prop_row","read_type","late_place","list_read","index_read","part_type","prop_type","tuple_at","L_DEAD","L_START","L_JOIN","L_LOOP","L_SET","L_TRUE","L_FALSE","L_CALL","Graph","own_ref","M_CLASS","Symbol","Bound","calls_class_node","own_ctors","MK_FIELD","MK_ACCESS","MK_METHOD","MK_ABSTRACT","MK_STATIC","MK_SET","MK_CTOR","MK_CLOSED","field_mark","mark_of","is_param_prop","ctor_with_body","param_props","member_marks","marks_of","first_marks","chain_of","find_mark","USE_READ","USE_WRITE","USE_CALL","NAME_ONLY","THROUGH","role_in","is_self","is_super_call","push_kids","uses_of","push_inner","param_inits","early_road","field_kind","lacks_undef","own_mark","is_plain_field","extends_some","abstract_use","check_ctor_use","is_arrow_field","check_early_read","check_ctor_this","check_param_use","BoundHost","MOST_DEEP","Guard","Roads","Judge","Patterns","Giver","Places","FuncRule","Sheet","stays_told","take_back","given_kind","want_fit","_law_take","_law_node","_law_list","_law_use","_law_func","_law_foreign","_law_part","_law_pattern","_law_param","_law_held","_law_step","_law_rows","_law_lay","_law_roads","_law_walk","_law_run","_law_unset","_law_member","_law_near","_law_head","_law_say_param","_law_say"]
def d:DefRec:={name:=Str.ofString "law",params:=fP (S 247),body:=fB (S 247),scope:=fS (S 247),pos:=match S 247 with | .FunctionDef _ _ _ _ _ _ _ _ _ p=>p |_=>default}
def T1(P:Params):BT:=TF (h2b P) (h3 (sv "law_xm0459_01" 2789) 242 243 P) (h12 360) (h108 [.ref 129,.ref 149]) (h602 [.ref 1014]) P
def H1(P:Params):Heap:=absHeap (T1 P) 1623 {}
theorem opn:∀w:World,(fencedOpening treeTable PW w 20000).map (λs=>(s.heap,s.gens,s.drawn,s.toks))=some (boot_heap w.params,Array.mk [],boot_drawn,boot_toks):=
 boot_open (by kernel_rfl) (by decide) (λs=>by kernel_rfl)
theorem size:∀w:World,((boot_heap w.params).isNs mainGlobals&&(Array.mk []:Array GenState).size==0,(boot_heap w.params).objs.size,(boot_heap w.params).nsMap mainGlobals "__annotations__")=(true,11,some (.ref 6)):=λw=>by kernel_rfl
theorem look1(w:World)(os:OsState):(staticsOk (Fast.tw5923862056798008813 PW.main.body) (boot_heap w.params) (H1 w.params)&&namesBound PW (H1 w.params)&&gensDone ⟨H1 w.params,Array.mk [],{},3005,os⟩&&laidKept (boot_heap w.params) (H1 w.params))=true:=by kernel_rfl
theorem look2(w:World)(os:OsState):Fast.tw4187177175401517315 q loose (Fast.tw5923862056798008813 PW.main.body) (λ_=>true) true ⟨H1 w.params,Array.mk [],{},3005,os⟩=openGood q loose:=by kernel_rfl
theorem and2{a b:Bool}(h:a=true)(g:b=true):(a&&b)=true:=by rw[h,g];rfl
theorem ws1:PySem.W.Fast.tw12908688711261696721 PySem.Challenge.rw_xm0459_01.prog=true:=by
 delta PySem.W.Fast.tw12908688711261696721
 refine and2 (and2 (and2 (and2 (and2 ?_ ?_) ?_) ?_) ?_) ?_
 all_goals decide+kernel
theorem ws2:PySem.W.Fast.tw2436336058641802641 (PySem.W.Fast.tw2368527892694137696 PySem.Challenge.rw_xm0459_01)=true:=by
 delta PySem.W.Fast.tw2436336058641802641
 refine and2 (and2 (and2 (and2 (and2 (and2 (and2 (and2 (and2 (and2 (and2 (and2 (and2 ws1 ?_) ?_) ?_) ?_) ?_) ?_) ?_) ?_) ?_) ?_) ?_) ?_) ?_
 all_goals decide+kernel
theorem ws3:PySem.W.Fast.tw17960256430627541270 (PySem.W.Fast.tw2368527892694137696 PySem.Challenge.rw_xm0459_01)=true:=by
 delta PySem.W.Fast.tw17960256430627541270
 refine and2 (and2 ws2 ?_) ?_
 all_goals decide+kernel
theorem ws:PySem.Challenge.rw_xm0459_01.wellSaid=true:=by
 refine(congrFun PySem.W.Fast.te9446332074065402090 PySem.Challenge.rw_xm0459_01).trans ?_
 delta PySem.W.Fast.tw9446332074065402090
 refine and2 (and2 (and2 (and2 (and2 (and2 (and2 (and2 (and2 (and2 (and2 (and2 (and2 (and2 (and2 (and2 (and2 (and2 ws3 ?_) ?_) ?_) ?_) ?_) ?_) ?_) ?_) ?_) ?_) ?_) ?_) ?_) ?_) ?_) ?_) ?_) ?_
 all_goals decide+kernel
end H
end
section
namespace H
open PySem PySem.W PyProof.Rows
set_option maxHeartbeats 400000
def YP(w:World)(h:Heap):Prop:=∀b o,(H1 w.params).get? b=some o→h.get? b=some o
theorem left:LeftO PW q loose (λ_=>true) (λs=>s.heap) (λw=>H1 w.params) 20000:=by
 refine LeftO.of_pieces (H₀:=boot_heap) (H₁:=H1) (gs₀:=Array.mk []) (gs₁:=Array.mk []) (d₀:=boot_drawn) (d₁:={}) (k₀:=boot_toks) (k₁:=3005) (m₀:=11) (ann:=some (.ref 6)) (M:=13359) opn size ?_ (by decide) ?_
 ·intro w os;exact run w os
 ·intro w
  funext os
  have a:=look1 w os
  have b:=look2 w os
  rw[← Fast.te5923862056798008813] at a b
  rw[← Fast.te4187177175401517315] at b
  exact Prod.ext a (Prod.ext b rfl)
theorem hdef:defOf q row.name=some (d,[]):=by kernel_rfl
theorem hp0:Fast.tw10235530238920679567 row.prog row.name=some (d.params,d.body,d.scope):=by kernel_rfl
theorem hp:row.prog.theDef row.name=some (d.params,d.body,d.scope):=by rw[Fast.te10235530238920679567];exact hp0
theorem hk:kwWritten? d.params.kwonlyargs d.params.kw_defaults=some []:=by kernel_rfl
theorem ok0:(chainsOk q&&opensWell row.prog&&(frees row.toRowW&&row.within.isEmpty))=true:=by decide+kernel
theorem hb0:PW.tablesWhole=true:=by decide+kernel
theorem hb:row.prog.bare:=⟨by kernel_rfl,by kernel_rfl,by kernel_rfl,by kernel_rfl,by kernel_rfl,hb0⟩
theorem hw:row.toRowW.promised:=by w_witness2
theorem head(walk:WalkO q loose (λ_ _=>True) YP row.toRowW d [] (λf vs=>PySem.call f vs)):PySem.Challenge.rw_xm0459_01.Holds:=
 holds_law ws λsaid=>holds_open left (λw s e b o h=>by rw[e];exact h) (λw h h' y k b o e=>k _ _ (y b o e)) (λ_ _=>trivial) (λ_ _ _ _ _=>trivial) hdef hp hk (λ_ _=>recFacts_nil (by kernel_rfl)) (by kernel_rfl) said ok0 hb hw walk
end H
end
section
open PySem PySem.W PyProof.Rows
section
def V9:=@Nat.le_trans
def Wg:=@Nat.lt_of_le_of_lt
def Wh:=@Nat.lt_of_lt_of_le
def Wi:=@Nat.lt_trans
def Wj:=@Nat.add_le_add_left
def Wl:=@Nat.add_le_add_right
def Wm:=@Nat.add_le_add
def Wo:=@Nat.le_add_right
def Wp:=@Nat.le_add_left
def Wq:=@Nat.le_of_eq
def Wr:=@Nat.mul_le_mul_left
def Wu:=@Nat.le_of_ble_eq_true
def Wv:=@Nat.eq_of_beq_eq_true
def Ww:=@Nat.succ_le_succ
def Wx:=@Nat.ble_eq_true_of_le
def Wy:=@Int.le_trans
theorem Wz{α}{a b:α}(h:some a=some b):a=b:=Option.some.inj h
theorem WA{α β}{l:List α}{f g:α→β}(h:l.map f=l.map g):∀a∈l,f a=g a:=List.map_inj_left.mp h
theorem WB{a b:Bool}(h:(a&&b)=true):a=true∧b=true:=Bool.and_eq_true_iff.mp h
theorem WC{α}{a b:α}{l:List α}(h:a∈b::l):a=b∨a∈l:=List.mem_cons.mp h
theorem WD{α}{a b:α}(h:a∈[b]):a=b:=List.mem_singleton.mp h
theorem WE{m n:Nat}(h:m<n):m∈List.range n:=List.mem_range.mpr h
theorem WF{α}{a:α}{s t:List α}(h:a∈s++t):a∈s∨a∈t:=List.mem_append.mp h
theorem WG{α}{a:α}(s:List α){t:List α}(h:a∈t):a∈s++t:=List.mem_append_right s h
theorem WH{α}{a:α}{s:List α}(t:List α)(h:a∈s):a∈s++t:=List.mem_append_left t h
theorem WJ{α}{a:α}:¬a∈([]:List α):=List.not_mem_nil
theorem WK{α}{a:α}{i:Nat}{l:List α}(h:l[i]?=some a):∃h:i<l.length,l[i]=a:=List.getElem?_eq_some_iff.mp h
theorem WL{α}{p:α→Bool}{l:List α}(h:l.all p=true):∀x∈l,p x=true:=List.all_eq_true.mp h
theorem WM{m n:Nat}(h:(m:Int)<n):m<n:=Int.ofNat_lt.mp h
theorem WN{α}{a b:List α}:(a++b).length=a.length+b.length:=List.length_append
theorem WO{α β}{as:List α}(f:α→β):(as.map f).length=as.length:=List.length_map f
theorem WQ{α}(a:List α):a++[]=a:=List.append_nil a
theorem WR{α}(a b c:List α):a++b++c=a++(b++c):=List.append_assoc a b c
theorem WS{α β}{f:α→β}{a b:List α}:(a++b).map f=a.map f++b.map f:=List.map_append
def WT:=@wpAny_bind
def WU:=@wpAny_pure
end
end
section
open PySem
section
inductive A where
 |none |bool (b:Bool) |int (i:Int) |str (s:Str) |tup (l:List A) |fl (l:List A) |fd (es:List (A×A)) |fi (c:Addr) (as:List (Str×A)) |g (l i:Nat) |obj (v:Value)
inductive X where |a(x:A) |l(j k:Nat)
inductive Ce where |list(xs:List A) |dict(es:List (A×A)) |inst(c:Addr)(as:List (Str×A)) |fz(x:A)
inductive Ow where |g(l i:Nat) |l(j k:Nat) |d(w:Ow) |f |z
noncomputable def Rg(d:Nat):Type:=@Nat.rec (λ_=>Type) (List Ce) (λ_ T=>T×T) d
noncomputable def eC(d:Nat):Nat→Rg d→List Ce:=@Nat.rec (λd=>Nat→Rg d→List Ce) (λ_ r=>r) (λ_ f l r=>cond (Nat.beq (l % 2) 0) (f (l / 2) r.1) (f (l / 2) r.2)) d
noncomputable def ac(d:Nat):Nat→List Ce→Rg d→Rg d:=@Nat.rec (λd=>Nat→List Ce→Rg d→Rg d) (λ_ x _=>x) (λ_ f l x r=>cond (Nat.beq (l % 2) 0) (f (l / 2) x r.1,r.2) (r.1,f (l / 2) x r.2)) d
structure AS where
 loc:List (List Ce)
 gl:Rg 5
noncomputable def AS.get(S:AS)(l:Nat):List Ce:=eC 5 l S.gl
noncomputable def AS.set(S:AS)(l:Nat)(x:List Ce):AS:=⟨S.loc,ac 5 l x S.gl⟩
noncomputable def aw(c:Bool)(P Q:Prop):Prop:=@Bool.rec (λ_=>Prop) Q P c
noncomputable def opt{α:Type}(o:Option α)(K:α→Prop):Prop:=@Option.rec α (λ_=>Prop) False K o
noncomputable def alt{α:Type}{β:Type}(o:Option α)(f:α→β)(g:β):β:=@Option.rec α (λ_=>β) g f o
noncomputable def Gy(a:List Nat):List Nat→Bool:=@List.rec Nat (λ_=>List Nat→Bool) (λb=>@List.rec Nat (λ_=>Bool) true (λ_ _ _=>false) b) (λx _ ih b=>@List.rec Nat (λ_=>Bool) false (λy s _=>cond (Nat.beq x y) (ih s) false) b) a
noncomputable def seq(a b:Str):Bool:=Gy a.cps.toList b.cps.toList
noncomputable def br{α:Type}(n:Str)(l:List (Str×α)):Option α:=@List.rec (Str×α) (λ_=>Option α) none (λp _ ih=>cond (seq p.1 n) (some p.2) ih) l
noncomputable def i5{α:Type}(n:Str)(v:α)(l:List (Str×α)):List (Str×α):=@List.rec (Str×α) (λ_=>List (Str×α)) [(n,v)] (λp r ih=>cond (seq p.1 n) ((p.1,v)::r) (p::ih)) l
noncomputable def lk{α:Type}(n:Nat)(l:List (Nat×α)):Option α:=@List.rec (Nat×α) (λ_=>Option α) none (λp _ ih=>cond (Nat.beq p.1 n) (some p.2) ih) l
noncomputable def hs(x:Str):Nat:=x.cps.toList.foldl (λa c=>(a*31+c) % 65521) 7
noncomputable def DG{α:Type}(x:Str)(l:List (Nat×Str×α)):Option α:=(lk (hs x) l).bind λp=>cond (seq p.1 x) (some p.2) none
abbrev En:=List (Str×X)
abbrev Nm:=List (Str×NameKind)
abbrev KX:=X→AS→Prop
abbrev KN:=En→AS→Prop
noncomputable def vI(a:A):Option {i:Int // a=.int i}:=match a with | .int i=>some ⟨i,rfl⟩ |_=>none
noncomputable def vS(a:A):Option {i:Str // a=.str i}:=match a with | .str i=>some ⟨i,rfl⟩ |_=>none
noncomputable def vT(a:A):Option {l:List A // a=.tup l}:=match a with | .tup l=>some ⟨l,rfl⟩ |_=>none
noncomputable def vO(a:A):Option {v:Value // a=.obj v}:=match a with | .obj v=>some ⟨v,rfl⟩ |_=>none
noncomputable def uA(x:X):Option {a:A // x=.a a}:=match x with | .a a=>some ⟨a,rfl⟩ | .l _ _=>none
noncomputable def uI(x:X):Option {i:Int // x=.a (.int i)}:=(uA x).bind λp=>(vI p.1).map λq=>⟨q.1,p.2.trans (congrArg X.a q.2)⟩
noncomputable def uS(x:X):Option {i:Str // x=.a (.str i)}:=(uA x).bind λp=>(vS p.1).map λq=>⟨q.1,p.2.trans (congrArg X.a q.2)⟩
noncomputable def uT(x:X):Option {i:List A // x=.a (.tup i)}:=(uA x).bind λp=>(vT p.1).map λq=>⟨q.1,p.2.trans (congrArg X.a q.2)⟩
noncomputable def xD(a:A):Option Ce:=match a with | .fl xs=>some (.list xs) | .fd es=>some (.dict es) | .fi c as=>some (.inst c as) |_=>none
noncomputable def frz(c:Ce):A:=match c with | .list xs=>.fl xs | .dict es=>.fd es | .inst c as=>.fi c as | .fz x=>x
noncomputable def jL(c:Ce):Bool:=match c with | .fz _=>true |_=>false
noncomputable def iy(c:Ce):Option Ce:=match c with | .fz x=>xD x |c=>some c
noncomputable def cont(S:AS)(w:Ow):Option Ce:=match w with | .g l i=>cond (Nat.ble l 31) (S.get l)[i]? none | .l j k=>(S.loc[j]?).bind λfr=>fr[k]? |_=>none
noncomputable def rf(x:X):Option Ow:=match x with | .a a=>(match a with | .g l i=>some (.g l i) |_=>none) | .l j k=>some (.l j k)
noncomputable def au(S:AS)(x:X):Option Ce:=alt (rf x) (λw=>(cont S w).bind iy) ((uA x).bind λp=>xD p.1)
noncomputable def xA(S:AS)(c:Ce)(w:Ow):Option AS:=match w with
 | .g l i=>cond (Nat.ble l 31) (some (S.set l ((S.get l).set i c))) none
 | .l j k=>(S.loc[j]?).map λfr=>⟨S.loc.set j (fr.set k c),S.gl⟩
 |_=>none
noncomputable def fR(S:AS)(x:X)(c:Ce):Option AS:=(rf x).bind λw=>(cont S w).bind λo=>cond (jL o) none (xA S c w)
noncomputable def q6(S:AS)(x:X):Option (A×AS):=match x with
 | .a x=>some (x,S)
 | .l j k=>(cont S (.l j k)).bind λo=>(xA S (.fz (frz o)) (.l j k)).map λS=>(frz o,S)
noncomputable def eX(xs:List X):AS→(List A→AS→Prop)→Prop:=@List.rec X (λ_=>AS→(List A→AS→Prop)→Prop) (λS K=>K [] S) (λx _ ih S K=>opt (q6 S x) λp=>ih p.2 λxs S=>K (p.1::xs) S) xs
inductive SK where |loc |frz |glob(r:Nat)
noncomputable def ia(k:SK)(c:Ce)(S:AS)(K:KX):Prop:=match k with
 | .loc=>(match S.loc with |fr::r=>K (.l 0 fr.length) ⟨(fr++[c])::r,S.gl⟩ |[]=>False)
 | .frz=>K (.a (frz c)) S
 | .glob l=>cond (Nat.ble l 31) (K (.a (.g l (S.get l).length)) (S.set l (S.get l++[c]))) False
noncomputable def py(x:A):Option PyData:=@A.rec (λ_=>Option PyData) (λ_=>Option (List PyData)) (λ_=>Unit) (λ_=>Unit) (λ_=>Unit) (λ_=>Unit)
 (some .none) (λb=>some (.bool b)) (λi=>some (.int i)) (λs=>some (.str s)) (λ_ ih=>ih.map .tuple) (λ_ _=>none) (λ_ _=>none) (λ_ _ _=>none) (λ_ _=>none) (λ_=>none)
 (some []) (λ_ _ a b=>a.bind λx=>b.map λr=>x::r) () (λ_ _ _ _=>()) () (λ_ _ _ _=>()) (λ_ _ _ _=>()) (λ_ _ _=>()) x
noncomputable def jH(x:List A):Option (List PyData):=@A.rec_1 (λ_=>Option PyData) (λ_=>Option (List PyData)) (λ_=>Unit) (λ_=>Unit) (λ_=>Unit) (λ_=>Unit)
 (some .none) (λb=>some (.bool b)) (λi=>some (.int i)) (λs=>some (.str s)) (λ_ ih=>ih.map .tuple) (λ_ _=>none) (λ_ _=>none) (λ_ _ _=>none) (λ_ _=>none) (λ_=>none)
 (some []) (λ_ _ a b=>a.bind λx=>b.map λr=>x::r) () (λ_ _ _ _=>()) () (λ_ _ _ _=>()) (λ_ _ _ _=>()) (λ_ _ _=>()) x
noncomputable def BK(x y:A):Option Bool:=(py x).bind λa=>(py y).bind λb=>cond (Nat.ble (min a.depth b.depth) 40) (some (PyData.eqv a b)) none
noncomputable def iw(x y:List A):Option Bool:=(jH x).bind λa=>(jH y).bind λb=>cond (Nat.ble (min (PyData.depthAll a) (PyData.depthAll b)) 39) (some (PyData.eqvAll a b)) none
noncomputable def oM(k:A):Option PyData:=(py k).bind λd=>cond (Nat.ble d.depth 8) (some d) none
noncomputable def am(d:PyData)(a:A):Bool:=alt (py a) (λb=>PyData.eqv b d) false
noncomputable def cH(d:PyData)(es:List (A×A)):Option A:=@List.rec (A×A) (λ_=>Option A) none (λp _ ih=>cond (am d p.1) (some p.2) ih) es
noncomputable def bV(d:PyData)(k v:A)(es:List (A×A)):List (A×A):=@List.rec (A×A) (λ_=>List (A×A)) [(k,v)] (λp r ih=>cond (am d p.1) ((p.1,v)::r) (p::ih)) es
noncomputable def bH(k:A)(es:List (A×A)):Option (Option A):=(oM k).map λd=>cH d es
noncomputable def oB(k v:A)(es:List (A×A)):Option (List (A×A)):=(oM k).map λd=>bV d k v es
noncomputable def BO(k:A)(l:List A):Option Bool:=(py k).bind λd=>(jH l).bind λxs=>cond (Nat.ble (min (PyData.depthAll xs) d.depth) 39) (some (xs.any λy=>PyData.eqv y d)) none
noncomputable def ix(i:Int):Option Nat:=match i with | .ofNat n=>some n | .negSucc _=>none
noncomputable def cf{α:Type}(l:List α):Option (List α×α):=@List.rec α (λ_=>Option (List α×α)) none (λa _ ih=>alt ih (λp=>some (a::p.1,p.2)) (some ([],a))) l
noncomputable def SH{α β:Type}(f:α→Option β)(l:List α):Option (List β):=@List.rec α (λ_=>Option (List β)) (some []) (λa _ ih=>(f a).bind λb=>ih.map λl=>b::l) l
noncomputable def ba(o:Option Ce):Option (List A):=o.bind λc=>match c with | .list l=>some l |_=>none
noncomputable def fH(o:Option Ce):Option (List (A×A)):=o.bind λc=>match c with | .dict l=>some l |_=>none
noncomputable def rt(o:Option Ce):Option (Addr×List (Str×A)):=o.bind λc=>match c with | .inst c l=>some (c,l) |_=>none
noncomputable def bM:Nat:=1000000
noncomputable def ak{α:Type}(xs:List α)(P:Prop):Prop:=aw (Nat.ble xs.length bM) P False
abbrev ay:=List X→AS→KX→Prop
structure bA where
 fn:Nat→Option ay:=λ_=>none
 sy:List Nat:=[]
noncomputable def kX(n:Nat)(l:List Nat):Bool:=@List.rec Nat (λ_=>Bool) false (λm _ ih=>cond (Nat.beq m n) true ih) l
def SD:List Nat:=[224012,273010,296013,302010,303011,304014,578011,599017,607010,608011,652010,653012,676010,677014,690011,691014,1116011,1205010,1272011,1302010,1296010,1299014,1303012]
def Jv:List (Nat×Nat):=[(1264008,1),(1264059,2),(1083010,3),(1083127,4),(1271013,5),(1277011,6),(481021,7),(482021,8),(483021,9),(484022,10),(485018,11),(1183055,12),(180020,13),(181021,14),(182021,15),(116020,17),(127020,18),(910021,19),(809021,20),(522023,21),(1311013,22),(1311017,23),(1312013,24),(1312017,25)]
noncomputable def sk(l:Nat):SK:=alt (lk l Jv) SK.glob (cond (kX l SD) .loc .frz)
noncomputable def ck(a:Nat):SK:=cond (Nat.beq a 44) .loc (cond (Nat.beq a 331) (.glob 16) .frz)
noncomputable def x9(p:Pos):Nat:=p.line*1000+p.col
def small(i:Int):Bool:=i.natAbs<2 ^ 63
noncomputable def iU(o:Operator)(a b:Int):Option Int:=match o with
 | .Add=>some (a+b) | .Sub=>some (a - b) | .Mult=>cond (small a ||small b) (some (a*b)) none
 | .FloorDiv=>cond (decide (b>0∧b<1000000)) (some (a.fdiv b)) none | .Mod=>cond (decide (b>0)) (some (a.fmod b)) none
 | .BitAnd=>some (Builtin.bitAnd a b) | .BitOr=>some (Builtin.bitOr a b) |_=>none
noncomputable def ui(x:X):Bool:=match x with | .l _ _=>true | .a a=>(match a with | .g _ _=>true | .fl _=>true |_=>false)
noncomputable def CS(o:Operator):Bool:=match o with | .Add=>true |_=>false
noncomputable def G7(lb:Nat)(o:Operator)(x y:X)(S:AS)(K:KX):Prop:=aw (ui x)
 (aw (CS o) (opt (ba (au S x)) λl=>opt (ba (au S y)) λm=>ak (l++m) (ia (sk lb) (.list (l++m)) S K)) False)
 (opt (uI x) λa=>opt (uI y) λb=>opt (iU o a.1 b.1) λr=>K (.a (.int r)) S)
noncomputable def isNone(x:X):Option {u:Unit // x=.a .none}:=match x with | .a a=>(match a with | .none=>some ⟨(),rfl⟩ |_=>none) | .l _ _=>none
noncomputable def b7(x:X):Option Bool:=match x with | .l _ _=>some false | .a a=>(match a with | .none=>some true | .obj _=>none |_=>some false)
noncomputable def EH(k:A)(y:X)(o:Option Ce):Option Bool:=alt (uT y) (λl=>BO k l.1) (alt (uS y) (λb=>(vS k).map λa=> !(Builtin.Str.occurrences b.1 a.1 0 b.1.length 1).isEmpty)
 (alt (ba o) (λl=>BO k l) ((fH o).bind λes=>(bH k es).map Option.isSome)))
noncomputable def FC(o:CmpOp)(a b:Int):Option Bool:=match o with
 | .Lt=>some (decide (a<b)) | .LtE=>some (decide (a≤b)) | .Gt=>some (decide (a>b)) | .GtE=>some (decide (a≥b)) |_=>none
noncomputable def lF(S:AS)(x y:X)(K:Bool→Prop):Prop:=aw (ui x)
 (opt (ba (au S x)) λl=>opt (ba (au S y)) λm=>opt (iw l m) K)
 (opt (uA x) λa=>opt (uA y) λb=>opt (BK a.1 b.1) K)
noncomputable def dE(o:CmpOp)(x y:X)(S:AS)(K:Bool→Prop):Prop:=match o with
 | .Is=>opt (isNone y) λ_=>opt (b7 x) K
 | .IsNot=>opt (isNone y) λ_=>opt (b7 x) λb=>K (!b)
 | .In=>opt (uA x) λk=>opt (EH k.1 y (au S y)) K
 | .NotIn=>opt (uA x) λk=>alt (uS y) (λ_=>False) (opt (EH k.1 y (au S y)) λb=>K (!b))
 | .Eq=>lF S x y K
 | .NotEq=>lF S x y λb=>K (!b)
 |o=>opt (uI x) λa=>opt (uI y) λb=>opt (FC o a.1 b.1) K
noncomputable def aq{α:Type}(l:List α):Bool:=match l with |[]=>false |_::_=>true
noncomputable def EQ(a:A):Option Bool:=match a with
 | .none=>some false | .bool b=>some b | .int i=>some (!decide (i=0)) | .str s=>some (!decide (s.length=0)) | .tup l=>some (aq l) |_=>none
noncomputable def Fc(x:X)(o:Option Ce):Option Bool:=alt (ba o) (λl=>some (aq l)) ((uA x).bind λa=>EQ a.1)
noncomputable def sX(x:X)(S:AS)(P Q:Prop):Prop:=opt (Fc x (au S x)) λb=>aw b P Q
noncomputable def aM(x:X)(i:A)(o:Option Ce):Option A:=alt (uT x) (λl=>(vI i).bind λk=>(ix k.1).bind λn=>l.1[n]?) (alt (uS x) (λs=>(vI i).bind λk=>(ix k.1).bind λn=>(s.1.cps[n]?).map λc=>.str ⟨#[c]⟩)
 (alt (ba o) (λl=>(vI i).bind λk=>(ix k.1).bind λn=>l[n]?) ((fH o).bind λes=>(bH i es).bind id)))
noncomputable def ao(x i:X)(S:AS)(K:KX):Prop:=opt (uA i) λi=>opt (aM x i.1 (au S x)) λv=>K (.a v) S
noncomputable def bv(x i v:X)(S:AS)(K:AS→Prop):Prop:=opt (uA i) λi=>opt (q6 S v) λp=>opt (fH (au p.2 x)) λes=>opt (oB i.1 p.1 es) λes'=>ak es' (opt (fR p.2 x (.dict es')) K)
def c6:List (Nat×Option Nat):=[(44,some 41),(175,some 165),(209,some 194),(251,some 227),(310,some 293),(331,some 328),(729,some 719),(755,some 752),(776,some 773),(1014,some 473),(1047,none),(1075,some 1065),(1159,some 1093),(1194,none),(1215,none),(1243,none),(1264,none),(1446,some 1282)]
noncomputable def lr:List (Nat×List (Str×Nat)):=[(175,[("row",172)]),(209,[("put",201)]),(251,[("put",234)]),(310,[("row",300),("put",307)]),(729,[("make",726)]),(1014,[("list_prop",578),("shape",1011),("bound",1004),("force",480)]),(1075,[("unset",1072)]),(1446,[("tell",1352),("fault",1345),("note",1366)])]
noncomputable def ok(h:Nat)(s:String):Nat×Str×Unit:=(h,Str.ofString s,())
noncomputable def nk:List (Nat×List (Nat×Str×Unit)):=[(44,[ok 59591 "kind",ok 314 "a",ok 59296 "kids",ok 58686 "flags",ok 9850 "at",ok 55518 "nid"]),(175,[ok 37275 "number",ok 9850 "at",ok 32212 "args",ok 41617 "file"]),(209,[ok 12104 "rows",ok 41617 "file"]),(251,[ok 12104 "rows"]),(310,[ok 12104 "rows",ok 8733 "index",ok 36335 "decls",ok 29971 "bounds",ok 6029 "defaults",ok 54355 "names",ok 5301 "origins",ok 37807 "renamed",ok 18191 "shaping",ok 13580 "putting"]),(331,[ok 45908 "did",ok 59591 "kind",ok 10204 "name",ok 53926 "params",ok 59033 "body",ok 50918 "bases",ok 938 "static",ok 36492 "extends_class",ok 53571 "abstract",ok 10942 "members",ok 31231 "variances",ok 65264 "busy",ok 9850 "at",ok 41617 "file",ok 55518 "nid"]),(729,[ok 12848 "kinds",ok 41927 "prevs",ok 4133 "nodes",ok 49396 "extras",ok 9850 "at",ok 16397 "ends",ok 64894 "starts",ok 65264 "busy",ok 32192 "sets",ok 45111 "hidden",ok 49788 "memo",ok 54171 "open",ok 35940 "hits",ok 53900 "epoch"]),(755,[ok 60323 "sid",ok 10204 "name",ok 22609 "what",ok 4133 "nodes",ok 41475 "home",ok 52591 "written",ok 16279 "scope",ok 61039 "tag"]),(776,[ok 14741 "symbols",ok 46117 "scopes",ok 2759 "of_node",ok 62556 "use",ok 43440 "decl",ok 22380 "diags"]),(1014,[ok 61034 "tab",ok 43506 "deep",ok 18307 "most_rounds",ok 16826 "most_deep",ok 53594 "lib"]),(1075,[ok 61175 "given"]),(1159,[ok 61175 "given"]),(1446,[ok 61034 "tab",ok 41676 "host",ok 11531 "bound",ok 47364 "graph",ok 54354 "namer",ok 22380 "diags",ok 19509 "notes",ok 31581 "exprs",ok 62295 "stmts",ok 49187 "sorts",ok 23332 "types",ok 18738 "declared",ok 65264 "busy",ok 62368 "called",ok 19772 "consts",ok 35633 "sigs",ok 8122 "bound_decls",ok 182 "inside",ok 2401 "rets",ok 37751 "chains",ok 62581 "trail",ok 48627 "later",ok 16360 "late",ok 29745 "targets",ok 60831 "globals",ok 2591 "loops",ok 40077 "roots",ok 13998 "inits",ok 63965 "paired",ok 33600 "got_by",ok 17930 "under",ok 28906 "drawn",ok 20033 "lent",ok 12598 "dropped",ok 53119 "marks",ok 13760 "owners",ok 38494 "this_of",ok 28663 "func_at",ok 7384 "selves_of",ok 39076 "rounds",ok 33445 "callees",ok 59073 "heads",ok 55150 "banged",ok 11608 "told_names",ok 31708 "guesses",ok 55828 "ready",ok 28358 "const_enums",ok 51637 "preset",ok 49072 "asker",ok 64093 "stops",ok 26977 "judge",ok 5753 "guard",ok 26127 "roads",ok 2314 "patterns",ok 61179 "giver",ok 11569 "funcs",ok 10776 "places",ok 43506 "deep"])]
noncomputable def Oj(c:Nat)(n:Str):Bool:=((lk c nk).bind λl=>DG n l).isSome
noncomputable def xK(c:Nat)(n:Str):Option Nat:=(lk c lr).bind λl=>br n l
noncomputable def MJ(n:Str)(o:Option Ce):Option A:=(rt o).bind λq=>cond (Oj q.1 n) (br n q.2) none
noncomputable def cC(x:X)(n:Str)(S:AS)(K:KX):Prop:=opt (MJ n (au S x)) λv=>K (.a v) S
noncomputable def iZ(x:X)(n:Str)(v:X)(S:AS)(K:AS→Prop):Prop:=opt (q6 S v) λp=>opt (rt (au p.2 x)) λq=>
 aw (Oj q.1 n&&Nat.ble (i5 n p.1 q.2).length 1000) (opt (fR p.2 x (.inst q.1 (i5 n p.1 q.2))) K) False
noncomputable def IM(lo hi:X)(l:List A):Option (List A):=alt (isNone lo) (λ_=>(uI hi).bind λb=>(ix b.1).map λn=>l.take n) ((isNone hi).bind λ_=>(uI lo).bind λb=>(ix b.1).map λn=>l.drop n)
noncomputable def lz(lb:Nat)(x lo hi:X)(S:AS)(K:KX):Prop:=opt (ba (au S x)) λl=>opt (IM lo hi l) λm=>ak m (ia (sk lb) (.list m) S K)
noncomputable def cR{α:Type}(cmp:Nat→Nat→Option Bool)(t:PySem.W.KasT α):Option α:=@PySem.W.KasT.rec α (λ_=>Option α) (λa=>some a) (λi j _ ih=>(cmp i j).bind λb=>ih b) t
noncomputable def RG(a b:A):Option Bool:=alt (vI a) (λx=>(vI b).map λy=>decide (x.1<y.1)) ((vS a).bind λx=>(vS b).map λy=>decide (x.1.cps.toList<y.1.cps.toList))
noncomputable def DR(l:List A):List A→Option Bool:=@List.rec A (λ_=>List A→Option Bool) (λm=>some (aq m)) (λa _ ih m=>@List.rec A (λ_=>Option Bool) (some false) (λb m _=>(BK a b).bind λc=>cond c (ih m) ((vI a).bind λx=>(vI b).map λy=>decide (x.1<y.1))) m) l
noncomputable def qz(a b:A):Option Bool:=alt (vT a) (λx=>(vT b).bind λy=>DR x.1 y.1) (RG a b)
noncomputable def ux(a:A):Bool:=(vI a).isSome
noncomputable def BJ(a:A):Bool:=(vS a).isSome
noncomputable def i8(a:A):Bool:=alt (vT a) (λl=>match l.1 with |[]=>false |x::_=>ux x) false
noncomputable def l9(l:List A):Bool:=Nat.ble l.length 63&&(l.all ux ||l.all BJ ||l.all i8)
noncomputable def b8(l:List A):Option (List A):=cond (l9 l) (cond (Nat.ble l.length 1) (some l) ((cR (λi j=>qz (l.getD i .none) (l.getD j .none)) (PySem.W.kas_sort l.length)).map λp=>p.toList.map λi=>l.getD i .none)) none
noncomputable def HK(l:List A):Bool:=l.all ux ||l.all BJ
noncomputable def vB(a:A):Option {b:Bool // a=.bool b}:=match a with | .bool b=>some ⟨b,rfl⟩ |_=>none
noncomputable def lw(l:List A):Option (List Bool):=SH (λa=>(vB a).map λb=>b.1) l
noncomputable def AC(x:X)(o:Option Ce):Option Nat:=alt (uT x) (λl=>some l.1.length) (alt (uS x) (λs=>some s.1.length) (alt (ba o) (λl=>some l.length) ((fH o).map λes=>es.length)))
noncomputable def dM{α:Type}(l:List α):Option {x:α // l=[x]}:=match l with |[x]=>some ⟨x,rfl⟩ |_=>none
noncomputable def tV{α:Type}(l:List α):Option {u:Unit // l=[]}:=match l with |[]=>some ⟨(),rfl⟩ |_=>none
noncomputable def jO{α:Type}(l:List α):Option {p:α×α // l=[p.1,p.2]}:=match l with |[x,y]=>some ⟨(x,y),rfl⟩ |_=>none
noncomputable def Dw(o:Option Ce):Option (List A):=alt (ba o) (λl=>b8 l) ((fH o).bind λes=>cond (HK (es.map (·.1))) (b8 (es.map (·.1))) none)
noncomputable def mz(b:String)(xs:List X)(S:AS)(K:KX):Prop:=cond (decide (b="len")) (opt (dM xs) λx=>opt (AC x.1 (au S x.1)) λn=>K (.a (.int n)) S)
 (cond (decide (b="sorted")) (opt (dM xs) λx=>opt (Dw (au S x.1)) λr=>ak r (K (.a (.fl r)) S))
 (cond (decide (b="max")) (opt (jO xs) λp=>opt (uI p.1.1) λa=>opt (uI p.1.2) λb=>K (.a (.int (if b.1>a.1 then b.1 else a.1))) S)
 (cond (decide (b="any")) (opt (dM xs) λx=>opt (ba (au S x.1)) λl=>opt (lw l) λbs=>K (.a (.bool (bs.any id))) S) False)))
noncomputable def tK(x:X)(o:Option Ce):Option (List A):=alt (uT x) (λl=>some l.1) (ba o)
noncomputable def t7(xs:List X)(S:AS)(K:KX):Prop:=opt (dM xs) λx=>opt (tK x.1 (au S x.1)) λl=>K (.a (.tup l)) S
noncomputable def tZ(x:X)(n:Str)(xs:List X)(S:AS)(K:KX):Prop:=cond (seq n "append")
 (opt (dM xs) λy=>opt (q6 S y.1) λp=>opt (ba (au p.2 x)) λl=>ak (l++[p.1]) (opt (fR p.2 x (.list (l++[p.1]))) λS=>K (.a .none) S))
 (cond (seq n "extend") (opt (dM xs) λy=>opt (ba (au S x)) λl=>opt (tK y.1 (au S y.1)) λm=>ak (l++m) (opt (fR S x (.list (l++m))) λS=>K (.a .none) S))
 (cond (seq n "pop"&& !aq xs) (opt (ba (au S x)) λl=>opt (cf l) λp=>opt (fR S x (.list p.1)) λS=>K (.a p.2) S) False))
noncomputable def shift(x:X):X:=match x with | .l j k=>.l (j+1) k |x=>x
noncomputable def ret(x:X)(S:AS)(K:KX):Prop:=match S.loc with
 |fr::r=>(match x with
  | .a v=>K (.a v) ⟨r,S.gl⟩
  | .l j k=>(match j with |0=>opt fr[k]? λc=>K (.a (frz c)) ⟨r,S.gl⟩ |j+1=>K (.l j k) ⟨r,S.gl⟩))
 |[]=>False
noncomputable def IZ(x:X)(S:AS)(K:KX):Prop:=match x with
 | .a v=>ret (.a v) S K
 | .l j k=>(match j with
  |0=>opt (cont S (.l 0 k)) λc=>aw (jL c) False (ia .loc c ⟨S.loc.drop 1,S.gl⟩ K)
  |j+1=>ret (.l (j+1) k) S K)
noncomputable def push(S:AS):AS:=⟨[]::S.loc,S.gl⟩
structure WP where
 e:En→AS→KX→Prop
 t:En→AS→(AS→Prop)→(AS→Prop)→Prop
noncomputable def WP.bad:WP:=⟨λ_ _ _=>False,λ_ _ _ _=>False⟩
noncomputable def WP.of(e:En→AS→KX→Prop):WP:=⟨e,λenv S P Q=>e env S λx S=>sX x S (P S) (Q S)⟩
noncomputable def ri(l:List (A×A)):List (A×A)→Option (List (A×A)):=@List.rec (A×A) (λ_=>List (A×A)→Option (List (A×A))) (λes=>some es) (λp _ ih es=>(oB p.1 p.2 es).bind λes=>ih es) l
noncomputable def wN(c:Const):Option A:=match c with
 | .none=>some .none | .bool b=>some (.bool b) | .int i=>some (.int i)
 | .str s=>cond ((PyData.str s).canLay0&&Nat.ble s.length bM) (some (.str s)) none |_=>none
noncomputable def gv(h:Nat)(s:String)(a:A):Nat×Str×A:=(h,Str.ofString s,a)
noncomputable def gi(h:Nat)(s:String)(i:Int):Nat×Str×A:=gv h s (.int i)
noncomputable def gf(h:Nat)(s:String)(a:Nat):Nat×Str×A:=gv h s (.obj (.ref a))
noncomputable def GL:List (Nat×Str×A):=[gi 11425 "ANY" 0,gf 8830 "Bound" 776,gf 39881 "BoundHost" 1014,gi 22985 "D_CLASS" 1,gf 7422 "Decl" 331,gf 11199 "Diag" 175,gf 19679 "Diags" 209,gi 26579 "EMPTY" 11,gi 15386 "ERR" 13,gi 37559 "E_OPT" 1,gi 63806 "E_REST" 2,gi 12758 "E_SPREAD" 3,gi 47908 "FALSE_T" 8,gv 23445 "FIRST_ROWS" (.tup [(.tup [(.int 1),(.str "any")]),(.tup [(.int 1),(.str "unknown")]),(.tup [(.int 1),(.str "never")]),(.tup [(.int 1),(.str "void")]),(.tup [(.int 1),(.str "undefined")]),(.tup [(.int 1),(.str "null")]),(.tup [(.int 1),(.str "string")]),(.tup [(.int 1),(.str "number")]),(.tup [(.int 2),(.int 0),(.int 0)]),(.tup [(.int 2),(.int 1),(.int 0)]),(.tup [(.int 1),(.str "object")]),(.tup [(.int 8),(.tup []),(.tup []),(.tup []),(.tup []),(.tup []),(.int 0)]),(.tup [(.int 6),(.tup [(.int 8),(.int 9)])]),(.tup [(.int 1),(.str "error")]),(.tup [(.int 2),(.int 0),(.int 1)]),(.tup [(.int 2),(.int 1),(.int 1)])]),gi 12767 "FRESH_F" 14,gi 12781 "FRESH_T" 15,gi 23057 "F_ABSTRACT" 524288,gi 25695 "F_AMBIENT" 4194304,gi 52403 "F_ARROW" 4,gi 38259 "F_BANG" 2097152,gi 20830 "F_CTOR" 256,gi 45110 "F_EXPRBODY" 8,gi 35757 "F_GET" 64,gi 46922 "F_METHOD" 32,gi 43786 "F_OPT" 4096,gi 40573 "F_PRIVATE" 16384,gi 5814 "F_PROTECTED" 32768,gi 62042 "F_PUBLIC" 65536,gi 29723 "F_READONLY" 131072,gi 47289 "F_SET" 128,gi 23134 "F_STATIC" 262144,gf 55993 "FuncRule" 1264,gf 58478 "Giver" 1215,gf 44663 "Graph" 729,gf 3052 "Guard" 1047,gf 2702 "HostFault" 149,gf 24276 "Judge" 1159,gi 29609 "K_ARRAY" 11,gi 14340 "K_ARRPAT" 35,gi 43811 "K_ASSIGN" 25,gi 28314 "K_BIND" 36,gi 50818 "K_BLOCK" 59,gi 50363 "K_CALL" 18,gi 44095 "K_CLASS" 61,gi 46017 "K_EXPRST" 43,gi 42536 "K_FIELD" 62,gi 27967 "K_FUNC" 27,gi 12786 "K_IF" 44,gi 12451 "K_INDEX" 17,gi 64311 "K_LIST" 71,gi 56395 "K_MEMBER" 16,gi 50483 "K_NAME" 8,gi 17034 "K_NONNULL" 32,gi 4158 "K_NULL" 6,gi 8587 "K_NUM" 1,gi 20142 "K_OBJPAT" 34,gi 9681 "K_PARAM" 28,gi 9806 "K_PAREN" 33,gi 37987 "K_SHORT" 14,gi 13366 "K_STR" 2,gi 32700 "K_SUPER" 10,gi 17069 "K_TELEM" 87,gi 39283 "K_THIS" 9,gi 42048 "K_TKEY" 80,gi 20174 "K_TPAREN" 98,gi 14197 "K_TPL" 3,gi 56928 "K_WHILE" 45,gv 36496 "LIST_ROWS" (.tup [(.int 11),(.int 12)]),gi 46837 "L_CALL" 7,gi 14602 "L_DEAD" 0,gi 29452 "L_FALSE" 6,gi 6653 "L_JOIN" 2,gi 902 "L_LOOP" 3,gi 19130 "L_SET" 4,gi 10635 "L_START" 1,gi 45725 "L_TRUE" 5,gv 57564 "MARKED_ROWS" (.tup [(.int 2),(.int 3),(.int 4),(.int 5),(.int 8)]),gi 19270 "MAX_UNION" 400,gi 24116 "MK_ABSTRACT" 8,gi 19760 "MK_ACCESS" 2,gi 46122 "MK_CLOSED" 128,gi 16937 "MK_CTOR" 64,gi 9736 "MK_FIELD" 1,gi 40446 "MK_METHOD" 4,gi 49277 "MK_SET" 32,gi 16658 "MK_STATIC" 16,gi 6596 "MOST_PLAIN" 40,gi 30251 "MOST_ROUNDS" 200,gi 44479 "MOST_SHAPES" 40,gi 22046 "M_CLASS" 6,gi 21252 "NAME_ONLY" 2,gi 46151 "NEVER" 2,gi 14091 "NUMBER" 7,gf 52882 "Node" 44,gf 16808 "Notes" 251,gv 58770 "PLAIN_ROWS" (.tup [(.int 1),(.int 2),(.int 3),(.int 4),(.int 5)]),gi 40535 "P_OPT" 1,gi 42585 "P_PRIVATE" 8,gi 39237 "P_PROTECTED" 16,gf 62132 "Patterns" 1194,gf 58087 "Places" 1243,gf 23426 "Roads" 1075,gi 15142 "STRING" 6,gf 21555 "Sheet" 1446,gf 26647 "Symbol" 755,gv 63785 "THROUGH" (.tup [(.int 33),(.int 32),(.int 29),(.int 31),(.int 20)]),gi 19710 "TRUE_T" 9,gf 57583 "TooDeep" 129,gf 24991 "TypeTable" 310,gi 12944 "UNDEF" 4,gi 51242 "UNKNOWN" 1,gi 4115 "USE_CALL" 2,gi 61349 "USE_READ" 0,gi 35255 "USE_WRITE" 1,gi 63333 "U_FIELD" 12,gi 6308 "Y_ARRAY" 11,gi 7833 "Y_ENUM" 5,gi 30244 "Y_NUM" 4,gi 30613 "Y_OBJ" 8,gi 51901 "Y_PARAM" 10,gi 33585 "Y_REF" 9,gi 34671 "Y_SIG" 13,gi 35023 "Y_STR" 3,gi 35854 "Y_TPL" 18,gi 15830 "Y_TUPLE" 12,gi 3458 "Y_UNION" 6,gf 31233 "_law_foreign" 1515,gf 11611 "_law_func" 1508,gf 55415 "_law_head" 1605,gf 55756 "_law_held" 1543,gf 22437 "_law_lay" 1560,gf 47955 "_law_list" 1496,gf 64343 "_law_member" 1591,gf 37612 "_law_near" 1598,gf 47302 "_law_node" 1489,gf 26845 "_law_param" 1536,gf 28358 "_law_part" 1522,gf 33042 "_law_pattern" 1529,gf 47009 "_law_roads" 1565,gf 36027 "_law_rows" 1553,gf 28812 "_law_run" 1579,gf 29164 "_law_say" 1617,gf 16309 "_law_say_param" 1612,gf 4541 "_law_step" 1548,gf 16248 "_law_take" 1481,gf 53229 "_law_unset" 1584,gf 31624 "_law_use" 1503,gf 40137 "_law_walk" 1572,gf 17009 "abstract_use" 955,gf 17893 "add_undef" 436,gf 45993 "bare" 69,gf 22735 "bound_of" 613,gf 54272 "calls_class_node" 787,gf 29921 "chain_of" 851,gf 64737 "check_ctor_this" 983,gf 1269 "check_ctor_use" 962,gf 7123 "check_early_read" 976,gf 60284 "check_param_use" 990,gf 54625 "ctor_with_body" 818,gf 52155 "early_road" 913,gf 4985 "elem_read" 620,gf 49900 "extends_some" 948,gf 18979 "field_kind" 920,gf 5483 "field_mark" 799,gf 42143 "final_parts" 452,gf 11357 "find_mark" 858,gf 51458 "find_prop" 634,gf 21720 "first_marks" 844,gf 40885 "flagged" 55,gf 11041 "func_type" 375,gf 49519 "has" 62,gf 44263 "hidden_apart" 445,gf 27917 "index_read" 686,gf 62873 "is_arrow_field" 969,gf 51555 "is_digits" 639,gf 16870 "is_number_name" 653,gf 39953 "is_param_prop" 811,gf 33540 "is_plain_field" 941,gf 31620 "is_self" 873,gf 44887 "is_super_call" 880,gf 15233 "is_type" 90,gf 62141 "join_bools" 410,gf 32053 "lacks_undef" 927,gf 25586 "late_place" 672,gf 7426 "list_read" 679,gf 38474 "literal_key" 76,gf 56344 "mark_of" 806,gf 34254 "marks_of" 837,gf 27656 "member_marks" 830,gf 32632 "member_name" 83,gf 64632 "new_decl" 382,gf 35972 "obj_type" 359,gf 27125 "own_ctors" 792,gf 50228 "own_mark" 934,gf 50919 "own_ref" 738,gf 42545 "param_inits" 906,gf 14377 "param_props" 823,gf 61061 "part_type" 693,gf 15073 "parts_of" 389,gf 53262 "place_of" 646,gf 36078 "plain_shape" 459,gf 54795 "prop_row" 660,gf 64175 "prop_type" 698,gf 11784 "push_inner" 901,gf 16813 "push_kids" 887,gf 58667 "read_type" 667,gf 40060 "ref_type" 342,gf 27675 "regular_twin" 403,gf 30416 "role_in" 866,gf 57669 "sorted_props" 347,gf 59170 "stays_beside" 417,gf 61560 "told_places" 627,gf 24 "top_of" 424,gf 63959 "tuple_at" 705,gf 23041 "union" 429,gf 62057 "uses_of" 894,gf 37536 "whole_of_row" 396,gv 43126 "all" (.obj (.builtin "all")),gv 43201 "any" (.obj (.builtin "any")),gv 50884 "int" (.obj (.type "int")),gv 33760 "isinstance" (.obj (.builtin "isinstance")),gv 53482 "len" (.obj (.builtin "len")),gv 54329 "max" (.obj (.builtin "max")),gv 14751 "range" (.obj (.type "range")),gv 17480 "sorted" (.obj (.builtin "sorted")),gv 60678 "str" (.obj (.type "str")),gv 35413 "tuple" (.obj (.type "tuple"))]
noncomputable def jB(nm:Nm)(en:En)(x:Str):Option X:=(br x nm).bind λk=>match k with | .local=>br x en | .cell=>br x en | .free=>br x en | .globalImplicit=>(DG x GL).map X.a | .globalExplicit=>none
noncomputable def ku(nm:Nm)(x:Str):Option A:=(br x nm).bind λk=>match k with | .globalImplicit=>DG x GL |_=>none
noncomputable def wX(nm:Nm)(x:Str):Bool:=alt (br x nm) (λk=>match k with | .local=>true | .cell=>true |_=>false) false
noncomputable def nR{α:Type}(j i:Nat)(f:j=i→Option α):Option α:=@Decidable.rec (j=i) (λ_=>Option α) (λ_=>none) f (Nat.decEq j i)
noncomputable def vM(e:Expr):Option {q:(Expr×List Expr)×(List Keyword×Pos) // e=.Call q.1.1 q.1.2 q.2.1 q.2.2}:=nR e.ctorIdx 16 λh=>Expr.Call.elim (motive_1:=λe=>Option {q:(Expr×List Expr)×(List Keyword×Pos) // e=.Call q.1.1 q.1.2 q.2.1 q.2.2}) e h λa b c d=>some ⟨((a,b),(c,d)),rfl⟩
noncomputable def gj(e:Expr):Option {q:Str×Pos // e=.Name q.1 q.2}:=nR e.ctorIdx 23 λh=>Expr.Name.elim (motive_1:=λe=>Option {q:Str×Pos // e=.Name q.1 q.2}) e h λa b=>some ⟨(a,b),rfl⟩
noncomputable def h8(e:Expr):Bool:=alt (vM e) (λq=>aq q.1.1.2 ||aq q.1.2.1 || !(gj q.1.1.1).isSome) true
noncomputable def vQ(e:Expr):Bool:=Nat.beq e.ctorIdx 25
noncomputable def dR(e:Expr):Bool:=Nat.beq e.ctorIdx 8 ||Nat.beq e.ctorIdx 9 ||Nat.beq e.ctorIdx 10
noncomputable def cG(e:Expr):Bool:=Nat.beq e.ctorIdx 26
section
variable(T:bA)
noncomputable def wq(f:A)(xs:List X)(S:AS)(K:KX):Prop:=match f with
 | .obj v=>(match v with
  | .ref a=>opt (T.fn a) λC=>C xs S K
  | .builtin b=>mz b xs S K
  | .type b=>cond (decide (b="tuple")) (t7 xs S K) False
  |_=>False)
 |_=>False
@[irreducible] noncomputable def cT(a:Nat):ay:=λxs S K=>opt (lk a c6) λi=>match i with
 |some i=>opt (T.fn i) λC=>ia (match ck a with | .frz=>.loc |k=>k) (.inst a []) S λx S=>C (x::xs) S λy S=>opt (isNone y) λ_=>(match ck a with
   | .frz=>opt (q6 S x) λp=>K (.a p.1) p.2
   |_=>K x S)
 |none=>(match xs with |[]=>ia (ck a) (.inst a []) S K |_=>False)
inductive MR where |fn(f:Nat) |list |dict
noncomputable def si(S:AS)(x:X):Bool:=alt (rf x) (λw=>alt (cont S w) (λo=> !jL o) false) false
noncomputable def dT(S:AS)(x:X)(n:Str):Option MR:=(au S x).bind λc=>match c with
 | .inst c as=>(xK c n).bind λf=>alt (br n as) (λ_=>none) (some (.fn f))
 | .list _=>cond (si S x&&(seq n "append" ||(seq n "extend" ||seq n "pop"))) (some .list) none
 | .dict _=>cond (seq n "get") (some .dict) none
 | .fz _=>none
noncomputable def bK(m:MR)(x:X)(n:Str)(xs:List X)(S:AS)(K:KX):Prop:=match m with
 | .fn f=>opt (T.fn f) λC=>C (x::xs) S K
 | .list=>tZ x n xs S K
 | .dict=>opt (fH (au S x)) λes=>alt (jO xs) (λp=>opt (uA p.1.1) λk=>opt (uA p.1.2) λd=>opt (bH k.1 es) λo=>K (.a (o.getD d.1)) S)
   (opt (dM xs) λk=>opt (uA k.1) λk=>opt (bH k.1 es) λo=>K (.a (o.getD .none)) S)
noncomputable def cB(n:Nat):Nat→List A:=@Nat.rec (λ_=>Nat→List A) (λ_=>[]) (λ_ ih i=>.int i::ih (i+1)) n
noncomputable def bU(S:AS)(x:X):Option (List A):=alt (uI x) (λk=>some (cB k.1.toNat 0)) (alt (uT x) (λl=>some l.1) (ba (au S x)))
noncomputable def f9(x:X):Bool:=alt (uI x) (λk=>Nat.ble k.1.natAbs bM) false
noncomputable def cE(e:WP)(t:Option WP)(i:Str)(env:En)(x:X)(n:Nat):Nat→List A→AS→(List A→AS→Prop)→Prop:=@Nat.rec (λ_=>Nat→List A→AS→(List A→AS→Prop)→Prop) (λ_ _ _ _=>False)
 (λ_ ih k acc S K=>opt (bU S x) λl=>@Option.rec A (λ_=>Prop) (K acc S) (λv=>
  let go:AS→Prop:=λS=>e.e ((i,.a v)::env) S λy S=>opt (q6 S y) λp=>ak (acc++[p.1]) (ih (k+1) (acc++[p.1]) p.2 K)
  @Option.rec WP (λ_=>Prop) (go S) (λt=>t.t ((i,.a v)::env) S go (λS=>ih (k+1) acc S K)) t) l[k]?) n
noncomputable def Jy(a:WP):WP:=⟨λenv S K=>a.e env S λx S=>sX x S (K (.a (.bool false)) S) (K (.a (.bool true)) S),λenv S P Q=>a.t env S Q P⟩
noncomputable def UN(a b:WP):WP:=⟨λenv S K=>a.e env S λx S=>sX x S (b.e env S K) (K x S),λenv S P Q=>a.t env S (λS=>b.t env S P Q) Q⟩
noncomputable def VU(a b:WP):WP:=⟨λenv S K=>a.e env S λx S=>sX x S (K x S) (b.e env S K),λenv S P Q=>a.t env S P (λS=>b.t env S P Q)⟩
noncomputable def me(a:Bool)(f:Expr→WP)(l:List Expr):WP:=@List.rec Expr (λ_=>WP) .bad (λe r ih=>@List.rec Expr (λ_=>WP) (f e) (λ_ _ _=>cond a (UN (f e) ih) (VU (f e) ih)) r) l
noncomputable def xm(o:BoolOp):Bool:=match o with | .And=>true | .Or=>false
noncomputable def sR(f:Expr→WP)(l:List Expr):En→AS→(List X→AS→Prop)→Prop:=@List.rec Expr (λ_=>En→AS→(List X→AS→Prop)→Prop) (λ_ S K=>K [] S) (λe _ ih env S K=>(f e).e env S λx S=>ih env S λxs S=>K (x::xs) S) l
noncomputable def Oo(f:Expr→WP)(l:List (Option Expr)):List Expr→En→AS→(List (A×A)→AS→Prop)→Prop:=@List.rec (Option Expr) (λ_=>List Expr→En→AS→(List (A×A)→AS→Prop)→Prop)
 (λvs _ S K=>@List.rec Expr (λ_=>Prop) (K [] S) (λ_ _ _=>False) vs)
 (λk _ ih vs env S K=>opt k λk=>@List.rec Expr (λ_=>Prop) False (λe r _=>(f k).e env S λx S=>(f e).e env S λy S=>opt (q6 S x) λp=>opt (q6 p.2 y) λq=>ih r env q.2 λxs S=>K ((p.1,q.1)::xs) S) vs) l
noncomputable def t9(f:Expr→WP)(e:Option Expr)(env:En)(S:AS)(K:KX):Prop:=@Option.rec Expr (λ_=>Prop) (K (.a .none) S) (λe=>(f e).e env S K) e
noncomputable def LG(f:Expr→WP)(l:Expr)(ops:List CmpOp)(rs:List Expr):WP:=alt (dM ops) (λo=>alt (dM rs) (λr=>
  ⟨λenv S K=>(f l).e env S λx S=>(f r.1).e env S λy S=>dE o.1 x y S λc=>K (.a (.bool c)) S,λenv S P Q=>(f l).e env S λx S=>(f r.1).e env S λy S=>dE o.1 x y S λc=>aw c (P S) (Q S)⟩) .bad)
 (alt (jO ops) (λo=>alt (jO rs) (λr=>⟨λenv S K=>(f l).e env S λx S=>(f r.1.1).e env S λy S=>dE o.1.1 x y S λd=>aw d ((f r.1.2).e env S λz S=>dE o.1.2 y z S λd=>K (.a (.bool d)) S) (K (.a (.bool false)) S),
  λenv S P Q=>(f l).e env S λx S=>(f r.1.1).e env S λy S=>dE o.1.1 x y S λd=>aw d ((f r.1.2).e env S λz S=>dE o.1.2 y z S λd=>aw d (P S) (Q S)) (Q S)⟩) .bad) .bad)
noncomputable def Bu(a:Option A):Bool:=alt a (λa=>alt (vO a) (λv=>match v.1 with | .type b=>decide (b="range") |_=>false) false) false
theorem G6{it f:Expr}{as:List Expr}{kw:List Keyword}{p px:Pos}{x:Str}{e:Expr}(h1:it=.Call f as kw p)(h2:f=.Name x px)(h3:as=[e])(h4:kw=[]):it=.Call (.Name x px) [e] [] p:=by subst h2 h3 h4;exact h1
theorem ED{gens:List Comprehension}{g:Comprehension}{x:Str}{px:Pos}(h1:gens=[g])(h2:g.target=.Name x px)(h3:g.is_async=0):gens=[⟨.Name x px,g.iter,g.ifs,0⟩]:=by cases g;subst h1 h2 h3;rfl
noncomputable def u0(nm:Nm)(it:Expr):Option {q:(Str×Pos)×(Expr×Pos) // it=.Call (.Name q.1.1 q.1.2) [q.2.1] [] q.2.2}:=(vM it).bind λq=>(gj q.1.1.1).bind λx=>(dM q.1.1.2).bind λe=>(tV q.1.2.1).bind λk=>cond (Bu (ku nm x.1.1)) (some ⟨((x.1.1,x.1.2),(e.1,q.1.2.2)),G6 q.2 x.2 e.2 k.2⟩) none
noncomputable def HV(nm:Nm)(f:Expr→WP)(it:Expr)(env:En)(S:AS)(K:KX):Prop:=alt (u0 nm it) (λq=>(f q.1.2.1).e env S λx S=>aw (f9 x) (K x S) False) ((f it).e env S λx S=>alt (uI x) (λ_=>False) (opt (bU S x) λ_=>K x S))
noncomputable def CJ(gens:List Comprehension):Option {q:(Str×Pos)×(Expr×List Expr) // gens=[⟨.Name q.1.1 q.1.2,q.2.1,q.2.2,0⟩]}:=(dM gens).bind λg=>(gj g.1.target).bind λx=>@Decidable.rec (g.1.is_async=0) (λ_=>Option {q:(Str×Pos)×(Expr×List Expr) // gens=[⟨.Name q.1.1 q.1.2,q.2.1,q.2.2,0⟩]}) (λ_=>none) (λh=>some ⟨((x.1.1,x.1.2),(g.1.iter,g.1.ifs)),ED g.2 x.2 h⟩) (Int.instDecidableEq g.1.is_async 0)
noncomputable def nY(nm:Nm)(s:Scope)(tgt:Str):Bool:=decide (s.kind=.function)&&(s.names.all λx=>(match x.2 with
 | .local=>seq x.1 tgt ||seq x.1 ".0" | .globalImplicit=>true | .free=>alt (br x.1 nm) (λk=>match k with | .cell=>true |_=>false) false |_=>false)&&decide (s.names.lookup x.1=some x.2))&&decide (s.names.lookup tgt=some .local)&&decide (s.names.lookup ("__debug__":Str)=none)&& !seq tgt ".0"
noncomputable def fy(l:Nm):Nm:=l.filter λx=> !seq x.1 ".0"
noncomputable def PP(l:List Expr):Option {t:Option Expr // l=t.toList}:=match l with |[]=>some ⟨none,rfl⟩ |[t]=>some ⟨some t,rfl⟩ |_=>none
noncomputable def qX(f:Nm→Expr→WP)(nm:Nm)(elt:Expr)(gens:List Comprehension)(sc:Scope)(lb:Nat)(env:En)(S:AS)(K:List A→AS→Prop):Prop:=opt (CJ gens) λq=>opt (PP q.1.2.2) λt=>aw (nY nm sc q.1.1.1) (HV nm (f nm) q.1.2.1 env S λx S=>cond (kX lb T.sy)
 (∃n,cE (f (fy sc.names) elt) (t.1.map (f (fy sc.names))) q.1.1.1 env x n 0 [] S K) (cE (f (fy sc.names) elt) (t.1.map (f (fy sc.names))) q.1.1.1 env x 70 0 [] S K)) False
noncomputable def gX(e:Expr):Option {q:(Option Expr×Option Expr)×Pos // e=.Slice q.1.1 q.1.2 none q.2}:=nR e.ctorIdx 26 λh=>Expr.Slice.elim (motive_1:=λe=>Option {q:(Option Expr×Option Expr)×Pos // e=.Slice q.1.1 q.1.2 none q.2}) e h λlo hi s p=>@Option.rec Expr (λs=>Option {q:(Option Expr×Option Expr)×Pos // Expr.Slice lo hi s p=.Slice q.1.1 q.1.2 none q.2}) (some ⟨((lo,hi),p),rfl⟩) (λ_=>none) s
noncomputable def vg(e:Expr):Option {q:Expr×Str×Pos // e=.Attribute q.1 q.2.1 q.2.2}:=nR e.ctorIdx 20 λh=>Expr.Attribute.elim (motive_1:=λe=>Option {q:Expr×Str×Pos // e=.Attribute q.1 q.2.1 q.2.2}) e h λo n p=>some ⟨(o,n,p),rfl⟩
def uX:List Nat:=[41,55,62,69,76,83,90,165,172,194,201,227,234,293,300,307,328,342,347,359,375,382,389,396,403,410,417,424,429,436,445,452,459,473,480,578,613,620,627,634,639,646,653,660,667,672,679,686,693,698,705,719,726,738,752,773,787,792,799,806,811,818,823,830,837,844,851,858,866,873,880,887,894,901,906,913,920,927,934,941,948,955,962,969,976,983,990,1004,1011,1065,1072,1093,1282,1345,1352,1366,1481,1489,1496,1503,1508,1515,1522,1529,1536,1543,1548,1553,1560,1565,1572,1579,1584,1591,1598,1605,1612,1617,1622,44,175,209,251,310,331,729,755,776,1014,1047,1075,1159,1194,1215,1243,1264,1446]
noncomputable def np(a:A):Bool:=alt (vO a) (λu=>match u.1 with | .ref a=>kX a uX | .builtin _=>true | .type _=>true |_=>false) false
noncomputable def pl(e:Expr):Bool:= !(Nat.beq e.ctorIdx 22 ||Nat.beq e.ctorIdx 7)
noncomputable def U3(f:Nm→Expr→WP)(nm:Nm)(e:Expr):WP:=match e with
 | .Constant c _ _=>.of λ_ S K=>opt (wN c) λx=>K (.a x) S
 | .Name x _=>.of λenv S K=>opt (jB nm env x) λx=>K x S
 | .BinOp l o r p=>.of λenv S K=>(f nm l).e env S λx S=>(f nm r).e env S λy S=>G7 (x9 p) o x y S K
 | .UnaryOp o a _=>(match o with | .Not=>Jy (f nm a) | .USub=>.of λenv S K=>(f nm a).e env S λx S=>opt (uI x) λi=>K (.a (.int (-i.1))) S |_=>.bad)
 | .IfExp t a b _=>⟨λenv S K=>(f nm t).t env S (λS=>(f nm a).e env S K) (λS=>(f nm b).e env S K),λenv S P Q=>(f nm t).t env S (λS=>(f nm a).t env S P Q) (λS=>(f nm b).t env S P Q)⟩
 | .BoolOp o l _=>me (xm o) (f nm) l
 | .Compare l ops rs _=>LG (f nm) l ops rs
 | .Attribute v n _=>.of λenv S K=>aw (h8 v) ((f nm v).e env S λx S=>cC x n S K) False
 | .Subscript v s p=>.of λenv S K=>(f nm v).e env S λx S=>cond (cG s) (opt (gX s) λq=>t9 (f nm) q.1.1.1 env S λy S=>t9 (f nm) q.1.1.2 env S λz S=>lz (x9 p) x y z S K) ((f nm s).e env S λy S=>ao x y S K)
 | .List es p=>.of λenv S K=>sR (f nm) es env S λxs S=>eX xs S λl S=>ak l (ia (sk (x9 p)) (.list l) S K)
 | .Tuple es _ _=>.of λenv S K=>sR (f nm) es env S λxs S=>eX xs S λl S=>ak l (K (.a (.tup l)) S)
 | .Dict ks vs p=>.of λenv S K=>aw (Nat.ble ks.length 15&&(ks.all Option.isSome&&Nat.beq ks.length vs.length)) (Oo (f nm) ks vs env S λl S=>opt (ri l []) λl=>ak l (ia (sk (x9 p)) (.dict l) S K)) False
 | .ListComp elt gens sc p=>.of λenv S K=>qX T f nm elt gens sc (x9 p) env S λl S=>ia (sk (x9 p)) (.list l) S K
 | .Call g args kw p=>.of λenv S K=>aw (aq kw || !(args.all pl)) False (alt (vg g)
   (λq=>aw (h8 q.1.1&&Nat.beq q.1.2.2.endLine p.line&&Nat.ble args.length 29) ((f nm q.1.1).e env S λx S=>opt (dT S x q.1.2.1) λm=>sR (f nm) args env S λxs S=>bK T m x q.1.2.1 xs S K) False)
   (opt (gj g) λq=>opt (ku nm q.1.1) λv=>aw (np v) (sR (f nm) args env S λxs S=>wq T v xs S K) False))
 |_=>.bad
noncomputable def wp(n:Nat):Nm→Expr→WP:=@Nat.rec (λ_=>Nm→Expr→WP) (λ_ _=>.bad) (λ_ ih=>U3 T ih) n
abbrev SW:=En→AS→KN→KN→KX→Prop
noncomputable def bad:SW:=λ_ _ _ _ _=>False
noncomputable def cu(nm:Nm)(x:Str)(v:X)(env:En)(K:En→Prop):Prop:=aw (wX nm x) (K (i5 x v env)) False
noncomputable def bindL(nm:Nm)(ts:List Expr):List A→En→(En→Prop)→Prop:=@List.rec Expr (λ_=>List A→En→(En→Prop)→Prop)
 (λl env K=>@List.rec A (λ_=>Prop) (K env) (λ_ _ _=>False) l)
 (λt _ ih l env K=>@List.rec A (λ_=>Prop) False (λv r _=>opt (gj t) λq=>cu nm q.1.1 (.a v) env λenv=>ih r env K) l) ts
noncomputable def Ke(e:Expr):Option {q:List Expr×Nat×Pos // e=.Tuple q.1 q.2.1 q.2.2}:=nR e.ctorIdx 25 λh=>Expr.Tuple.elim (motive_1:=λe=>Option {q:List Expr×Nat×Pos // e=.Tuple q.1 q.2.1 q.2.2}) e h λo n p=>some ⟨(o,n,p),rfl⟩
noncomputable def fI(nm:Nm)(t:Expr)(v:A)(env:En)(K:En→Prop):Prop:=alt (gj t) (λq=>cu nm q.1.1 (.a v) env K) (opt (Ke t) λq=>opt (vT v) λl=>aw (Nat.ble 2 q.1.1.length) (bindL nm q.1.1 l.1 env K) False)
noncomputable def CX(o:Operator):Bool:=match o with | .Add=>true | .Sub=>true |_=>false
noncomputable def c9(b:SW)(nm:Nm)(t:Expr)(K:KN)(R:KX)(x:X)(n:Nat):Nat→KN:=@Nat.rec (λ_=>Nat→KN) (λ_ _ _=>False)
 (λ_ ih k env S=>opt (bU S x) λl=>@Option.rec A (λ_=>Prop) (K env S) (λv=>fI nm t v env λenv=>b env S (ih (k+1)) (ih (k+1)) R) l[k]?) n
noncomputable def Bt(t:WP)(b:SW)(K:KN)(R:KX)(n:Nat):KN:=@Nat.rec (λ_=>KN) (λ_ _=>False) (λ_ ih env S=>t.t env S (λS=>b env S ih ih R) (λS=>K env S)) n
noncomputable def bS(f:Stmt→SW)(l:List Stmt):SW:=@List.rec Stmt (λ_=>SW) (λenv S K _ _=>K env S) (λs _ ih env S K C R=>f s env S (λenv S=>ih env S K C R) C R) l
noncomputable def PE(e:Expr):Option {q:Expr×Expr×Pos // e=.Subscript q.1 q.2.1 q.2.2}:=nR e.ctorIdx 21 λh=>Expr.Subscript.elim (motive_1:=λe=>Option {q:Expr×Expr×Pos // e=.Subscript q.1 q.2.1 q.2.2}) e h λo n p=>some ⟨(o,n,p),rfl⟩
noncomputable def Vx(e:Expr):Option {q:(Expr×List Comprehension)×(Scope×Pos) // e=.ListComp q.1.1 q.1.2 q.2.1 q.2.2}:=nR e.ctorIdx 8 λh=>Expr.ListComp.elim (motive_1:=λe=>Option {q:(Expr×List Comprehension)×(Scope×Pos) // e=.ListComp q.1.1 q.1.2 q.2.1 q.2.2}) e h λa b c d=>some ⟨((a,b),(c,d)),rfl⟩
noncomputable def rQ(f:Expr→WP)(nm:Nm)(t v:Expr):SW:=λenv S K _ _=>
 alt (gj t) (λq=>(f v).e env S λx S=>cu nm q.1.1 x env λenv=>K env S) (aw (dR v) False (alt (Ke t)
 (λq=>aw (vQ v) False ((f v).e env S λx S=>opt (uT x) λl=>bindL nm q.1.1 l.1 env λenv=>K env S))
 (alt (vg t) (λq=>(f v).e env S λv S=>(f q.1.1).e env S λx S=>iZ x q.1.2.1 v S λS=>K env S)
 (opt (PE t) λq=>aw (cG q.1.2.1) False ((f v).e env S λv S=>(f q.1.1).e env S λx S=>(f q.1.2.1).e env S λy S=>bv x y v S λS=>K env S)))))
noncomputable def Vh(f:Nm→Expr→WP)(g:Nm→Stmt→SW)(nm:Nm)(s:Stmt):SW:=match s with
 | .Expr e _=>λenv S K _ _=>aw (dR e) False ((f nm e).e env S λ_ S=>K env S)
 | .Return e _=>λenv S _ _ R=>t9 (f nm) e env S R
 | .Assign ts v _=>λenv S K C R=>opt (dM ts) λt=>rQ (f nm) nm t.1 v env S K C R
 | .AugAssign t o e _=>λenv S K _ _=>opt (gj t) λq=>aw (wX nm q.1.1) (opt (jB nm env q.1.1) λx=>(f nm e).e env S λy S=>aw (CX o) (opt (uI x) λa=>opt (uI y) λb=>opt (iU o a.1 b.1) λr=>cu nm q.1.1 (.a (.int r)) env λenv=>K env S) False) False
 | .If t a b _=>λenv S K C R=>(f nm t).t env S (λS=>bS (g nm) a env S K C R) (λS=>bS (g nm) b env S K C R)
 | .While t b els p=>λenv S K _ R=>aw (aq els) False (cond (kX (x9 p) T.sy) (∃n,Bt (f nm t) (bS (g nm) b) K R n env S) (Bt (f nm t) (bS (g nm) b) K R 20 env S))
 | .For t it b els p=>λenv S K _ R=>aw (aq els) False (HV nm (f nm) it env S λx S=>cond (kX (x9 p) T.sy) (∃n,c9 (bS (g nm) b) nm t K R x n 0 env S) (c9 (bS (g nm) b) nm t K R x 70 0 env S))
 | .Continue _=>λenv S _ C _=>C env S
 |_=>bad
noncomputable def ws(n:Nat):Nm→Stmt→SW:=@Nat.rec (λ_=>Nm→Stmt→SW) (λ_ _=>bad) (λ_ ih=>Vh T (wp T 40) ih) n
noncomputable def RZ(nm:Nm)(l:List Stmt):SW:=bS (ws T 20 nm) l
structure Fs where
 ps:List Str
 ds:List A
 nm:Nm
 body:List Stmt
noncomputable def Fs.of(s:Stmt)(ds:List A):Option Fs:=nR s.ctorIdx 0 λh=>Stmt.FunctionDef.elim (motive_2:=λ_=>Option Fs) s h λ_ as body _ _ _ sc _ _ _=>some ⟨as.args.map (·.arg),ds,sc.names,body⟩
noncomputable def Ac(s:Stmt):Option (List Stmt):=nR s.ctorIdx 2 λh=>Stmt.ClassDef.elim (motive_2:=λ_=>Option (List Stmt)) s h λ_ _ _ body _ _ _ _ _ _ _=>some body
noncomputable def nth{α:Type}(l:List α):Nat→Option α:=@List.rec α (λ_=>Nat→Option α) (λ_=>none) (λa _ ih n=>@Nat.rec (λ_=>Option α) (some a) (λm _=>ih m) n) l
noncomputable def top(i:Nat):Option Stmt:=nth PySem.Challenge.pw_xm0459_01.main.body i
noncomputable def sub(i j:Nat):Option Stmt:=(top i).bind λs=>(Ac s).bind λb=>nth b j
noncomputable def eo:List (Nat×Option Stmt×List A):=[(41,sub 51 0,[]),(55,top 52,[]),(62,top 53,[]),(69,top 54,[]),(76,top 55,[]),(83,top 56,[]),(90,top 57,[]),(165,sub 63 0,[]),(172,sub 63 1,[]),(194,sub 64 0,[(.str "")]),(201,sub 64 1,[]),(227,sub 65 0,[]),(234,sub 65 1,[]),(293,sub 103 0,[]),(300,sub 103 1,[]),(307,sub 103 2,[]),(328,sub 104 0,[]),(342,top 105,[]),(347,top 106,[]),(359,top 107,[(.tup []),(.tup []),(.tup []),(.tup []),(.int 0)]),(375,top 109,[]),(382,top 110,[]),(389,top 111,[]),(396,top 112,[]),(403,top 113,[]),(410,top 114,[]),(417,top 115,[]),(424,top 116,[]),(429,top 117,[]),(436,top 118,[]),(445,top 123,[]),(452,top 124,[]),(459,top 125,[]),(473,sub 129 0,[]),(480,sub 129 1,[]),(578,sub 129 15,[]),(613,top 130,[]),(620,top 131,[]),(627,top 132,[]),(634,top 133,[]),(639,top 134,[]),(646,top 135,[]),(653,top 136,[]),(660,top 137,[]),(667,top 138,[]),(672,top 139,[]),(679,top 140,[]),(686,top 141,[]),(693,top 142,[]),(698,top 143,[]),(705,top 144,[]),(719,sub 154 0,[]),(726,sub 154 1,[]),(738,top 156,[]),(752,sub 159 0,[]),(773,sub 160 0,[]),(787,top 162,[]),(792,top 163,[]),(799,top 173,[]),(806,top 174,[]),(811,top 175,[]),(818,top 176,[]),(823,top 177,[]),(830,top 178,[]),(837,top 179,[]),(844,top 180,[]),(851,top 181,[]),(858,top 182,[]),(866,top 189,[]),(873,top 190,[]),(880,top 191,[]),(887,top 192,[]),(894,top 193,[]),(901,top 194,[]),(906,top 195,[]),(913,top 196,[]),(920,top 197,[]),(927,top 198,[]),(934,top 199,[]),(941,top 200,[]),(948,top 201,[]),(955,top 202,[]),(962,top 203,[]),(969,top 204,[]),(976,top 205,[]),(983,top 206,[]),(990,top 207,[]),(1004,sub 209 0,[]),(1011,sub 209 1,[]),(1065,sub 213 0,[]),(1072,sub 213 1,[]),(1093,sub 214 0,[]),(1282,sub 219 0,[]),(1345,sub 219 9,[]),(1352,sub 219 10,[]),(1366,sub 219 12,[]),(1481,top 225,[]),(1489,top 226,[(.int 0)]),(1496,top 227,[]),(1503,top 228,[]),(1508,top 229,[]),(1515,top 230,[]),(1522,top 231,[]),(1529,top 232,[]),(1536,top 233,[]),(1543,top 234,[]),(1548,top 235,[]),(1553,top 236,[]),(1560,top 237,[]),(1565,top 238,[]),(1572,top 239,[]),(1579,top 240,[]),(1584,top 241,[]),(1591,top 242,[]),(1598,top 243,[]),(1605,top 244,[]),(1612,top 245,[]),(1617,top 246,[]),(1622,top 247,[])]
noncomputable def io(a:Nat):Option Fs:=(lk a eo).bind λq=>q.1.bind λs=>Fs.of s q.2
noncomputable def VF(mv:Bool)(fi:Fs):ay:=λxs S K=>aw (Nat.ble xs.length fi.ps.length&&Nat.ble fi.ps.length (xs.length+fi.ds.length))
 (RZ T fi.nm fi.body (fi.ps.zip ((xs.map shift)++(fi.ds.drop (xs.length+fi.ds.length - fi.ps.length)).map X.a)) (push S) (λ_ S=>ret (.a .none) S K) (λ_ _=>False) (λx S=>cond mv (IZ x S K) (ret x S K))) False
@[irreducible] noncomputable def ae(a:Nat):ay:=λxs S K=>opt (io a) λfi=>VF T (Nat.beq a 55) fi xs S K
end
end
end
section
open PySem PySem.W PyProof.Rows
section
noncomputable def fC(d:PyData):Bool:=@PyData.rec (λ_=>Bool) (λ_=>Bool) (λ_=>Bool) (λ_=>Bool) true (λ_=>true) (λ_=>true) (λ_=>true) (λ_ _=>false) (λ_ ih=>ih) (λ_ _=>false) true (λ_ _ a b=>a&&b) true (λ_ _ _ _=>true) (λ_ _ _ _=>true) d
noncomputable def gR(d:List PyData):Bool:=@PyData.rec_1 (λ_=>Bool) (λ_=>Bool) (λ_=>Bool) (λ_=>Bool) true (λ_=>true) (λ_=>true) (λ_=>true) (λ_ _=>false) (λ_ ih=>ih) (λ_ _=>false) true (λ_ _ a b=>a&&b) true (λ_ _ _ _=>true) (λ_ _ _ _=>true) d
noncomputable def fu(d:PyData):PyData:=@PyData.rec (λ_=>PyData) (λ_=>List PyData) (λ_=>Unit) (λ_=>Unit) .none (λb=>.int (cond b 1 0)) .int .str (λl _=>.list l) (λ_ ih=>.tuple ih) (λl _=>.dict l) [] (λ_ _ a b=>a::b) () (λ_ _ _ _=>()) (λ_ _ _ _=>()) d
noncomputable def dW(d:List PyData):List PyData:=@PyData.rec_1 (λ_=>PyData) (λ_=>List PyData) (λ_=>Unit) (λ_=>Unit) .none (λb=>.int (cond b 1 0)) .int .str (λl _=>.list l) (λ_ ih=>.tuple ih) (λl _=>.dict l) [] (λ_ _ a b=>a::b) () (λ_ _ _ _=>()) (λ_ _ _ _=>()) d
def Fl(d:PyData):Nat:=match d with | .none=>0 | .bool _=>1 | .int _=>2 | .str _=>3 | .tuple _=>4 | .list _=>5 | .dict _=>6
theorem ff{C:Prop}(h:false=true):C:=absurd h Bool.false_ne_true
theorem nb{a b:Nat}{C:Prop}(h:Nat.beq a b=false)(e:a=b):C:=absurd (h.symm.trans (e▸Nat.beq_refl a)) Bool.false_ne_true
theorem df{d e:PyData}{b:Bool}(hb:b=false)(h:Nat.beq (Fl d) (Fl e)=false):(b=true↔d=e):=⟨λq=>ff (hb.symm.trans q),λq=>nb h (congrArg Fl q)⟩
theorem Vq{xs ys:List PyData}{C:Prop}(h:xs=ys)(e:xs.isEmpty=true)(e':ys.isEmpty=false):C:=ff (e'.symm.trans ((congrArg _ h).symm.trans e))
theorem PM(a b:Bool):(PyData.eqv (.bool a) (.bool b)=true↔fu (.bool a)=fu (.bool b)):=by cases a <;> cases b <;> first |exact⟨λ_=>rfl,λ_=>rfl⟩ |exact⟨nofun,λh=>nomatch PyData.int.inj h⟩
theorem yz(a:Bool):(if a then(1:Int) else 0)=cond a 1 0:=by cases a <;> rfl
theorem vJ(e:PyData):fC e=true→(PyData.eqv .none e=true↔fu .none=fu e):=
 @PyData.casesOn (λe=>fC e=true→(PyData.eqv .none e=true↔fu .none=fu e)) e (λ_=>⟨λ_=>rfl,λ_=>rfl⟩) (λ_ _=>df rfl rfl) (λ_ _=>df rfl rfl) (λ_ _=>df rfl rfl) (λ_ h=>ff h) (λ_ _=>df rfl rfl) (λ_ h=>ff h)
theorem vd(a:Bool)(e:PyData):fC e=true→(PyData.eqv (.bool a) e=true↔fu (.bool a)=fu e):=
 @PyData.casesOn (λe=>fC e=true→(PyData.eqv (.bool a) e=true↔fu (.bool a)=fu e)) e (λ_=>df rfl rfl) (λb _=>PM a b) (λ_ _=>beq_iff_eq.trans ⟨λh=>congrArg PyData.int ((yz a).symm.trans h),λh=>(yz a).trans (PyData.int.inj h)⟩) (λ_ _=>df rfl rfl) (λ_ h=>ff h) (λ_ _=>df rfl rfl) (λ_ h=>ff h)
theorem BE(i:Int)(e:PyData):fC e=true→(PyData.eqv (.int i) e=true↔fu (.int i)=fu e):=
 @PyData.casesOn (λe=>fC e=true→(PyData.eqv (.int i) e=true↔fu (.int i)=fu e)) e (λ_=>df rfl rfl) (λb _=>beq_iff_eq.trans ⟨λh=>congrArg PyData.int (h.trans (yz b)),λh=>(PyData.int.inj h).trans (yz b).symm⟩) (λ_ _=>beq_iff_eq.trans ⟨congrArg PyData.int,λh=>PyData.int.inj h⟩) (λ_ _=>df rfl rfl) (λ_ h=>ff h) (λ_ _=>df rfl rfl) (λ_ h=>ff h)
theorem z8(i:Str)(e:PyData):fC e=true→(PyData.eqv (.str i) e=true↔fu (.str i)=fu e):=
 @PyData.casesOn (λe=>fC e=true→(PyData.eqv (.str i) e=true↔fu (.str i)=fu e)) e (λ_=>df rfl rfl) (λ_ _=>df rfl rfl) (λ_ _=>df rfl rfl) (λ_ _=>beq_iff_eq.trans ⟨congrArg PyData.str,λh=>PyData.str.inj h⟩) (λ_ h=>ff h) (λ_ _=>df rfl rfl) (λ_ h=>ff h)
theorem AR(xs:List PyData)(ih:∀ys,gR xs=true→gR ys=true→(PyData.eqvAll xs ys=true↔dW xs=dW ys))(e:PyData):fC (.tuple xs)=true→fC e=true→(PyData.eqv (.tuple xs) e=true↔fu (.tuple xs)=fu e):=
 @PyData.casesOn (λe=>fC (.tuple xs)=true→fC e=true→(PyData.eqv (.tuple xs) e=true↔fu (.tuple xs)=fu e)) e (λ_ _=>df rfl rfl) (λ_ _ _=>df rfl rfl) (λ_ _ _=>df rfl rfl) (λ_ _ _=>df rfl rfl) (λ_ _ h=>ff h) (λys hx hy=>(ih ys hx hy).trans ⟨congrArg PyData.tuple,λh=>PyData.tuple.inj h⟩) (λ_ _ h=>ff h)
theorem tj(x:PyData)(xs:List PyData)(h1:∀e,fC x=true→fC e=true→(PyData.eqv x e=true↔fu x=fu e))(h2:∀ys,gR xs=true→gR ys=true→(PyData.eqvAll xs ys=true↔dW xs=dW ys))(ys:List PyData):gR (x::xs)=true→gR ys=true→(PyData.eqvAll (x::xs) ys=true↔dW (x::xs)=dW ys):=
 @List.casesOn PyData (λys=>gR (x::xs)=true→gR ys=true→(PyData.eqvAll (x::xs) ys=true↔dW (x::xs)=dW ys)) ys (λ_ _=>⟨λh=>ff h,λh=>Vq h.symm rfl rfl⟩)
  (λy ys hx hy=>Bool.and_eq_true_iff.trans ((and_congr (h1 y (Bool.and_eq_true_iff.mp hx).1 (Bool.and_eq_true_iff.mp hy).1) (h2 ys (Bool.and_eq_true_iff.mp hx).2 (Bool.and_eq_true_iff.mp hy).2)).trans ⟨λh=>(congr (congrArg List.cons h.1) h.2:fu x::dW xs=fu y::dW ys),λh=>List.cons.inj (show fu x::dW xs=fu y::dW ys from h)⟩))
theorem iM(d:PyData):∀e,fC d=true→fC e=true→(PyData.eqv d e=true↔fu d=fu e):=
 @PyData.rec (λd=>∀e,fC d=true→fC e=true→(PyData.eqv d e=true↔fu d=fu e)) (λd=>∀e,gR d=true→gR e=true→(PyData.eqvAll d e=true↔dW d=dW e)) (λ_=>True) (λ_=>True)
  (λe _=>vJ e) (λa e _=>vd a e) (λi e _=>BE i e) (λi e _=>z8 i e) (λ_ _ _ h=>ff h) AR (λ_ _ _ h=>ff h)
  (λys _ _=>@List.casesOn PyData (λys=>PyData.eqvAll [] ys=true↔dW []=dW ys) ys ⟨λ_=>rfl,λ_=>rfl⟩ (λ_ _=>⟨λh=>ff h,λh=>Vq h rfl rfl⟩)) tj trivial (λ_ _ _ _=>trivial) (λ_ _ _ _=>trivial) d
mutual
theorem jt(P:Params):∀(d:PyData),fC d=true→hashW P (ofPy (fu d))=hashW P (ofPy d)
 | .none,_=>rfl
 | .bool true,_=>show reduceHash (intHash 1)=1 by decide+kernel
 | .bool false,_=>show reduceHash (intHash 0)=0 by decide+kernel
 | .int _,_=>rfl
 | .str _,_=>rfl
 | .tuple xs,h=>by show hashW P (.tuple (ofPys (dW xs)))=hashW P (.tuple (ofPys xs));simp only[hashW,hashs_nrm P xs h]
theorem hashs_nrm(P:Params):∀(d:List PyData),gR d=true→hashesW P (ofPys (dW d))=hashesW P (ofPys d)
 |[],_=>rfl
 |x::xs,h=>(congr (congrArg List.cons (jt P x (Bool.and_eq_true_iff.mp h).1)) (hashs_nrm P xs (Bool.and_eq_true_iff.mp h).2):hashW P (ofPy (fu x))::hashesW P (ofPys (dW xs))=hashW P (ofPy x)::hashesW P (ofPys xs))
end
mutual
theorem nI:∀(d:PyData),fC d=true→(ofPy d).isDKey=true
 | .none,_=>rfl
 | .bool _,_=>rfl
 | .int _,_=>rfl
 | .str _,_=>rfl
 | .tuple xs,h=>areK_dkey xs h
theorem areK_dkey:∀(d:List PyData),gR d=true→WData.areDKeys (ofPys d)=true
 |[],_=>rfl
 |x::xs,h=>Bool.and_eq_true_iff.mpr ⟨nI x (Bool.and_eq_true_iff.mp h).1,areK_dkey xs (Bool.and_eq_true_iff.mp h).2⟩
end
theorem vc(P:Params){d e:PyData}(hd:fC d=true)(he:fC e=true)(h:PyData.eqv d e=true):hashW P (ofPy d)=hashW P (ofPy e):=(jt P d hd).symm.trans ((congrArg (λx=>hashW P (ofPy x)) ((iM d e hd he).mp h)).trans (jt P e he))
theorem Eh{a b d:PyData}(ha:fC a=true)(hb:fC b=true)(hd:fC d=true)(h1:PyData.eqv a d=true)(h2:PyData.eqv b d=true):PyData.eqv a b=true:=(iM a b ha hb).mpr (((iM a d ha hd).mp h1).trans ((iM b d hb hd).mp h2).symm)
end
end
section
open PySem PySem.W PyProof.Rows PySem.SeqAt
section
abbrev db(vs:List Value):Obj:={cls:=.type "tuple",data:=.seq vs.toArray}
abbrev b5(vs:List Value)(ep:Nat):Obj:={cls:=.type "list",data:=.seq vs.toArray ep}
abbrev cO:=List (Addr×Obj)
structure Cx where
 prog:Program
 w:World
 K:Frag
 loose:List Str
 mg:Str→Option Value
 mb:Str→Option Value
 s₀:Shared
structure Fm where
 env:Env
 h₀:Heap
abbrev Mp:=Str→Option Value
structure Gh where
 h:Heap
 tk:Tok
 news:cO
 o:Addr→Ow
 at_:Ow→Addr
 live:Ow→Prop
abbrev Cx.M(c:Cx):Model:=model c.prog c.w
abbrev Cx.P(c:Cx):Params:=c.w.params
abbrev Cx.st(c:Cx)(Γ:Gh):Shared:={c.s₀ with heap:=Γ.h,toks:=Γ.tk}
noncomputable def iB(w:Ow):Bool:=@Ow.rec (λ_=>Bool) (λ_ _=>false) (λ_ _=>false) (λ_ ih=>ih) true false w
noncomputable def AN(w:Ow):Bool:=match w with | .g _ _=>true | .l _ _=>true |_=>false
theorem Jw{w:Ow}(h:AN w=true):iB w=false:=by cases w <;> first |rfl |exact nomatch h
theorem Kq{w:Ow}(h:AN w=true):Ow.z≠w:=λe=>nomatch(e▸h:AN .z=true)
def x6(c:Cx)(Γ:Gh)(a:Addr)(ob:Obj):Prop:=c.K.lookup a=some ob∨((a,ob)∈Γ.news∧iB (Γ.o a)=true)
def eL(es:List (A×A)):Prop:=(es.map (·.1)).Pairwise λp q=>∀d,fC d=true→am d p=true→am d q=true→False
def Ve(vs:List Value)(ob:Obj):Prop:=ob.cls=.type "list"∧∃ep,ob.data=.seq vs.toArray ep
section
variable(c:Cx)(Γ:Gh)
inductive gu(i:Int):Value→Prop |mk (t:Tok):gu i (.int i t)
inductive gq(s:Str):Value→Prop |mk (t:Tok) (h:(PyData.str s).canLay0=true∧s.length≤bM):gq s (.str s t)
inductive dO(l:List A)(ih:List Value→Prop):Value→Prop |mk {a:Addr} {vs:List Value} (h:x6 c Γ a (db vs)) (r:ih vs) (n:l.length≤bM):dO l ih (.ref a)
inductive pt(l:List A)(ih:List Value→Prop):Value→Prop |mk {a:Addr} {ob:Obj} {vs:List Value} (h:x6 c Γ a ob) (q:Ve vs ob) (r:ih vs) (n:l.length≤bM):pt l ih (.ref a)
inductive sM(es:List (A×A))(ih:List DictEntry→Prop):Value→Prop |mk {a:Addr} {ds:List DictEntry} {ep:Nat} (h:x6 c Γ a (dictOf ds ep)) (r:ih ds) (q:eL es∧es.length≤bM∧a≠sysModules):sM es ih (.ref a)
inductive rH(C:Addr)(ih:List DictEntry→Prop):Value→Prop |mk {a d:Addr} {ds:List DictEntry} {ep:Nat} (h:x6 c Γ a (instObj C d)) (h':x6 c Γ d (dictOf ds ep)) (r:ih ds):rH C ih (.ref a)
inductive mG(l i:Nat):Value→Prop |mk (h:Γ.live (.g l i)):mG l i (.ref (Γ.at_ (.g l i)))
inductive az{β:Type}(h1:β→Prop)(h2:List β→Prop):List β→Prop |mk {v:β} {r:List β} (h:h1 v) (h':h2 r):az h1 h2 (v::r)
structure mE(k:A)(hk hv:Value→Prop)(e:DictEntry):Prop where
 h:∃d,oM k=some d∧e.hash=hashW c.P (ofPy d)
 k:hk e.key
 v:hv e.val
structure mA(n:Str)(hv:Value→Prop)(e:DictEntry):Prop where
 h:e.hash=PyData.keyHash c.P n
 k:∃t,e.key=.str n t
 v:hv e.val
noncomputable def Av(x:A):Value→Prop:=@A.rec (λ_=>Value→Prop) (λ_=>List Value→Prop) (λ_=>List DictEntry→Prop) (λ_=>List DictEntry→Prop) (λ_=>DictEntry→Prop) (λ_=>DictEntry→Prop)
 (λv=>v=.none) (λb v=>v=.bool b) gu gq (dO c Γ) (pt c Γ) (sM c Γ) (λC _=>rH c Γ C) (mG Γ) (λu v=>v=u∧handedIn v=true) (λvs=>vs=[]) (λ_ _=>az) (λvs=>vs=[]) (λ_ _=>az) (λvs=>vs=[]) (λ_ _=>az) (λk _=>mE c k) (λn _=>mA c n) x
noncomputable def aG(x:List A):List Value→Prop:=@A.rec_1 (λ_=>Value→Prop) (λ_=>List Value→Prop) (λ_=>List DictEntry→Prop) (λ_=>List DictEntry→Prop) (λ_=>DictEntry→Prop) (λ_=>DictEntry→Prop)
 (λv=>v=.none) (λb v=>v=.bool b) gu gq (dO c Γ) (pt c Γ) (sM c Γ) (λC _=>rH c Γ C) (mG Γ) (λu v=>v=u∧handedIn v=true) (λvs=>vs=[]) (λ_ _=>az) (λvs=>vs=[]) (λ_ _=>az) (λvs=>vs=[]) (λ_ _=>az) (λk _=>mE c k) (λn _=>mA c n) x
noncomputable def cW(x:List (A×A)):List DictEntry→Prop:=@A.rec_2 (λ_=>Value→Prop) (λ_=>List Value→Prop) (λ_=>List DictEntry→Prop) (λ_=>List DictEntry→Prop) (λ_=>DictEntry→Prop) (λ_=>DictEntry→Prop)
 (λv=>v=.none) (λb v=>v=.bool b) gu gq (dO c Γ) (pt c Γ) (sM c Γ) (λC _=>rH c Γ C) (mG Γ) (λu v=>v=u∧handedIn v=true) (λvs=>vs=[]) (λ_ _=>az) (λvs=>vs=[]) (λ_ _=>az) (λvs=>vs=[]) (λ_ _=>az) (λk _=>mE c k) (λn _=>mA c n) x
noncomputable def fO(x:List (Str×A)):List DictEntry→Prop:=@A.rec_3 (λ_=>Value→Prop) (λ_=>List Value→Prop) (λ_=>List DictEntry→Prop) (λ_=>List DictEntry→Prop) (λ_=>DictEntry→Prop) (λ_=>DictEntry→Prop)
 (λv=>v=.none) (λb v=>v=.bool b) gu gq (dO c Γ) (pt c Γ) (sM c Γ) (λC _=>rH c Γ C) (mG Γ) (λu v=>v=u∧handedIn v=true) (λvs=>vs=[]) (λ_ _=>az) (λvs=>vs=[]) (λ_ _=>az) (λvs=>vs=[]) (λ_ _=>az) (λk _=>mE c k) (λn _=>mA c n) x
inductive RL(xs:List A):Value→Prop |mk {a:Addr} {ob:Obj} {vs:List Value} (g:Γ.h.get? a=some ob) (q:Ve vs ob) (r:aG c Γ xs vs) (n:xs.length≤bM):RL xs (.ref a)
inductive RD(es:List (A×A)):Value→Prop |mk {a:Addr} {ds:List DictEntry} {ep:Nat} (g:Γ.h.get? a=some (dictOf ds ep)) (r:cW c Γ es ds) (q:eL es∧es.length≤bM∧a≠sysModules):RD es (.ref a)
inductive RI(C:Addr)(as:List (Str×A)):Value→Prop |mk {a d:Addr} {ds:List DictEntry} {ep:Nat} (g:Γ.h.get? a=some (instObj C d)) (g':Γ.h.get? d=some (dictOf ds ep)) (r:fO c Γ as ds):RI C as (.ref a)
def Rd(ce:Ce):Value→Prop:=match ce with | .list xs=>RL c Γ xs | .dict es=>RD c Γ es | .inst C as=>RI c Γ C as | .fz _=>λ_=>False
inductive CL(w:Ow)(a:Addr)(xs:List A):Prop |mk {vs:List Value} {ep:Nat} (m:(a,b5 vs ep)∈Γ.news) (o:Γ.o a=w) (r:aG c Γ xs vs) (n:xs.length≤bM):CL w a xs
inductive CD(w:Ow)(a:Addr)(es:List (A×A)):Prop |mk {ds:List DictEntry} {ep:Nat} (m:(a,dictOf ds ep)∈Γ.news) (o:Γ.o a=w) (r:cW c Γ es ds) (q:eL es∧es.length≤bM):CD w a es
inductive CI(w:Ow)(a C:Addr)(as:List (Str×A)):Prop |mk {d:Addr} {ds:List DictEntry} {ep:Nat} (m:(a,instObj C d)∈Γ.news) (o:Γ.o a=w) (m':(d,dictOf ds ep)∈Γ.news) (o':Γ.o d=.d w) (r:fO c Γ as ds):CI w a C as
def Cv(w:Ow)(a:Addr)(ce:Ce):Prop:=match ce with | .list xs=>CL c Γ w a xs | .dict es=>CD c Γ w a es | .inst C as=>CI c Γ w a C as | .fz x=>Av c Γ x (.ref a)
def Xv(x:X)(v:Value):Prop:=match x with | .a x=>Av c Γ x v | .l j k=>v=.ref (Γ.at_ (.l j k))∧Γ.live (.l j k)
end
structure Lf(Γ Γ':Gh):Prop where
 F:∀a ob,(a,ob)∈Γ.news→iB (Γ.o a)=true→(a,ob)∈Γ'.news∧iB (Γ'.o a)=true
 g:∀l i,Γ.live (.g l i)→Γ'.live (.g l i)∧Γ'.at_ (.g l i)=Γ.at_ (.g l i)
structure Le(P:Addr→Prop)(Γ Γ':Gh):Prop extends Lf Γ Γ' where
 z:∀a ob,(a,ob)∈Γ.news→Γ.o a=.z→¬P a→(a,ob)∈Γ'.news∧Γ'.o a=.z
 l:∀j k,Γ.live (.l j k)→Γ'.live (.l j k)∧Γ'.at_ (.l j k)=Γ.at_ (.l j k)
abbrev No:Addr→Prop:=λ_=>False
variable{c:Cx}{Γ Γ' Γ'':Gh}{P:Addr→Prop}
theorem Lf.trans(a:Lf Γ Γ')(b:Lf Γ' Γ''):Lf Γ Γ'':=⟨λx ob h f=>let q:=a.F x ob h f;b.F x ob q.1 q.2,λl i h=>let q:=a.g l i h;let r:=b.g l i q.1;⟨r.1,r.2.trans q.2⟩⟩
theorem Le.refl:Le P Γ Γ:=⟨⟨λ_ _ h f=>⟨h,f⟩,λ_ _ h=>⟨h,rfl⟩⟩,λ_ _ h z _=>⟨h,z⟩,λ_ _ h=>⟨h,rfl⟩⟩
theorem Le.trans(a:Le P Γ Γ')(b:Le P Γ' Γ''):Le P Γ Γ'':=⟨a.1.trans b.1,λx ob h f n=>let q:=a.z x ob h f n;b.z x ob q.1 q.2 n,λl i h=>let q:=a.l l i h;let r:=b.l l i q.1;⟨r.1,r.2.trans q.2⟩⟩
theorem Le.to{P':Addr→Prop}(h:∀a,P a→P' a)(e:Le P Γ Γ'):Le P' Γ Γ':=⟨e.1,λx ob m f n=>e.z x ob m f λq=>n (h x q),e.l⟩
theorem Le.no(e:Le No Γ Γ'):Le P Γ Γ':=e.to λ_ h=>h.elim
theorem x6.mono(e:Lf Γ Γ'){a:Addr}{ob:Obj}(h:x6 c Γ a ob):x6 c Γ' a ob:=h.imp id λq=>e.F a ob q.1 q.2
theorem az.mono{β:Type}{p p':β→Prop}{q q':List β→Prop}(h:∀v,p v→p' v)(h':∀v,q v→q' v)(v:List β)(x:az p q v):az p' q' v:=az.casesOn x λa b=>.mk (h _ a) (h' _ b)
theorem dO.mono(e:Lf Γ Γ')(l:List A)(ih:∀v,aG c Γ l v→aG c Γ' l v)(v:Value)(x:dO c Γ l (aG c Γ l) v):dO c Γ' l (aG c Γ' l) v:=dO.casesOn x λh r n=>.mk (h.mono e) (ih _ r) n
theorem pt.mono(e:Lf Γ Γ')(l:List A)(ih:∀v,aG c Γ l v→aG c Γ' l v)(v:Value)(x:pt c Γ l (aG c Γ l) v):pt c Γ' l (aG c Γ' l) v:=pt.casesOn x λh q r n=>.mk (h.mono e) q (ih _ r) n
theorem sM.mono(e:Lf Γ Γ')(l:List (A×A))(ih:∀v,cW c Γ l v→cW c Γ' l v)(v:Value)(x:sM c Γ l (cW c Γ l) v):sM c Γ' l (cW c Γ' l) v:=sM.casesOn x λh r q=>.mk (h.mono e) (ih _ r) q
theorem rH.mono(e:Lf Γ Γ')(C:Addr)(l:List (Str×A))(ih:∀v,fO c Γ l v→fO c Γ' l v)(v:Value)(x:rH c Γ C (fO c Γ l) v):rH c Γ' C (fO c Γ' l) v:=rH.casesOn x λh h' r=>.mk (h.mono e) (h'.mono e) (ih _ r)
theorem mE.mono(k v:A)(hk:∀v,Av c Γ k v→Av c Γ' k v)(hv:∀u,Av c Γ v u→Av c Γ' v u)(e:DictEntry)(x:mE c k (Av c Γ k) (Av c Γ v) e):mE c k (Av c Γ' k) (Av c Γ' v) e:=⟨x.h,hk _ x.k,hv _ x.v⟩
theorem mA.mono(n:Str)(v:A)(hv:∀u,Av c Γ v u→Av c Γ' v u)(e:DictEntry)(x:mA c n (Av c Γ v) e):mA c n (Av c Γ' v) e:=⟨x.h,x.k,hv _ x.v⟩
theorem mG.mono(e:Lf Γ Γ')(l i:Nat)(v:Value)(x:mG Γ l i v):mG Γ' l i v:=mG.casesOn x λh=>(e.g l i h).2▸.mk (e.g l i h).1
theorem Av.mono(e:Lf Γ Γ')(x:A):∀v,Av c Γ x v→Av c Γ' x v:=
 @A.rec (λx=>∀v,Av c Γ x v→Av c Γ' x v) (λx=>∀v,aG c Γ x v→aG c Γ' x v) (λx=>∀v,cW c Γ x v→cW c Γ' x v) (λx=>∀v,fO c Γ x v→fO c Γ' x v) (λp=>∀e,mE c p.1 (Av c Γ p.1) (Av c Γ p.2) e→mE c p.1 (Av c Γ' p.1) (Av c Γ' p.2) e) (λp=>∀e,mA c p.1 (Av c Γ p.2) e→mA c p.1 (Av c Γ' p.2) e)
  (λ_=>id) (λ_ _=>id) (λ_ _=>id) (λ_ _=>id) (dO.mono e) (pt.mono e) (sM.mono e) (rH.mono e) (mG.mono e) (λ_ _=>id) (λ_=>id) (λ_ _=>az.mono) (λ_=>id) (λ_ _=>az.mono) (λ_=>id) (λ_ _=>az.mono) mE.mono mA.mono x
theorem aG.mono(e:Lf Γ Γ')(x:List A):∀v,aG c Γ x v→aG c Γ' x v:=@List.rec A (λx=>∀v,aG c Γ x v→aG c Γ' x v) (λ_=>id) (λx _ ih=>az.mono (Av.mono e x) ih) x
theorem cW.mono(e:Lf Γ Γ')(x:List (A×A)):∀v,cW c Γ x v→cW c Γ' x v:=@List.rec (A×A) (λx=>∀v,cW c Γ x v→cW c Γ' x v) (λ_=>id) (λx _ ih=>az.mono (mE.mono x.1 x.2 (Av.mono e x.1) (Av.mono e x.2)) ih) x
theorem fO.mono(e:Lf Γ Γ')(x:List (Str×A)):∀v,fO c Γ x v→fO c Γ' x v:=@List.rec (Str×A) (λx=>∀v,fO c Γ x v→fO c Γ' x v) (λ_=>id) (λx _ ih=>az.mono (mA.mono x.1 x.2 (Av.mono e x.2)) ih) x
theorem Xv.mono(e:Le P Γ Γ')(x:X)(v:Value):Xv c Γ x v→Xv c Γ' x v:=match x with
 | .a x=>Av.mono e.1 x v
 | .l j k=>λ⟨h1,h2⟩=>let q:=e.l j k h2;⟨h1.trans (congrArg Value.ref q.2.symm),q.1⟩
theorem nn{α:Type}{a:α}{C:Prop}(h:none=some a):C:=nomatch h
theorem aV{α β:Type}{o:Option α}{f:α→β}{g r:β}{C:Prop}(h:alt o f g=r)(h1:∀a,o=some a→f a=r→C)(h2:g=r→C):C:=@Option.rec α (λo=>alt o f g=r→(∀a,o=some a→f a=r→C)→C) (λh _=>h2 h) (λa h k=>k a rfl h) o h h1
theorem aa{α:Type}{o:Option α}{K:α→Prop}{C:Prop}(h:opt o K)(k:∀a,o=some a→K a→C):C:=@Option.rec α (λo=>opt o K→(∀a,o=some a→K a→C)→C) (λh _=>h.elim) (λa h k=>k a rfl h) o h k
theorem ad{α β:Type}{o:Option α}{g:α→Option β}{b:β}{C:Prop}(h:o.bind g=some b)(k:∀a,o=some a→g a=some b→C):C:=@Option.rec α (λo=>o.bind g=some b→(∀a,o=some a→g a=some b→C)→C) (λh _=>nn h) (λa h k=>k a rfl h) o h k
theorem aH{α β:Type}{o:Option α}{g:α→β}{b:β}{C:Prop}(h:o.map g=some b)(k:∀a,o=some a→g a=b→C):C:=@Option.rec α (λo=>o.map g=some b→(∀a,o=some a→g a=b→C)→C) (λh _=>nn h) (λa h k=>k a rfl (Wz h)) o h k
theorem cP{b:Bool}{P Q C:Prop}(h:aw b P Q)(k:b=true→P→C)(k':b=false→Q→C):C:=@Bool.rec (λb=>aw b P Q→(b=true→P→C)→(b=false→Q→C)→C) (λh _ k=>k rfl h) (λh k _=>k rfl h) b h k k'
theorem aQ{α:Type}{b:Bool}{o:Option α}{r:α}{C:Prop}(h:cond b o none=some r)(k:b=true→o=some r→C):C:=@Bool.rec (λb=>cond b o none=some r→(b=true→o=some r→C)→C) (λh _=>nn h) (λh k=>k rfl h) b h k
theorem a7{b:Bool}{P Q C:Prop}(h:cond b P Q)(k:b=true→P→C)(k':b=false→Q→C):C:=@Bool.rec (λb=>cond b P Q→(b=true→P→C)→(b=false→Q→C)→C) (λh _ k=>k rfl h) (λh k _=>k rfl h) b h k k'
theorem bC{b:Bool}{P C:Prop}(h:aw b P False)(k:b=true→P→C):C:=cP h k λ_ h=>h.elim
variable{d:Addr}{o o':Obj}{news news':cO}{h₀ h h':Heap}{L:Addr}
theorem ja(o':Obj):∀{news:cO},(news.map (·.1)).Nodup→(d,o)∈news→∃n',Upd d o o' news n'
 |p::r,hn,hm=>by
  rw[List.map_cons,List.nodup_cons] at hn
  rcases WC hm with rfl |hm
  ·exact⟨_,.head λq hq e=>hn.1 (e▸List.mem_map_of_mem (f:=(·.1)) hq)⟩
  ·have⟨n',u⟩:=ja o' hn.2 hm
   exact⟨_,.tail (λe=>hn.1 (e▸List.mem_map_of_mem (f:=(·.1)) hm)) u⟩
structure O4(d:Addr)(o':Obj)(news news':cO):Prop where
 keys:news'.map (·.1)=news.map (·.1)
 self:(d,o')∈news'
 keep:∀b x,(b,x)∈news→b≠d→(b,x)∈news'
theorem Vk(u:Upd d o o' news news'):O4 d o' news news':=by
 induction u with
 |head h=>exact⟨rfl,.head _,λb x m e=>(WC m).elim (λq=>absurd (congrArg Prod.fst q) e) (.tail _)⟩
 |tail _ _ ih=>exact⟨congrArg (_::·) ih.1,.tail _ ih.2,λb x m e=>(WC m).elim (λq=>q▸.head _) λm=>.tail _ (ih.3 b x m e)⟩
theorem ji(u:Upd d o o' news news')(N:News h₀ L h news)(hs:Heap.SameBut d h h')(ho:h'.get? d=some o'):News h₀ L h' news':=by
 obtain⟨pre,post,rfl,rfl,a,b⟩:=u.split
 exact news_set N a b hs ho
structure ah(c:Cx)(f:Fm)(m:Mp)(S:AS)(Γ:Gh):Prop where
 F:Fr f.h₀ f.env.locals Γ.h m
 N:News f.h₀ f.env.locals Γ.h Γ.news
 once:(Γ.news.map (·.1)).Nodup
 I:c.K.In f.h₀
 T:TopRead c.prog c.loose c.mg c.mb f.h₀
 M:(c.K.lookup sysModules).isSome=true
 C:∀w ce,cont S w=some ce→Cv c Γ w (Γ.at_ w) ce
 V:∀w,Γ.live w↔(cont S w).isSome=true
structure xR(c:Cx)(S:AS)(Γ:Gh):Prop where
 once:(Γ.news.map (·.1)).Nodup
 M:(c.K.lookup sysModules).isSome=true
 C:∀w ce,cont S w=some ce→Cv c Γ w (Γ.at_ w) ce
 V:∀w,Γ.live w↔(cont S w).isSome=true
theorem ah.out{c:Cx}{f:Fm}{m:Mp}{S:AS}{Γ:Gh}(st:ah c f m S Γ):xR c S Γ:=⟨st.once,st.M,st.C,st.V⟩
variable{f:Fm}{m m':Mp}{S S':AS}{D:Ow→Prop}{w:Ow}{a:Addr}{ce:Ce}{v:Value}{x:X}
theorem Cv.mono(e:Lf Γ Γ')(k:∀b ob,(b,ob)∈Γ.news→(Γ.o b=w∨Γ.o b=.d w)→(b,ob)∈Γ'.news∧Γ'.o b=Γ.o b)(h:Cv c Γ w a ce):Cv c Γ' w a ce:=
 match ce,h with
 | .list _,h=>CL.casesOn h λm o r n=>.mk (k _ _ m (.inl o)).1 ((k _ _ m (.inl o)).2.trans o) (aG.mono e _ _ r) n
 | .dict _,h=>CD.casesOn h λm o r q=>.mk (k _ _ m (.inl o)).1 ((k _ _ m (.inl o)).2.trans o) (cW.mono e _ _ r) q
 | .inst _ _,h=>CI.casesOn h λm o m' o' r=>.mk (k _ _ m (.inl o)).1 ((k _ _ m (.inl o)).2.trans o) (k _ _ m' (.inr o')).1 ((k _ _ m' (.inr o')).2.trans o') (fO.mono e _ _ r)
 | .fz _,h=>Av.mono e _ _ h
theorem ah.gen(st:ah c f m S Γ)(F':Fr f.h₀ f.env.locals Γ'.h m')(N':News f.h₀ f.env.locals Γ'.h Γ'.news)(on:(Γ'.news.map (·.1)).Nodup)
  (kp:∀b ob,(b,ob)∈Γ.news→¬D (Γ.o b)→(b,ob)∈Γ'.news∧Γ'.o b=Γ.o b) (e:Lf Γ Γ')
  (hc:∀w ce,cont S' w=some ce→Cv c Γ' w (Γ'.at_ w) ce∨(cont S w=some ce∧¬D w∧¬D (.d w)∧Γ'.at_ w=Γ.at_ w)) (V':∀w,Γ'.live w↔(cont S' w).isSome=true):ah c f m' S' Γ':=
 ⟨F',N',on,st.I,st.T,st.M,λw ce h=>(hc w ce h).elim id λq=>q.2.2.2▸Cv.mono e (λb ob mb ho=>kp b ob mb (ho.elim (λz=>z▸q.2.1) λz=>z▸q.2.2.1)) (st.C w ce q.1),V'⟩
theorem ah.KI(st:ah c f m S Γ):c.K.In Γ.h:=st.I.keeps st.F.keep
theorem ah.get(st:ah c f m S Γ){ob:Obj}(h:(a,ob)∈Γ.news):Γ.h.get? a=some ob:=(st.N _ h).1
theorem x6.get{ob:Obj}(st:ah c f m S Γ)(h:x6 c Γ a ob):Γ.h.get? a=some ob:=h.elim (st.KI a ob) λq=>st.get q.1
theorem ah.nm(st:ah c f m S Γ){ob:Obj}(h:(a,ob)∈Γ.news):a≠sysModules:=λe=>by
 obtain⟨q,hq⟩:=Option.isSome_iff_exists.mp st.M
 have:=(st.N _ h).2.2
 rw[show(a,ob).1=sysModules from e,st.I sysModules q hq] at this
 cases this
theorem Cv.rd(st:ah c f m S Γ)(hz:jL ce=false)(h:Cv c Γ w a ce):Rd c Γ ce (.ref a):=
 match ce,hz,h with
 | .list _,_,h=>CL.casesOn h λm o r n=>.mk (st.get m) ⟨rfl,_,rfl⟩ r n
 | .dict _,_,h=>CD.casesOn h λm o r q=>.mk (st.get m) r ⟨q.1,q.2,st.nm m⟩
 | .inst _ _,_,h=>CI.casesOn h λm o m' o' r=>.mk (st.get m) (st.get m') r
 | .fz _,hz,_=>nomatch hz
theorem qM(st:ah c f m S Γ){x:A}:Av c Γ x v→xD x=some ce→Rd c Γ ce v:=
 @A.casesOn (λx=>Av c Γ x v→xD x=some ce→Rd c Γ ce v) x (λ_=>nn) (λ_ _=>nn) (λ_ _=>nn) (λ_ _=>nn) (λ_ _=>nn)
  (λ_ h hv=>Wz hv▸pt.casesOn h λh q r n=>.mk (h.get st) q r n) (λ_ h hv=>Wz hv▸sM.casesOn h λh r q=>.mk (h.get st) r q)
  (λ_ _ h hv=>Wz hv▸rH.casesOn h λh h' r=>.mk (h.get st) (h'.get st) r) (λ_ _ _=>nn) (λ_ _=>nn)
theorem yN(st:ah c f m S Γ){o:Ce}(h:Cv c Γ w a o)(hu:iy o=some ce):Rd c Γ ce (.ref a):=
 match o,h,hu with
 | .list _,h,hu=>Wz hu▸Cv.rd st rfl h
 | .dict _,h,hu=>Wz hu▸Cv.rd st rfl h
 | .inst _ _,h,hu=>Wz hu▸Cv.rd st rfl h
 | .fz _,h,hu=>qM st h hu
theorem FI{l i:Nat}(h:mG Γ l i v):v=.ref (Γ.at_ (.g l i))∧Γ.live (.g l i):=mG.casesOn (motive:=λv _=>v=.ref (Γ.at_ (.g l i))∧Γ.live (.g l i)) h λh=>⟨rfl,h⟩
theorem Xv.rf:Xv c Γ x v→Mine.rf x=some w→v=.ref (Γ.at_ w)∧Γ.live w:=
 @X.casesOn (λx=>Xv c Γ x v→Mine.rf x=some w→v=.ref (Γ.at_ w)∧Γ.live w) x
  (λx=>@A.casesOn (λx=>Xv c Γ (.a x) v→Mine.rf (.a x)=some w→v=.ref (Γ.at_ w)∧Γ.live w) x (λ_=>nn) (λ_ _=>nn) (λ_ _=>nn) (λ_ _=>nn) (λ_ _=>nn) (λ_ _=>nn) (λ_ _=>nn) (λ_ _ _=>nn)
   (λ_ _ h hw=>Wz hw▸FI h) (λ_ _=>nn)) (λ_ _ h hw=>Wz hw▸h)
theorem fj(st:ah c f m S Γ)(h:Xv c Γ x v)(hv:au S x=some ce):Rd c Γ ce v:=
 aV hv (λw hr hv=>(h.rf hr).1▸ad hv λo h1 h2=>yN st (st.C w o h1) h2) λhv=>ad hv λp _ h2=>qM st (x:=p.1) (show Xv c Γ (.a p.1) v from p.2▸h) h2
theorem UI:(List.range 32).map (λl=>(List.range 32).map λk=>λ(x:List Ce) (r:Rg 5)=>eC 5 k (ac 5 l x r))=(List.range 32).map λl=>(List.range 32).map λk=>λx r=>cond (Nat.beq k l) x (eC 5 k r):=by kernel_rfl
theorem AS.gs{S:AS}{k l:Nat}{x:List Ce}(hk:Nat.ble k 31=true)(hl:Nat.ble l 31=true):(S.set l x).get k=cond (Nat.beq k l) x (S.get k):=
 congrFun (congrFun (WA (WA UI l (WE (Nat.lt_succ_of_le (Wu hl)))) k (WE (Nat.lt_succ_of_le (Wu hk)))) x) S.gl
theorem xN{i j:Nat}(h:i≠j):Nat.beq i j=false:=Bool.eq_false_iff.mpr λq=>h (Wv q)
theorem lf{α:Type}{l:List α}{i:Nat}{a o:α}(h:l[i]?=some o):(l.set i a)[i]?=some a:=by rw[List.getElem?_set_self (WK h).1]
variable{w':Ow}{o:Ce}
theorem xi(hn:cont S w=some o)(h:xA S ce w=some S'):cont S' w=some ce∧∀w',w'≠w→cont S' w'=cont S w':=by
 cases w with
 |g l i=>
  refine aQ h λhl h=>?_
  cases h
  refine aQ hn λ_ hn=>⟨?_,λw' hw=>?_⟩
  ·show cond (Nat.ble l 31) ((S.set l _).get l)[i]? none=_
   rw[hl,AS.gs hl hl,Nat.beq_refl];exact lf hn
  ·cases w' with
   |g l' i'=>
    show cond (Nat.ble l' 31) ((S.set l _).get l')[i']? none=cond (Nat.ble l' 31) (S.get l')[i']? none
    cases hl':Nat.ble l' 31 with
    |false=>rfl
    |true=>
     rw[AS.gs hl' hl]
     by_cases e:l'=l
     ·subst e;rw[Nat.beq_refl];exact List.getElem?_set_ne λe=>hw (by rw[e])
     ·rw[xN e];rfl
   |_=>rfl
 |l j k=>
  refine aH h λfr hf e=>?_
  subst e
  refine ad hn λfr' hf' hk=>?_
  cases hf.symm.trans hf'
  refine⟨?_,λw' hw=>?_⟩
  ·show((S.loc.set j _)[j]?).bind _=_
   rw[lf hf];exact lf hk
  ·cases w' with
   |l j' k'=>
    show((S.loc.set j _)[j']?).bind (λfr=>fr[k']?)=(S.loc[j']?).bind λfr=>fr[k']?
    by_cases e:j=j'
    ·subst e;rw[lf hf,hf];exact List.getElem?_set_ne λe=>hw (by rw[e])
    ·rw[List.getElem?_set_ne e]
   |_=>rfl
 |_=>exact nn h
theorem lG{α:Type}{l:List α}{a:α}{i:Nat}(h:i≠l.length):(l++[a])[i]?=l[i]?:=by
 rw[List.getElem?_append]
 split
 ·rfl
 ·rename_i q
  rw[List.getElem?_eq_none (Nat.le_of_not_lt q),List.getElem?_eq_none]
  show 1≤i - l.length;omega
theorem oV{fr:List Ce}{r:List (List Ce)}(hS:S.loc=fr::r):cont ⟨(fr++[ce])::r,S.gl⟩ (.l 0 fr.length)=some ce∧(∀w',w'≠.l 0 fr.length→cont ⟨(fr++[ce])::r,S.gl⟩ w'=cont S w')∧cont S (.l 0 fr.length)=none:=by
 refine⟨List.getElem?_concat_length,λw' hw=>?_,by show(S.loc[0]?).bind _=_;rw[hS];exact List.getElem?_eq_none (Nat.le_refl _)⟩
 cases w' with
 |l j k=>
  show(((fr++[ce])::r)[j]?).bind _=(S.loc[j]?).bind _
  rw[hS]
  cases j with
  |zero=>exact lG λe=>hw (by rw[e])
  |succ j=>rfl
 |_=>rfl
theorem oY{l:Nat}(hl:Nat.ble l 31=true):cont (S.set l (S.get l++[ce])) (.g l (S.get l).length)=some ce∧(∀w',w'≠.g l (S.get l).length→cont (S.set l (S.get l++[ce])) w'=cont S w')∧cont S (.g l (S.get l).length)=none:=by
 refine⟨?_,λw' hw=>?_,by show cond (Nat.ble l 31) (S.get l)[(S.get l).length]? none=_;rw[hl];exact List.getElem?_eq_none (Nat.le_refl _)⟩
 ·show cond (Nat.ble l 31) ((S.set l _).get l)[(S.get l).length]? none=_
  rw[hl,AS.gs hl hl,Nat.beq_refl];exact List.getElem?_concat_length
 ·cases w' with
  |g l' i'=>
   show cond (Nat.ble l' 31) ((S.set l _).get l')[i']? none=cond (Nat.ble l' 31) (S.get l')[i']? none
   cases hl':Nat.ble l' 31 with
   |false=>rfl
   |true=>
    rw[AS.gs hl' hl]
    by_cases e:l'=l
    ·subst e;rw[Nat.beq_refl];exact lG λe=>hw (by rw[e])
    ·rw[xN e];rfl
  |_=>rfl
variable{ob ob':Obj}{ce':Ce}{tk:Tok}{n':cO}
def Gh.add(Γ:Gh)(h':Heap)(tk:Tok)(a:Addr)(ob:Obj)(w:Ow):Gh:=⟨h',tk,(a,ob)::Γ.news,λb=>if b=a then w else Γ.o b,Γ.at_,Γ.live⟩
def Gh.upd(Γ:Gh)(h':Heap)(tk:Tok)(n':cO):Gh:=⟨h',tk,n',Γ.o,Γ.at_,Γ.live⟩
noncomputable def Gh.name(Γ:Gh)(w:Ow)(a:Addr):Gh:=⟨Γ.h,Γ.tk,Γ.news,Γ.o,λw'=>@ite _ (w'=w) (Classical.propDecidable _) a (Γ.at_ w'),λw'=>w'=w∨Γ.live w'⟩
def Gh.ren(Γ:Gh)(φ ψ:Ow→Ow):Gh:=⟨Γ.h,Γ.tk,Γ.news,λb=>φ (Γ.o b),λw=>Γ.at_ (ψ w),λw=>Γ.live (ψ w)⟩
theorem ah.add(st:ah c f m S Γ)(F':Fr f.h₀ f.env.locals h' m)(N':News f.h₀ f.env.locals h' ((a,ob)::Γ.news))(hn:∀p∈Γ.news,p.1<a)(w:Ow):ah c f m S (Γ.add h' tk a ob w)∧Le No Γ (Γ.add h' tk a ob w)∧(Γ.add h' tk a ob w).o a=w:=by
 have k:∀b x,(b,x)∈Γ.news→(Γ.add h' tk a ob w).o b=Γ.o b:=λb x mb=>if_neg (Nat.ne_of_lt (hn _ mb))
 have e:Lf Γ (Γ.add h' tk a ob w):=⟨λb x mb hf=>⟨.tail _ mb,(k b x mb).symm▸hf⟩,λ_ _ h=>⟨h,rfl⟩⟩
 refine⟨st.gen (D:=λ_=>False) F' N' ?_ (λb x mb _=>⟨.tail _ mb,k b x mb⟩) e (λw ce h=>.inr ⟨h,id,id,rfl⟩) st.V,⟨e,λb x mb hz _=>⟨.tail _ mb,(k b x mb).trans hz⟩,λ_ _ h=>⟨h,rfl⟩⟩,if_pos rfl⟩
 show((a,ob).1::Γ.news.map (·.1)).Nodup
 exact List.nodup_cons.mpr ⟨λq=>(List.mem_map.mp q).elim λp q=>Nat.lt_irrefl _ (q.2▸hn p q.1),st.once⟩
theorem ah.name(st:ah c f m S Γ)(hw:AN w=true)(hn:cont S w=none)(c1:cont S' w=some ce)(c2:∀w',w'≠w→cont S' w'=cont S w')(cl:Cv c Γ w a ce):ah c f m S' (Γ.name w a)∧Le No Γ (Γ.name w a)∧(Γ.name w a).at_ w=a:=by
 have k:∀w',Γ.live w'→w'≠w:=λw' h e=>by have:=(st.V w').mp h;rw[e,hn] at this;cases this
 have e:Lf Γ (Γ.name w a):=⟨λ_ _ mb hf=>⟨mb,hf⟩,λl i h=>⟨.inr h,if_neg (k _ h)⟩⟩
 have ha:(Γ.name w a).at_ w=a:=if_pos rfl
 refine⟨st.gen (D:=λ_=>False) st.F st.N st.once (λ_ _ mb _=>⟨mb,rfl⟩) e (λw' ce' h=>?_) (λw'=>⟨λh=>h.elim (λe=>by rw[e,c1];rfl) λh=>(c2 w' (k w' h)).symm▸(st.V w').mp h,λh=>?_⟩),⟨e,λ_ _ mb hz _=>⟨mb,hz⟩,λj k' h=>⟨.inr h,if_neg (k _ h)⟩⟩,ha⟩
 ·by_cases q:w'=w
  ·subst q;cases c1.symm.trans h;exact .inl (ha.symm▸Cv.mono e (λ_ _ mb _=>⟨mb,rfl⟩) cl)
  ·exact .inr ⟨(c2 w' q).symm.trans h,id,id,if_neg q⟩
 ·by_cases q:w'=w
  ·exact .inl q
  ·exact .inr ((st.V w').mpr (c2 w' q▸h))
theorem ah.put(st:ah c f m S Γ)(hw:AN w=true)(hm:(a,ob)∈Γ.news)(ho:Γ.o a=w∨Γ.o a=.d w)(u:Upd a ob ob' Γ.news n')(F':Fr f.h₀ f.env.locals h' m)(N':News f.h₀ f.env.locals h' n')(hn:cont S w=some ce')(c1:cont S' w=some ce)(c2:∀w',w'≠w→cont S' w'=cont S w')
  (cl:Lf Γ (Γ.upd h' tk n')→O4 a ob' Γ.news n'→Cv c (Γ.upd h' tk n') w (Γ.at_ w) ce):ah c f m S' (Γ.upd h' tk n')∧Le No Γ (Γ.upd h' tk n'):=by
 have r:=Vk u
 have k:∀b x,(b,x)∈Γ.news→¬(Γ.o b=w∨Γ.o b=.d w)→(b,x)∈n':=λb x mb h=>r.keep b x mb λe=>h (e▸ho)
 have kf:∀{w'},iB w'=true→¬(w'=w∨w'=.d w):=λ{w'} h e=>by
  have h:iB w=true:=e.elim (λe=>e▸h) λe=>(show iB (.d w)=true from e▸h)
  rw[Jw hw] at h;cases h
 have e:Lf Γ (Γ.upd h' tk n'):=⟨λb x mb hf=>⟨k b x mb (kf hf),hf⟩,λ_ _ h=>⟨h,rfl⟩⟩
 refine⟨st.gen (D:=λw'=>w'=w∨w'=.d w) F' N' (r.keys▸st.once) (λb x mb h=>⟨k b x mb h,rfl⟩) e (λw' ce' h=>?_) (λw'=>(st.V w').trans ?_),⟨e,λb x mb hz _=>⟨k b x mb (λq=>q.elim (λq=>Kq hw (hz▸q)) (λq=>nomatch hz.symm.trans q)),hz⟩,λ_ _ h=>⟨h,rfl⟩⟩⟩
 ·by_cases q:w'=w
  ·subst q;cases c1.symm.trans h;exact .inl (cl e r)
  ·refine .inr ⟨(c2 w' q).symm.trans h,λz=>z.elim q λz=>?_,λz=>z.elim (λz=>?_) λz=>q (by cases z;rfl),rfl⟩
   ·rw[z] at h;cases h
   ·rw[← z] at hw;cases hw
 ·by_cases q:w'=w
  ·rw[q,hn,c1];exact Iff.rfl
  ·rw[c2 w' q]
theorem ah.zput(st:ah c f m S Γ)(hm:(a,ob)∈Γ.news)(ho:Γ.o a=.z)(u:Upd a ob ob' Γ.news n')(F':Fr f.h₀ f.env.locals h' m')(N':News f.h₀ f.env.locals h' n'):ah c f m' S (Γ.upd h' tk n')∧Le (λb=>b=a) Γ (Γ.upd h' tk n')∧(a,ob')∈n':=by
 have r:=Vk u
 have k:∀b x,(b,x)∈Γ.news→Γ.o b≠.z→(b,x)∈n':=λb x mb h=>r.keep b x mb λe=>h (e▸ho)
 have e:Lf Γ (Γ.upd h' tk n'):=⟨λb x mb hf=>⟨k b x mb λz=>(by rw[z] at hf;cases hf),hf⟩,λ_ _ h=>⟨h,rfl⟩⟩
 exact⟨st.gen (D:=λw'=>w'=.z) F' N' (r.keys▸st.once) (λb x mb h=>⟨k b x mb h,rfl⟩) e (λw' ce' h=>.inr ⟨h,(λz=>by rw[z] at h;cases h),(λz=>nomatch z),rfl⟩) st.V,⟨e,λb x mb hz n=>⟨r.keep b x mb n,hz⟩,λ_ _ h=>⟨h,rfl⟩⟩,r.self⟩
theorem ah.zdrop(st:ah c f m S Γ)(hm:(a,ob)∈Γ.news)(ho:Γ.o a=.z)(hs:Heap.ExtBut a Γ.h h'):ah c f m S (Γ.upd h' tk (Γ.news.filter λp=>decide (p.1≠a)))∧Le (λb=>b=a) Γ (Γ.upd h' tk (Γ.news.filter λp=>decide (p.1≠a))):=by
 have k:∀b x,(b,x)∈Γ.news→b≠a→(b,x)∈Γ.news.filter λp=>decide (p.1≠a):=λb x mb h=>List.mem_filter.mpr ⟨mb,decide_eq_true h⟩
 have kz:∀b x,(b,x)∈Γ.news→Γ.o b≠.z→(b,x)∈Γ.news.filter λp=>decide (p.1≠a):=λb x mb h=>k b x mb λe=>h (e▸ho)
 have e:Lf Γ (Γ.upd h' tk (Γ.news.filter λp=>decide (p.1≠a))):=⟨λb x mb hf=>⟨kz b x mb λz=>(by rw[z] at hf;cases hf),hf⟩,λ_ _ h=>⟨h,rfl⟩⟩
 have hm':=st.N _ hm
 obtain⟨oL,es,ep,hL,r⟩:=st.F.ns
 refine⟨st.gen (D:=λw'=>w'=.z) ⟨⟨oL,es,ep,hs _ _ (Ne.symm hm'.2.1) hL,r⟩,λb ob e=>hs _ _ (λq=>?_) (st.F.keep b ob e),st.F.above⟩ (λp hp=>?_) (st.once.sublist (List.filter_sublist.map _)) (λb x mb h=>⟨kz b x mb h,rfl⟩) e (λw' ce' h=>.inr ⟨h,(λz=>by rw[z] at h;cases h),(λz=>nomatch z),rfl⟩) st.V,⟨e,λb x mb hz n=>⟨k b x mb n,hz⟩,λ_ _ h=>⟨h,rfl⟩⟩⟩
 ·rw[q,hm'.2.2] at e;cases e
 ·have q:=List.mem_filter.mp hp
  exact⟨hs _ _ (of_decide_eq_true q.2) (st.N p q.1).1,(st.N p q.1).2⟩
theorem jg{φ:Ow→Ow}(hd:∀w,φ (.d w)=.d (φ w))(hf:φ .f=.f)(w:Ow):iB w=true→iB (φ w)=true:=@Ow.rec (λw=>iB w=true→iB (φ w)=true) (λ_ _ h=>nomatch h) (λ_ _ h=>nomatch h) (λw ih h=>(hd w).symm▸ih h) (λ_=>hf.symm▸rfl) (λh=>nomatch h) w
theorem xR.ren{φ ψ:Ow→Ow}(st:xR c S Γ)(hd:∀w,φ (.d w)=.d (φ w))(hf:φ .f=.f)(hg:∀l i,ψ (.g l i)=.g l i)(V':∀w,(cont S (ψ w)).isSome=(cont S' w).isSome)
  (hc:Lf Γ (Γ.ren φ ψ)→∀w ce,cont S' w=some ce→(cont S (ψ w)=some ce∧φ (ψ w)=w)∨Cv c (Γ.ren φ ψ) w (Γ.at_ (ψ w)) ce):xR c S' (Γ.ren φ ψ)∧Lf Γ (Γ.ren φ ψ):=by
 have e:Lf Γ (Γ.ren φ ψ):=⟨λb x mb h=>⟨mb,jg hd hf _ h⟩,λl i h=>⟨(congrArg Γ.live (hg l i)).mpr h,congrArg Γ.at_ (hg l i)⟩⟩
 have key:∀w ce b,φ (ψ w)=w→Cv c Γ (ψ w) b ce→Cv c (Γ.ren φ ψ) w b ce:=λw ce b q cv=>match ce,cv with
  | .list _,h=>CL.casesOn h λm o r n=>.mk m ((congrArg φ o).trans q) (aG.mono e _ _ r) n
  | .dict _,h=>CD.casesOn h λm o r q'=>.mk m ((congrArg φ o).trans q) (cW.mono e _ _ r) q'
  | .inst _ _,h=>CI.casesOn h λm o m' o' r=>.mk m ((congrArg φ o).trans q) m' ((congrArg φ o').trans ((hd _).trans (congrArg Ow.d q))) (fO.mono e _ _ r)
  | .fz _,h=>Av.mono e _ _ h
 exact⟨⟨st.once,st.M,λw ce h=>(hc e w ce h).elim (λq=>key w ce _ q.2 (st.C _ _ q.1)) id,λw=>(st.V _).trans (by rw[V' w])⟩,e⟩
theorem ah.ren{φ ψ:Ow→Ow}(st:ah c f m S Γ)(hd:∀w,φ (.d w)=.d (φ w))(hf:φ .f=.f)(hg:∀l i,ψ (.g l i)=.g l i)(V':∀w,(cont S (ψ w)).isSome=(cont S' w).isSome)
  (hc:Lf Γ (Γ.ren φ ψ)→∀w ce,cont S' w=some ce→(cont S (ψ w)=some ce∧φ (ψ w)=w)∨Cv c (Γ.ren φ ψ) w (Γ.at_ (ψ w)) ce):ah c f m S' (Γ.ren φ ψ)∧Lf Γ (Γ.ren φ ψ):=have r:=st.out.ren (S':=S') hd hf hg V' hc;⟨⟨st.F,st.N,r.1.once,st.I,st.T,st.M,r.1.C,r.1.V⟩,r.2⟩
noncomputable def rC(j k:Nat)(w:Ow):Ow:=@Ow.rec (λ_=>Ow) .g (λj' k'=>cond (Nat.beq j' j&&Nat.beq k' k) .f (.l j' k')) (λ_ ih=>.d ih) .f .z w
noncomputable def gF(w:Ow):Ow:=@Ow.rec (λ_=>Ow) .g (λj k=>.l (j+1) k) (λ_ ih=>.d ih) .f .z w
noncomputable def gZ(w:Ow):Ow:=@Ow.rec (λ_=>Ow) .g (λj k=>@Nat.rec (λ_=>Ow) (.d .z) (λj _=>.l j k) j) (λ_ ih=>.d ih) .f .z w
noncomputable def M8(k n:Nat)(w:Ow):Ow:=@Ow.rec (λ_=>Ow) .g (λj k'=>@Nat.rec (λ_=>Ow) (cond (Nat.beq k' k) (.l 0 n) (.d .z)) (λj _=>.l j k') j) (λ_ ih=>.d ih) .f .z w
noncomputable def FW(k n:Nat)(w:Ow):Ow:=@Ow.rec (λ_=>Ow) .g (λj k'=>cond (Nat.beq j 0&&Nat.beq k' n) (.l 0 k) (.l (j+1) k')) (λ_ ih=>.d ih) .f .z w
section
variable(c:Cx)(f:Fm)(m:Mp)(Γ:Gh)
def cq(K:KX)(Q:Value→Shared→Prop):Prop:=∀v Γ' S' x,K x S'→ah c f m S' Γ'→Le No Γ Γ'→Xv c Γ' x v→Q v (c.st Γ')
def jW(K:AS→Prop)(Q:Shared→Prop):Prop:=∀Γ' S',K S'→ah c f m S' Γ'→Le No Γ Γ'→Q (c.st Γ')
end
variable{K:KX}{Q:Value→Shared→Prop}{E:Value→Shared→Prop}{Ar:Around}{C:Prop}
theorem cq.to(p:cq c f m Γ K Q)(e:Le No Γ Γ'):cq c f m Γ' K Q:=λv Γ'' S' x h st e'=>p v Γ'' S' x h st (e.trans e')
theorem jW.to{K:AS→Prop}{Q:Shared→Prop}(p:jW c f m Γ K Q)(e:Le No Γ Γ'):jW c f m Γ' K Q:=λΓ'' S' h st e'=>p Γ'' S' h st (e.trans e')
theorem oy(st:ah c f m S Γ)(hw:iB w=true)(h:Cv c Γ w a ce):Av c Γ (frz ce) (.ref a):=
 match ce,h with
 | .list _,h=>CL.casesOn h λm o r n=>.mk (.inr ⟨m,o▸hw⟩) ⟨rfl,_,rfl⟩ r n
 | .dict _,h=>CD.casesOn h λm o r q=>.mk (.inr ⟨m,o▸hw⟩) r ⟨q.1,q.2,st.nm m⟩
 | .inst _ _,h=>CI.casesOn h λm o m' o' r=>.mk (.inr ⟨m,o▸hw⟩) (.inr ⟨m',(congrArg iB o').trans hw⟩) r
 | .fz _,h=>h
theorem UF(i j:Nat):(Nat.beq i i&&Nat.beq j j)=true:=by rw[Nat.beq_refl,Nat.beq_refl];rfl
theorem UP{i j i' j':Nat}(h:Ow.l i j≠Ow.l i' j'):(Nat.beq i i'&&Nat.beq j j')=false:=Bool.eq_false_iff.mpr λq=>h (by have q:=WB q;rw[Wv q.1,Wv q.2])
theorem ah.fz{j k:Nat}{o:Ce}(st:ah c f m S Γ)(hn:cont S (.l j k)=some o)(h:xA S (.fz (frz o)) (.l j k)=some S'):ah c f m S' (Γ.ren (rC j k) id)∧Le No Γ (Γ.ren (rC j k) id)∧Av c (Γ.ren (rC j k) id) (frz o) (.ref (Γ.at_ (.l j k))):=by
 have q:=xi hn h
 have hf:rC j k (.l j k)=.f:=by show cond _ _ _=_;rw[UF];rfl
 have av:Lf Γ (Γ.ren (rC j k) id)→Av c (Γ.ren (rC j k) id) (frz o) (.ref (Γ.at_ (.l j k))):=λe=>
  match o,st.C _ _ hn with
  | .list _,h=>CL.casesOn h λm o r n=>.mk (.inr ⟨m,(congrArg (λw=>iB (rC j k w)) o).trans (congrArg iB hf)⟩) ⟨rfl,_,rfl⟩ (aG.mono e _ _ r) n
  | .dict _,h=>CD.casesOn h λm o r q=>.mk (.inr ⟨m,(congrArg (λw=>iB (rC j k w)) o).trans (congrArg iB hf)⟩) (cW.mono e _ _ r) ⟨q.1,q.2,st.nm m⟩
  | .inst _ _,h=>CI.casesOn h λm o m' o' r=>.mk (.inr ⟨m,(congrArg (λw=>iB (rC j k w)) o).trans (congrArg iB hf)⟩) (.inr ⟨m',(congrArg (λw=>iB (rC j k w)) o').trans (congrArg iB hf)⟩) (fO.mono e _ _ r)
  | .fz _,h=>Av.mono e _ _ h
 have hc:∀w ce,w≠.l j k→cont S' w=some ce→cont S w=some ce∧rC j k w=w:=λw ce hw h=>⟨(q.2 w hw).symm.trans h,match w,hw,h with
  | .g _ _,_,_=>rfl
  | .l _ _,hw,_=>congrArg (cond · Ow.f _) (UP hw)
  | .d _,_,h=>nn h
  | .f,_,_=>rfl
  | .z,_,_=>rfl⟩
 have r:=st.ren (S':=S') (φ:=rC j k) (ψ:=id) (λ_=>rfl) rfl (λ_ _=>rfl) (λw=>by
  by_cases hw:w=.l j k
  ·rw[hw];exact(congrArg Option.isSome hn).trans (congrArg Option.isSome q.1).symm
  ·exact congrArg Option.isSome (q.2 w hw).symm) λe w ce h=>by
  by_cases hw:w=.l j k
  ·subst hw;cases q.1.symm.trans h;exact .inr (av e)
  ·exact .inl (hc w ce hw h)
 exact⟨r.1,⟨r.2,λb x mb hz _=>⟨mb,congrArg (rC j k) hz⟩,λ_ _ h=>⟨h,rfl⟩⟩,av r.2⟩
theorem eZ{p:A×AS}(st:ah c f m S Γ)(h:Xv c Γ x v)(hp:q6 S x=some p)(k:∀Γ',ah c f m p.2 Γ'→Le No Γ Γ'→Av c Γ' p.1 v→c.st Γ'=c.st Γ→C):C:=
 match x,h,hp with
 | .a x,h,hp=>by cases hp;exact k Γ st .refl h rfl
 | .l j k',h,hp=>ad hp λo h1 hp=>aH hp λS' h2 e=>by
  subst e
  have r:=st.fz h1 h2
  exact k _ r.1 r.2.1 (h.1▸r.2.2) rfl
theorem xH{k:SK}(st:ah c f m S Γ)(F':Fr f.h₀ f.env.locals h' m)(N':News f.h₀ f.env.locals h' ((a,ob)::Γ.news))(hn:∀p∈Γ.news,p.1<a)(cv:∀Γ' w,Lf Γ Γ'→(a,ob)∈Γ'.news→Γ'.o a=w→Cv c Γ' w a ce)(q:ia k ce S K)(p:cq c f m Γ K Q):
  Q (.ref a) {c.s₀ with heap:=h',toks:=tk}:=by
 cases k with
 |loc=>
  unfold ia at q
  cases hS:S.loc with
  |nil=>rw[hS] at q;exact q.elim
  |cons fr r=>
   rw[hS] at q
   have⟨c1,c2,c0⟩:=oV (ce:=ce) hS
   have s1:=st.add (tk:=tk) F' N' hn (.l 0 fr.length)
   have s2:=s1.1.name (w:=.l 0 fr.length) rfl c0 c1 c2 (cv _ _ s1.2.1.1 (.head _) s1.2.2)
   exact p (.ref a) _ _ _ q s2.1 (s1.2.1.trans s2.2.1) ⟨congrArg Value.ref s2.2.2.symm,.inl rfl⟩
 |frz=>
  have s1:=st.add (tk:=tk) F' N' hn .f
  exact p (.ref a) _ _ _ q s1.1 s1.2.1 (oy s1.1 rfl (cv _ _ s1.2.1.1 (.head _) s1.2.2))
 |glob l=>
  refine a7 q (λhl q=>?_) λ_ q=>q.elim
  have⟨c1,c2,c0⟩:=oY (S:=S) (ce:=ce) hl
  have s1:=st.add (tk:=tk) F' N' hn (.g l (S.get l).length)
  have s2:=s1.1.name (w:=.g l (S.get l).length) rfl c0 c1 c2 (cv _ _ s1.2.1.1 (.head _) s1.2.2)
  refine p (.ref a) _ _ _ q s2.1 (s1.2.1.trans s2.2.1) ?_
  have:=mG.mk (Γ:=(Γ.add h' tk a ob (.g l (S.get l).length)).name (.g l (S.get l).length) a) (l:=l) (i:=(S.get l).length) (.inl rfl)
  rw[s2.2.2] at this
  exact this
theorem km(w:Ow):cont (push S) w=cont S (gZ w):=match w with | .g _ _=>rfl | .l 0 _=>rfl | .l (_+1) _=>rfl | .d _=>rfl | .f=>rfl | .z=>rfl
theorem NS(w:Ow)(h:(cont S (gZ w)).isSome=true):gF (gZ w)=w:=match w,h with | .g _ _,_=>rfl | .l 0 _,h=>nomatch h | .l (_+1) _,_=>rfl | .d _,h=>nomatch h | .f,_=>rfl | .z,_=>rfl
theorem NM(w:Ow):gZ (gF w)=w:=@Ow.rec (λw=>gZ (gF w)=w) (λ_ _=>rfl) (λ_ _=>rfl) (λ_ ih=>congrArg Ow.d ih) rfl rfl w
theorem xR.push(st:xR c S Γ):xR c (Mine.push S) (Γ.ren gF gZ)∧Lf Γ (Γ.ren gF gZ):=
 st.ren (λ_=>rfl) rfl (λ_ _=>rfl) (λw=>(congrArg Option.isSome (km w)).symm) λ_ w ce h=>have h:=(km w).symm.trans h;.inl ⟨h,NS w (by rw[h];rfl)⟩
theorem ah.pop{fr:List Ce}{r:List (List Ce)}(st:ah c f m S Γ)(hS:S.loc=fr::r):ah c f m ⟨r,S.gl⟩ (Γ.ren gZ gF):=
 have h:∀w,cont ⟨r,S.gl⟩ w=cont S (gF w):=λw=>match w with | .g _ _=>rfl | .l j k=>by show(r[j]?).bind _=(S.loc[j+1]?).bind _;rw[hS];rfl | .d _=>rfl | .f=>rfl | .z=>rfl
 (st.ren (φ:=gZ) (ψ:=gF) (λ_=>rfl) rfl (λ_ _=>rfl) (λw=>(congrArg Option.isSome (h w)).symm) λ_ w ce e=>.inl ⟨(h w).symm.trans e,NM w⟩).1
theorem Le.pop(e:Le P (Γ.ren gF gZ) Γ'):Le P Γ (Γ'.ren gZ gF):=
 ⟨⟨λb x mb hf=>have q:=e.F b x mb (jg (φ:=gF) (λ_=>rfl) rfl _ hf);⟨q.1,jg (φ:=gZ) (λ_=>rfl) rfl _ q.2⟩,λl i h=>e.g l i h⟩,λb x mb hz n=>have q:=e.z b x mb (congrArg gF hz) n;⟨q.1,congrArg gZ q.2⟩,λj k h=>e.l (j+1) k h⟩
theorem Lf.up:Lf Γ (Γ.ren gF gZ):=⟨λ_ _ mb hf=>⟨mb,jg (φ:=gF) (λ_=>rfl) rfl _ hf⟩,λ_ _ h=>⟨h,rfl⟩⟩
theorem Lf.dn:Lf Γ (Γ.ren gZ gF):=⟨λ_ _ mb hf=>⟨mb,jg (φ:=gZ) (λ_=>rfl) rfl _ hf⟩,λ_ _ h=>⟨h,rfl⟩⟩
theorem Xv.shift:Xv c Γ x v→Xv c (Γ.ren gF gZ) (shift x) v:=match x with | .a _=>Av.mono .up _ _ | .l _ _=>id
theorem lI(st:ah c f m S Γ')(e:Le P (Γ.ren gF gZ) Γ')(h:Xv c Γ' x v)(q:ret x S K)(k:∀Γ'' S'' x'',K x'' S''→ah c f m S'' Γ''→Le P Γ Γ''→Xv c Γ'' x'' v→c.st Γ''=c.st Γ'→C):C:=by
 unfold ret at q
 cases hS:S.loc with
 |nil=>rw[hS] at q;exact q.elim
 |cons fr r=>
  rw[hS] at q
  cases x with
  |a x=>exact k _ _ _ q (st.pop hS) e.pop (Av.mono .dn _ _ h) rfl
  |l j n=>cases j with
   |succ j=>exact k _ _ _ q (st.pop hS) e.pop h rfl
   |zero=>
    refine aa q λo ho q=>?_
    have hn:cont S (.l 0 n)=some o:=by show(S.loc[0]?).bind _=_;rw[hS];exact ho
    have hz:xA S (.fz (frz o)) (.l 0 n)=some ⟨fr.set n (.fz (frz o))::r,S.gl⟩:=by show(S.loc[0]?).map _=_;rw[hS];rfl
    have s:=st.fz hn hz
    exact k _ _ _ q (s.1.pop rfl) (e.trans s.2.1.no).pop (Av.mono .dn _ _ (h.1▸s.2.2)) rfl
theorem yQ(st:ah c f m S Γ')(e:Le P (Γ.ren gF gZ) Γ')(h:Xv c Γ' x v)(q:IZ x S K)(k:∀Γ'' S'' x'',K x'' S''→ah c f m S'' Γ''→Le P Γ Γ''→Xv c Γ'' x'' v→c.st Γ''=c.st Γ'→C):C:=by
 cases x with
 |a x=>exact lI st e h q k
 |l j n=>cases j with
  |succ j=>exact lI st e h q k
  |zero=>
   refine aa q λo ho q=>cP q (λ_ q=>q.elim) λhz q=>?_
   have hl:∀i,S.loc[i+1]?=(S.loc.drop 1)[i]?:=λi=>by rw[List.getElem?_drop,Nat.add_comm]
   have q:(match(S.loc.drop 1) with |fr::r=>K (.l 0 fr.length) ⟨(fr++[o])::r,S.gl⟩ |[]=>False):=q
   generalize S.loc.drop 1=L at q hl
   match L,hl,q with
   |[],_,q=>exact q.elim
   |fr::r,hl,q=>
    have hc:∀w,cont ⟨(fr++[o])::r,S.gl⟩ w=cont S (FW n fr.length w):=λw=>match w with
     | .g _ _=>rfl
     | .l 0 k'=>by
      by_cases e:k'=fr.length
      ·show(fr++[o])[k']?=cont S (cond (Nat.beq k' fr.length) _ _)
       rw[e,Nat.beq_refl];exact List.getElem?_concat_length.trans ho.symm
      ·show(fr++[o])[k']?=cont S (cond (Nat.beq k' fr.length) _ (.l 1 k'))
       rw[xN e,lG e];show _=(S.loc[0+1]?).bind _;rw[hl 0];rfl
     | .l (j+1) k'=>by show(r[j]?).bind _=(S.loc[j+1+1]?).bind _;rw[hl (j+1)];rfl
     | .d _=>rfl
     | .f=>rfl
     | .z=>rfl
    have hn:cont S (.l 1 fr.length)=none:=by show(S.loc[0+1]?).bind _=none;rw[hl 0];exact List.getElem?_eq_none (Nat.le_refl _)
    have s:=st.ren (S':=⟨(fr++[o])::r,S.gl⟩) (φ:=M8 n fr.length) (ψ:=FW n fr.length) (λ_=>rfl) rfl (λ_ _=>rfl) (λw=>(congrArg Option.isSome (hc w)).symm) λ_ w ce h=>.inl ⟨(hc w).symm.trans h,match w,h with
     | .g _ _,_=>rfl
     | .l 0 k',_=>by
      show M8 n fr.length (cond (Nat.beq k' fr.length) (.l 0 n) (.l 1 k'))=.l 0 k'
      by_cases e:k'=fr.length
      ·rw[e,Nat.beq_refl];show cond (Nat.beq n n) _ _=_;rw[Nat.beq_refl];rfl
      ·rw[xN e];rfl
     | .l (_+1) _,_=>rfl
     | .d _,h=>nn h
     | .f,_=>rfl
     | .z,_=>rfl⟩
    have hv:FW n fr.length (.l 0 fr.length)=.l 0 n:=by show cond (Nat.beq fr.length fr.length) _ _=_;rw[Nat.beq_refl];rfl
    refine k (Γ'.ren (M8 n fr.length) (FW n fr.length)) _ _ q s.1 ⟨⟨λb x mb hf=>have q:=e.F b x mb (jg (φ:=gF) (λ_=>rfl) rfl _ hf);⟨q.1,jg (φ:=M8 n fr.length) (λ_=>rfl) rfl _ q.2⟩,λl i h=>e.g l i h⟩,λb x mb hz n=>have q:=e.z b x mb (congrArg gF hz) n;⟨q.1,congrArg (M8 _ _) q.2⟩,λj k' h=>?_⟩ ⟨h.1.trans (congrArg (λw=>Value.ref (Γ'.at_ w)) hv.symm),(congrArg Γ'.live hv).mpr h.2⟩ rfl
    have q:=e.l (j+1) k' h
    have hw:FW n fr.length (.l j k')=.l (j+1) k':=match j,q with
     |0,q=>by
      show cond (Nat.beq k' fr.length) _ _=_
      rw[xN λe=>?_];rfl
      have:=(st.V _).mp q.1
      rw[e,hn] at this;cases this
     |_+1,_=>rfl
    show Γ'.live (FW n fr.length (.l j k'))∧Γ'.at_ (FW n fr.length (.l j k'))=_
    rw[hw];exact q
structure CW(P:Params)(h:Heap)(v:Value)(d:PyData):Prop where
 reads:∃as,Reads h v d as
 lay:d.canLay0=true
 key:fC d=true
 well:Well P h v (ofPy d)
structure r7(P:Params)(h:Heap)(v:List Value)(d:List PyData):Prop where
 reads:∃as,ReadsAll h v d as
 lay:PyData.canLayAll0 d=true
 key:gR d=true
 well:WellAll P h v (ofPys d)
variable{u:Value}{vs us:List Value}{x y:A}{xs ys:List A}{d e:PyData}
theorem mK{d:PyData}{ds:List PyData}(a:CW c.P h v d)(b:r7 c.P h vs ds):r7 c.P h (v::vs) (d::ds):=
 ⟨a.reads.elim λ_ ra=>b.reads.elim λ_ rb=>⟨_,.cons ra rb⟩,Bool.and_eq_true_iff.mpr ⟨a.lay,b.lay⟩,Bool.and_eq_true_iff.mpr ⟨a.key,b.key⟩,.cons a.well b.well⟩
theorem y1{a:Addr}{ds:List PyData}(g:h.get? a=some (db vs))(r:r7 c.P h vs ds):CW c.P h (.ref a) (.tuple ds):=
 ⟨r.reads.elim λ_ ra=>⟨_,.tuple g rfl rfl ra⟩,r.lay,r.key,.tuple g r.well⟩
theorem j6(st:ah c f m S Γ)(x:A):∀d v,py x=some d→Av c Γ x v→CW c.P Γ.h v d:=
 @A.rec (λx=>∀d v,py x=some d→Av c Γ x v→CW c.P Γ.h v d) (λl=>∀d v,jH l=some d→aG c Γ l v→r7 c.P Γ.h v d) (λ_=>True) (λ_=>True) (λ_=>True) (λ_=>True)
  (λ_ _ e h=>Wz e▸h▸⟨⟨_,.none⟩,rfl,rfl,.none⟩) (λb _ _ e h=>Wz e▸h▸⟨⟨_,.bool b⟩,rfl,rfl,.bool b⟩)
  (λi _ _ e h=>Wz e▸gu.casesOn h λt=>⟨⟨_,.int i t⟩,rfl,rfl,.int i t⟩) (λs _ _ e h=>Wz e▸gq.casesOn h λt q=>⟨⟨_,.str s t⟩,q.1,rfl,.str s t⟩)
  (λl ih _ _ e h=>aH e λds e1 e2=>e2▸dO.casesOn h λh r n=>y1 (h.get st) (ih ds _ e1 r))
  (λ_ _ _ _ e=>nn e) (λ_ _ _ _ e=>nn e) (λ_ _ _ _ _ e=>nn e) (λ_ _ _ _ e=>nn e) (λ_ _ _ e=>nn e)
  (λ_ _ e h=>Wz e▸h▸⟨⟨_,.nil⟩,rfl,rfl,.nil⟩)
  (λx l ih1 ih2 _ _ e h=>ad e λd e1 e=>aH e λds e2 e3=>e3▸az.casesOn h λh h'=>mK (ih1 d _ e1 h) (ih2 ds _ e2 h'))
  trivial (λ_ _ _ _=>trivial) trivial (λ_ _ _ _=>trivial) (λ_ _ _ _=>trivial) (λ_ _ _=>trivial) x
theorem DH(st:ah c f m S Γ):∀(l:List A) d v,jH l=some d→aG c Γ l v→r7 c.P Γ.h v d:=
 λl=>@List.rec A (λl=>∀d v,jH l=some d→aG c Γ l v→r7 c.P Γ.h v d) (λ_ _ e h=>Wz e▸h▸⟨⟨_,.nil⟩,rfl,rfl,.nil⟩)
  (λx l ih _ _ e h=>ad e λd e1 e=>aH e λds e2 e3=>e3▸az.casesOn h λh h'=>mK (j6 st x d _ e1 h) (ih ds _ e2 h')) l
def aD(Ar:Around):Prop:=Ar.units+60<cLine
theorem ble{a b:Nat}(h:Nat.ble a b=true):a≤b:=Wu h
theorem jh{n k:Nat}(hA:aD Ar)(h:n≤k)(hk:k≤60):Ar.units+n<cLine:=Wg (Wj (V9 h hk) _) hA
theorem pX{n:Nat}(hA:aD Ar)(h:n≤39):Ar.units+1+n<cLine:=Wg (V9 (Wq (Nat.add_assoc _ _ _)) (Wj (V9 (Wj h 1) (by decide:1+39≤60)) _)) hA
theorem pC{b:Bool}(e:BK x y=some b)(st:ah c f m S Γ)(hx:Av c Γ x v)(hy:Av c Γ y u)(k:∀p q,CW c.P Γ.h v p→CW c.P Γ.h u q→min p.depth q.depth≤40→PyData.eqv p q=b→C):C:=
 ad e λp e1 e=>ad e λq e2 e=>aQ e λe3 e4=>k p q (j6 st _ _ _ e1 hx) (j6 st _ _ _ e2 hy) (ble e3) (Wz e4)
theorem KV{b:Bool}(st:ah c f m S Γ)(hA:aD Ar)(hx:Av c Γ x v)(hy:Av c Γ y u)(e:BK x y=some b)(h:Q (.bool b) (c.st Γ)):wpAny c.M Ar (compareOp .Eq v u) Q E (c.st Γ):=
 pC e st hx hy λp q r1 r2 hd he=>r1.reads.elim λas ra=>r2.reads.elim λbs rb=>cmp_ofEq (eqOverData c.prog c.w Ar E (c.st Γ) v u p q as bs Q ra rb r1.lay r2.lay (jh hA hd (by decide)) (he▸h))
theorem Li{b:Bool}(st:ah c f m S Γ)(hA:aD Ar)(hx:Av c Γ x v)(hy:Av c Γ y u)(e:BK x y=some b)(h:Q (.bool (!b)) (c.st Γ)):wpAny c.M Ar (compareOp .NotEq v u) Q E (c.st Γ):=
 pC e st hx hy λp q r1 r2 hd he=>r1.reads.elim λas ra=>r2.reads.elim λbs rb=>cmp_ofNotEq (neOverData c.prog c.w Ar E (c.st Γ) v u p q as bs Q ra rb r1.lay r2.lay (jh hA hd (by decide)) (he▸h))
theorem fQ(st:ah c f m S Γ){ds:List PyData}(h:RL c Γ xs v)(e:jH xs=some ds):PyData.canLayAll0 ds=true∧∃as,Reads Γ.h v (.list ds) as:=
 RL.casesOn h λg q r n=>have z:=DH st _ _ _ e r;⟨z.lay,z.reads.elim λas ra=>q.2.elim λep hd=>⟨_,.list g q.1 hd ra⟩⟩
theorem qG{b:Bool}(e:iw xs ys=some b)(st:ah c f m S Γ)(hx:RL c Γ xs v)(hy:RL c Γ ys u)(k:∀p q as bs,Reads Γ.h v (.list p) as→Reads Γ.h u (.list q) bs→PyData.canLay0 (.list p)=true→PyData.canLay0 (.list q)=true→min (PyData.list p).depth (PyData.list q).depth≤40→PyData.eqv (.list p) (.list q)=b→C):C:=
 ad e λp e1 e=>ad e λq e2 e=>aQ e λe3 e4=>have a:=fQ st hx e1;have b:=fQ st hy e2;a.2.elim λas ra=>b.2.elim λbs rb=>k p q as bs ra rb a.1 b.1 (by show min (PyData.depthAll p+1) (PyData.depthAll q+1)≤40;rw[Nat.add_min_add_right];exact Ww (ble e3)) (Wz e4)
theorem IA{b:Bool}(st:ah c f m S Γ)(hA:aD Ar)(hx:RL c Γ xs v)(hy:RL c Γ ys u)(e:iw xs ys=some b)(h:Q (.bool b) (c.st Γ)):wpAny c.M Ar (compareOp .Eq v u) Q E (c.st Γ):=
 qG e st hx hy λp q as bs ra rb la lb hd he=>cmp_ofEq (eqOverData c.prog c.w Ar E (c.st Γ) v u _ _ as bs Q ra rb la lb (jh hA hd (by decide)) (he▸h))
theorem M2{b:Bool}(st:ah c f m S Γ)(hA:aD Ar)(hx:RL c Γ xs v)(hy:RL c Γ ys u)(e:iw xs ys=some b)(h:Q (.bool (!b)) (c.st Γ)):wpAny c.M Ar (compareOp .NotEq v u) Q E (c.st Γ):=
 qG e st hx hy λp q as bs ra rb la lb hd he=>cmp_ofNotEq (neOverData c.prog c.w Ar E (c.st Γ) v u _ _ as bs Q ra rb la lb (jh hA hd (by decide)) (he▸h))
theorem vb{b:Bool}(e:BO x ys=some b)(st:ah c f m S Γ)(hx:Av c Γ x v)(k:∀p q,CW c.P Γ.h v p→jH ys=some q→min (PyData.depthAll q) p.depth≤39→(q.any λy=>PyData.eqv y p)=b→C):C:=
 ad e λp e1 e=>ad e λq e2 e=>aQ e λe3 e4=>k p q (j6 st _ _ _ e1 hx) e2 (ble e3) (Wz e4)
theorem uy{b:Bool}(st:ah c f m S Γ)(hA:aD Ar)(hx:Av c Γ x v)(hy:RL c Γ ys u)(e:BO x ys=some b):(Q (.bool b) (c.st Γ)→wpAny c.M Ar (compareOp .In v u) Q E (c.st Γ))∧(Q (.bool (!b)) (c.st Γ)→wpAny c.M Ar (compareOp .NotIn v u) Q E (c.st Γ)):=
 vb e st hx λp q r1 e2 hd he=>have z:=fQ st hy e2;z.2.elim λas ra=>r1.reads.elim λbs rb=>⟨λh=>in_list_reads ra rb z.1 r1.lay (pX hA hd) (he▸h),λh=>notIn_list_reads ra rb z.1 r1.lay (pX hA hd) (he▸h)⟩
theorem AX{b:Bool}(st:ah c f m S Γ)(hA:aD Ar)(hx:Av c Γ x v)(hy:Av c Γ (.tup ys) u)(e:BO x ys=some b):(Q (.bool b) (c.st Γ)→wpAny c.M Ar (compareOp .In v u) Q E (c.st Γ))∧(Q (.bool (!b)) (c.st Γ)→wpAny c.M Ar (compareOp .NotIn v u) Q E (c.st Γ)):=
 vb e st hx λp q r1 e2 hd he=>have z:=j6 st (.tup ys) (.tuple q) u (congrArg (Option.map PyData.tuple) e2) hy;z.reads.elim λas ra=>r1.reads.elim λbs rb=>⟨λh=>in_tuple_reads ra rb z.lay r1.lay (pX hA hd) (he▸h),λh=>notIn_tuple_reads ra rb z.lay r1.lay (pX hA hd) (he▸h)⟩
variable{s:Shared}{M:Model}
theorem n6{α β:Type}{f:α→β→Sem (ForInStep β)}{b:β}{x:α}{l:List α}{Q:β→Shared→Prop}(h:wpAny M Ar (f x b) (λr s'=>@ForInStep.rec β (λ_=>Prop) (λz=>Q z s') (λb'=>wpAny M Ar (forIn l b' f) Q E s') r) E s):wpAny M Ar (forIn (x::l) b f) Q E s:=by
 rw[List.forIn_cons]
 exact WT (wpAny_mono h (λr s' q=>@ForInStep.casesOn β (λr=>@ForInStep.rec β (λ_=>Prop) (λz=>Q z s') (λb'=>wpAny M Ar (forIn l b' f) Q E s') r→wpAny M Ar (match r with | .done b=>pure b | .yield b=>forIn l b f) Q E s') r (λ_ q=>WU q) (λ_ q=>q) q) λ_ _ e=>e)
theorem ol{α β:Type}{f:α→β→Sem (ForInStep β)}{b:β}{Q:β→Shared→Prop}(h:Q b s):wpAny M Ar (forIn [] b f) Q E s:=by rw[List.forIn_nil];exact WU h
theorem Dt{α β:Type}{f:α→β→Sem (ForInStep β)}{b:β}{Q:β→Shared→Prop}(l:List α)(hl:∀x∈l,∀Q:ForInStep β→Shared→Prop,Q (.yield b) s→wpAny M Ar (f x b) Q E s)(h:Q b s):wpAny M Ar (forIn l b f) Q E s:=
 @List.rec α (λl=>(∀x∈l,∀Q:ForInStep β→Shared→Prop,Q (.yield b) s→wpAny M Ar (f x b) Q E s)→wpAny M Ar (forIn l b f) Q E s) (λ_=>ol h) (λx l ih hl=>n6 (hl x (.head _) _ (ih λy hy=>hl y (.tail _ hy)))) l hl
theorem sr{n:Nat}{a:Addr}{Q:Bool→Shared→Prop}(g:s.heap.get? a=some (db vs))(hl:∀v∈vs,∀Q:Bool→Shared→Prop,Q true s→wpAny (model c.prog c.w) Ar (eqIsQuiet n v) Q E s)(h:Q true s):wpAny (model c.prog c.w) Ar (eqIsQuiet (n+1) (.ref a)) Q E s:=by
 have hT:s.TypeIs (.ref a) "tuple":=⟨_,g,rfl⟩
 unfold eqIsQuiet
 refine WT (wpAny_specialOf hT F.slot_tuple_eq.lookup (WT (wpAny_isInstance hT isSubtype_tuple_tuple (WT (wpAny_seqItems g rfl (WT ?_))))))
 show wpAny _ _ (forIn vs.toArray _ _) _ _ s
 rw[← Array.forIn_toList]
 exact Dt _ (λx hx Q q=>WT (hl x hx _ (WU q))) (WU h)
def Qt(c:Cx)(Ar:Around)(E:Value→Shared→Prop)(s:Shared)(n:Nat)(v:Value):Prop:=∀Q:Bool→Shared→Prop,Q true s→wpAny (model c.prog c.w) Ar (eqIsQuiet n v) Q E s
theorem fp{n:Nat}(h:carriedByValue v=true):Qt c Ar E s n v:=λQ q=>by rw[eqIsQuiet_byValue n h];exact WU q
theorem xz(st:ah c f m S Γ)(x:A):∀n d v,py x=some d→d.depth≤n→Av c Γ x v→Qt c Ar E (c.st Γ) n v:=
 @A.rec (λx=>∀n d v,py x=some d→d.depth≤n→Av c Γ x v→Qt c Ar E (c.st Γ) n v) (λl=>∀n ds vs,jH l=some ds→PyData.depthAll ds≤n→aG c Γ l vs→∀v∈vs,Qt c Ar E (c.st Γ) n v) (λ_=>True) (λ_=>True) (λ_=>True) (λ_=>True)
  (λ_ _ _ _ _ h=>h▸fp rfl) (λ_ _ _ _ _ _ h=>h▸fp rfl) (λ_ _ _ _ _ _ h=>gu.casesOn h λ_=>fp rfl) (λ_ _ _ _ _ _ h=>gq.casesOn h λ_ _=>fp rfl)
  (λl ih n _ _ e hn h=>aH e λds e1 e2=>dO.casesOn h λh r _=>match n,(show PyData.depthAll ds+1≤n from(e2.symm▸hn:(PyData.tuple ds).depth≤n)) with
   |_+1,hn=>λ_ q=>sr (h.get st) (ih _ ds _ e1 (Nat.le_of_succ_le_succ hn) r) q)
  (λ_ _ _ _ _ e=>nn e) (λ_ _ _ _ _ e=>nn e) (λ_ _ _ _ _ _ e=>nn e) (λ_ _ _ _ _ e=>nn e) (λ_ _ _ _ e=>nn e)
  (λ_ _ _ _ _ h v hv=>nomatch(h▸hv:v∈[]))
  (λx l ih1 ih2 n _ _ e hn h=>ad e λd e1 e=>aH e λds e2 e3=>have hn:max d.depth (PyData.depthAll ds)≤n:=(e3.symm▸hn:PyData.depthAll (d::ds)≤n);az.casesOn (motive:=λvs _=>∀v∈vs,Qt c Ar E (c.st Γ) n v) h λh h' v hv=>(WC hv).elim (λq=>q▸ih1 n d _ e1 (V9 (Nat.le_max_left _ _) hn) h) λq=>ih2 n ds _ e2 (V9 (Nat.le_max_right _ _) hn) h' v q)
  trivial (λ_ _ _ _=>trivial) trivial (λ_ _ _ _=>trivial) (λ_ _ _ _=>trivial) (λ_ _ _=>trivial) x
structure Ky(c:Cx)(Γ:Gh)(v:Value)(k:A)(d:PyData):Prop where
 r:CW c.P Γ.h v d
 e:py k=some d
 n:d.depth≤8
 q:∀Ar E,Qt c Ar E (c.st Γ) 8 v
theorem nH(st:ah c f m S Γ)(e:oM x=some d)(h:Av c Γ x v):Ky c Γ v x d:=ad e λp e1 e=>aQ e λe2 e3=>Wz e3▸⟨j6 st x p v e1 h,e1,ble e2,λ_ _=>xz st x 8 p v e1 (ble e2) h⟩
theorem yP{stored:List Value}{Q:Bool→Shared→Prop}(k:Qt c Ar E s 8 v)(hst:∀u∈stored,Qt c Ar E s 8 u)(h:Q false s):wpAny (model c.prog c.w) Ar (tableMayTell v stored) Q E s:=by
 unfold tableMayTell
 split
 ·exact WU h
 ·exact WT (k _ (WT (Dt _ (λu hu Q q=>WT (hst u hu _ (WU q))) (WU h))))
theorem lE{k k':A}(hA:aD Ar)(a:Ky c Γ v k d)(b:Ky c Γ u k' e):EqAt Ar (c.st Γ) v u (PyData.eqv d e):=a.r.reads.elim λas ra=>b.r.reads.elim λbs rb=>eqAt_reads d e Ar (c.st Γ) v u as bs ra rb a.r.lay b.r.lay (jh hA (V9 (Nat.min_le_left _ _) a.n) (by decide))
theorem cW.get:∀{es:List (A×A)} {ds:List DictEntry} {j:Nat} {p:A×A},cW c Γ es ds→es[j]?=some p→∃e,ds[j]?=some e∧mE c p.1 (Av c Γ p.1) (Av c Γ p.2) e:=
 λ{es}=>@List.rec (A×A) (λes=>∀{ds:List DictEntry} {j:Nat} {p:A×A},cW c Γ es ds→es[j]?=some p→∃e,ds[j]?=some e∧mE c p.1 (Av c Γ p.1) (Av c Γ p.2) e) (λ_ h=>nn h)
  (λq es ih {ds j p} h e=>az.casesOn (motive:=λds _=>∃e,ds[j]?=some e∧mE c p.1 (Av c Γ p.1) (Av c Γ p.2) e) h λh h'=>match j,e with
   |0,e=>⟨_,rfl,Wz e▸h⟩
   |j+1,e=>ih (j:=j) h' e) es
theorem cW.len:∀{es:List (A×A)} {ds:List DictEntry},cW c Γ es ds→ds.length=es.length:=
 λ{es}=>@List.rec (A×A) (λes=>∀{ds:List DictEntry},cW c Γ es ds→ds.length=es.length) (λh=>h▸rfl) (λq es ih {ds} h=>az.casesOn (motive:=λds _=>ds.length=es.length+1) h λ_ h'=>congrArg (·+1) (ih h')) es
theorem u6{α:Type}{p:α→Bool}{x:α}{l:List α}{C:Option α→Prop}(h:C ((x::l).find? p)):(p x=true→C (some x))∧(p x=false→C (l.find? p)):=⟨λe=>by rw[List.find?_cons,e] at h;exact h,λe=>by rw[List.find?_cons,e] at h;exact h⟩
theorem MW{α β:Type}{f:α→β→Sem (ForInStep β)}{b:β}{r:α→β}{p:α→Bool}{Q:β→Shared→Prop}(l:List α)(hl:∀x∈l,∀Q:ForInStep β→Shared→Prop,(p x=true→Q (.done (r x)) s)→(p x=false→Q (.yield b) s)→wpAny M Ar (f x b) Q E s)(h:Q (alt (l.find? p) r b) s):wpAny M Ar (forIn l b f) Q E s:=
 @List.rec α (λl=>(∀x∈l,∀Q:ForInStep β→Shared→Prop,(p x=true→Q (.done (r x)) s)→(p x=false→Q (.yield b) s)→wpAny M Ar (f x b) Q E s)→Q (alt (l.find? p) r b) s→wpAny M Ar (forIn l b f) Q E s) (λ_=>ol)
  (λx l ih hl h=>have h:=u6 (C:=λo=>Q (alt o r b) s) h;n6 (hl x (.head _) _ h.1 λe=>ih (λy hy=>hl y (.tail _ hy)) (h.2 e))) l hl h
theorem Jo{α:Type}{f:α→Option (Option α)×Option α→Sem (ForInStep (Option (Option α)×Option α))}{p:α→Bool}{Q:Option (Option α)×Option α→Shared→Prop}(l:List α)(hu:l.Pairwise λx y=>p x=true→p y=false)
  (hl:∀x∈l,∀hit:Option α,(p x=true→hit=none)→∀Q:ForInStep (Option (Option α)×Option α)→Shared→Prop,(p x=true→Q (.done (some (some x),hit)) s∧Q (.yield (none,some x)) s)→(p x=false→Q (.yield (none,hit)) s)→wpAny M Ar (f x (none,hit)) Q E s) (hit:Option α) (hn:hit.isSome=true→∀x∈l,p x=false) (h:∀z,z.1.getD z.2=alt hit some (l.find? p)→Q z s):wpAny M Ar (forIn l (none,hit) f) Q E s:=
 @List.rec α (λl=>(l.Pairwise λx y=>p x=true→p y=false)→(∀x∈l,∀hit:Option α,(p x=true→hit=none)→∀Q:ForInStep (Option (Option α)×Option α)→Shared→Prop,(p x=true→Q (.done (some (some x),hit)) s∧Q (.yield (none,some x)) s)→(p x=false→Q (.yield (none,hit)) s)→wpAny M Ar (f x (none,hit)) Q E s)→∀hit:Option α,(hit.isSome=true→∀x∈l,p x=false)→(∀z,z.1.getD z.2=alt hit some (l.find? p)→Q z s)→wpAny M Ar (forIn l (none,hit) f) Q E s)
  (λ_ _ hit _ h=>ol (h _ (@Option.casesOn α (λhit=>hit=alt hit some none) hit rfl λ_=>rfl)))
  (λx l ih hu hl hit hn h=>
   have z:p x=true→hit=none:=λe=>Option.not_isSome_iff_eq_none.mp λq=>ff ((hn q x (.head _)).symm.trans e)
   have h:=u6 (C:=λo=>∀z,z.1.getD z.2=alt hit some o→Q z s) h
   have hu:=List.pairwise_cons.mp hu
   have go:=ih hu.2 λy hy=>hl y (.tail _ hy)
   n6 (hl x (.head _) hit z _ (λe=>⟨h.1 e _ (z e▸rfl),go (some x) (λ_ y hy=>hu.1 y hy e) λw q=>h.1 e w (z e▸q)⟩) λe=>go hit (λq y hy=>hn q y (.tail _ hy)) (h.2 e))) l hu hl hit hn h
variable{es:List (A×A)}{ds:List DictEntry}{ep:Nat}{k:A}{dk:PyData}
noncomputable def pE(dk:PyData)(es:List (A×A))(i:Nat):Bool:=alt es[i]? (λq=>am dk q.1) false
theorem ky(hk:Ky c Γ v k d):am dk k=PyData.eqv d dk:=by unfold am;rw[hk.e];rfl
theorem xo{i:Nat}(h:pE dk es i=true):∃q,es[i]?=some q∧am dk q.1=true:=aV h (λq e h=>⟨q,e,h⟩) λh=>ff h
theorem kD(st:ah c f m S Γ){q:A×A}{e:DictEntry}(h:mE c q.1 (Av c Γ q.1) (Av c Γ q.2) e):∃d,e.hash=hashW c.P (ofPy d)∧Ky c Γ e.key q.1 d:=h.h.elim λd z=>⟨d,z.2,nH st z.1 h.k⟩
theorem uq(st:ah c f m S Γ)(r:cW c Γ es ds){i:Nat}{h:Int}(hi:i∈placesWithHash ds.toArray.size (λi=>ds.toArray[i]?.map (·.hash)) h)(k:∀e q d,ds.toArray[i]?=some e→es[i]?=some q→(e.hash==h)=true→Ky c Γ e.key q.1 d→C):C:=by
 have hi:(ds.toArray[i]?.map (·.hash)==some h)=true:=(List.mem_filter.mp hi).2
 cases he:ds.toArray[i]? with
 |none=>rw[he] at hi;cases hi
 |some e=>
  rw[he] at hi
  have hl:i<es.length:=by have:=(Array.getElem?_eq_some_iff.mp he).1;rw[List.size_toArray,r.len] at this;exact this
  obtain⟨e',h1,h2⟩:=r.get (List.getElem?_eq_getElem hl)
  rw[List.getElem?_toArray] at he
  cases he.symm.trans h1
  obtain⟨d,_,h3⟩:=kD st h2
  exact k e es[i] d (by rw[List.getElem?_toArray];exact h1) (List.getElem?_eq_getElem hl) (by simpa using hi) h3
theorem wO{Q:Option Nat→Shared→Prop}(st:ah c f m S Γ)(hk:Ky c Γ v k dk)(r:cW c Γ es ds)(hS:∀j q,es[j]?=some q→am dk q.1=true→Q (some j) s)(hN:(∀q∈es,am dk q.1=false)→Q none s):
  Q ((placesWithHash ds.toArray.size (λi=>ds.toArray[i]?.map (·.hash)) (hashW c.P (ofPy dk))).find? (pE dk es)) s:=by
 cases h:(placesWithHash ds.toArray.size (λi=>ds.toArray[i]?.map (·.hash)) (hashW c.P (ofPy dk))).find? (pE dk es) with
 |some x=>obtain⟨q,h1,h2⟩:=xo (List.find?_some h);exact hS x q h1 h2
 |none=>
  refine hN λq hq=>Bool.eq_false_iff.mpr λhm=>?_
  obtain⟨j,hj⟩:=List.mem_iff_getElem?.mp hq
  obtain⟨e,h1,h2⟩:=r.get hj
  obtain⟨d,h3,h4⟩:=kD st h2
  have h5:ds.toArray[j]?=some e:=by rw[List.getElem?_toArray];exact h1
  refine List.find?_eq_none.mp h j (List.mem_filter.mpr ⟨WE (Array.getElem?_eq_some_iff.mp h5).1,?_⟩) (by unfold pE;rw[hj];exact hm)
  rw[ky h4] at hm
  show(Option.map _ ds.toArray[j]?==some _)=true
  rw[h5]
  show(some e.hash==some _)=true
  rw[h3,vc c.P h4.r.key hk.r.key hm];exact beq_self_eq_true _
theorem Am{h:Int}{n:Nat}{g:Nat→Option Int}(o:eL es)(hd:fC dk=true):(placesWithHash n g h).Pairwise λx y=>pE dk es x=true→pE dk es y=false:=
 (List.Pairwise.filter _ List.pairwise_lt_range).imp λ{x y} hlt hx=>Bool.eq_false_iff.mpr λhy=>by
  obtain⟨q,h1,h2⟩:=xo hx
  obtain⟨q',h3,h4⟩:=xo hy
  obtain⟨l1,rfl⟩:=WK h1
  obtain⟨l2,rfl⟩:=WK h3
  exact List.pairwise_iff_getElem.mp (List.pairwise_map.mp o) x y l1 l2 hlt dk hd h2 h4
theorem ca{α:Type}{p:Prop}[h:Decidable p]{x y:Sem α}{Q:α→Shared→Prop}(h1:p→wpAny M Ar x Q E s)(h2:¬p→wpAny M Ar y Q E s):wpAny M Ar (if p then x else y) Q E s:=
 @Decidable.rec p (λh=>wpAny M Ar (@ite _ p h x y) Q E s) (λq=>h2 q) (λq=>h1 q) h
theorem Ij{es:Array DictEntry}{jp:Sem (Option Nat)}{Q:Option Nat→Shared→Prop}(hF:wpAny M Ar jp Q E s)(hS:∀x t,v=.str x t→(es.all λe=>isExactStrKey e.key)=true→wpAny M Ar (foundByValue a v es x) Q E s):
  wpAny M Ar (match v with | .str x _=>if(es.all λe=>isExactStrKey e.key)=true then foundByValue a v es x else jp |_=>jp) Q E s:=by
 cases v with
 |str x t=>exact ca (λh=>hS x t rfl h) λ_=>hF
 |_=>exact hF
theorem NG{es:Array DictEntry}{h:Int}{jp jb:Sem (Option Nat)}{Q:Option Nat→Shared→Prop}(hF:wpAny M Ar jp Q E s)(hR:∀r,v=.ref r→¬(es.any λe=>e.key==v&&e.hash !=h)=true):
  wpAny M Ar (match v with | .ref _=>if(es.any λe=>e.key==v&&e.hash !=h)=true then jb else jp |_=>jp) Q E s:=by
 cases v with
 |ref r=>exact ca (λh=>absurd h (hR r rfl)) λ_=>hF
 |_=>exact hF
theorem wb{β:Type}{i:Nat}{e:DictEntry}{es:Array DictEntry}{h:Int}{b:Bool}{o:Obj}{bd:Sem (ForInStep β)}{tn bo:Bool→Sem (ForInStep β)}{Q:ForInStep β→Shared→Prop}(he:es[i]?=some e)(hh:(e.hash==h)=true)(ho:s.heap.get? a=some o)(hd:o.data=.dict es ep)(hq:EqAt Ar s e.key v b)(hb:wpAny c.M Ar (tn b) Q E s):
  wpAny c.M Ar (match es[i]? with
   |some e=>if(e.hash==h)=true then do
     let before ← dictEpoch a (keyPart v)
     let same ← eqBool e.key v
     let l ← dictEpoch a (keyPart v)
     if(l !=before)=true then bo same else tn same
    else bd
   |_=>bd) Q E s:=by
 rw[he]
 exact ca (λ_=>WT (wpAny_dictEpoch ho hd (WT (hq _ _ _ _ (WT (wpAny_dictEpoch ho hd (ca (λh=>ff ((bne_self_eq_false ep).symm.trans h)) λ_=>hb))))))) λh=>absurd hh h
theorem xy{h:Heap}{y:Str}{t:Tok}{as:List Addr}(r:Reads h (.str y t) d as):d=.str y:=by cases r;rfl
theorem Ez(h:isExactStrKey v=true):∃y t,v=.str y t:=match v,h with | .str y t,_=>⟨y,t,rfl⟩
theorem D9(st:ah c f m S Γ)(r:cW c Γ es ds){e:DictEntry}(he:e∈ds.toArray)(k:∀(j:Nat) (q:A×A) d,es[j]?=some q→ds.toArray[j]?=some e→e.hash=hashW c.P (ofPy d)→Ky c Γ e.key q.1 d→C):C:=by
 obtain⟨j,hj⟩:=List.mem_iff_getElem?.mp (List.mem_toArray.mp he)
 have hl:j<es.length:=r.len▸(WK hj).1
 obtain⟨e',h1,h2⟩:=r.get (List.getElem?_eq_getElem hl)
 cases hj.symm.trans h1
 obtain⟨d,h3,h4⟩:=kD st h2
 exact k j _ d (List.getElem?_eq_getElem hl) (by rw[List.getElem?_toArray];exact hj) h3 h4
theorem Gx{x:Str}{t:Tok}{Q:Option Nat→Shared→Prop}(st:ah c f m S Γ)(hA:aD Ar)(hk:Ky c Γ (.str x t) k dk)(g:Γ.h.get? a=some (dictOf ds ep))(r:cW c Γ es ds)(ha:(ds.toArray.all λe=>isExactStrKey e.key)=true)(hS:∀j q,es[j]?=some q→am dk q.1=true→Q (some j) (c.st Γ))(hN:(∀q∈es,am dk q.1=false)→Q none (c.st Γ)):
  wpAny c.M Ar (foundByValue a (.str x t) ds.toArray x) Q E (c.st Γ):=by
 have hd:dk=.str x:=hk.r.reads.elim λ_ r=>xy r
 have is:∀{e:DictEntry} {q:A} {d:PyData},e∈ds.toArray→Ky c Γ e.key q d→e.key.isStr x=am dk q:=λ{e q d} he k=>by
  obtain⟨y,u,hy⟩:=Ez (Array.all_eq_true_iff_forall_mem.mp ha e he)
  have:d=.str y:=k.r.reads.elim λ_ r=>xy (hy▸r)
  rw[ky k,this,hd,hy];rfl
 unfold foundByValue
 cases hf:ds.toArray.findIdx? (λe=>e.key.isStr x) with
 |none=>
  refine WU (hN λq hq=>?_)
  obtain⟨j,hj⟩:=List.mem_iff_getElem?.mp hq
  obtain⟨e,h1,h2⟩:=r.get hj
  obtain⟨d,h3,h4⟩:=kD st h2
  have he:e∈ds.toArray:=List.mem_toArray.mpr (List.mem_of_getElem? h1)
  rw[← is he h4];exact Array.findIdx?_eq_none_iff.mp hf e he
 |some i=>
  obtain⟨hi,h1,_⟩:=Array.findIdx?_eq_some_iff_getElem.mp hf
  have he:ds.toArray[i]?=some ds.toArray[i]:=Array.getElem?_eq_getElem hi
  have hlt:i<ds.length:=by rw[List.size_toArray] at hi;exact hi
  obtain⟨q',hq'⟩:∃q',es[i]?=some q':=⟨_,List.getElem?_eq_getElem (show i<es.length from r.len▸hlt)⟩
  obtain⟨e',h2,h3⟩:=r.get hq'
  have:e'=ds.toArray[i]:=Wz (h2.symm.trans ((List.getElem?_toArray (xs:=ds) (i:=i)).symm.trans he))
  subst this
  obtain⟨d',h4,h5⟩:=kD st h3
  have hm:am dk q'.1=true:=(is (Array.getElem_mem hi) h5).symm.trans h1
  dsimp only
  rw[he]
  have hq:EqAt Ar (c.st Γ) ds.toArray[i].key (.str x t) true:=(ky h5).symm.trans hm▸lE hA h5 hk
  exact WT (wpAny_dictEpoch g rfl (WT (hq _ _ _ _ (WT (wpAny_dictEpoch g rfl (ca (λh=>ff ((bne_self_eq_false ep).symm.trans h)) λ_=>ca (λ_=>WT (wpAny_rule (WU (hS i q' hq' hm)))) λh=>absurd rfl h))))))
theorem A6{J:Bool→Sem (Option Nat)}{l:List Value}{Q:Option Nat→Shared→Prop}(k:Qt c Ar E s 8 v)(hl:∀u∈l,Qt c Ar E s 8 u)(h:wpAny c.M Ar (J false) Q E s):wpAny c.M Ar (if(l==[v])=true then pure false >>=λt=>J t else tableMayTell v l >>=λt=>J t) Q E s:=
 ca (λ_=>WT (WU h)) λ_=>WT (yP k hl h)
theorem tJ{Q:Option Nat→Shared→Prop}(st:ah c f m S Γ)(hA:aD Ar)(hk:Ky c Γ v k dk)(g:Γ.h.get? a=some (dictOf ds ep))(r:cW c Γ es ds)(o:eL es)(hS:∀j q,es[j]?=some q→am dk q.1=true→Q (some j) (c.st Γ))(hN:(∀q∈es,am dk q.1=false)→Q none (c.st Γ)):
  wpAny c.M Ar (dictFind a v (hashW c.P (ofPy dk))) Q E (c.st Γ):=by
 have fin:=wO (s:=c.st Γ) (Q:=Q) st hk r hS hN
 have hp:∀{i q d u},es[i]?=some q→Ky c Γ u q.1 d→PyData.eqv d dk=pE dk es i:=λ{i q d u} h k=>by unfold pE;rw[h];exact(ky k).symm
 unfold dictFind
 refine wpAny_holding (WT (wpAny_dictEntries g rfl (Ij (jp:=_) (ca (λ_=>?_) λ_=>NG (jp:=_) (A6 (hk.q _ _) (λu hu=>?_) (ca (λh=>ff h) λ_=>?_)) λr' hr=>?_) λx t hx ha=>?_)))
 ·refine WT (MW (r:=λx=>(some (some x),())) (p:=pE dk es) _ (λx hx Q q1 q2=>uq st r hx λe z d he hz hh k=>wb he hh g rfl (hp hz k▸lE hA k hk) (ca (λh=>WT (wpAny_rule (WU (q1 h)))) λh=>WT (wpAny_rule (WU (q2 (Bool.eq_false_iff.mpr h)))))) ?_)
  generalize List.find? _ _=z at fin ⊢
  cases z <;> exact WU fin
 ·obtain⟨i,hi,e⟩:=List.mem_filterMap.mp hu
  exact uq st r hi λe' z d he hz hh k=>aH e λ_ e1 e2=>by cases e1.symm.trans he;exact e2▸k.q _ _
 ·refine WT (Jo (p:=pE dk es) _ (Am o hk.r.key) (λx hx hit hh Q q1 q2=>uq st r hx λe z d he hz hh' k=>wb he hh' g rfl (hp hz k▸lE hA k hk) (ca (λh=>?_) λh=>WT (wpAny_rule (ca (λh=>ff h) λ_=>WU (q2 (Bool.eq_false_iff.mpr h)))))) none (λh=>ff h) λz hz=>?_)
  ·have q1:=q1 h
   have:=hh h
   subst this
   exact ca (λh=>ff h) λ_=>WT (wpAny_rule (ca (λ_=>WU q1.1) λ_=>WU q1.2))
  ·have fin:Q (z.1.getD z.2) (c.st Γ):=hz▸fin
   obtain⟨z1,z2⟩:=z
   cases z1 <;> exact WU fin
 ·subst hr
  intro h
  obtain⟨e,he,h⟩:=Array.any_eq_true'.mp h
  refine D9 st r he λj q d hq hj hh k=>?_
  have h:=WB h
  have e1:d=dk:=k.r.reads.elim λ_ ra=>hk.r.reads.elim λ_ rb=>(Reads.unique (beq_iff_eq.mp h.1▸ra) _ _ rb).1
  rw[hh,e1,bne_self_eq_false] at h
  exact ff h.2
 ·subst hx
  exact Gx st hA hk g r ha hS hN
variable{es':List (A×A)}{z:A}{x:X}
theorem mD{q:A×A}(hd:fC dk=true)(h2:am dk q.1=true):∀{es:List (A×A)} {j:Nat},es[j]?=some q→eL es→cH dk es=some q.2
 |[],_,h1,_=>nn h1
 |p::es,j,h1,o=>by
  show cond (am dk p.1) (some p.2) (cH dk es)=_
  cases j with
  |zero=>rw[Wz h1,h2];rfl
  |succ j=>
   have o:=List.pairwise_cons.mp o
   rw[Bool.eq_false_iff.mpr λe=>o.1 q.1 (List.mem_map_of_mem (List.mem_of_getElem? h1)) dk hd e h2]
   exact mD hd h2 (j:=j) h1 o.2
theorem ma:∀{es:List (A×A)},(∀q∈es,am dk q.1=false)→cH dk es=none
 |[],_=>rfl
 |p::es,h=>by show cond (am dk p.1) (some p.2) (cH dk es)=_;rw[h p (.head _)];exact ma λq hq=>h q (.tail _ hq)
theorem nL{q:A×A}(hd:fC dk=true)(h2:am dk q.1=true)(hz:Av c Γ z u):∀{es:List (A×A)} {ds:List DictEntry} {j:Nat},es[j]?=some q→eL es→cW c Γ es ds→cW c Γ (bV dk k z es) (ds.modify j λe=>{e with val:=u})∧(bV dk k z es).map (·.1)=es.map (·.1)
 |[],_,_,h1,_,_=>nn h1
 |p::es,ds,j,h1,o,r=>by
  refine az.casesOn (motive:=λds _=>cW c Γ (cond (am dk p.1) ((p.1,z)::es) (p::bV dk k z es)) (ds.modify j λe=>{e with val:=u})∧(cond (am dk p.1) ((p.1,z)::es) (p::bV dk k z es)).map (·.1)=(p::es).map (·.1)) r λ{e ds} h h'=>?_
  cases j with
  |zero=>rw[Wz h1,h2];exact⟨.mk ⟨(Wz h1▸h).h,(Wz h1▸h).k,hz⟩ h',rfl⟩
  |succ j=>
   have o:=List.pairwise_cons.mp o
   rw[Bool.eq_false_iff.mpr λe=>o.1 q.1 (List.mem_map_of_mem (List.mem_of_getElem? h1)) dk hd e h2,List.modify_succ_cons]
   have ih:=nL hd h2 hz (j:=j) h1 o.2 h'
   exact⟨.mk h ih.1,congrArg (p.1::·) ih.2⟩
theorem l6(hk:Ky c Γ v k dk)(hkv:Av c Γ k v)(hz:Av c Γ z u):∀{es:List (A×A)} {ds:List DictEntry},(∀q∈es,am dk q.1=false)→cW c Γ es ds→cW c Γ (bV dk k z es) (ds++[⟨hashW c.P (ofPy dk),v,u⟩])∧bV dk k z es=es++[(k,z)]
 |[],ds,_,r=>by
  have r:ds=[]:=r
  subst r
  exact⟨.mk ⟨⟨dk,by unfold oM;rw[hk.e];show cond (Nat.ble dk.depth 8) _ _=_;rw[Wx hk.n];rfl,rfl⟩,hkv,hz⟩ rfl,rfl⟩
 |p::es,ds,h,r=>by
  have e:bV dk k z (p::es)=p::bV dk k z es:=by show cond (am dk p.1) _ _=_;rw[h p (.head _)];rfl
  rw[e]
  refine az.casesOn (motive:=λds _=>cW c Γ (p::bV dk k z es) (ds++[⟨hashW c.P (ofPy dk),v,u⟩])∧p::bV dk k z es=p::es++[(k,z)]) r λ{e ds} h1 h2=>?_
  have ih:=l6 hk hkv hz (λq hq=>h q (.tail _ hq)) h2
  exact⟨.mk h1 ih.1,congrArg (p::·) ih.2⟩
theorem rI(hk:py k=some dk)(hd:fC dk=true)(ks:∀q∈es,∀d,fC d=true→am d q.1=true→am d k=true→am dk q.1=true)(h:∀q∈es,am dk q.1=false)(o:eL es):eL (es++[(k,z)]):=by
 unfold eL at o ⊢
 rw[WS,List.pairwise_append]
 refine⟨o,List.pairwise_singleton _ _,λp hp q hq d hd h1 h2=>?_⟩
 obtain⟨p',hp',rfl⟩:=List.mem_map.mp hp
 cases WD hq
 exact ff ((h p' hp').symm.trans (ks p' hp' d hd h1 h2))
theorem jC(st:ah c f m S Γ)(hx:Xv c Γ x v)(hl:au S x=some ce)(hp:fR S x ce'=some S')(h:∀w,AN w=true→v=.ref (Γ.at_ w)→Cv c Γ w (Γ.at_ w) ce→jL ce=false→cont S w=some ce→cont S' w=some ce'→(∀w',w'≠w→cont S' w'=cont S w')→C):C:=
 ad hp λw hr hp=>ad hp λo ho hp=>by
  cases hz:jL o with
  |true=>rw[hz] at hp;cases hp
  |false=>
   rw[hz] at hp
   have hl:alt (rf x) (λw=>(cont S w).bind iy) _=some ce:=hl
   rw[hr] at hl
   have hl:(cont S w).bind iy=some ce:=hl
   rw[ho] at hl
   have e:o=ce:=by cases o <;> first |exact Wz hl |exact ff hz.symm
   subst e
   have q:=xi ho hp
   refine h w ?_ (hx.rf hr).1 (st.C w _ ho) hz ho q.1 q.2
   cases w <;> first |rfl |exact nn ho
theorem qB(st:ah c f m S Γ)(hw:AN w=true)(c0:cont S w=some ce)(c1:cont S' w=some ce')(c2:∀w',w'≠w→cont S' w'=cont S w')(hm:(a,ob)∈Γ.news)(ho:Γ.o a=w∨Γ.o a=.d w)(hs:Heap.SameBut a Γ.h h')(hg:h'.get? a=some ob')
  (cl:∀n',Lf Γ (Γ.upd h' tk n')→O4 a ob' Γ.news n'→Cv c (Γ.upd h' tk n') w (Γ.at_ w) ce') (h:∀Γ',ah c f m S' Γ'→Le No Γ Γ'→c.st Γ'={c.s₀ with heap:=h',toks:=tk}→C):C:=
 (ja ob' st.once hm).elim λn' u=>have q:=st.N _ hm;have r:=st.put (tk:=tk) hw hm ho u (st.F.change hs q.2.1 q.2.2) (ji u st.N hs hg) c0 c1 c2 (cl n');h _ r.1 r.2 rfl
inductive Fd(c:Cx)(Γ:Gh):Option A→Option Value→Prop |no:Fd c Γ none none |yes {x:A} {y:Value} (h:Av c Γ x y):Fd c Γ (some x) (some y)
variable{y:Value}{r:Option A}
theorem ah.still(st:ah c f m S Γ)(F':Fr f.h₀ f.env.locals h' m')(N':News f.h₀ f.env.locals h' Γ.news):ah c f m' S (Γ.upd h' tk Γ.news)∧Le No Γ (Γ.upd h' tk Γ.news):=
 have e:Lf Γ (Γ.upd h' tk Γ.news):=⟨λ_ _ h f=>⟨h,f⟩,λ_ _ h=>⟨h,rfl⟩⟩
 ⟨st.gen (D:=λ_=>False) F' N' st.once (λ_ _ h _=>⟨h,rfl⟩) e (λ_ _ h=>.inr ⟨h,id,id,rfl⟩) st.V,e,λ_ _ h f _=>⟨h,f⟩,λ_ _ h=>⟨h,rfl⟩⟩
theorem ah.tok(st:ah c f m S Γ)(tk:Tok):ah c f m S (Γ.upd Γ.h tk Γ.news)∧Le No Γ (Γ.upd Γ.h tk Γ.news):=st.still st.F st.N
theorem uh{Q:Int→Shared→Prop}(hA:aD Ar)(hk:Ky c Γ v k dk)(h:∀tk,Q (hashW c.P (ofPy dk)) (c.st (Γ.upd Γ.h tk Γ.news))):wpAny c.M Ar (pyHash v) Q E (c.st Γ):=
 pyHash_laid (ofPy dk) v Ar (c.st Γ) Q (nI dk hk.r.key) hk.r.well (by rw[depth_ofPy];exact jh hA hk.n (by decide)) h
theorem fq{Q:Option Value→Shared→Prop}(st:ah c f m S Γ)(hA:aD Ar)(g:Γ.h.get? a=some (dictOf ds ep))(rd:cW c Γ es ds)(o:eL es)(hv:Av c Γ k v)(e:bH k es=some r)(h:∀tk r',Fd c Γ r r'→Q r' (c.st (Γ.upd Γ.h tk Γ.news))):wpAny c.M Ar (dictGet a v) Q E (c.st Γ):=
 aH e λdk e1 e=>by
  subst e
  have hk:=nH st e1 hv
  unfold dictGet
  refine wpAny_holding (WT (uh hA hk λtk=>?_))
  have s:=st.tok tk
  refine WT (tJ s.1 hA (nH s.1 e1 (Av.mono s.2.1 _ _ hv)) g (cW.mono s.2.1 _ _ rd) o (λj q hj hm=>WT (wpAny_dictEntries g rfl (WU ?_))) λhn=>WU (h tk none (ma hn▸.no)))
  obtain⟨e',h1,h2⟩:=rd.get hj
  have:=h tk (some e'.val) (mD hk.r.key hm hj o▸.yes h2.v)
  rwa [List.getElem?_toArray,h1]
theorem nZ(st:ah c f m S Γ)(hA:aD Ar.in1)(hd:RD c Γ es u)(hv:Av c Γ k v)(e:bH k es=some (some z))(h:cq c f m Γ K Q)(q:K (.a z) S):wpAny c.M Ar (getItem u v) Q E (c.st Γ):=
 RD.casesOn hd λ{a ds ep} g rd o=>by
  have hT:(c.st Γ).TypeIs (.ref a) "dict":=⟨_,g,rfl⟩
  unfold getItem
  refine wpAny_holding (WT (wpAny_sequenceKey hT (by decide) (WT (wpAny_callSpecial?_slot (name:=Str.ofString "__getitem__") hT slot_dict_getitem (wpAny_call_entry slot_dict_getitem hT entry_dict_getitem ?_ (args_dict_getitem _ _))))))
  show wpAny _ _ (dictGet a v >>=_) _ _ (c.st Γ)
  refine WT (fq st hA g rd o.1 hv e λtk r' hr=>?_)
  have s:=st.tok tk
  cases hr with
  |yes hx=>exact WU ⟨_,rfl,WU (h _ _ _ _ q s.1 s.2 (Av.mono s.2.1 _ _ hx))⟩
theorem ij{Q:Bool→Shared→Prop}(st:ah c f m S Γ)(hA:aD Ar.in1)(hd:RD c Γ es u)(hv:Av c Γ k v)(e:bH k es=some r)(h:∀tk,Q r.isSome (c.st (Γ.upd Γ.h tk Γ.news))):wpAny c.M Ar (contains u v) Q E (c.st Γ):=
 RD.casesOn hd λ{a ds ep} g rd o=>by
  have hT:(c.st Γ).TypeIs (.ref a) "dict":=⟨_,g,rfl⟩
  unfold contains
  refine wpAny_holding (WT (wpAny_specialOf hT slot_dict_contains.lookup ?_))
  refine ca (λh=>ff ((beq_builtin_none _).symm.trans h)) λ_=>?_
  refine WT (wpAny_callSpecialUnlessNone?_slot (name:=Str.ofString "__contains__") hT slot_dict_contains (wpAny_call_entry slot_dict_contains hT entry_dict_contains ?_ (args_dict_contains _ _)))
  show wpAny _ _ (dictGet a v >>=_) _ _ (c.st Γ)
  refine WT (fq st hA g rd o.1 hv e λtk r' hr=>?_)
  cases hr with
  |yes hx=>exact WU ⟨_,rfl,wpAny_truthy_bool (h tk)⟩
  |no=>
   show wpAny _ _ (Builtin.Dict.pendingKey? a v >>=_) _ _ _
   exact WT (wpAny_pendingKey_other (beq_eq_false_iff_ne.mpr o.2.2) (WU ⟨_,rfl,wpAny_truthy_bool (h tk)⟩))
theorem MK{b:Bool}(st:ah c f m S Γ)(hA:aD Ar.in1)(hd:RD c Γ es u)(hv:Av c Γ k v)(e:(bH k es).map Option.isSome=some b):
  ((∀tk,Q (.bool b) (c.st (Γ.upd Γ.h tk Γ.news)))→wpAny c.M Ar (compareOp .In v u) Q E (c.st Γ))∧((∀tk,Q (.bool (!b)) (c.st (Γ.upd Γ.h tk Γ.news)))→wpAny c.M Ar (compareOp .NotIn v u) Q E (c.st Γ)):=
 aH e λr e1 e2=>by subst e2;exact⟨λh=>WT (ij st hA hd hv e1 λtk=>WU (h tk)),λh=>WT (ij st hA hd hv e1 λtk=>WU (h tk))⟩
theorem GO(st:ah c f m S Γ)(hA:aD Ar.in1)(hd:RD c Γ es u)(hv:Av c Γ k v)(e:bH k es=some r)(h:cq c f m Γ K Q)(q:K (.a (r.getD .none)) S):wpAny c.M Ar (call (.builtin "dict.get") [u,v]) Q E (c.st Γ):=
 RD.casesOn hd λ{a ds ep} g rd o=>by
  refine wpAny_call_entry F.slot_dict_get (⟨_,g,rfl⟩:(c.st Γ).TypeIs (.ref a) "dict") F.entry_dict_get ?_ (F.args_dict_get_2 _ _)
  show wpAny _ _ (dictGet a v >>=_) _ _ (c.st Γ)
  refine WT (fq st hA g rd o.1 hv e λtk r' hr=>?_)
  have s:=st.tok tk
  cases hr with
  |yes hx=>exact WU ⟨_,rfl,h _ _ _ _ q s.1 s.2 (Av.mono s.2.1 _ _ hx)⟩
  |no=>
   show wpAny _ _ (Builtin.Dict.missed a v >>=_) _ _ _
   exact WT (wpAny_missed_other (beq_eq_false_iff_ne.mpr o.2.2) (WU ⟨.none,rfl,h .none _ _ (.a .none) q s.1 s.2 rfl⟩))
theorem Go(st:ah c f m S Γ)(hA:aD Ar.in1)(hd:RD c Γ es u)(hv:Av c Γ k v)(hz:Av c Γ z y)(e:bH k es=some r)(h:cq c f m Γ K Q)(q:K (.a (r.getD z)) S):wpAny c.M Ar (call (.builtin "dict.get") [u,v,y]) Q E (c.st Γ):=
 RD.casesOn hd λ{a ds ep} g rd o=>by
  refine wpAny_call_entry F.slot_dict_get (⟨_,g,rfl⟩:(c.st Γ).TypeIs (.ref a) "dict") F.entry_dict_get ?_ (F.args_dict_get_3 _ _ _)
  show wpAny _ _ (dictGet a v >>=_) _ _ (c.st Γ)
  refine WT (fq st hA g rd o.1 hv e λtk r' hr=>?_)
  have s:=st.tok tk
  cases hr with
  |yes hx=>exact WU ⟨_,rfl,h _ _ _ _ q s.1 s.2 (Av.mono s.2.1 _ _ hx)⟩
  |no=>
   show wpAny _ _ (Builtin.Dict.missed a v >>=_) _ _ _
   exact WT (wpAny_missed_other (beq_eq_false_iff_ne.mpr o.2.2) (WU ⟨_,rfl,h _ _ _ (.a z) q s.1 s.2 (Av.mono s.2.1 _ _ hz)⟩))
theorem mj{n:Nat}(h:n≤bM):n≤sizeLine:=V9 h (by decide)
theorem jy{Q:Unit→Shared→Prop}(st:ah c f m S Γ)(hA:aD Ar)(g:Γ.h.get? a=some (dictOf ds ep))(rd:cW c Γ es ds)(oq:eL es)(hl:es.length≤bM)(hv:Av c Γ k v)(hz:Av c Γ z y)(e:oB k z es=some es')
  (h:∀h' tk ds' ep',Heap.SameBut a Γ.h h'→h'.get? a=some (dictOf ds' ep')→cW c Γ es' ds'→eL es'→Q () {c.s₀ with heap:=h',toks:=tk}):wpAny c.M Ar (dictSet a v y) Q E (c.st Γ):=
 aH e λdk e1 e=>by
  subst e
  have hk:=nH st e1 hv
  unfold dictSet
  refine wpAny_holding (WT (uh hA hk λtk=>?_))
  unfold dictSetHashed
  have s:=st.tok tk
  refine wpAny_holding (WT (tJ s.1 hA (nH s.1 e1 (Av.mono s.2.1 _ _ hv)) g (cW.mono s.2.1 _ _ rd) oq (λj p hj hm'=>?_) λhno=>?_))
  ·have pr:=nL (k:=k) hk.r.key hm' hz hj oq rd
   have hg:(Γ.h.update a (Obj.mapDict λa=>a.modify j λe=>{e with val:=y})).get? a=some (dictOf (ds.modify j λe=>{e with val:=y}) ep):=(Heap.get?_update_self _ g rfl).trans (congrArg (λx=>some ({cls:=.type "dict",data:=.dict x ep}:Obj)) (List.modify_toArray ..))
   refine WT (wpAny_rule (WT (wpAny_updateDict (s:=c.st (Γ.upd Γ.h tk Γ.news)) g rfl (wpAny_point ?_) (by rw[Array.size_modify];exact Nat.le_refl _))))
   exact h _ tk _ _ (Heap.SameBut.update ..) hg pr.1 (by unfold eL;rw[pr.2];exact oq)
  ·have pr:=l6 hk hv hz hno rd
   have hg:(Γ.h.update a (Obj.mapDictKeys λa=>a.push ⟨hashW c.P (ofPy dk),v,y⟩)).get? a=some (dictOf (ds++[⟨hashW c.P (ofPy dk),v,y⟩]) (ep+1)):=(Heap.get?_update_self _ g rfl).trans (congrArg (λx=>some ({cls:=.type "dict",data:=.dict x (ep+1)}:Obj)) (List.push_toArray ..))
   rw[pr.2] at h pr
   refine WT (wpAny_rule (wpAny_updateDictKeys (s:=c.st (Γ.upd Γ.h tk Γ.news)) g rfl ?_ ?_))
   ·refine h _ tk _ _ (Heap.SameBut.update ..) hg pr.1 (rI hk.e hk.r.key (λp hp d hd h1 h2=>?_) hno oq)
    obtain⟨j,hj⟩:=List.mem_iff_getElem?.mp hp
    obtain⟨e',_,h3⟩:=rd.get hj
    obtain⟨d',_,h4⟩:=kD st h3
    rw[ky h4] at h1 ⊢
    rw[ky hk] at h2
    exact Eh h4.r.key hk.r.key hd h1 h2
   ·rw[List.size_toArray,rd.len]
    exact mj hl
theorem rE{Q:Unit→Shared→Prop}{K:AS→Prop}(st:ah c f m S Γ)(hA:aD Ar)(hx:Xv c Γ x u)(hl:au S x=some (.dict es))(hv:Av c Γ k v)(hz:Av c Γ z y)(e:oB k z es=some es')(hn:es'.length≤bM)(hp:fR S x (.dict es')=some S')(h:jW c f m Γ K (Q ()))(q:K S'):
  (∀a,u=.ref a→wpAny c.M Ar (dictSet a v y) Q E (c.st Γ)):=λa ha=>
 jC st hx hl hp λw hw hu cv _ c0 c1 c2=>CD.casesOn cv λ{ds ep} hm ho rd oq=>by
  have ha:a=Γ.at_ w:=by rw[hu] at ha;injection ha with ha;exact ha.symm
  subst ha
  refine jy st hA (st.get hm) rd oq.1 oq.2 hv hz e λh' tk ds' ep' hs hg rd' o'=>?_
  exact qB (tk:=tk) st hw c0 c1 c2 hm (.inl ho) hs hg (λn' e r=>.mk r.self ho (cW.mono e _ _ rd') ⟨o',hn⟩) λΓ2 st2 le2 hst=>hst▸h Γ2 S' q st2 le2
theorem Kc(l:Addr)(items:Array Value)(n:Nat)(b:Addr)(items2:Array Value)(n2:Nat)(dd:Option Addr)(sl:Array (Option Value))(hc0:¬(!items.isEmpty&&Builtin.List.listTooLong (items.size+items2.size))=true)(hc1:items.size≤sizeLine)(hs2:items.size+items2.size≤sizeLine+1):
  Meets (Builtin.«list.extend» ⟨[.ref l,.ref b],[]⟩) (λ_ R s=>s.heap.get? l=some {cls:=.type "list",dict:=none,data:=.seq items n,slots:=#[]}∧s.heap.get? b=some {cls:=.type "list",dict:=dd,data:=.seq items2 n2,slots:=sl}∧R (.ok (.ret Value.none)) {s with heap:=s.heap.update l (Obj.mapSeq λx=>x++items2),toks:=s.toks}):=
 .of_wp λprog w A R s h=>by
  obtain⟨hp,g,d,tk,os⟩:=s;obtain⟨hl,hb,h⟩:=h;have f1:=AutoSeq1.idx_int;have f2:=AutoSeq1.sub_tuple_tuple;have f3:=AutoSeq1.sub_list_list;have f4:=AutoSeq1.sub_tuple_list;have f5:=AutoSeq1.sub_list_tuple;
  have hz':(items++items2).size≤sizeLine+1:=by rw[Array.size_append];exact hs2
  wp_walk using (wpAny_updateSeq hl rfl (hz:=hc1) (_hz':=hz')),AutoSeq1.wpAny_loadPart' hl,AutoSeq1.wpAny_loadPart' hb;exact⟨_,rfl,h⟩
inductive Un{α:Type}(R:List α→List Value→Prop)(S:α→Value→Prop)(p:List α×α)(n:Nat):List Value→Prop |mk {ws:List Value} {y:Value} (a:R p.1 ws) (b:S p.2 y) (e:p.1.length+1=n):Un R S p n (ws++[y])
inductive Sq(c:Cx)(Γ:Gh)(xs:List A)(v:Value):Prop |l (h:RL c Γ xs v) |t (h:Av c Γ (.tup xs) v)
variable{ep':Nat}{o:Option Ce}
theorem dh{x:A}{C:List Value→Prop}(h:aG c Γ (x::xs) vs)(k:∀v vs,Av c Γ x v→aG c Γ xs vs→C (v::vs)):C vs:=az.casesOn (motive:=λvs _=>C vs) h λa b=>k _ _ a b
theorem aG.append(h:aG c Γ xs vs)(k:aG c Γ ys us):aG c Γ (xs++ys) (vs++us):=
 @List.rec A (λxs=>∀vs,aG c Γ xs vs→aG c Γ (xs++ys) (vs++us)) (λvs h=>(show vs=[] from h)▸k) (λx xs ih vs h=>az.casesOn (motive:=λvs _=>aG c Γ (x::xs++ys) (vs++us)) h λa b=>.mk a (ih _ b)) xs vs h
theorem aG.one(h:Av c Γ z v):aG c Γ [z] [v]:=.mk h rfl
theorem aG.len(h:aG c Γ xs vs):vs.length=xs.length:=@List.rec A (λxs=>∀vs,aG c Γ xs vs→vs.length=xs.length) (λvs h=>(show vs=[] from h)▸rfl) (λx xs ih vs h=>az.casesOn (motive:=λvs _=>vs.length=xs.length+1) h λ_ b=>congrArg (·+1) (ih _ b)) xs vs h
theorem aG.get{n:Nat}(h:aG c Γ xs vs)(e:xs[n]?=some z):∃y,vs[n]?=some y∧Av c Γ z y:=
 @List.rec A (λxs=>∀vs n,aG c Γ xs vs→xs[n]?=some z→∃y,vs[n]?=some y∧Av c Γ z y) (λ_ _ _ e=>nn e)
  (λx xs ih vs n h e=>az.casesOn (motive:=λvs _=>∃y,vs[n]?=some y∧Av c Γ z y) h λh h'=>match n,e with
   |0,e=>⟨_,rfl,Wz e▸h⟩
   |n+1,e=>ih _ n h' e) xs vs n h e
theorem aG.drop(n:Nat):∀xs vs,aG c Γ xs vs→aG c Γ (xs.drop n) (vs.drop n):=@Nat.rec (λn=>∀xs vs,aG c Γ xs vs→aG c Γ (xs.drop n) (vs.drop n)) (λ_ _ h=>h) (λn ih xs vs h=>match xs,h with
 |[],h=>(show vs=[] from h)▸rfl
 |x::xs,h=>az.casesOn (motive:=λvs _=>aG c Γ (xs.drop n) (vs.drop (n+1))) h λ_ b=>ih _ _ b) n
theorem aG.take(n:Nat):∀xs vs,aG c Γ xs vs→aG c Γ (xs.take n) (vs.take n):=@Nat.rec (λn=>∀xs vs,aG c Γ xs vs→aG c Γ (xs.take n) (vs.take n)) (λ_ _ _=>rfl) (λn ih xs vs h=>match xs,h with
 |[],h=>(show vs=[] from h)▸rfl
 |x::xs,h=>az.casesOn (motive:=λvs _=>aG c Γ (x::xs.take n) (vs.take (n+1))) h λa b=>.mk a (ih _ _ b)) n
theorem AK{xs:List A}(e:cf xs=none):xs=[]:=match xs,e with
 |[],_=>rfl
 |x::xs,e=>nn (a:=x) (aV e (λ_ _ e=>nomatch e) λe=>nomatch e)
theorem JF{p:List A×A}(e:cf xs=some p)(h:aG c Γ xs vs):Un (aG c Γ) (Av c Γ) p xs.length vs:=
 @List.rec A (λxs=>∀vs p,cf xs=some p→aG c Γ xs vs→Un (aG c Γ) (Av c Γ) p xs.length vs) (λ_ _ e _=>nn e)
  (λx xs ih vs p e h=>az.casesOn (motive:=λvs _=>Un (aG c Γ) (Av c Γ) p (xs.length+1) vs) h λ{v vs} a b=>by
   have e:alt (cf xs) (λp=>some (x::p.1,p.2)) (some ([],x))=some p:=e
   cases e1:cf xs with
   |some q=>rw[e1] at e;exact Wz e▸Un.casesOn (motive:=λvs _=>Un (aG c Γ) (Av c Γ) (x::q.1,q.2) (xs.length+1) (v::vs)) (ih vs q e1 b) λ{ws y} a' b' e'=>.mk (ws:=v::ws) (.mk a a') b' (congrArg (·+1) e')
   |none=>rw[e1] at e;have q:=AK e1;subst q;exact Wz e▸(show vs=[] from b)▸.mk (ws:=[]) rfl a rfl) xs vs p e h
theorem gk(e:ba o=some xs)(k:o=some (.list xs)→C):C:=ad e λce e1 e2=>@Ce.casesOn (λce=>o=some ce→(match ce with | .list l=>some l |_=>none)=some xs→C) ce (λl e1 e2=>k (Wz e2▸e1)) (λ_ _ e2=>nn e2) (λ_ _ _ e2=>nn e2) (λ_ _ e2=>nn e2) e1 e2
theorem l7(e:fH o=some es)(k:o=some (.dict es)→C):C:=ad e λce e1 e2=>@Ce.casesOn (λce=>o=some ce→(match ce with | .dict l=>some l |_=>none)=some es→C) ce (λ_ _ e2=>nn e2) (λl e1 e2=>k (Wz e2▸e1)) (λ_ _ _ e2=>nn e2) (λ_ _ e2=>nn e2) e1 e2
theorem mQ{p:Addr×List (Str×A)}(e:rt o=some p)(k:o=some (.inst p.1 p.2)→C):C:=ad e λce e1 e2=>@Ce.casesOn (λce=>o=some ce→(match ce with | .inst c l=>some (c,l) |_=>none)=some p→C) ce (λ_ _ e2=>nn e2) (λ_ _ e2=>nn e2) (λ_ _ e1 e2=>k (Wz e2▸e1)) (λ_ _ e2=>nn e2) e1 e2
theorem aU(st:ah c f m S Γ)(hx:Xv c Γ x v)(e:ba (au S x)=some xs):RL c Γ xs v:=gk e λe=>fj st hx e
theorem c7(st:ah c f m S Γ)(hx:Xv c Γ x v)(e:fH (au S x)=some es):RD c Γ es v:=l7 e λe=>fj st hx e
theorem bt{a:A}(hx:Xv c Γ x v)(e:x=.a a):Av c Γ a v:=show Xv c Γ (.a a) v from e▸hx
theorem Dx(st:ah c f m S Γ)(hx:Xv c Γ x v)(e:tK x (au S x)=some xs):Sq c Γ xs v:=aV e (λp _ e=>Wz e▸.t (bt hx p.2)) λe=>.l (aU st hx e)
theorem aS{C:Value→Prop}{i:Int}(hx:Av c Γ (.int i) v)(k:∀t,C (.int i t)):C v:=gu.casesOn (motive:=λv _=>C v) hx k
theorem cy{C:Value→Prop}{i:Str}(hx:Av c Γ (.str i) v)(k:∀t,(PyData.str i).canLay0=true∧i.length≤bM→C (.str i t)):C v:=gq.casesOn (motive:=λv _=>C v) hx k
theorem bZ{C:Value→Prop}(st:ah c f m S Γ)(hx:Av c Γ (.tup xs) v)(k:∀a vs,Γ.h.get? a=some (db vs)→aG c Γ xs vs→xs.length≤bM→C (.ref a)):C v:=dO.casesOn (motive:=λv _=>C v) hx λh r n=>k _ _ (h.get st) r n
theorem dH{C:Value→Prop}(hx:RL c Γ xs v)(k:∀a vs,Γ.h.IsList a vs.toArray→aG c Γ xs vs→xs.length≤bM→C (.ref a)):C v:=RL.casesOn (motive:=λv _=>C v) hx λg q r n=>k _ _ ⟨_,g,q⟩ r n
theorem cq.tok(h:cq c f m Γ K Q)(st:ah c f m S Γ)(q:K x S)(hx:∀Γ',Lf Γ Γ'→Xv c Γ' x v):Q v (c.st (Γ.upd Γ.h tk Γ.news)):=have s:=st.tok tk;h _ _ _ _ q s.1 s.2 (hx _ s.2.1)
theorem cq.int{i:Int}{t:Tok}(h:cq c f m Γ K Q)(st:ah c f m S Γ)(q:K (.a (.int i)) S):Q (.int i t) (c.st (Γ.upd Γ.h tk Γ.news)):=h.tok st q λ_ _=>.mk t
theorem cq.here(h:cq c f m Γ K Q)(st:ah c f m S Γ)(q:K x S)(hx:Xv c Γ x v):Q v (c.st Γ):=h _ _ _ _ q st .refl hx
theorem bY(h:aG c Γ xs vs):vs.toArray.size=xs.length:=(List.size_toArray ..).trans h.len
theorem kr{n:Nat}(h:n≤bM):(n:Int)<2 ^ 63:=Int.lt_of_le_of_lt (Int.ofNat_le.mpr h) (by decide)
theorem lq{n:Nat}(h:n≤bM):¬(n:Int)≥2 ^ 63:=Int.not_le.mpr (kr h)
theorem E4{x y:Int}(h:(small x ||small y)=true):IntMulOk x y:=by
 simp only[small,Bool.or_eq_true,decide_eq_true_eq] at h
 rcases h with h |h
 ·exact IntMulOk.of_left (intBits_le_64 (by omega) (by omega))
 ·exact IntMulOk.of_right (intBits_le_64 (by omega) (by omega))
theorem J3{o:Operator}{a b r:Int}{t t':Tok}(st:ah c f m S Γ)(e:iU o a b=some r)(q:K (.a (.int r)) S)(h:cq c f m Γ K Q):wpAny c.M Ar (binaryOp o (.int a t) (.int b t')) Q E (c.st Γ):=by
 cases o with
 |Add=>cases e;exact P.add_int (h.int st q)
 |Sub=>cases e;exact P.sub_int (h.int st q)
 |Mult=>exact aQ e λe1 e2=>P.mul_int (h.int st (Wz e2▸q)) (E4 e1)
 |FloorDiv=>exact aQ e λe1 e2=>have e1:=of_decide_eq_true e1;floordiv_int (by omega) (h.int st (Wz e2▸q)) (.inl (PyProof.noPylong_small (by omega)))
 |Mod=>exact aQ e λe1 e2=>have e1:=of_decide_eq_true e1;mod_int' (by omega) (h.int st (Wz e2▸q))
 |BitAnd=>cases e;exact and_int (h.int st q)
 |BitOr=>cases e;exact or_int (h.int st q)
 |_=>exact nn e
theorem tp{o:Operator}(h:CS o=true):o=.Add:=by cases o <;> first |rfl |exact nomatch h
theorem bJ{α:Type}{l:List α}{P:Prop}(h:ak l P)(k:l.length≤bM→P→C):C:=bC h λh q=>k (ble h) q
theorem J6{lb:Nat}{o:Operator}{y:X}(st:ah c f m S Γ)(hx:Xv c Γ x v)(hy:Xv c Γ y u)(q:G7 lb o x y S K)(h:cq c f m Γ K Q):wpAny c.M Ar (binaryOp o v u) Q E (c.st Γ):=
 cP q (λ_ q=>bC q λha q=>aa q λl e1 q=>aa q λk e2 q=>bJ q λhn q=>tp ha▸dH (C:=λv=>wpAny c.M Ar (binaryOp .Add v u) Q E (c.st Γ)) (aU st hx e1) λa vs g r n=>dH (C:=λu=>wpAny c.M Ar (binaryOp .Add (.ref a) u) Q E (c.st Γ)) (aU st hy e2) λb us g' r' n'=>
  add_arrays st.F st.N g g' (λh' F' N'=>xH (ce:=.list (l++k)) (tk:=Γ.tk) st F' N' (λp hp=>Heap.lt_size (st.N p hp).1) (λΓ' w e m o=>CL.mk (by simpa using m) o (aG.mono e _ _ (r.append r')) hn) q h) (mj (by rw[bY r,bY r',← WN];exact hn)))
  λ_ q=>aa q λa e1 q=>aa q λb e2 q=>aa q λr e3 q=>aS (C:=λv=>wpAny c.M Ar (binaryOp o v u) Q E (c.st Γ)) (bt hx a.2) λt=>aS (C:=λu=>wpAny c.M Ar (binaryOp o _ u) Q E (c.st Γ)) (bt hy b.2) λt'=>J3 st e3 q h
variable{i:X}{b:Bool}
theorem KD(h:aG c Γ xs vs):(!vs.toArray.isEmpty)=aq xs:=match xs,h with
 |[],h=>(show vs=[] from h)▸rfl
 |x::xs,h=>az.casesOn (motive:=λvs _=>(!vs.toArray.isEmpty)=true) h λ_ _=>rfl
theorem SZ(n:Nat):((n:Int) !=0)= !decide (n=0):=by cases n <;> rfl
theorem JH{Qb:Bool→Shared→Prop}(st:ah c f m S Γ)(h:∀tk,Qb b (c.st (Γ.upd Γ.h tk Γ.news))):Av c Γ z v→EQ z=some b→wpAny c.M Ar (truthy v) Qb E (c.st Γ):=
 @A.casesOn (λz=>Av c Γ z v→EQ z=some b→wpAny c.M Ar (truthy v) Qb E (c.st Γ)) z (λhv e=>(show v=.none from hv)▸truthy_none (Wz e▸h Γ.tk)) (λb hv e=>(show v=.bool b from hv)▸wpAny_truthy_bool (Wz e▸h Γ.tk))
  (λn hv e=>aS (C:=λv=>wpAny c.M Ar (truthy v) Qb E (c.st Γ)) hv λt=>P.truthy_int ((show(n !=0)=b from Wz e)▸h Γ.tk)) (λs hv e=>cy (C:=λv=>wpAny c.M Ar (truthy v) Qb E (c.st Γ)) hv λt q=>P.truthy_str (lq q.2) (SZ s.length▸(show(!decide (s.length=0))=b from Wz e)▸h _))
  (λl hv e=>bZ (C:=λv=>wpAny c.M Ar (truthy v) Qb E (c.st Γ)) st hv λa vs g r n=>truthy_tuple ⟨_,g,rfl,_,rfl⟩ (bY r▸kr n) (KD r▸(show aq l=b from Wz e)▸h _)) (λ_ _=>nn) (λ_ _=>nn) (λ_ _ _=>nn) (λ_ _ _=>nn) (λ_ _=>nn)
theorem IK{Qb:Bool→Shared→Prop}(st:ah c f m S Γ)(hx:Xv c Γ x v)(e:Fc x (au S x)=some b)(h:∀tk,Qb b (c.st (Γ.upd Γ.h tk Γ.news))):wpAny c.M Ar (truthy v) Qb E (c.st Γ):=
 aV e (λl e1 e=>dH (C:=λv=>wpAny c.M Ar (truthy v) Qb E (c.st Γ)) (aU st hx e1) λa vs g r n=>wpAny_truthy_list g (bY r▸kr n) (KD r▸(show aq l=b from Wz e)▸h _)) λe=>ad e λp _ e=>JH st h (bt hx p.2) e
theorem wU{n:Int}{j:Nat}(e:ix n=some j):n=.ofNat j:=match n,e with | .ofNat _,e=>congrArg Int.ofNat (Wz e)
theorem pI{α:Type}{g:Nat→Option α}{r:α}{C:Value→Prop}(e:((vI k).bind λk=>(ix k.1).bind g)=some r)(hk:Av c Γ k v)(h:∀n t,g n=some r→C (.int (.ofNat n) t)):C v:=
 ad e λi e1 e=>ad e λn e2 e=>aS (i:=i.1) (i.2▸hk) λt=>wU e2▸h n t e
theorem v6{n l:Nat}(h:n<l):seqIndex? (.ofNat n) l=some n:=by
 have h1:¬(n:Int)<0:=Int.not_lt.mpr (Int.natCast_nonneg n)
 have h2:(n:Int)<l:=Int.ofNat_lt.mpr h
 simp[seqIndex?,h1,h2]
theorem uL{α:Type}{l:List α}{n:Nat}{a:α}(h:l[n]?=some a):n<l.length:=(WK h).1
theorem f7{α:Type}{l:List α}{n:Nat}{a:α}(h:l[n]?=some a):l.toArray[n]?=some a:=(List.getElem?_toArray ..).trans h
theorem Gp{n l:Nat}(h:n<l)(h':l≤bM):¬(Int.ofNat n)≥2 ^ 63:=lq (V9 (Nat.le_of_lt h) h')
theorem BU{n l:Nat}(h:n<l)(h':l≤bM):(Int.ofNat n)<2 ^ 63:=kr (V9 (Nat.le_of_lt h) h')
theorem Cm{n:Nat}:(Int.ofNat n)≥ -(2 ^ 63:Int):=Wy (by decide) (Int.natCast_nonneg n)
theorem Na{n l:Nat}(h:n<l)(h':l≤bM):(decide ((Int.ofNat n) < -(2 ^ 63:Int)) ||decide ((Int.ofNat n)≥2 ^ 63))=false:=by
 rw[decide_eq_false (Gp h h'),Bool.or_false,decide_eq_false]
 exact Int.not_lt.mpr Cm
theorem yB{s:Str}{n ch:Nat}(h:(PyData.str s).canLay0=true)(e:s.cps[n]?=some ch):(PyData.str ⟨#[ch]⟩).canLay0=true∧(⟨#[ch]⟩:Str).length≤bM:=by
 refine⟨?_,by show 1≤bM;decide⟩
 have hlt:=(Array.getElem?_eq_some_iff.mp e).1
 simp only[PyData.canLay0,PyData.strOk] at h ⊢
 have hm:=Array.all_eq_true.mp h n hlt
 obtain⟨_,e⟩:=Array.getElem?_eq_some_iff.mp e
 rw[e] at hm
 simpa using hm
theorem Et(st:ah c f m S Γ)(hA:aD Ar.in1)(hx:Xv c Γ x v)(hi:Xv c Γ i u)(q:ao x i S K)(h:cq c f m Γ K Q):wpAny c.M Ar (getItem v u) Q E (c.st Γ):=
 aa q λk e1 q=>aa q λz e q=>have hk:=bt hi k.2;aV e
  (λl e2 e=>bZ (C:=λv=>wpAny c.M Ar (getItem v u) Q E (c.st Γ)) st (bt hx l.2) λa vs g r n=>pI (C:=λu=>wpAny c.M Ar (getItem (.ref a) u) Q E (c.st Γ)) e hk λj t e=>(r.get e).elim λy hy=>
   getItem_tuple ⟨_,g,rfl,_,rfl⟩ Cm (BU (uL e) n) (v6 (bY r▸uL e)) (f7 hy.1) (h.here st q hy.2)) λe=>aV e
  (λs e2 e=>cy (C:=λv=>wpAny c.M Ar (getItem v u) Q E (c.st Γ)) (bt hx s.2) λt hs=>pI (C:=λu=>wpAny c.M Ar (getItem (.str s.1 t) u) Q E (c.st Γ)) e hk λj t e=>aH e λch e3 e4=>have hl:=(Array.getElem?_eq_some_iff.mp e3).1
   P.getItem_str (c:=ch) (Na hl hs.2) (by show((seqIndex? _ s.1.cps.size).bind _)=_;rw[v6 hl];exact e3) (h.tok (x:=.a (.str ⟨#[ch]⟩)) st (e4▸q) λ_ _=>gq.mk _ (yB hs.1 e3))) λe=>aV e
  (λl e2 e=>dH (C:=λv=>wpAny c.M Ar (getItem v u) Q E (c.st Γ)) (aU st hx e2) λa vs g r n=>pI (C:=λu=>wpAny c.M Ar (getItem (.ref a) u) Q E (c.st Γ)) e hk λj t e=>(r.get e).elim λy hy=>
   wpAny_getItem_list g (Int.natCast_nonneg j) (BU (uL e) n) (f7 hy.1) (h.here st q hy.2)) λe=>
  ad e λes e2 e=>ad e λo e3 e4=>nZ st hA (c7 st hx e2) hk (e3.trans (congrArg some e4)) h q
variable{w:X}
theorem Ap(hA:aD Ar.in1):aD Ar:=Wg (Wl (Wo _ _) 60) hA
theorem A7{C:Value→Prop}(e:b7 (.a z)=some b)(h:∀v,PySem.plainIs v .none=true→(v==.none)=b→C v):Av c Γ z v→C v:=
 @A.casesOn (λz=>b7 (.a z)=some b→Av c Γ z v→C v) z (λe hv=>(show v=.none from hv)▸h _ rfl (Wz e)) (λb' e hv=>(show v=.bool b' from hv)▸h _ rfl (Wz e))
  (λn e hv=>aS (C:=C) hv λt=>h _ rfl (Wz e)) (λs e hv=>cy (C:=C) hv λt q=>h _ rfl (Wz e))
  (λl e hv=>dO.casesOn (motive:=λv _=>C v) hv λ_ _ _=>h _ rfl (Wz e)) (λl e hv=>pt.casesOn (motive:=λv _=>C v) hv λ_ _ _ _=>h _ rfl (Wz e)) (λl e hv=>sM.casesOn (motive:=λv _=>C v) hv λ_ _ _=>h _ rfl (Wz e))
  (λ_ l e hv=>rH.casesOn (motive:=λv _=>C v) hv λ_ _ _=>h _ rfl (Wz e)) (λ_ _ e hv=>mG.casesOn (motive:=λv _=>C v) hv λ_=>h _ rfl (Wz e)) (λ_ e _=>nn e) e
theorem mP{C:Value→Prop}(hx:Xv c Γ x v)(e:b7 x=some b)(h:∀v,PySem.plainIs v .none=true→(v==.none)=b→C v):C v:=match x,hx,e with
 | .a z,hx,e=>A7 e h hx
 | .l j k,hx,e=>hx.1▸h _ rfl (Wz e)
theorem dJ{q:{_p:Unit // x=.a .none}}(hx:Xv c Γ x v):v=.none:=show Av c Γ .none v from bt hx q.2
theorem L5{y:X}(st:ah c f m S Γ)(hA:aD Ar.in1)(hk:Av c Γ k v)(hy:Xv c Γ y u)(e:EH k y (au S y)=some b):((∀tk,Q (.bool b) (c.st (Γ.upd Γ.h tk Γ.news)))→wpAny c.M Ar (compareOp .In v u) Q E (c.st Γ))∧(uS y=none→(∀tk,Q (.bool (!b)) (c.st (Γ.upd Γ.h tk Γ.news)))→wpAny c.M Ar (compareOp .NotIn v u) Q E (c.st Γ)):=
 have hA':aD Ar:=Ap hA
 aV e (λl e1 e=>have z:=AX (Q:=Q) (E:=E) st hA' hk (bt hy l.2) e;⟨λh=>z.1 (h Γ.tk),λ_ h=>z.2 (h Γ.tk)⟩) λe=>by
  cases e1:uS y with
  |some s=>
   rw[e1] at e
   exact⟨λh=>aH e λq _ e=>cy (C:=λu=>wpAny c.M Ar (compareOp .In v u) Q E (c.st Γ)) (bt hy s.2) λt _=>cy (C:=λv=>wpAny c.M Ar (compareOp .In v _) Q E (c.st Γ)) (i:=q.1) (q.2▸hk) λt' _=>P.in_str (e▸h Γ.tk),λe=>nomatch e⟩
  |none=>
   rw[e1] at e
   exact aV (show alt (ba (au S y)) _ _=_ from e) (λl e2 e=>have z:=uy (Q:=Q) (E:=E) st hA' hk (aU st hy e2) e;⟨λh=>z.1 (h Γ.tk),λ_ h=>z.2 (h Γ.tk)⟩) λe=>ad e λes e2 e=>have z:=MK (Q:=Q) (E:=E) st hA (c7 st hy e2) hk e;⟨z.1,λ_=>z.2⟩
theorem Mx{y:X}{KB:Bool→Prop}(st:ah c f m S Γ)(hA:aD Ar)(hx:Xv c Γ x v)(hy:Xv c Γ y u)(q:lF S x y KB):((∀b,KB b→Q (.bool b) (c.st Γ))→wpAny c.M Ar (compareOp .Eq v u) Q E (c.st Γ))∧((∀b,KB b→Q (.bool (!b)) (c.st Γ))→wpAny c.M Ar (compareOp .NotEq v u) Q E (c.st Γ)):=
 cP q (λ_ q=>aa q λl e1 q=>aa q λk e2 q=>aa q λb e3 q=>⟨λh=>IA st hA (aU st hx e1) (aU st hy e2) e3 (h b q),λh=>M2 st hA (aU st hx e1) (aU st hy e2) e3 (h b q)⟩)
  λ_ q=>aa q λp e1 q=>aa q λp' e2 q=>aa q λb e3 q=>⟨λh=>KV st hA (bt hx p.2) (bt hy p'.2) e3 (h b q),λh=>Li st hA (bt hx p.2) (bt hy p'.2) e3 (h b q)⟩
theorem K3{o:CmpOp}{a b':Int}{t t':Tok}{s:Shared}(e:FC o a b'=some b)(h:Q (.bool b) s):wpAny c.M Ar (compareOp o (.int a t) (.int b' t')) Q E s:=by
 cases o with
 |Lt=>exact P.lt_int (Wz e▸h)
 |LtE=>exact P.le_int (Wz e▸h)
 |Gt=>exact P.gt_int (Wz e▸h)
 |GtE=>exact P.ge_int (Wz e▸h)
 |_=>exact nn e
theorem JW{o:CmpOp}{y:X}{KB:Bool→Prop}(st:ah c f m S Γ)(hx:Xv c Γ x v)(hy:Xv c Γ y u)(q:opt (uI x) λa=>opt (uI y) λb=>opt (FC o a.1 b.1) KB)(h:∀b tk,KB b→Q (.bool b) (c.st (Γ.upd Γ.h tk Γ.news))):wpAny c.M Ar (compareOp o v u) Q E (c.st Γ):=
 aa q λp e1 q=>aa q λp' e2 q=>aa q λb e3 q=>aS (C:=λv=>wpAny c.M Ar (compareOp o v u) Q E (c.st Γ)) (bt hx p.2) λt=>aS (C:=λu=>wpAny c.M Ar (compareOp o _ u) Q E (c.st Γ)) (bt hy p'.2) λt'=>K3 e3 (h b Γ.tk q)
theorem mu{o:CmpOp}{y:X}{KB:Bool→Prop}(st:ah c f m S Γ)(hA:aD Ar.in1)(hx:Xv c Γ x v)(hy:Xv c Γ y u)(q:dE o x y S KB)(h:∀b tk,KB b→Q (.bool b) (c.st (Γ.upd Γ.h tk Γ.news))):wpAny c.M Ar (compareOp o v u) Q E (c.st Γ):=by
 have hA':aD Ar:=Ap hA
 cases o with
 |Is=>exact aa q λp _ q=>aa q λb e q=>dJ (q:=p) hy▸mP (C:=λv=>wpAny c.M Ar (compareOp .Is v .none) Q E (c.st Γ)) hx e λv h1 h2=>wpAny_is_plain h1 (h2▸h b Γ.tk q)
 |IsNot=>exact aa q λp _ q=>aa q λb e q=>dJ (q:=p) hy▸mP (C:=λv=>wpAny c.M Ar (compareOp .IsNot v .none) Q E (c.st Γ)) hx e λv h1 h2=>wpAny_isNot_plain h1 (h2▸h _ Γ.tk q)
 |In=>exact aa q λp _ q=>aa q λb e q=>(L5 st hA (bt hx p.2) hy e).1 λtk=>h b tk q
 |NotIn=>
   refine aa q λp _ q=>?_
   have q:alt (uS y) (λ_=>False) (opt (EH p.1 y (au S y)) λb=>KB (!b)):=q
   cases e1:uS y with
   |some s=>rw[e1] at q;exact q.elim
   |none=>rw[e1] at q;exact aa q λb e q=>(L5 st hA (bt hx p.2) hy e).2 e1 λtk=>h _ tk q
 |Eq=>exact(Mx st hA' hx hy q).1 λb q=>h b Γ.tk q
 |NotEq=>exact(Mx st hA' hx hy q).2 λb q=>h _ Γ.tk q
 |_=>exact JW st hx hy q h
theorem rN{Q:Unit→Shared→Prop}{K:AS→Prop}(st:ah c f m S Γ)(hA:aD Ar.in1)(hx:Xv c Γ x v)(hi:Xv c Γ i u)(hw:Xv c Γ w y)(q:bv x i w S K)(h:jW c f m Γ K (Q ())):wpAny c.M Ar (setItem v u y) Q E (c.st Γ):=
 have hA':aD Ar:=Ap hA
 aa q λk e1 q=>aa q λp e2 q=>aa q λes e3 q=>aa q λes' e4 q=>bJ q λhn q=>aa q λS' e5 q=>eZ st hw e2 λΓ1 st1 le1 av eq=>eq▸
  have hx1:=hx.mono le1
  have hk:=Av.mono le1.1 _ _ (bt hi k.2)
  l7 e3 λe3=>RD.casesOn (motive:=λv _=>Xv c Γ1 x v→wpAny c.M Ar (setItem v u y) Q E (c.st Γ1)) (fj st1 hx1 e3:RD c Γ1 es v) (λ{a ds ep} g rd oq hx1=>by
   have hT:(c.st Γ1).TypeIs (.ref a) "dict":=⟨_,g,rfl⟩
   unfold setItem
   refine wpAny_holding (WT (wpAny_sequenceKey hT (by decide) (WT (wpAny_callSpecial?_slot (name:=Str.ofString "__setitem__") hT slot_dict_setitem (wpAny_call_entry slot_dict_setitem hT entry_dict_setitem ?_ (args_dict_setitem _ _ _))))))
   show wpAny _ _ (Builtin.Dict.notOrdered "__setitem__" ⟨[.ref a,u,y],[]⟩ >>=_) _ _ (c.st Γ1)
   refine WT (wpAny_notOrdered_dict hT ?_)
   show wpAny _ _ (dictSet a u y >>=_) _ _ (c.st Γ1)
   exact WT (rE (K:=K) st1 hA hx1 e3 hk av e4 hn e5 (λΓ' S' k st' le=>WU ⟨.none,rfl,WU (h.to le1 Γ' S' k st' le)⟩) q a rfl)) hx1
theorem KL{w w':Ow}(h:AN w=true)(e:w=.d w'):False:=by subst e;cases h
theorem Gn(a:List Nat):∀b,Gy a b=true→a=b:=@List.rec Nat (λa=>∀b,Gy a b=true→a=b) (λb h=>match b,h with |[],_=>rfl |_::_,h=>nomatch h) (λx a ih b h=>match b,h with
 |[],h=>nomatch h
 |y::b,h=>by
  have h:cond (Nat.beq x y) (Gy a b) false=true:=h
  cases e:Nat.beq x y with
  |false=>rw[e] at h;exact nomatch h
  |true=>rw[e] at h;rw[Wv e,ih b h]) a
theorem nj(a:List Nat):Gy a a=true:=@List.rec Nat (λa=>Gy a a=true) rfl (λx a ih=>by show cond (Nat.beq x x) (Gy a a) false=true;rw[Nat.beq_refl];exact ih) a
theorem aW{a b:Str}(h:seq a b=true):a=b:=match a,b,Gn _ _ h with |⟨⟨_⟩⟩,⟨⟨_⟩⟩,h=>congrArg (λl=>(⟨⟨l⟩⟩:Str)) h
theorem kB{a b:Str}{t:Tok}:(Value.str a t).isStr b=seq a b:=by
 cases h:seq a b with
 |true=>cases aW h;exact beq_self_eq_true a
 |false=>exact beq_eq_false_iff_ne.mpr λe=>by subst e;exact ff (h.symm.trans (nj _))
variable{as:List (Str×A)}{n:Str}{e:DictEntry}
theorem o5{y:Str}{t:Tok}(h:e.key=.str y t):getL n (e::ds)=cond (seq y n) (some (some e.val)) (getL n ds):=by
 have q:e.key.isStr n=seq y n:=h▸kB
 unfold getL
 rw[List.find?_cons,q]
 cases seq y n with
 |true=>rfl
 |false=>rw[List.any_cons,show e.refKey=false by unfold DictEntry.refKey;rw[h]];rfl
theorem so(r:fO c Γ as ds):(getL n ds).isSome=true:=@List.rec (Str×A) (λas=>∀ds,fO c Γ as ds→(getL n ds).isSome=true) (λds r=>(show ds=[] from r)▸rfl)
 (λp as ih ds r=>az.casesOn (motive:=λds _=>(getL n ds).isSome=true) r λh h'=>h.k.elim λt hk=>by rw[o5 hk];cases seq p.1 n;exact ih _ h';rfl) as ds r
theorem Ag(r:fO c Γ as ds)(e:br n as=some z):∃y,getL n ds=some (some y)∧Av c Γ z y:=@List.rec (Str×A) (λas=>∀ds,fO c Γ as ds→br n as=some z→∃y,getL n ds=some (some y)∧Av c Γ z y) (λds _ e=>nn e)
 (λp as ih ds r e=>az.casesOn (motive:=λds _=>∃y,getL n ds=some (some y)∧Av c Γ z y) r λ{e' ds} h h'=>h.k.elim λt hk=>by
  have e:cond (seq p.1 n) (some p.2) (br n as)=some z:=e
  rw[o5 hk]
  cases q:seq p.1 n with
  |true=>rw[q] at e;exact⟨_,rfl,Wz e▸h.v⟩
  |false=>rw[q] at e;exact ih _ h' e) as ds r e
theorem z3{t:Tok}(hz:Av c Γ z y)(r:fO c Γ as ds):fO c Γ (i5 n z as) (putL n (PyData.keyHash c.P n) (.str n t) y ds):=@List.rec (Str×A) (λas=>∀ds,fO c Γ as ds→fO c Γ (i5 n z as) (putL n (PyData.keyHash c.P n) (.str n t) y ds))
 (λds r=>(show ds=[] from r)▸.mk ⟨rfl,⟨t,rfl⟩,hz⟩ rfl)
 (λp as ih ds r=>az.casesOn (motive:=λds _=>fO c Γ (cond (seq p.1 n) ((p.1,z)::as) (p::i5 n z as)) (putL n (PyData.keyHash c.P n) (.str n t) y ds)) r λ{e ds} h h'=>h.k.elim λu hk=>by
  have q:e.key.isStr n=seq p.1 n:=hk▸kB
  unfold putL
  rw[q]
  cases seq p.1 n with
  |true=>exact .mk ⟨h.h,h.k,hz⟩ h'
  |false=>exact .mk h (ih _ h')) as ds r
theorem fO.len(r:fO c Γ as ds):ds.length=as.length:=@List.rec (Str×A) (λas=>∀ds,fO c Γ as ds→ds.length=as.length) (λds r=>(show ds=[] from r)▸rfl) (λp as ih ds r=>az.casesOn (motive:=λds _=>ds.length=as.length+1) r λ_ h'=>congrArg (·+1) (ih _ h')) as ds r
theorem Ee(z:A):Av c Γ z v→handedIn v=true:=@A.casesOn (λz=>Av c Γ z v→handedIn v=true) z (λh=>(show v=.none from h)▸rfl) (λb h=>(show v=.bool b from h)▸rfl) (λ_ h=>gu.casesOn (motive:=λv _=>handedIn v=true) h λ_=>rfl) (λ_ h=>gq.casesOn (motive:=λv _=>handedIn v=true) h λ_ _=>rfl)
 (λ_ h=>dO.casesOn (motive:=λv _=>handedIn v=true) h λ_ _ _=>rfl) (λ_ h=>pt.casesOn (motive:=λv _=>handedIn v=true) h λ_ _ _ _=>rfl) (λ_ h=>sM.casesOn (motive:=λv _=>handedIn v=true) h λ_ _ _=>rfl) (λ_ _ h=>rH.casesOn (motive:=λv _=>handedIn v=true) h λ_ _ _=>rfl) (λ_ _ h=>mG.casesOn (motive:=λv _=>handedIn v=true) h λ_=>rfl) (λ_ h=>h.2)
def kb(K:Frag)(C:Addr)(n:Str):Bool:=plainGet K C n&&hasDictIn K C&&(match findIn K (.ref C) n with |some a=>noGet K a |none=>false)
def eJ(K:Frag)(C:Addr)(n:Str):Bool:=findIn K (.ref C) "__setattr__"==some (some (.builtin "object.__setattr__"))&&plainOver K C&&takerIn K C n==some none&&hasDictIn K C
def Oz(c:Cx):Prop:=∀C n,Oj C n=true→kb c.K C n=true∧eJ c.K C n=true
theorem wW{K:Frag}{a:Addr}(h:kb K a n=true)(k:∀q,plainGet K a n=true→hasDictIn K a=true→findIn K (.ref a) n=some q→noGet K q=true→C):C:=by
 unfold kb at h
 have h:=WB h
 have h1:=WB h.1
 cases e:findIn K (.ref a) n with
 |none=>have h2:=h.2;rw[e] at h2;exact nomatch h2
 |some q=>have h2:=h.2;rw[e] at h2;exact k q h1.1 h1.2 e h2
theorem Fg{expr:Bool}(ok:Oz c)(st:ah c f m S Γ)(hx:Xv c Γ x v)(q:cC x n S K)(h:cq c f m Γ K Q):wpAny c.M Ar (getAttr v n expr) Q E (c.st Γ):=
 aa q λz e q=>ad e λp e1 e=>aQ e λe2 e=>mQ e1 λe1=>RI.casesOn (motive:=λv _=>wpAny c.M Ar (getAttr v n expr) Q E (c.st Γ)) (fj st hx e1:RI c Γ p.1 p.2 v) λg g' r=>(Ag r e).elim λy hy=>
  wW (ok _ _ e2).1 λq' k1 k2 k3 k4=>get_own st.F st.I ⟨g,rfl,rfl,g'⟩ k1 k2 k3 k4 hy.1 (Ee _ hy.2) (h.tok st q λ_ e=>Av.mono e _ _ hy.2)
theorem sO{Q:Unit→Shared→Prop}{K:AS→Prop}(ok:Oz c)(st:ah c f m S Γ)(hx:Xv c Γ x v)(hw:Xv c Γ w y)(q:iZ x n w S K)(h:jW c f m Γ K (Q ())):wpAny c.M Ar (setAttr v n y) Q E (c.st Γ):=
 aa q λp e1 q=>aa q λp' e2 q=>bC q λe3 q=>aa q λS' e4 q=>eZ st hw e1 λΓ1 st1 le1 av eq=>eq▸mQ e2 λe2=>jC st1 (hx.mono le1) e2 e4 λw hw hu cv _ c0 c1 c2=>CI.casesOn cv λ{d ds ep} m o m' o' r=>hu▸by
  have e3:=WB e3
  have k:=(ok _ _ e3.1).2
  simp only[eJ,Bool.and_eq_true,beq_iff_eq] at k
  have a3:=z3 (t:=Γ1.tk+1) (n:=n) av r
  obtain⟨n',up⟩:=ja (dictOf (putL n (PyData.keyHash c.P n) (.str n (Γ1.tk+1)) y ds) (putN n ds ep)) st1.once m'
  refine set_dict st1.F st1.I st1.N (InstAt.of_news st1.N m m') rfl k.1.1.1 k.1.1.2 k.1.2 k.2 (so r) rfl up (a3.len▸ble e3.2) λh' F' N'=>?_
  have s:=st1.put (tk:=Γ1.tk+2) hw m' (.inr o') up F' N' c0 c1 c2 λe u=>CI.mk (u.keep _ _ m λe=>KL hw (o.symm.trans ((congrArg Γ1.o e).trans o'))) o u.self o' (fO.mono e _ _ a3)
  exact h _ _ q s.1 (le1.trans s.2)
theorem h7{n:Nat}(h:n≤bM):n≤sizeLine:=V9 h (by decide)
theorem jG(st:ah c f m S Γ){w:Ow}(hw:AN w=true)(c0:cont S w=some (.list xs))(c1:cont S' w=some (.list ys))(c2:∀w',w'≠w→cont S' w'=cont S w')(hm:(Γ.at_ w,b5 vs ep)∈Γ.news)(ho:Γ.o (Γ.at_ w)=w)(hs:Heap.SameBut (Γ.at_ w) Γ.h h')(hg:h'.get? (Γ.at_ w)=some (b5 us ep'))
  (r:aG c Γ ys us) (hn:ys.length≤bM) (h:cq c f m Γ K Q) (q:K x S') (hx:Xv c Γ x v):Q v {c.s₀ with heap:=h',toks:=tk}:=
 qB (tk:=tk) st hw c0 c1 c2 hm (.inl ho) hs hg (λn' e u=>CL.mk u.self ho (aG.mono e _ _ r) hn) λΓ' st' le e=>e▸h _ _ _ _ q st' le (hx.mono le)
theorem vj(st:ah c f m S Γ)(hx:Xv c Γ x v)(hl:au S x=some (.list xs))(hz:Av c Γ z u)(hn:(xs++[z]).length≤bM)(hp:fR S x (.list (xs++[z]))=some S')(q:K (.a .none) S')(h:cq c f m Γ K Q):wpAny c.M Ar (call (.builtin "list.append") [v,u]) Q E (c.st Γ):=
 jC st hx hl hp λw hw hu cv _ c0 c1 c2=>CL.casesOn cv λ{vs ep} m o r n=>hu▸append_at (st.get m) (λh' hs hg=>jG (K:=K) (x:=.a .none) st hw c0 c1 c2 m o hs (us:=vs++[u]) (ep':=ep+1) (hg.trans (by rw[List.push_toArray])) (r.append (.one hz)) hn h q rfl) (h7 (bY r▸n))
theorem oG{ws:List Value}:((ws++[y]).toArray).eraseIdxIfInBounds ((ws++[y]).toArray.size - 1)=ws.toArray:=by
 have:(ws++[y]).toArray.size - 1=ws.length:=by rw[List.size_toArray,WN];rfl
 rw[this,kl_erase,WQ]
theorem Iv{p:List A×A}(st:ah c f m S Γ)(hx:Xv c Γ x v)(hl:au S x=some (.list xs))(e:cf xs=some p)(hp:fR S x (.list p.1)=some S')(q:K (.a p.2) S')(h:cq c f m Γ K Q):wpAny c.M Ar (call (.builtin "list.pop") [v]) Q E (c.st Γ):=
 jC st hx hl hp λw hw hu cv _ c0 c1 c2=>CL.casesOn cv λ{vs ep} m o r n=>Un.casesOn (motive:=λvs _=>(Γ.at_ w,b5 vs ep)∈Γ.news→wpAny c.M Ar (call (.builtin "list.pop") [v]) Q E (c.st Γ)) (JF e r) (λ{ws y} ra ry hn m=>hu▸by
  have hlen:(ws++[y]).toArray.size=xs.length:=by rw[List.size_toArray,WN,ra.len];exact hn
  refine call_meets PySem.F.slot_list_pop ⟨_,st.get m,rfl⟩ PySem.F.entry_list_pop (PySem.F.args_list_pop_1 _) (PySem.MeetsSeq.list_pop_last _ _ ep y (by rw[List.size_toArray,WN];exact f7 (by simp)) (h7 (hlen▸n))) ⟨st.get m,?_⟩
  have g:=PySem.IsL.update (st.get m) (λxs=>xs.eraseIdxIfInBounds ((ws++[y]).toArray.size - 1))
  rw[oG,if_neg (by simp)] at g
  exact jG (K:=K) (x:=.a p.2) (tk:=Γ.tk) st hw c0 c1 c2 m o (Heap.SameBut.update ..) (us:=ws) g ra (V9 (Nat.le_of_succ_le (Wq hn)) n) h q ry) m
theorem jv{a b:Nat}(h:a+b≤bM)(e:Bool):¬(e&&Builtin.List.listTooLong (a+b))=true:=λq=>by
 have q:=(WB q).2
 unfold Builtin.List.listTooLong at q
 have b:bM≤sizeLine:=h7 (Nat.le_refl _)
 simp at q
 omega
theorem xg{y:X}(st:ah c f m S Γ)(hx:Xv c Γ x v)(hl:au S x=some (.list xs))(hy:Sq c Γ ys u)(hn:(xs++ys).length≤bM)(hp:fR S x (.list (xs++ys))=some S')(q:K (.a .none) S')(h:cq c f m Γ K Q):wpAny c.M Ar (call (.builtin "list.extend") [v,u]) Q E (c.st Γ):=
 jC st hx hl hp λw hw hu cv _ c0 c1 c2=>CL.casesOn cv λ{vs ep} m o r n=>hu▸by
  have fin:∀us,aG c Γ ys us→Q .none {c.s₀ with heap:=Γ.h.update (Γ.at_ w) (Obj.mapSeq λx=>x++us.toArray),toks:=Γ.tk}:=λus r'=>by
   have g:=PySem.IsL.update (st.get m) (λx=>x++us.toArray)
   rw[List.append_toArray] at g
   exact jG (K:=K) (x:=.a .none) (tk:=Γ.tk) st hw c0 c1 c2 m o (Heap.SameBut.update ..) (us:=vs++us) g (r.append r') hn h q rfl
  have b1:∀us,aG c Γ ys us→vs.toArray.size+us.toArray.size≤bM:=λus r'=>by rw[bY r,bY r',← WN];exact hn
  cases hy with
  |l hy=>
    refine RL.casesOn (motive:=λu _=>wpAny c.M Ar (call (.builtin "list.extend") [.ref (Γ.at_ w),u]) Q E (c.st Γ)) hy λ{a ob us} g q r' n'=>?_
    obtain⟨cl,dd,dt,sl⟩:=ob
    obtain⟨h1,ep2,h2⟩:=q
    cases h1;cases h2
    exact call_meets PySem.F.slot_list_extend ⟨_,st.get m,rfl⟩ PySem.F.entry_list_extend (PySem.F.args_list_extend_2 _ _) (Kc _ _ ep _ _ _ _ _ (jv (b1 us r') _) (h7 (bY r▸n)) (Nat.le_succ_of_le (h7 (b1 us r')))) ⟨st.get m,g,fin us r'⟩
  |t hy=>exact bZ (C:=λu=>wpAny c.M Ar (call (.builtin "list.extend") [.ref (Γ.at_ w),u]) Q E (c.st Γ)) st hy λa us g r' n'=>
    call_meets PySem.F.slot_list_extend ⟨_,st.get m,rfl⟩ PySem.F.entry_list_extend (PySem.F.args_list_extend_2 _ _) (PySem.AutoSeq1.list_extend_list_tuple_0 _ _ ep _ _ 0 (jv (b1 us r') _) (h7 (bY r▸n)) (Nat.le_succ_of_le (h7 (b1 us r')))) ⟨st.get m,g,fin us r'⟩
theorem Eb{sk:SK}(st:ah c f m S Γ)(r:aG c Γ xs vs)(hn:xs.length≤bM)(q:ia sk (.list xs) S K)(h:cq c f m Γ K Q):wpAny c.M Ar (newList vs) Q E (c.st Γ):=
 newList_K st.F st.N (λl h' F' N' hlt=>xH (ce:=.list xs) (tk:=Γ.tk) st F' N' hlt (λΓ' w e m o=>CL.mk m o (aG.mono e _ _ r) hn) q h) (h7 (r.len▸hn))
theorem Kt(st:ah c f m S Γ)(r:aG c Γ xs vs)(hn:xs.length≤bM)(q:K (.a (.tup xs)) S)(h:cq c f m Γ K Q):wpAny c.M Ar (newTuple vs) Q E (c.st Γ):=
 newTuple_N st.F st.N (λh' F' N'=>have s:=st.add (tk:=Γ.tk) (ob:=db vs) F' N' (λp hp=>Heap.lt_size (st.N p hp).1) .f
  h _ _ _ _ q s.1 s.2.1 (dO.mk (.inr ⟨.head _,(congrArg iB s.2.2)⟩) (aG.mono s.2.1.1 _ _ r) hn)) (h7 (r.len▸hn))
theorem KC(st:ah c f m S Γ)(hd:RD c Γ es v)(h:cq c f m Γ K Q)(q:K (.a (.int es.length)) S):wpAny c.M Ar (call (.builtin "len") [v]) Q E (c.st Γ):=
 RD.casesOn hd λ{a ds ep} g rd oq=>by
  have hT:(c.st Γ).TypeIs (.ref a) "dict":=⟨_,g,rfl⟩
  refine Calls.call_function_entry kind_len plain_len entry_len (args_len1 _) ?_
  unfold Builtin.«len»
  refine WT (m:=oneArg "len" _) (WU ?_)
  refine WT (m:=callSpecial? (.ref a) (Str.ofString "__len__")) (wpAny_callSpecial?_slot (name:=Str.ofString "__len__") hT F.slot_dict_len (wpAny_call_entry F.slot_dict_len hT F.entry_dict_len ?_ (F.args_dict_len_1 _)))
  show wpAny _ _ (dictSize a >>=_) _ _ (c.st Γ)
  unfold dictSize
  refine WT (WT (wpAny_dictEntries g rfl (WU ?_)))
  show wpAny _ _ (Builtin.Dict.pendingCount a >>=_) _ _ (c.st Γ)
  refine WT (wpAny_pendingCount_other (beq_eq_false_iff_ne.mpr oq.2.2) (WT (wpAny_mkInt (WU ⟨_,rfl,WT (wpAny_holding (WU (WT (wpAny_letGo ?_))))⟩))))
  have e:((ds.toArray.size:Nat):Int)+((0:Nat):Int)=es.length:=by rw[List.size_toArray,rd.len];exact Int.add_zero _
  rw[e]
  exact ca (λh=>absurd (Int.natCast_nonneg _) (Int.not_le.mpr h)) λ_=>ca (λh=>absurd h (lq oq.2.1)) λ_=>WT (wpAny_mkInt (WU ⟨_,rfl,h.int st q⟩))
theorem L6{n:Nat}(st:ah c f m S Γ)(hx:Xv c Γ x v)(e:AC x (au S x)=some n)(q:K (.a (.int n)) S)(h:cq c f m Γ K Q):wpAny c.M Ar (call (.builtin "len") [v]) Q E (c.st Γ):=
 aV e (λl e1 e=>bZ (C:=λv=>wpAny c.M Ar (call (.builtin "len") [v]) Q E (c.st Γ)) st (bt hx l.2) λa vs g r n=>len_tuple ⟨_,g,rfl,_,rfl⟩ (bY r▸kr n) (bY r▸h.int st (Wz e▸q))) λe=>aV e
  (λs e1 e=>cy (C:=λv=>wpAny c.M Ar (call (.builtin "len") [v]) Q E (c.st Γ)) (bt hx s.2) λt hs=>P.len_str (lq hs.2) (h.int st (Wz e▸q))) λe=>aV e
  (λl e1 e=>dH (C:=λv=>wpAny c.M Ar (call (.builtin "len") [v]) Q E (c.st Γ)) (aU st hx e1) λa vs g r n=>len_list g (bY r▸kr n) (bY r▸h.int st (Wz e▸q))) λe=>
  aH e λes e1 e=>KC st (c7 st hx e1) h (e▸q)
theorem Kl{i j:Int}{t t':Tok}(hh:Ar.handled=none)(st:ah c f m S Γ)(q:K (.a (.int (if j>i then j else i))) S)(h:cq c f m Γ K Q):wpAny c.M Ar (call (.builtin "max") [.int i t,.int j t']) Q E (c.st Γ):=
 max_two_N hh st.F st.N λh' tk F' N'=>have s:=st.still (tk:=tk) F' N';h _ _ _ _ q s.1 s.2 (gu.mk _)
theorem w4{bs:List Bool}(e:lw xs=some bs)(r:aG c Γ xs vs):LSm.BoolsAre vs bs:=@List.rec A (λxs=>∀bs vs,lw xs=some bs→aG c Γ xs vs→LSm.BoolsAre vs bs) (λbs vs e r=>(show vs=[] from r)▸Wz e▸.nil)
 (λx xs ih bs vs e r=>ad e λb e1 e=>aH e λbs' e2 e3=>aH e1 λp _ e1=>az.casesOn (motive:=λvs _=>LSm.BoolsAre vs bs) r λ{v r} h h'=>(show v=.bool p.1 from(p.2▸h:Av c Γ (.bool p.1) v))▸e3▸e1▸.cons _ (ih _ _ e2 h')) xs bs vs e r
theorem JQ{bs:List Bool}(hh:Ar.handled=none)(st:ah c f m S Γ)(hx:RL c Γ xs v)(e:lw xs=some bs)(q:K (.a (.bool (bs.any id))) S)(h:cq c f m Γ K Q):wpAny c.M Ar (call (.builtin "any") [v]) Q E (c.st Γ):=
 dH (C:=λv=>wpAny c.M Ar (call (.builtin "any") [v]) Q E (c.st Γ)) hx λa vs g r n=>LSm.any_bools st.F st.N hh g (w4 e r) λh' tk F' N'=>have s:=st.still (tk:=tk) F' N';h _ _ _ _ q s.1 s.2 rfl
theorem Ad(st:ah c f m S Γ)(hx:Sq c Γ xs v)(q:K (.a (.tup xs)) S)(h:cq c f m Γ K Q):wpAny c.M Ar (call (.type "tuple") [v]) Q E (c.st Γ):=by
 cases hx with
 |l hx=>exact dH (C:=λv=>wpAny c.M Ar (call (.type "tuple") [v]) Q E (c.st Γ)) hx λa vs g r n=>call_tuple_list g (λh' hk=>
   have F':Fr f.h₀ f.env.locals h' m:=st.F.keeps hk
   have N':News f.h₀ f.env.locals h' Γ.news:=λp hp=>⟨hk _ _ (st.N p hp).1,(st.N p hp).2⟩
   have s:=st.add (tk:=Γ.tk) (ob:=db vs) (F'.push _) (N'.push F' _) (λp hp=>Heap.lt_size (N' p hp).1) .f
   h _ _ _ _ q s.1 s.2.1 (dO.mk (.inr ⟨.head _,(congrArg iB s.2.2)⟩) (aG.mono s.2.1.1 _ _ r) n)) (h7 (bY r▸n))
 |t hx=>exact dO.casesOn (motive:=λv _=>Av c Γ (.tup xs) v→wpAny c.M Ar (call (.type "tuple") [v]) Q E (c.st Γ)) hx (λh' _ _ hx=>call_tuple_tup ⟨_,h'.get st,rfl,_,rfl⟩ (h.here st q hx)) hx
theorem rL{α:Type}{ask:Nat→Nat→Option Bool}{cmp:Nat→Nat→(Bool→Shared→Prop)→Shared→Prop}{Q:α→Shared→Prop}(J:Shared→Prop)
  (hc:∀i j b (C:Bool→Shared→Prop) s,J s→ask i j=some b→(∀s',J s'→C b s')→cmp i j C s) (t:KasT α):∀s p,J s→cR ask t=some p→(∀s',J s'→Q p s')→t.kasWp cmp Q s:=
 @KasT.rec α (λt=>∀s p,J s→cR ask t=some p→(∀s',J s'→Q p s')→t.kasWp cmp Q s) (λa s p j e h=>Wz e▸h s j)
  (λi k f ih s p j e h=>ad e λb e1 e2=>hc i k b _ s j e1 λs' j'=>ih b s' p j' e2 h) t
theorem gh(r:aG c Γ xs vs):∀i,Av c Γ (xs.getD i .none) (vs.getD i .none):=@List.rec A (λxs=>∀vs,aG c Γ xs vs→∀i,Av c Γ (xs.getD i .none) (vs.getD i .none)) (λvs r i=>(show vs=[] from r)▸rfl)
 (λx xs ih vs r i=>dh (C:=λvs=>Av c Γ ((x::xs).getD i .none) (vs.getD i .none)) r λv vs h h'=>@Nat.casesOn (λi=>Av c Γ ((x::xs).getD i .none) ((v::vs).getD i .none)) i h λi=>ih _ h' i) xs vs r
theorem xE(r:aG c Γ xs vs)(l:List Nat):aG c Γ (l.map λi=>xs.getD i .none) (l.map λi=>vs.getD i .none):=@List.rec Nat (λl=>aG c Γ (l.map λi=>xs.getD i .none) (l.map λi=>vs.getD i .none)) rfl (λi l ih=>.mk (gh r i) ih) l
theorem iY{p:A→Bool}{l:List A}(h:l.all p=true)(i:Nat):p (l.getD i .none)=true∨l.getD i .none=.none:=@List.rec A (λl=>l.all p=true→∀i,p (l.getD i .none)=true∨l.getD i .none=.none) (λ_ _=>.inr rfl)
 (λa l ih h i=>have h:=WB h;@Nat.casesOn (λi=>p ((a::l).getD i .none)=true∨(a::l).getD i .none=.none) i (.inl h.1) λi=>ih h.2 i) l h i
theorem vH{p:A→Bool}{q:Value→Prop}(hpq:∀v x,Av c Γ x v→p x=true→q v)(r:aG c Γ xs vs)(h:xs.all p=true):∀v∈vs,q v:=@List.rec A (λxs=>∀vs,aG c Γ xs vs→xs.all p=true→∀v∈vs,q v) (λvs r _ v hv=>(nomatch((show vs=[] from r)▸hv:v∈[])))
 (λx xs ih vs r h v hv=>have h:=WB h;dh (C:=λvs=>v∈vs→q v) r (λ_ _ a b hv=>(WC hv).elim (λe=>e▸hpq _ _ a h.1) (ih _ b h.2 v)) hv) xs vs r h
theorem lK(h:ux z=true)(k:∀i,z=.int i→C):C:=by
 unfold ux at h
 cases e:vI z with
 |none=>rw[e] at h;exact nomatch h
 |some p=>exact k p.1 p.2
theorem n7(h:BJ z=true)(k:∀i,z=.str i→C):C:=by
 unfold BJ at h
 cases e:vS z with
 |none=>rw[e] at h;exact nomatch h
 |some p=>exact k p.1 p.2
theorem E5(st:ah c f m S Γ)(hA:aD Ar){b0 fin:Bool}{Q:Bool→Shared→Prop}(xs:List A):∀ys vs us b i,aG c Γ xs vs→aG c Γ ys us→DR xs ys=some b→decide (vs.length<us.length)=fin→(b0=true→i≠0∨∃k t,vs[0]?=some (.int k t))→(∀tk,Q b (c.st (Γ.upd Γ.h tk Γ.news)))→
  KatLex c.prog c.w Ar b0 fin Q (vs.zip us) i (c.st Γ):=
 @List.rec A (λxs=>∀ys vs us b i,aG c Γ xs vs→aG c Γ ys us→DR xs ys=some b→decide (vs.length<us.length)=fin→(b0=true→i≠0∨∃k t,vs[0]?=some (.int k t))→(∀tk,Q b (c.st (Γ.upd Γ.h tk Γ.news)))→KatLex c.prog c.w Ar b0 fin Q (vs.zip us) i (c.st Γ))
  (λys vs us b i r r' e ef _ h=>by
   have r:vs=[]:=r
   subst r ef
   have e:aq ys=b:=Wz e
   subst e
   refine kat_nil ?_
   cases ys with
   |nil=>have r':us=[]:=r';subst r';exact h Γ.tk
   |cons y ys=>exact dh (C:=λus=>Q (decide (([]:List Value).length<us.length)) (c.st Γ)) r' λv r _ _=>(decide_eq_true (Nat.succ_pos r.length):decide (([]:List Value).length<(v::r).length)=true)▸h Γ.tk)
  (λx xs ih ys vs us b i r r' e ef h1 h=>by
   refine dh (C:=λvs=>decide (vs.length<us.length)=fin→(b0=true→i≠0∨∃k t,vs[0]?=some (.int k t))→KatLex c.prog c.w Ar b0 fin Q (vs.zip us) i (c.st Γ)) r (λv vs hx r ef h1=>?_) ef h1
   cases ys with
   |nil=>
    have r':us=[]:=r'
    subst r' ef
    have e:false=b:=Wz e
    subst e
    exact kat_nil (h Γ.tk)
   |cons y ys=>
    have e:(BK x y).bind (λc=>cond c (DR xs ys) ((vI x).bind λx=>(vI y).map λy=>decide (x.1<y.1)))=some b:=e
    refine dh (C:=λus=>decide ((v::vs).length<us.length)=fin→KatLex c.prog c.w Ar b0 fin Q ((v::vs).zip us) i (c.st Γ)) r' (λu us hy r' ef=>ad e λq e1 e=>kat_cons ?_) ef
    refine pC e1 st hx hy λp p' r1 r2 hd he=>r1.reads.elim λas ra=>r2.reads.elim λbs rb=>eqAt_reads p p' Ar (c.st Γ) v u as bs ra rb r1.lay r2.lay (jh hA hd (by decide)) _ _ _ _ (he▸?_)
    cases q with
    |true=>exact kat_yes (ih ys vs us b (i+1) r r' e (by rw[← ef];exact decide_eq_decide.mpr (Nat.succ_lt_succ_iff).symm) (λ_=>.inl (Nat.succ_ne_zero i)) h)
    |false=>
     refine kat_no (ad e λk e2 e=>aH e λk' e3 e=>?_)
     refine aS (C:=λv=>wpAny c.M Ar (oneLt' (b0&&i==0) v u) Q (λ_ _=>False) (c.st Γ)) (k.2▸hx) λt=>aS (C:=λu=>wpAny c.M Ar (oneLt' (b0&&i==0) _ u) Q (λ_ _=>False) (c.st Γ)) (k'.2▸hy) λt'=>?_
     cases b0&&i==0 with
     |true=>exact oneLt_int (e▸h Γ.tk)
     |false=>exact kat_one _ _ (P.lt_int (e▸h Γ.tk))) xs
theorem jE{M:Model}{hp:Heap}(k:Int)(t:Tok):Looks M hp (typeOf (.int k t)) (.type "int"):=Looks.of_pure rfl
theorem pH{M:Model}{hp:Heap}(k:Str)(t:Tok):Looks M hp (typeOf (.str k t)) (.type "str"):=Looks.of_pure rfl
variable{r:List A}
theorem yE{C:Bool→Shared→Prop}{s:Shared}{x y:A}(hx:Av c Γ x v)(hy:Av c Γ y u)(e:RG x y=some b)(h:C b s):wpAny c.M Ar (keyLt' oneType' v u) C (λ_ _=>False) s:=
 aV e (λp _ e=>aH e λp' _ e=>aS (C:=λv=>wpAny c.M Ar (keyLt' oneType' v u) C (λ_ _=>False) s) (Γ:=Γ) (c:=c) (p.2▸hx) λt=>aS (C:=λu=>wpAny c.M Ar (keyLt' oneType' _ u) C (λ_ _=>False) s) (Γ:=Γ) (c:=c) (p'.2▸hy) λt'=>kat_lt_int (e▸h))
  λe=>ad e λp _ e=>aH e λp' _ e=>cy (C:=λv=>wpAny c.M Ar (keyLt' oneType' v u) C (λ_ _=>False) s) (Γ:=Γ) (c:=c) (p.2▸hx) λt _=>cy (C:=λu=>wpAny c.M Ar (keyLt' oneType' _ u) C (λ_ _=>False) s) (Γ:=Γ) (c:=c) (p'.2▸hy) λt' _=>kas_lt_str (e▸h)
theorem UZ(h:ux z=true∨BJ z=true∨z=.none):vT z=none:=h.elim (λh=>lK h λi e=>e▸rfl) λh=>h.elim (λh=>n7 h λi e=>e▸rfl) λe=>e▸rfl
theorem wG{κ:SortKind}{p:Array Nat}{n:Nat}{G:Array Nat→Shared→Prop}(hc:∀i j b (C:Bool→Shared→Prop) tk,qz (xs.getD i .none) (xs.getD j .none)=some b→(∀tk,C b (c.st (Γ.upd Γ.h tk Γ.news)))→kas_ask c.prog c.w Ar κ vs i j C (c.st (Γ.upd Γ.h tk Γ.news)))
  (e:cR (λi j=>qz (xs.getD i .none) (xs.getD j .none)) (kas_sort n)=some p) (h:∀tk,G p (c.st (Γ.upd Γ.h tk Γ.news))):(kas_sort n).kasWp (kas_ask c.prog c.w Ar κ vs) G (c.st Γ):=
 rL (λs'=>∃tk,s'=c.st (Γ.upd Γ.h tk Γ.news)) (λi j b C s' hj hb hC=>hj.elim λtk q=>q▸hc i j b C tk hb λtk=>hC _ ⟨tk,rfl⟩) _ _ p ⟨Γ.tk,rfl⟩ e λs' hj=>hj.elim λtk q=>q▸h tk
theorem qU{p:Array Nat}{n:Nat}{G:Array Nat→Shared→Prop}(hr:aG c Γ xs vs)(ha:∀i,vT (xs.getD i .none)=none)(e:cR (λi j=>qz (xs.getD i .none) (xs.getD j .none)) (kas_sort n)=some p)(h:∀tk,G p (c.st (Γ.upd Γ.h tk Γ.news))):(kas_sort n).kasWp (kas_ask c.prog c.w Ar oneType' vs) G (c.st Γ):=
 wG (λi j b C tk hb hC=>yE (gh hr i) (gh hr j) (by have hb:alt (vT (xs.getD i .none)) _ (RG (xs.getD i .none) (xs.getD j .none))=some b:=hb;rw[ha i] at hb;exact hb) (hC tk)) e h
theorem qC{l:List A}(h:i8 (.tup l)=true)(k:∀i r,l=.int i::r→C):C:=match l,h with
 |[],h=>nomatch h
 |x::r,h=>lK h λi e=>k i r (e▸rfl)
structure HZ(c:Cx)(Γ:Gh)(vs fs:List Value):Prop where
 t:KatTups Γ.h vs fs
 n:fs.length=vs.length
 i:∀v∈fs,∃k t,v=.int k t
theorem Gz(st:ah c f m S Γ)(hr:aG c Γ xs vs)(h:xs.all i8=true):∃fs,HZ c Γ vs fs:=@List.rec A (λxs=>∀vs,aG c Γ xs vs→xs.all i8=true→∃fs,HZ c Γ vs fs) (λvs r _=>(show vs=[] from r)▸⟨[],.nil,rfl,λv hv=>(nomatch hv)⟩)
 (λx xs ih vs r h=>have h:=WB h;dh (C:=λvs=>∃fs,HZ c Γ vs fs) r λv vs hx r=>(ih _ r h.2).elim λfs t=>by
  have h1:=h.1
  unfold i8 at h1
  cases e:vT x with
  |none=>rw[e] at h1;exact nomatch h1
  |some p=>
   have hx:Av c Γ (.tup p.1) v:=p.2▸hx
   refine qC (l:=p.1) (p.2▸h.1) λi r' e'=>bZ (C:=λv=>∃fs,HZ c Γ (v::vs) fs) st hx λa ws g r'' _=>?_
   rw[e'] at r''
   exact dh (C:=λws=>Γ.h.get? a=some (db ws)→∃fs,HZ c Γ (.ref a::vs) fs) r'' (λu us hy _ g=>aS (C:=λu=>Γ.h.get? a=some (db (u::us))→∃fs,HZ c Γ (.ref a::vs) fs) hy (λt' g=>⟨.int i t'::fs,.cons g rfl rfl (by simp) t.t,congrArg (·+1) t.n,λv hv=>(WC hv).elim (λq=>⟨_,_,q⟩) (t.i v)⟩) g) g) xs vs hr h
theorem BD{p:Array Nat}{n:Nat}{G:Array Nat→Shared→Prop}(st:ah c f m S Γ)(hA:aD Ar)(hr:aG c Γ xs vs)(ha:xs.all i8=true)(e:cR (λi j=>qz (xs.getD i .none) (xs.getD j .none)) (kas_sort n)=some p)(h:∀tk,G p (c.st (Γ.upd Γ.h tk Γ.news))):(kas_sort n).kasWp (kas_ask c.prog c.w Ar (tuples' (Value.type "int" !=Value.type "tuple")) vs) G (c.st Γ):=
 wG (λi j b C tk hb hC=>by
  have hx:=gh hr i
  have hy:=gh hr j
  have hp:=iY ha i
  unfold kas_ask
  revert hx hy hp hb
  generalize vs.getD i Value.none=v
  generalize vs.getD j Value.none=u
  generalize xs.getD i .none=x
  generalize xs.getD j .none=y
  intro hb hx hy hp
  have s:=st.tok tk
  refine aV hb (λq e1 hb=>ad hb λq' e2 hb=>?_) λhb=>hp.elim (λh=>?_) λe=>by subst e;exact nn hb
  ·have hp:i8 (.tup q.1)=true:=hp.elim (λh=>q.2▸h) λe=>nomatch(q.2.symm.trans e)
   refine bZ (C:=λv=>wpAny c.M Ar (keyLt' _ v u) C (λ_ _=>False) _) s.1 (Av.mono s.2.1 (.tup q.1) v (q.2▸hx)) λa ws g r1 _=>bZ (C:=λu=>wpAny c.M Ar (keyLt' _ _ u) C (λ_ _=>False) _) s.1 (Av.mono s.2.1 (.tup q'.1) u (q'.2▸hy)) λa' ws' g' r2 _=>?_
   refine kat_lt (xs:=ws.toArray) (ys:=ws'.toArray) g rfl g' rfl (E5 s.1 hA q.1 q'.1 ws ws' b 0 r1 r2 hb (by rw[List.size_toArray,List.size_toArray]) (λ_=>.inr (qC hp λk r' e=>?_)) hC)
   rw[e] at r1
   exact dh (C:=λws=>∃k t,ws[0]?=some (.int k t)) r1 λv vs h _=>aS (C:=λv=>∃k t,(v::vs)[0]?=some (.int k t)) h λt=>⟨_,_,rfl⟩
  ·have h:alt (vT x) (λl=>match l.1 with |[]=>false |x::_=>ux x) false=true:=h
   cases q:vT x with
   |some p'=>
    have hx:Av c Γ (.tup p'.1) v:=p'.2▸hx
    rw[p'.2] at hb
    exact nn hb
   |none=>rw[q] at h;exact nomatch h) e h
variable{prog:Program}{w:World}{m:Str→Option Value}
theorem nh{l:Addr}{vs:List Value}{Q:Value→Shared→Prop}(F:Fr h₀ L s.heap m)(N:News h₀ L s.heap news)(hl:s.heap.IsList l vs.toArray)(h64:vs.length<64)
  (h:∀D h',Fr h₀ L h' m→News h₀ L h' ((D,listOf vs.toArray 0)::news)→(∀q∈news,q.1<D)→
   wpAny (model prog w) Ar.in1 (call (.builtin "list.sort") [.ref D]) (λ_ s'=>Q (.ref D) s') E {s with heap:=h'}):
  wpAny (model prog w) Ar (call (.builtin "sorted") [.ref l]) Q E s:=by
 refine Calls.call_function_entry kind_sorted plain_sorted entry_sorted (args_sorted1 _) ?_
 unfold Builtin.«sorted»
 refine WT (m:=checkCount "sorted" 1 1 _) (WU ?_)
 refine WT (collect_list hl ?_ (by rw[sizeLine_eq];omega))
 refine WT (wpAny_newList ?_ (by rw[sizeLine_eq];omega))
 have keep:∀b o,s.heap.get? b=some o→((s.heap.push (seqObj "list" #[] 0)).update s.heap.objs.size (Obj.mapSeq (·++vs.toArray))).get? b=some o:=λb o q=>by
  have hlt:b<s.heap.objs.size:=Heap.lt_size q
  rw[Heap.get?_update_ne _ _ _ _ (Nat.ne_of_lt hlt),Heap.get?_push_ne _ _ _ (Nat.ne_of_lt hlt)]
  exact q
 have F':=S_keep F keep
 have N':News h₀ L ((s.heap.push (seqObj "list" #[] 0)).update s.heap.objs.size (Obj.mapSeq (·++vs.toArray))) news:=N.grown keep
 have hg:=h _ _ (F'.push (seqObj "list" vs.toArray 0)) (News.push F' N' _ rfl) λq hq=>Heap.lt_size (N' q hq).1
 refine WT (wpAny_holding (wpAny_mono hg (λ_ s' x=>?_) λ_ _ e=>e))
 exact WU ⟨_,rfl,x⟩
where
 S_keep {h h':Heap} (F:Fr h₀ L h m) (k:∀b o,h.get? b=some o→h'.get? b=some o):Fr h₀ L h' m:=F.keeps k
theorem oO{D:Addr}{vs:List Value}{Q:Value→Shared→Prop}(F:Fr h₀ L s.heap m)(N:News h₀ L s.heap ((D,listOf vs.toArray 0)::news))(hlt:∀q∈news,q.1<D)(h2:vs.length<2)
  (h:∀h' c,Fr h₀ L h' m→News h₀ L h' ((D,listOf vs.toArray c)::news)→Q .none {s with heap:=h'}):
  wpAny (model prog w) Ar (call (.builtin "list.sort") [.ref D]) Q E s:=by
 have nz:=N _ (.head _)
 have ho:s.heap.get? D=some (seqObj "list" vs.toArray 0):=nz.1
 have N₀:News h₀ L s.heap news:=λp hp=>N p (.tail _ hp)
 have hna:∀p∈news,p.1≠D:=λp hp=>Nat.ne_of_lt (hlt p hp)
 refine wpAny_call_entry slot_list_sort ⟨_,nz.1,rfl⟩ entry_list_sort ?_ (args_list_sort _)
 have s1:=Heap.SameBut.update s.heap D (Obj.mapSeq λ_=>(#[]:Array Value))
 obtain⟨e1,ho1⟩:∃e1,(s.heap.update D (Obj.mapSeq λ_=>(#[]:Array Value))).get? D=some (seqObj "list" #[] e1):=⟨_,get?_update_seq ho λ_=>#[]⟩
 have F3:Fr h₀ L (((s.heap.update D (Obj.mapSeq λ_=>(#[]:Array Value))).push (seqObj "tuple" vs.toArray 0)).push (seqObj "list" #[] 0)) m:=((kas_fr F s1 nz.2.1 nz.2.2).push _).push _
 have N2:News h₀ L (((s.heap.update D (Obj.mapSeq λ_=>(#[]:Array Value))).push (seqObj "tuple" vs.toArray 0)).push (seqObj "list" #[] 0)) news:=
  (kas_news N₀ s1 hna).grown λb x e=>Heap.get?_push_of_some _ (Heap.get?_push_of_some _ e)
 have hD:(((s.heap.update D (Obj.mapSeq λ_=>(#[]:Array Value))).push (seqObj "tuple" vs.toArray 0)).push (seqObj "list" #[] 0)).get? D=some (seqObj "list" #[] e1):=Heap.get?_push_of_some _ (Heap.get?_push_of_some _ ho1)
 rw[list_sort_plain]
 refine WT (listItems_at ho rfl ?_)
 refine WT (listUpdate_at ho rfl ?_ (by rw[List.size_toArray,sizeLine_eq];omega) (Nat.zero_le _))
 refine WT (seqEpoch_at ho1 rfl ?_)
 refine WT (wpAny_newTuple ?_ (by show vs.length≤_;rw[sizeLine_eq];omega))
 refine WT (wpAny_newList ?_ (Nat.zero_le _))
 refine wpAny_holding ?_
 show wpAny (model prog w) Ar.in1 _ _ E {s with heap:=((s.heap.update D (Obj.mapSeq λ_=>(#[]:Array Value))).push (seqObj "tuple" vs.toArray 0)).push (seqObj "list" #[] 0)}
 dsimp only
 have hn2:vs.toArray.size<2:=by rw[List.size_toArray];omega
 rw[if_pos hn2,if_pos hn2]
 refine WT (WU ?_)
 rw[StateT.run_pure]
 refine WT (WU ?_)
 dsimp only
 have hout:(arrOf (SortSt.mk' general' (vs.toArray.zip vs.toArray) #[] 7 none)).map (·.2)=vs.toArray:=by
  show(vs.toArray.zip vs.toArray).map (·.2)=vs.toArray
  apply Array.toList_inj.mp
  rw[Array.toList_map,Array.toList_zip]
  exact List.map_snd_zip (by simp)
 rw[hout]
 have s2:=Heap.SameBut.update (((s.heap.update D (Obj.mapSeq λ_=>(#[]:Array Value))).push (seqObj "tuple" vs.toArray 0)).push (seqObj "list" #[] 0)) D (Obj.mapSeq λ_=>vs.toArray)
 obtain⟨c2,hc2⟩:∃c2,((((s.heap.update D (Obj.mapSeq λ_=>(#[]:Array Value))).push (seqObj "tuple" vs.toArray 0)).push (seqObj "list" #[] 0)).update D (Obj.mapSeq λ_=>vs.toArray)).get? D=some (seqObj "list" vs.toArray c2):=⟨_,get?_update_seq hD λ_=>vs.toArray⟩
 refine WT (seqEpoch_at hD rfl ?_)
 refine WT (listUpdate_at hD rfl ?_ (Nat.zero_le _) (by rw[List.size_toArray,sizeLine_eq];omega))
 simp only[bne_self_eq_false,Bool.false_eq_true,if_false]
 refine WU ⟨_,rfl,h _ c2 (kas_fr F3 s2 nz.2.1 nz.2.2) λp hp=>?_⟩
 rcases WC hp with rfl |hp
 ·exact⟨hc2,nz.2.1,nz.2.2⟩
 ·exact kas_news N2 s2 hna p hp
variable{m:Mp}{D:Addr}{w:X}
theorem LE(v:Value)(x:A)(h:Av c Γ x v)(hp:ux x=true):∃k t,v=.int k t:=lK hp λi e=>aS (C:=λv=>∃k t,v=.int k t) (Γ:=Γ) (c:=c) (e▸h) λt=>⟨_,_,rfl⟩
theorem MN(v:Value)(x:A)(h:Av c Γ x v)(hp:BJ x=true):∃k t,v=.str k t:=n7 hp λi e=>cy (C:=λv=>∃k t,v=.str k t) (Γ:=Γ) (c:=c) (e▸h) λt _=>⟨_,_,rfl⟩
theorem DP{p:Array Nat}{G:Array Nat→Shared→Prop}(st:ah c f m S Γ)(hA:aD Ar)(hr:aG c Γ xs vs)(h2:2≤vs.length)(hs:(xs.all ux ||xs.all BJ ||xs.all i8)=true)(e:cR (λi j=>qz (xs.getD i .none) (xs.getD j .none)) (kas_sort vs.length)=some p)(h:∀tk,G p (c.st (Γ.upd Γ.h tk Γ.news))):
  wpAny c.M Ar (keyKind' vs.toArray) (λκ s'=>(kas_sort vs.length).kasWp (kas_ask c.prog c.w Ar κ vs) G s') (λ_ _=>False) (c.st Γ):=
 (Bool.or_eq_true_iff.mp hs).elim (λhs=>(Bool.or_eq_true_iff.mp hs).elim
  (λhs=>kas_kind h2 (T:=.type "int") (λv hv=>(vH LE hr hs v hv).elim λk q=>q.elim λt q=>q▸jE k t) (by decide) (by decide) (qU hr (λi=>UZ ((iY hs i).imp id .inr)) e h))
  λhs=>kas_kind h2 (T:=.type "str") (λv hv=>(vH MN hr hs v hv).elim λk q=>q.elim λt q=>q▸pH k t) (by decide) (by decide) (qU hr (λi=>UZ (.inr (iY hs i))) e h))
 λhs=>(Gz st hr hs).elim λfs t=>kat_kind t.t (T:=.type "int") (t.n▸Wh (by decide) h2) (λv hv=>(t.i v hv).elim λk q=>q.elim λt q=>q▸jE k t) (by decide) (BD st hA hr hs e h)
theorem nO(e:b8 xs=some r)(k:xs.length≤63→(xs.all ux ||xs.all BJ ||xs.all i8)=true→(xs.length≤1∧r=xs)∨(2≤xs.length∧∃p,cR (λi j=>qz (xs.getD i .none) (xs.getD j .none)) (kas_sort xs.length)=some p∧r=p.toList.map λi=>xs.getD i .none)→C):C:=
 aQ e λe1 e=>have e1:=WB e1;k (ble e1.1) e1.2 (by
  cases q:Nat.ble xs.length 1 with
  |true=>rw[q] at e;exact .inl ⟨ble q,(Wz e).symm⟩
  |false=>rw[q] at e;exact .inr ⟨Nat.lt_of_not_le λh=>ff (q.symm.trans (Wx h)),aH e λp e1 e2=>⟨p,e1,e2.symm⟩⟩)
theorem qT(hA:aD Ar.in1)(st:ah c f m S Γ)(F:Fr f.h₀ f.env.locals h' m)(N:News f.h₀ f.env.locals h' ((D,listOf vs.toArray 0)::Γ.news))(hlt:∀q∈Γ.news,q.1<D)
  (hr:aG c Γ xs vs) (e:b8 xs=some r) (hn:r.length≤bM) (q:K (.a (.fl r)) S) (h:cq c f m Γ K Q):wpAny c.M Ar (call (.builtin "list.sort") [.ref D]) (λ_ s'=>Q (.ref D) s') E {c.s₀ with heap:=h',toks:=tk}:=
 have fin:∀h' ep tk us,Fr f.h₀ f.env.locals h' m→News f.h₀ f.env.locals h' ((D,listOf (List.toArray us) ep)::Γ.news)→aG c Γ r us→Q (.ref D) {c.s₀ with heap:=h',toks:=tk}:=λh' ep tk us F' N' hu=>
  have s:=st.add (tk:=tk) (ob:=b5 us ep) F' N' hlt .f
  h _ _ _ _ q s.1 s.2.1 (pt.mk (.inr ⟨.head _,(congrArg iB s.2.2)⟩) ⟨rfl,_,rfl⟩ (aG.mono s.2.1.1 _ _ hu) hn)
 nO e λh63 hk hc=>hc.elim (λq=>oO (s:={c.s₀ with heap:=h',toks:=tk}) F N hlt (hr.len▸Nat.lt_succ_of_le q.1) λh' ep F' N'=>fin h' ep tk vs F' N' (q.2▸hr))
  λq=>q.2.elim λp q2=>kat_lsort (s:={c.s₀ with heap:=h',toks:=tk}) F N (.head λq hq=>Nat.ne_of_lt (hlt q hq)) (vs:=vs) rfl (hr.len▸q.1) (hr.len▸Nat.lt_succ_of_le h63) λe1 h2 F2 N2=>
   have s:=st.still (tk:=tk) F2 (λq hq=>N2 q (.tail _ hq))
   DP s.1 hA (aG.mono s.2.1 _ _ hr) (hr.len▸q.1) hk (hr.len.symm▸q2.1) λtk=>KasFin.intro F2 N2 (.head λq hq=>Nat.ne_of_lt (hlt q hq)) λh3 ep F3 N3=>fin h3 ep tk _ F3 N3 (q2.2▸xE hr _)
theorem Bp(hA:aD Ar.in1.in1)(st:ah c f m S Γ)(hx:RL c Γ xs v)(e:b8 xs=some r)(hn:r.length≤bM)(q:K (.a (.fl r)) S)(h:cq c f m Γ K Q):wpAny c.M Ar (call (.builtin "sorted") [v]) Q E (c.st Γ):=
 dH (C:=λv=>wpAny c.M Ar (call (.builtin "sorted") [v]) Q E (c.st Γ)) hx λa vs g hr n=>nh st.F st.N g (nO e λh63 _ _=>hr.len▸Nat.lt_succ_of_le h63) λD h' F' N' hlt=>qT (tk:=Γ.tk) hA st F' N' hlt hr e hn q h
section
variable{c:Cx}{f:Fm}{m m':Mp}{S S':AS}{Γ Γ':Gh}{v u y:Value}{vs us:List Value}{es es':List (A×A)}{as:List (Str×A)}{xs ys r:List A}{ds:List DictEntry}{ep ep':Nat}{a D:Addr}{k z:A}{x i w:X}{K:KX}{Q:Value→Shared→Prop}{E:Value→Shared→Prop}{Ar:Around}{C:Prop}{h':Heap}{tk:Tok}{o:Option Ce}{b:Bool}{n:Str}{e:DictEntry}
theorem Em(xs:List A):∀vs:List Value,vs.length=xs.length→(∀(j:Nat) v x,vs[j]?=some v→xs[j]?=some x→Av c Γ x v)→aG c Γ xs vs:=@List.rec A (λxs=>∀vs:List Value,vs.length=xs.length→(∀(j:Nat) v x,vs[j]?=some v→xs[j]?=some x→Av c Γ x v)→aG c Γ xs vs)
 (λvs e _=>List.length_eq_zero_iff.mp e) (λx xs ih vs e h=>@List.casesOn Value (λvs=>vs.length=(x::xs).length→(∀(j:Nat) v x',vs[j]?=some v→(x::xs)[j]?=some x'→Av c Γ x' v)→aG c Γ (x::xs) vs) vs (λe _=>nomatch e) (λv vs e h=>.mk (h 0 v x rfl rfl) (ih vs (Nat.succ.inj e) λj v x a b=>h (j+1) v x a b)) e h) xs
structure Kk(c:Cx)(Γ:Gh){κ:Type}[DecidableEq κ](knd:PySem.KeyKind c.prog c.w κ)(enc:κ→A)(p:A→Bool):Prop where
 i:∀v x,Av c Γ x v→p x=true→∃k,x=enc k∧knd.is k v=true
 h:∀k d,oM (enc k)=some d→hashW c.P (ofPy d)=knd.hash k
 b:∀k v v',Av c Γ (enc k) v'→knd.is k v=true→Av c Γ (enc k) v
 o:∀k,∃d,fC d=true∧am d (enc k)=true
structure Kv(c:Cx){κ:Type}[DecidableEq κ](knd:PySem.KeyKind c.prog c.w κ)(enc:κ→A)(ds:List DictEntry)(es:List (A×A))(kvs:List (κ×Value)):Prop where
 p:Pairs knd ds kvs
 h:∀e∈ds,∃k,knd.is k e.key=true∧e.hash=knd.hash k
 m:es.map (·.1)=kvs.map λq=>enc q.1
section
variable{κ:Type}[DecidableEq κ]{knd:PySem.KeyKind c.prog c.w κ}{enc:κ→A}{p:A→Bool}
theorem Mz(kk:Kk c Γ knd enc p)(rd:cW c Γ es ds)(ha:(es.map (·.1)).all p=true):∃kvs:List (κ×Value),Kv c knd enc ds es kvs:=@List.rec (A×A) (λes=>∀ds,cW c Γ es ds→(es.map (·.1)).all p=true→∃kvs:List (κ×Value),Kv c knd enc ds es kvs)
 (λds r _=>(show ds=[] from r)▸⟨[],.nil,(λe he=>nomatch he),rfl⟩)
 (λq es ih ds r ha=>have ha:=WB ha;az.casesOn (motive:=λds _=>∃kvs:List (κ×Value),Kv c knd enc ds (q::es) kvs) r λ{e ds} h h'=>(ih _ h' ha.2).elim λkvs t=>(kk.i _ _ h.k ha.1).elim λk hk=>h.h.elim λd hd=>
  ⟨(k,e.val)::kvs,.cons hk.2 rfl t.p,λe' he=>(WC he).elim (λq=>q▸⟨k,hk.2,hd.2.trans (kk.h k d (hk.1▸hd.1))⟩) (t.h e'),(congrArg (q.1::·) t.m).trans (congrArg (·::_) hk.1)⟩) es ds rd ha
theorem AJ{kvs:List (κ×Value)}(kk:Kk c Γ knd enc p)(t:Kv c knd enc ds es kvs)(o:eL es):(kvs.map (·.1)).Nodup:=by
 unfold eL at o
 rw[t.m,List.pairwise_map] at o
 exact List.pairwise_map.mpr (o.imp λ{a b} h (e:a.1=b.1)=>(kk.o a.1).elim λd q=>h d q.1 q.2 (e▸q.2))
theorem xW(kk:Kk c Γ knd enc p)(hA:aD Ar.in1.in1)(hH:Ar.handled=none)(st:ah c f m S Γ)(hx:RD c Γ es v)(ha:(es.map (·.1)).all p=true)(e:b8 (es.map (·.1))=some r)(hn:r.length≤bM)(q:K (.a (.fl r)) S)(h:cq c f m Γ K Q):wpAny c.M Ar (call (.builtin "sorted") [v]) Q E (c.st Γ):=
 RD.casesOn (motive:=λv _=>wpAny c.M Ar (call (.builtin "sorted") [v]) Q E (c.st Γ)) hx λ{a ds ep} g rd oq=>(Mz kk rd ha).elim λkvs t=>by
  have hl:kvs.length=es.length:=by rw[← WO (as:=kvs) (f:=λq=>enc q.1),← t.m,WO]
  have hat:(c.st Γ).heap.DictAt knd a kvs ep:=⟨_,_,g,⟨rfl,rfl,rfl⟩,rfl,λe he=>t.h e (List.mem_toArray.mp he),t.p,AJ kk t oq.1⟩
  refine kdu_sorted (kdl_dict (knd:=knd) (kvs:=kvs) (ep:=ep) (beq_eq_false_iff_ne.mpr oq.2.2)) hH st.F st.N hat (hl▸h7 oq.2.1) λD h' tk vs F' N' hlt hl' hv=>qT (tk:=tk) hA st F' N' hlt (Em _ vs (hl'.trans (hl.trans (WO ..).symm)) λj v x hj hx=>?_) e hn q h
  obtain⟨k,z,hz,hi⟩:=hv j v hj
  have hx:=hx
  rw[t.m,List.getElem?_map,hz] at hx
  cases hx
  have hm:(es.map (·.1))[j]?=some (enc k):=by rw[t.m,List.getElem?_map,hz];rfl
  rw[List.getElem?_map] at hm
  refine aH hm λq1 hq e=>?_
  obtain⟨e',_,he'⟩:=rd.get hq
  exact kk.b k v e'.key (e▸he'.k) hi
end
theorem qe{x:A}{d d':PyData}(e:oM x=some d)(e':py x=some d'):d'=d:=ad e λp e1 e=>aQ e λ_ e=>(Wz (e'.symm.trans e1)).trans (Wz e)
theorem vR(k:Int):reduceHash (intHash k)=hashInt k:=by
 have e:intHash k=rawHash k:=rfl
 have:=rawHash_range k
 unfold hashInt reduceHash
 rw[e,if_pos (by simp only[Bool.and_eq_true,decide_eq_true_eq];exact this)]
theorem HQ:Kk c Γ (PySem.intKind c.prog c.w) A.int ux:=⟨λv x h hp=>lK hp λi e=>aS (C:=λv=>∃k,x=.int k∧(PySem.intKind c.prog c.w).is k v=true) (Γ:=Γ) (c:=c) (e▸h) λt=>⟨i,e,by simp[PySem.intKind,Value.isInt]⟩,
 λk d e=>qe e rfl▸vR k,λk v v' _ hi=>(Value.isInt_shape hi).elim λt e=>e▸gu.mk t,λk=>⟨.int k,rfl,beq_self_eq_true k⟩⟩
theorem Fy:Kk c Γ (PySem.strKind c.prog c.w) A.str BJ:=⟨λv x h hp=>n7 hp λi e=>cy (C:=λv=>∃k,x=.str k∧(PySem.strKind c.prog c.w).is k v=true) (Γ:=Γ) (c:=c) (e▸h) λt _=>⟨i,e,by simp[PySem.strKind,Value.isStrOf]⟩,
 λk d e=>qe e rfl▸rfl,λk v v' hv hi=>(Value.isStrOf_shape hi).elim λt e=>e▸cy (C:=λ_=>gq k (.str k t)) (Γ:=Γ) (c:=c) hv λ_ q=>gq.mk t q,λk=>⟨.str k,rfl,beq_self_eq_true k⟩⟩
theorem EV(hA:aD Ar.in1.in1)(hH:Ar.handled=none)(st:ah c f m S Γ)(hx:Xv c Γ x v)(e:Dw (au S x)=some r)(hn:r.length≤bM)(q:K (.a (.fl r)) S)(h:cq c f m Γ K Q):wpAny c.M Ar (call (.builtin "sorted") [v]) Q E (c.st Γ):=
 aV e (λl e1 e=>Bp hA st (aU st hx e1) e hn q h) λe=>ad e λes e1 e=>aQ e λe2 e=>(Bool.or_eq_true_iff.mp e2).elim (λe2=>xW HQ hA hH st (c7 st hx e1) e2 e hn q h) λe2=>xW Fy hA hH st (c7 st hx e1) e2 e hn q h
end
structure vV(c:Cx)(x:Str)(a:A)(v:Value):Prop where
 h:nsIn c.K mainGlobals x=some (some v)∨(nsIn c.K mainGlobals x=some none∧bootBuiltins x=some v∧x≠"__name__")
 r:∀Γ,Av c Γ a v
def FX(c:Cx):Prop:=∀x a,DG x GL=some a→∃v,vV c x a v
def kn(k:NameKind):NameKind:=match k with | .free=>.cell |k=>k
def wJ(k:NameKind):Bool:=match k with | .local=>true | .cell=>true | .free=>true |_=>false
structure D8(f:Fm)(nm:Nm):Prop where
 kind:f.env.scope.kind=.function
 glob:f.env.globals=mainGlobals
 bi:f.env.builtins=builtinsNs
 ks:∀x k,br x nm=some k→f.env.kindOf x=some (kn k)
 cinj:∀x y a,f.env.cells.lookup x=some a→f.env.cells.lookup y=some a→x=y
 dbg:br "__debug__" nm=none
 ce:∀x,br x nm=some .cell→∃a,f.env.cells.lookup x=some a
inductive c5(c:Cx)(f:Fm)(Γ:Gh)(m:Mp)(x:Str)(v:X):NameKind→Prop
 |loc {v':Value} (e:m x=some v') (h:Xv c Γ v v'):c5 c f Γ m x v .local
 |cel {a:Addr} {o:Obj} {v':Value} (l:f.env.cells.lookup x=some a) (n:(a,o)∈Γ.news) (z:Γ.o a=.z) (d:o.data=.cell (some v')) (h:Xv c Γ v v'):c5 c f Γ m x v .cell
inductive ie(Γ:Gh)(a:Addr):Prop |mk {o:Obj} {v:Option Value} (n:(a,o)∈Γ.news) (z:Γ.o a=.z) (d:o.data=.cell v):ie Γ a
structure Bd(c:Cx)(f:Fm)(nm:Nm)(en:En)(m:Mp)(S:AS)(Γ:Gh):Prop extends ah c f m S Γ where
 k:D8 f nm
 R:∀x v k,br x en=some v→br x nm=some k→wJ k=true→c5 c f Γ m x v (kn k)
 Z:∀x a,f.env.cells.lookup x=some a→ie Γ a
def bc(f:Fm)(a:Addr):Prop:=∃x,f.env.cells.lookup x=some a
def ge(c:Cx)(f:Fm)(nm:Nm)(Γ:Gh)(K:KN)(Q:Shared→Prop):Prop:=∀Γ' S' en' m',K en' S'→Bd c f nm en' m' S' Γ'→Le (bc f) Γ Γ'→Q (c.st Γ')
variable{nm:Nm}{en:En}{k:NameKind}
theorem c5.mono(e:Le P Γ Γ')(hn:∀a,f.env.cells.lookup n=some a→¬P a)(h:c5 c f Γ m n x k)(hm:k=.local→m' n=m n):c5 c f Γ' m' n x k:=match k,h with
 |_,.loc e1 h=>.loc ((hm rfl).trans e1) (h.mono e)
 |_,.cel l n z d h=>have q:=e.z _ _ n z (hn _ l);.cel l q.1 q.2 d (h.mono e)
theorem ie.mono(e:Le P Γ Γ')(hn:¬P a)(h:ie Γ a):ie Γ' a:=ie.casesOn h λn z d=>have q:=e.z _ _ n z hn;.mk q.1 q.2 d
theorem Bd.go(b:Bd c f nm en m S Γ)(st:ah c f m S' Γ')(e:Le No Γ Γ'):Bd c f nm en m S' Γ':=⟨st,b.k,λx v k h1 h2 h3=>(b.R x v k h1 h2 h3).mono e (λ_ _ h=>h) λ_=>rfl,λx a h=>(b.Z x a h).mono e id⟩
theorem fZ(a:Str):seq a a=true:=nj _
theorem lP{a b:Str}(h:a≠b):seq a b=false:=Bool.eq_false_iff.mpr λq=>h (aW q)
theorem yZ{α:Type}{x y:Str}{v:α}(l:List (Str×α)):br y (i5 x v l)=cond (seq x y) (some v) (br y l):=@List.rec (Str×α) (λl=>br y (i5 x v l)=cond (seq x y) (some v) (br y l)) rfl (λp l ih=>by
 show br y (cond (seq p.1 x) ((p.1,v)::l) (p::i5 x v l))=cond (seq x y) (some v) (cond (seq p.1 y) (some p.2) (br y l))
 cases h:seq p.1 x with
 |true=>
  rw[← aW h]
  show cond (seq p.1 y) (some v) (br y l)=_
  cases seq p.1 y <;> rfl
 |false=>
  show cond (seq p.1 y) (some p.2) (br y (i5 x v l))=_
  rw[ih]
  cases h1:seq p.1 y with
  |false=>rfl
  |true=>cases h2:seq x y with
   |false=>rfl
   |true=>rw[aW h1,aW h2,fZ] at h;exact nomatch h) l
theorem iT(k:D8 f nm){x:Str}{kk:NameKind}(h:br x nm=some kk):(x==("__debug__":Str))=false:=beq_eq_false_iff_ne.mpr λe=>by subst e;exact nomatch k.dbg.symm.trans h
theorem ur(b:Bd c f nm en m S Γ)(h:c5 c f Γ m n x k)(hk:f.env.kindOf n=some k)(q:K x S)(h':cq c f m Γ K Q):wpAny c.M Ar (loadName f.env n) Q E (c.st Γ):=match k,h,hk with
 |_,.loc e h,hk=>wpAny_loadName_local b.k.kind hk b.F.ns e (h'.here b.1 q h)
 |_,.cel l n z d h,hk=>wpAny_loadName_cell b.k.kind hk l ⟨_,b.1.get n,d⟩ (h'.here b.1 q h)
theorem oe{p:Pos}(b:Bd c f nm en m S Γ)(h:c5 c f Γ m n x k)(hk:f.env.kindOf n=some k)(hd:(n==("__debug__":Str))=false)(q:K x S)(h':cq c f m Γ K Q):wpAny c.M Ar (eval (.Name n p) f.env) Q E (c.st Γ):=wpAny_Name (ur b h hk q h') hd
theorem oK{p:Pos}(hG:FX c)(b:Bd c f nm en m S Γ)(e:jB nm en n=some x)(q:K x S)(h:cq c f m Γ K Q):wpAny c.M Ar (eval (.Name n p) f.env) Q E (c.st Γ):=
 ad e λk e1 e2=>match k,e1,e2 with
  | .local,e1,e2=>oe b (b.R n x _ e2 e1 rfl) (b.k.ks n _ e1) (iT b.k e1) q h
  | .cell,e1,e2=>oe b (b.R n x _ e2 e1 rfl) (b.k.ks n _ e1) (iT b.k e1) q h
  | .free,e1,e2=>oe b (b.R n x _ e2 e1 rfl) (b.k.ks n _ e1) (iT b.k e1) q h
  | .globalImplicit,e1,e2=>aH e2 λa e2 e3=>(hG n a e2).elim λv g=>by
    subst e3
    have q:=h.here b.1 q (g.r Γ)
    rcases g.h with g |⟨g1,g2,g3⟩
    ·exact Calls.Name_function_global b.k.kind (b.k.ks n _ e1) (Calls.loadGlobal_global (b.k.glob.symm▸b.T.g.keeps b.F.keep) (mg_of b.I b.T.g g) q) (iT b.k e1)
    ·exact Calls.Name_function_global b.k.kind (b.k.ks n _ e1) (Calls.loadGlobal_builtin (b.k.glob.symm▸b.T.g.keeps b.F.keep) (mg_none_of b.I b.T.g g1) (b.k.bi.symm▸b.T.b.keeps b.F.keep) ((b.T.builtins n g3).trans g2) q) (iT b.k e1)
  | .globalExplicit,_,e2=>nn e2
theorem lA(h:wX nm n=true)(k:∀k,br n nm=some k→(k=.local∨k=.cell)→C):C:=by
 unfold wX at h
 cases e:br n nm with
 |none=>rw[e] at h;exact nomatch h
 |some kk=>rw[e] at h;cases kk <;> first |exact k _ e (.inl rfl) |exact k _ e (.inr rfl) |exact nomatch h
theorem ue{kx:NameKind}(b:Bd c f nm en m S Γ)(hk:br n nm=some kx)(h1:c5 c f Γ' m' n x (kn kx))(h2:∀y v k,y≠n→c5 c f Γ m y v k→c5 c f Γ' m' y v k):∀y v k,br y (i5 n x en)=some v→br y nm=some k→wJ k=true→c5 c f Γ' m' y v (kn k):=λy v k e e1 e2=>by
 rw[yZ] at e
 by_cases q:n=y
 ·subst q
  rw[fZ] at e
  cases hk.symm.trans e1
  exact Wz e▸h1
 ·rw[lP q] at e
  exact h2 y v _ (λe=>q e.symm) (b.R y v k e e1 e2)
theorem mH{K:KN}{Q:Unit→Shared→Prop}(b:Bd c f nm en m S Γ)(hx:Xv c Γ x v)(q:cu nm n x en λen=>K en S)(h:ge c f nm Γ K (Q ())):wpAny c.M Ar (storeName f.env n v) Q E (c.st Γ):=
 bC q λhs q=>lA hs λk e hk=>by
  rcases hk with rfl |rfl
  ·refine wpAny_storeName_local (b.k.ks n _ e) b.F.ns (λh' hn hs=>?_) (by rw[b.k.kind];rfl)
   have s:=b.1.still (tk:=Γ.tk+1) (b.F.set hn hs) (b.N.set hs)
   exact h _ _ _ _ q ⟨s.1,b.k,ue b e (.loc (if_pos rfl) (hx.mono s.2)) λy v k hy r=>r.mono s.2 (λ_ _ h=>h) λ_=>if_neg hy,λx a h=>(b.Z x a h).mono s.2 id⟩ s.2.no
  ·obtain⟨a,l⟩:=b.k.ce n e
   obtain⟨hm,z,d⟩:=b.Z n a l
   rename_i o v₀
   unfold storeName
   simp only[b.k.ks n _ e,kn,b.k.kind]
   refine WT (wpAny_cellOf l ?_)
   unfold cellSet
   refine WT (wpAny_load (b.1.get hm) ?_)
   rw[d]
   refine wpAny_update (b.1.get hm) ?_
   have hs:Heap.SameBut a Γ.h (Γ.h.update a λo=>{o with data:=.cell (some v)}):=Heap.SameBut.update ..
   have ho':(Γ.h.update a λo=>{o with data:=.cell (some v)}).get? a=some {o with data:=.cell (some v)}:=Heap.get?_update_self _ (b.1.get hm) rfl
   obtain⟨n',u⟩:=ja {o with data:=.cell (some v)} b.once hm
   have hN:=b.N _ hm
   have s:=b.1.zput (tk:=Γ.tk) hm z u (b.F.change hs hN.2.1 hN.2.2) (ji u b.N hs ho')
   refine h _ _ _ _ q ⟨s.1,b.k,ue b e (.cel l s.2.2 z rfl (hx.mono s.2.1)) λy w k hy r=>r.mono s.2.1 (λa' l' e'=>hy (b.k.cinj y n a (e'▸l') l)) λ_=>rfl,λy a' hy=>?_⟩ (s.2.1.to λa' (e':a'=a)=>⟨n,e'▸l⟩)
   by_cases q:a'=a
   ·subst q;exact .mk s.2.2 z rfl
   ·exact(b.Z y a' hy).mono s.2.1 q
def vw(kind:String)(T:Value)(k:Nat)(o:Obj):Prop:=o.cls=.type kind∧o.data=.fields #[T,.int k 0]
abbrev Vb(k n:Nat):Obj:={cls:=.type "range_iterator",dict:=none,data:=.fields #[rawInt k,rawInt ((n - k:Nat):Int),rawInt 1],slots:=#[]}
inductive It(c:Cx)(Γ:Gh)(I:Addr)(k:Nat):X→Prop
 |range {i:Int} (n:(I,Vb k i.toNat)∈Γ.news):It c Γ I k (.a (.int i))
 |tup {l:List A} {o:Obj} {t:Value} (n:(I,o)∈Γ.news) (i:vw "tuple_iterator" t k o) (h:Av c Γ (.tup l) t):It c Γ I k (.a (.tup l))
 |list {x:X} {o:Obj} {b:Addr} (n:(I,o)∈Γ.news) (i:vw "list_iterator" (.ref b) k o) (h:Xv c Γ x (.ref b)) (u:uI x=none) (u':uT x=none):It c Γ I k x
structure nS(c:Cx)(Γ:Gh)(I:Addr)(k:Nat)(x:X):Prop where
 i:It c Γ I k x
 z:Γ.o I=.z
variable{I:Addr}{k:Nat}{l:List A}{o:Obj}
theorem nS.mono(e:Le P Γ Γ')(hn:¬P I)(h:nS c Γ I k x):nS c Γ' I k x:=match x,h with
 |_,⟨.range n,z⟩=>have q:=e.z _ _ n z hn;⟨.range q.1,q.2⟩
 |_,⟨.tup n i h,z⟩=>have q:=e.z _ _ n z hn;⟨.tup q.1 i (Av.mono e.1 _ _ h),q.2⟩
 |_,⟨.list n i h u u',z⟩=>have q:=e.z _ _ n z hn;⟨.list q.1 i (h.mono e) u u',q.2⟩
theorem dS(n:Nat):∀i k,(cB n i)[k]?=cond (Nat.blt k n) (some (.int ((i+k:Nat):Int))) none:=@Nat.rec (λn=>∀i k,(cB n i)[k]?=cond (Nat.blt k n) (some (.int ((i+k:Nat):Int))) none) (λi k=>rfl)
 (λn ih i k=>@Nat.casesOn (λk=>(cB (n+1) i)[k]?=cond (Nat.blt k (n+1)) (some (.int ((i+k:Nat):Int))) none) k rfl λk=>(ih (i+1) k).trans (by rw[Nat.add_right_comm i 1 k];rfl)) n
theorem ga(st:ah c f m S Γ)(hm:(I,o)∈Γ.news)(hz:Γ.o I=.z)(hs:Heap.SameBut I Γ.h h')(ho':h'.get? I=some o')(h:∀Γ',ah c f m S Γ'→Le (λb=>b=I) Γ Γ'→(I,o')∈Γ'.news→Γ'.o I=.z→c.st Γ'={c.s₀ with heap:=h',toks:=tk}→C):C:=
 (ja o' st.once hm).elim λn' u=>have q:=st.N _ hm;have s:=st.zput (tk:=tk) hm hz u (st.F.change hs q.2.1 q.2.2) (ji u st.N hs ho');h _ s.1 s.2.1 s.2.2 hz rfl
theorem Vy{k n:Nat}(h:k<n):0<((n - k:Nat):Int):=Int.ofNat_lt.mpr (Nat.sub_pos_of_lt h)
theorem VA{k n:Nat}(h:k<n):((n - k:Nat):Int) - 1=((n - (k+1):Nat):Int):=by
 rw[show n - k=n - (k+1)+1 from(Nat.succ_pred_eq_of_pos (Nat.sub_pos_of_lt h)).symm,Int.natCast_add]
 exact Int.add_sub_cancel _ _
theorem VR{k n:Nat}(h:¬k<n):((n - k:Nat):Int)≤0:=Int.le_of_eq (congrArg Int.ofNat (Nat.sub_eq_zero_of_le (Nat.le_of_not_lt h)))
theorem mI{vs:List Value}(r:aG c Γ l vs)(h:l[k]?=none):vs.toArray[k]?=none:=(List.getElem?_toArray ..).trans (List.getElem?_eq_none (r.len▸List.getElem?_eq_none_iff.mp h))
theorem w2{Q:Option Value→Shared→Prop}(hh:Ar.handled=none)(st:ah c f m S Γ)(it:nS c Γ I k x)(e:bU S x=some l)
  (h1:∀z,l[k]?=some z→∀Γ' v',ah c f m S Γ'→Le (λb=>b=I) Γ Γ'→nS c Γ' I (k+1) x→Av c Γ' z v'→Q (some v') (c.st Γ')) (h2:l[k]?=none→∀Γ',ah c f m S Γ'→Le (λb=>b=I) Γ Γ'→Q none (c.st Γ')):wpAny c.M Ar (pyNext (.ref I)) Q E (c.st Γ):=by
 obtain⟨it,hz⟩:=it
 cases it with
 |range n=>
  rename_i i
  have e:l=cB i.toNat 0:=(Wz e).symm
  have hg:=dS i.toNat 0 k
  rw[← e] at hg
  have hit:IsRangeIter Γ.h I (k:Int) ((i.toNat - k:Nat):Int) 1:=st.get n
  cases hb:Nat.blt k i.toNat with
  |true=>
   have hk:k<i.toNat:=Wu hb
   rw[hb] at hg
   refine wpAny_pyNext_range_item hit (Vy hk) λh' hit' hs=>?_
   have e2:=VA hk
   have hit2:IsRangeIter h' I (k+1) (((i.toNat - k:Nat):Int) - 1) 1:=hit'
   rw[e2] at hit2
   refine ga (tk:=_) st n hz hs hit2 λΓ' st' le m' z' eq=>eq▸h1 _ hg Γ' _ st' le ⟨.range m',z'⟩ ?_
   rw[Nat.zero_add];exact gu.mk _
  |false=>
   have hk:¬k<i.toNat:=λh=>ff (hb.symm.trans (Wx h))
   rw[hb] at hg
   refine wpAny_pyNext_range_end hh hit (VR hk) λh' he=>?_
   have s:=st.zdrop (tk:=Γ.tk) n hz he
   exact h2 hg _ s.1 s.2
 |tup n i h=>
  rename_i l' o t
  have e:l'=l:=Wz e
  subst e
  refine bZ (C:=λt=>vw "tuple_iterator" t k o→Av c Γ (.tup l') t→wpAny c.M Ar (pyNext (.ref I)) Q E (c.st Γ)) st h (λa vs g r _ i h=>?_) i h
  have hit:(c.st Γ).heap.IsTupleIter I a k:=⟨o,st.get n,i.1,i.2⟩
  have hl:(c.st Γ).heap.IsTuple a vs.toArray:=⟨_,g,rfl,_,rfl⟩
  cases hx:l'[k]? with
  |none=>
   refine wpAny_pyNext_tuple_end hh hit hl (mI r hx) λh' he=>?_
   have s:=st.zdrop (tk:=Γ.tk) n hz he
   exact h2 hx _ s.1 s.2
  |some z=>
   obtain⟨v,hv,hr⟩:=r.get hx
   refine wpAny_pyNext_tuple_item hit hl (f7 hv) λh' hit' hs=>?_
   obtain⟨o',ho',c',d'⟩:=hit'
   exact ga (tk:=Γ.tk) st n hz hs ho' λΓ' st' le m' z' eq=>eq▸h1 _ hx Γ' _ st' le ⟨.tup m' ⟨c',d'⟩ (Av.mono le.1 _ _ h),z'⟩ (Av.mono le.1 _ _ hr)
 |list n i h u u'=>
  rename_i o t
  have e:alt (uI x) _ (alt (uT x) _ (ba (au S x)))=some l:=e
  rw[u,u'] at e
  refine dH (C:=λt=>vw "list_iterator" t k o→Xv c Γ x t→wpAny c.M Ar (pyNext (.ref I)) Q E (c.st Γ)) (aU st h e) (λa vs g r _ i h=>?_) i h
  have hit:(c.st Γ).heap.IsListIter I a k:=⟨o,st.get n,i.1,i.2⟩
  cases hx:l[k]? with
  |none=>
   refine wpAny_pyNext_list_end hh hit g (mI r hx) λh' he=>?_
   have s:=st.zdrop (tk:=Γ.tk) n hz he
   exact h2 hx _ s.1 s.2
  |some z=>
   obtain⟨v,hv,hr⟩:=r.get hx
   refine wpAny_pyNext_list_item hit g (f7 hv) λh' hit' hs=>?_
   obtain⟨o',ho',c',d'⟩:=hit'
   exact ga (tk:=Γ.tk) st n hz hs ho' λΓ' st' le m' z' eq=>eq▸h1 _ hx Γ' _ st' le ⟨.list m' ⟨c',d'⟩ (h.mono le) u u',z'⟩ (Av.mono le.1 _ _ hr)
def Fz(Γ:Gh)(I:Addr):Prop:=∀ob,(I,ob)∈Γ.news→Γ.o I=.z→False
section
variable{Γ₀:Gh}{k:A}{w:Ow}{sk:SK}
theorem eG(hn:∀p∈Γ.news,p.1<a):Fz Γ a:=λob m _=>Nat.lt_irrefl a (hn _ m)
theorem Le.cut(a:Le No Γ₀ Γ)(b:Le P Γ Γ')(h:∀x,P x→Fz Γ₀ x):Le No Γ₀ Γ':=⟨a.1.trans b.1,λx ob m z _=>have q:=a.z x ob m z id;b.z x ob q.1 q.2 λp=>h x p ob m z,λj k h=>have q:=a.l j k h;have r:=b.l j k q.1;⟨r.1,r.2.trans q.2⟩⟩
theorem kC(hn:Fz Γ a):∀x,x=a→Fz Γ x:=λx e=>e▸hn
def Gh.own(Γ:Gh)(a:Addr)(w:Ow):Gh:=⟨Γ.h,Γ.tk,Γ.news,λb=>if b=a then w else Γ.o b,Γ.at_,Γ.live⟩
theorem ah.own(st:ah c f m S Γ)(hz:Γ.o a=.z)(w:Ow):ah c f m S (Γ.own a w)∧Le (λb=>b=a) Γ (Γ.own a w)∧(Γ.own a w).o a=w:=by
 have k:∀b,Γ.o b≠.z→(Γ.own a w).o b=Γ.o b:=λb h=>if_neg λ(e:b=a)=>h (e▸hz)
 have kf:∀b,iB (Γ.o b)=true→Γ.o b≠.z:=λb h e=>by rw[e] at h;cases h
 have e:Lf Γ (Γ.own a w):=⟨λb x mb hf=>⟨mb,(k b (kf b hf)).symm▸hf⟩,λ_ _ h=>⟨h,rfl⟩⟩
 exact⟨st.gen (D:=λw=>w=.z) st.F st.N st.once (λb x mb h=>⟨mb,k b h⟩) e (λw ce h=>.inr ⟨h,(λe=>by rw[e] at h;cases h),(λe=>nomatch e),rfl⟩) st.V,
  ⟨e,λb x mb hz' n=>⟨mb,(if_neg n).trans hz'⟩,λ_ _ h=>⟨h,rfl⟩⟩,if_pos rfl⟩
theorem Hs(st:ah c f m S Γ)(hm:(a,ob)∈Γ.news)(hz:Γ.o a=.z)(e0:Le No Γ₀ Γ)(hn:Fz Γ₀ a)(cv:∀Γ' w,Lf Γ Γ'→(a,ob)∈Γ'.news→Γ'.o a=w→Cv c Γ' w a ce)(q:ia sk ce S K)(p:cq c f m Γ₀ K Q):Q (.ref a) (c.st Γ):=by
 cases sk with
 |loc=>
  unfold ia at q
  cases hS:S.loc with
  |nil=>rw[hS] at q;exact q.elim
  |cons fr r=>
   rw[hS] at q
   have⟨c1,c2,c0⟩:=oV (ce:=ce) hS
   have s1:=st.own hz (.l 0 fr.length)
   have s2:=s1.1.name (w:=.l 0 fr.length) rfl c0 c1 c2 (cv _ _ s1.2.1.1 hm s1.2.2)
   have r:=p (.ref a) _ _ _ q s2.1 ((e0.cut s1.2.1 (kC hn)).trans s2.2.1) ⟨congrArg Value.ref s2.2.2.symm,.inl rfl⟩
   exact r
 |frz=>
  have s1:=st.own hz .f
  have r:=p (.ref a) _ _ _ q s1.1 (e0.cut s1.2.1 (kC hn)) (oy s1.1 rfl (cv _ _ s1.2.1.1 hm s1.2.2))
  exact r
 |glob l=>
  refine a7 q (λhl q=>?_) λ_ q=>q.elim
  have⟨c1,c2,c0⟩:=oY (S:=S) (ce:=ce) hl
  have s1:=st.own hz (.g l (S.get l).length)
  have s2:=s1.1.name (w:=.g l (S.get l).length) rfl c0 c1 c2 (cv _ _ s1.2.1.1 hm s1.2.2)
  have r:=p (.ref a) _ _ _ q s2.1 ((e0.cut s1.2.1 (kC hn)).trans s2.2.1) ?_
  exact r
  have:=mG.mk (Γ:=(Γ.own a (.g l (S.get l).length)).name (.g l (S.get l).length) a) (l:=l) (i:=(S.get l).length) (.inl rfl)
  rw[s2.2.2] at this
  exact this
structure Zl(c:Cx)(Γ:Gh)(a:Addr)(l:List A)(vs:List Value)(ep:Nat):Prop where
 m:(a,b5 vs ep)∈Γ.news
 z:Γ.o a=.z
 r:aG c Γ l vs
structure Zd(c:Cx)(Γ:Gh)(a:Addr)(l:List (A×A))(vs:List DictEntry)(ep:Nat):Prop where
 m:(a,dictOf vs ep)∈Γ.news
 z:Γ.o a=.z
 r:cW c Γ l vs
 o:eL l
theorem Zl.mono(e:Le P Γ Γ')(hn:¬P a)(h:Zl c Γ a l vs ep):Zl c Γ' a l vs ep:=have q:=e.z _ _ h.m h.z hn;⟨q.1,q.2,aG.mono e.1 _ _ h.r⟩
theorem Zd.mono(e:Le P Γ Γ')(hn:¬P a)(h:Zd c Γ a es ds ep):Zd c Γ' a es ds ep:=have q:=e.z _ _ h.m h.z hn;⟨q.1,q.2,cW.mono e.1 _ _ h.r,h.o⟩
theorem sQ(st:ah c f m S Γ)(h:Zl c Γ a l vs ep)(hn:l.length≤bM)(hu:Av c Γ z u)(k:∀Γ' vs' ep',ah c f m S Γ'→Le (λb=>b=a) Γ Γ'→Zl c Γ' a (l++[z]) vs' ep'→Q .none (c.st Γ')):wpAny c.M Ar (call (.builtin "list.append") [.ref a,u]) Q E (c.st Γ):=
 append_at (st.get h.m) (λh' hs hg=>ga (o':=b5 (vs++[u]) (ep+1)) (tk:=Γ.tk) st h.m h.z hs (hg.trans (by rw[List.push_toArray])) λΓ' st' le m' z' eq=>eq▸k Γ' _ _ st' le ⟨m',z',aG.append (aG.mono le.1 _ _ h.r) (.one (Av.mono le.1 _ _ hu))⟩) (h7 (bY h.r▸hn))
theorem Hn{Q:Unit→Shared→Prop}(st:ah c f m S Γ)(hA:aD Ar)(h:Zd c Γ a es ds ep)(hl:es.length≤bM)(hv:Av c Γ k v)(hz:Av c Γ z u)(e:oB k z es=some es')(kk:∀Γ' vs' ep',ah c f m S Γ'→Le (λb=>b=a) Γ Γ'→Zd c Γ' a es' vs' ep'→Q () (c.st Γ')):wpAny c.M Ar (dictSet a v u) Q E (c.st Γ):=
 jy st hA (st.get h.m) h.r h.o hl hv hz e λh' tk ds' ep' hs hg rd o'=>ga (o':=dictOf ds' ep') (tk:=tk) st h.m h.z hs hg λΓ' st' le m' z' eq=>eq▸kk Γ' _ _ st' le ⟨m',z',cW.mono le.1 _ _ rd,o'⟩
end
def Rm(A:Around)(u:Nat):Prop:=A.handled=none∧A.depth+2*u+4≤recursionLimit∧A.units+10*u+100≤cLine
structure Wd(c:Cx):Prop where
 ok:Oz c
 gl:FX c
 kp:∀a,kX a uX=true→keepIn c.K (.ref a)=true
structure aY(c:Cx)(u:Nat)(nm:Nm)(W:WP)(src:Expr):Prop where
 e:∀{Ar f m en S Γ K Q E},Rm Ar u→W.e en S K→Bd c f nm en m S Γ→cq c f m Γ K Q→wpAny c.M Ar (eval src f.env) Q E (c.st Γ)
 t:∀{Ar f m en S Γ P P' Q E},Rm Ar u→W.t en S P P'→Bd c f nm en m S Γ→jW c f m Γ P (Q true)→jW c f m Γ P' (Q false)→wpAny c.M Ar (isTrue src f.env (eval src f.env)) Q E (c.st Γ)
 s:∀{en S K},W.e en S K→pl src=true
noncomputable def b4(c:Cx)(Γ:Gh)(xs:List X):List Value→Prop:=@List.rec X (λ_=>List Value→Prop) (λvs=>vs=[]) (λx _ ih=>az (Xv c Γ x) ih) xs
variable{u:Nat}{Γ₀:Gh}{k:A}{W W' W'':WP}{src e1 e2 e3:Expr}{p:Pos}
theorem Rm.r3(h:Rm Ar u):Ar.units+1+1+1+60<cLine:=Wh (Wh (Nat.add_lt_add_left (by decide:1+1+1+60<100) _) (Wl (Wo _ _) _)) h.2.2
theorem Rm.roomy1(h:Rm Ar u):aD Ar.in1:=Wg (Wl (Wo _ 2) 60) h.r3
theorem Rm.roomy2(h:Rm Ar u):aD Ar.in1.in1:=Wg (Wl (Nat.le_succ _) 60) h.r3
theorem Rm.roomy(h:Rm Ar u):aD Ar:=Ap h.roomy1
theorem aY.bad:aY c u nm .bad src:=⟨λ_ h=>h.elim,λ_ h=>h.elim,λh=>h.elim⟩
theorem ru{Q:Bool→Shared→Prop}{P P':AS→Prop}(st:ah c f m S Γ)(hx:Xv c Γ x v)(q:sX x S (P S) (P' S))(h:jW c f m Γ P (Q true))(h':jW c f m Γ P' (Q false)):wpAny c.M Ar (truthy v) Q E (c.st Γ):=
 aa q λb e q=>IK st hx e λtk=>have s:=st.tok tk;match b,q with |true,q=>h _ _ q s.1 s.2 |false,q=>h' _ _ q s.1 s.2
theorem aY.of{e:En→AS→KX→Prop}(hp:∀env whole,isTrue src env whole=(do let v ← whole;standAt src.pos;holding [v] (truthy v)))(hs:pl src=true)
  (he:∀{Ar f m en S Γ K Q E},Rm Ar u→e en S K→Bd c f nm en m S Γ→cq c f m Γ K Q→wpAny c.M Ar (eval src f.env) Q E (c.st Γ)):aY c u nm (.of e) src:=
 ⟨he,λhA q b h h'=>by rw[hp];exact WT (he hA q b λv Γ1 S1 x1 q1 st1 le1 r1=>WT (wpAny_standAt (wpAny_holding (ru st1 r1 q1 (h.to le1) (h'.to le1))))),λ_=>hs⟩
theorem um{k:Const}{kd:Nat}:aY c u nm (.of λ_ S K=>opt (wN k) λx=>K (.a x) S) (.Constant k kd p):=.of (λ_ _=>rfl) rfl λhA q0 b h=>aa q0 λa e q=>by
 clear q0
 cases k with
 |none=>cases e;exact WU (h.here b.1 q rfl)
 |bool i=>cases e;exact WU (h.here b.1 q rfl)
 |int i=>cases e;exact wpAny_Constant_int (h.int b.1 q)
 |str x=>exact aQ e λe1 e2=>have e1:=WB e1;Calls.Constant_str (h.tok (x:=.a (.str x)) b.1 (Wz e2▸q) λ_ _=>gq.mk _ ⟨e1.1,ble e1.2⟩)
 |_=>exact nn e
theorem zr(hW:Wd c):aY c u nm (.of λenv S K=>opt (jB nm env n) λx=>K x S) (.Name n p):=.of (λ_ _=>rfl) rfl λhA q b h=>aa q λx e q=>oK hW.gl b e q h
theorem Hh{o:Operator}(h1:aY c u nm W e1)(h2:aY c u nm W' e2){lb:Nat}:aY c u nm (.of λenv S K=>W.e env S λx S=>W'.e env S λy S=>G7 lb o x y S K) (.BinOp e1 o e2 p):=.of (λ_ _=>rfl) rfl λhA q b h=>by
 rw[eval_BinOp]
 exact WT (h1.e hA q b λv1 Γ1 S1 x1 q1 st1 le1 r1=>WT (wpAny_holding (h2.e hA q1 (b.go st1 le1) λv2 Γ2 S2 x2 q2 st2 le2 r2=>WT (wpAny_standAt (wpAny_operating (J6 st2 (r1.mono le2) r2 q2 (h.to (le1.trans le2))))))))
theorem GI(h1:aY c u nm W e1):aY c u nm (Jy W) (.UnaryOp .Not e1 p):=
 ⟨λ{Ar f m en S Γ K Q E} hA q b h=>UnaryOp_ (h1.e hA q b λv1 Γ1 S1 x1 q1 st1 le1 r1=>not_of (ru (P:=λS=>K (.a (.bool false)) S) (P':=λS=>K (.a (.bool true)) S) (Q:=λt=>Q (.bool !t)) st1 r1 q1 (λΓ2 S2 k st2 le2=>h _ _ _ _ k st2 (le1.trans le2) rfl) (λΓ2 S2 k st2 le2=>h _ _ _ _ k st2 (le1.trans le2) rfl))),
  λ{Ar f m en S Γ P P' Q E} hA q b h h'=>WT (h1.t (Q:=λt=>wpAny c.M Ar (pure !t) Q E) hA q b (λΓ2 S2 k st2 le2=>WU (h' _ _ k st2 le2)) (λΓ2 S2 k st2 le2=>WU (h _ _ k st2 le2))),λ_=>rfl⟩
theorem Eo(h1:aY c u nm W e1):aY c u nm (.of λenv S K=>W.e env S λx S=>opt (uI x) λi=>K (.a (.int (-i.1))) S) (.UnaryOp .USub e1 p):=.of (λ_ _=>rfl) rfl λ{Ar f m en S Γ K Q E} hA q b h=>
 UnaryOp_ (h1.e hA q b λv1 Γ1 S1 x1 q1 st1 le1 r1=>aa q1 λi e q1=>aS (C:=λv=>wpAny c.M Ar _ Q E (c.st Γ1)) (bt r1 i.2) λt=>neg_int ((h.to le1).int st1 q1))
theorem NV(h1:aY c u nm W e1)(h2:aY c u nm W' e2)(h3:aY c u nm W'' e3):aY c u nm ⟨λenv S K=>W.t env S (λS=>W'.e env S K) (λS=>W''.e env S K),λenv S P Q=>W.t env S (λS=>W'.t env S P Q) (λS=>W''.t env S P Q)⟩ (.IfExp e1 e2 e3 p):=
 ⟨λ{Ar f m en S Γ K Q E} hA q b h=>WT (h1.t (Q:=λt=>wpAny c.M Ar (if t=true then eval e2 f.env else eval e3 f.env) Q E) hA q b (λΓ2 S2 k st2 le2=>h2.e hA k (b.go st2 le2) (h.to le2)) (λΓ2 S2 k st2 le2=>h3.e hA k (b.go st2 le2) (h.to le2))),
  λ{Ar f m en S Γ P P' Q E} hA q b h h'=>WT (h1.t (Q:=λt=>wpAny c.M Ar (if t=true then isTrue e2 f.env (eval e2 f.env) else isTrue e3 f.env (eval e3 f.env)) Q E) hA q b (λΓ2 S2 k st2 le2=>h2.t hA k (b.go st2 le2) (h.to le2) (h'.to le2)) (λΓ2 S2 k st2 le2=>h3.t hA k (b.go st2 le2) (h.to le2) (h'.to le2))),λ_=>rfl⟩
section
variable{v':Value}{y:X}{F:Expr→WP}{o o':CmpOp}{lb:Nat}{es:List Expr}{xs:List X}
theorem gb(h:pl src=true)(r:List Expr)(env:Env):starEach (src::r) env=(false,eval src env)::starEach r env:=by cases src <;> first |rfl |exact nomatch h
theorem iJ(h:pl src=true)(op:CmpOp):behindInMarks op src=false:=by cases src <;> first |rfl |exact nomatch h
theorem zN{op:BoolOp}(ih:∀e,aY c u nm (F e) e)(l:List Expr):aY c u nm (me (xm op) F l) (.BoolOp op l p):=@List.rec Expr (λl=>aY c u nm (me (xm op) F l) (.BoolOp op l p)) .bad (λe r hr=>match r,hr with
 |[],_=>⟨λhA q b h=>(ih e).e hA q b h,λ{Ar f m en S Γ P P' Q E} hA q b h h'=>WT ((ih e).t (Q:=λt s=>wpAny c.M Ar (match op,t with | .And,false=>pure false | .Or,true=>pure true |_,_=>pure (op==.And)) Q E s) hA q b (λΓ2 S2 k st2 le2=>by cases op <;> exact WU (h _ _ k st2 le2)) (λΓ2 S2 k st2 le2=>by cases op <;> exact WU (h' _ _ k st2 le2))),λ_=>rfl⟩
 |e'::r,hr=>match op,hr with
  | .And,hr=>⟨λ{Ar f m en S Γ K Q E} hA q b h=>WT ((ih e).e hA q b λv1 Γ1 S1 x1 q1 st1 le1 r1=>WT (wpAny_standAt (WT (wpAny_holding (ru (P:=λS=>(me true F (e'::r)).e en S K) (P':=λS=>K x1 S) st1 r1 q1 (λΓ2 S2 k st2 le2=>hr.e hA k (b.go st2 (le1.trans le2)) (h.to (le1.trans le2))) λΓ2 S2 k st2 le2=>WU (h _ _ _ _ k st2 (le1.trans le2) (r1.mono le2))))))),
    λ{Ar f m en S Γ P P' Q E} hA q b h h'=>WT ((ih e).t (Q:=λt s=>wpAny c.M Ar (match BoolOp.And,t with | .And,false=>pure false | .Or,true=>pure true |_,_=>allTrue .And (e'::r) f.env) Q E s) hA q b (λΓ2 S2 k st2 le2=>hr.t hA k (b.go st2 le2) (h.to le2) (h'.to le2)) λΓ2 S2 k st2 le2=>WU (h' _ _ k st2 le2)),λ_=>rfl⟩
  | .Or,hr=>⟨λ{Ar f m en S Γ K Q E} hA q b h=>WT ((ih e).e hA q b λv1 Γ1 S1 x1 q1 st1 le1 r1=>WT (wpAny_standAt (WT (wpAny_holding (ru (P:=λS=>K x1 S) (P':=λS=>(me false F (e'::r)).e en S K) st1 r1 q1 (λΓ2 S2 k st2 le2=>WU (h _ _ _ _ k st2 (le1.trans le2) (r1.mono le2))) λΓ2 S2 k st2 le2=>hr.e hA k (b.go st2 (le1.trans le2)) (h.to (le1.trans le2))))))),
    λ{Ar f m en S Γ P P' Q E} hA q b h h'=>WT ((ih e).t (Q:=λt s=>wpAny c.M Ar (match BoolOp.Or,t with | .And,false=>pure false | .Or,true=>pure true |_,_=>allTrue .Or (e'::r) f.env) Q E s) hA q b (λΓ2 S2 k st2 le2=>WU (h _ _ k st2 le2)) λΓ2 S2 k st2 le2=>hr.t hA k (b.go st2 le2) (h.to le2) (h'.to le2)),λ_=>rfl⟩) l
theorem B6{Q:Bool→Shared→Prop}{KB:Bool→Prop}(hA:Rm Ar u)(st:ah c f m S Γ)(hx:Xv c Γ x v)(hy:Xv c Γ y v')(q:dE o x y S KB)(h:∀b tk,KB b→Q b (c.st (Γ.upd Γ.h tk Γ.news))):wpAny c.M Ar (compareOp o v v') (λw s=>wpAny c.M Ar (holding [w] (truthy w)) Q E s) E (c.st Γ):=
 mu st hA.roomy1 hx hy q λb tk k=>wpAny_holding (wpAny_truthy_bool (h b tk k))
theorem zK(h1:aY c u nm W e1)(h2:aY c u nm W' e2):aY c u nm ⟨λenv S K=>W.e env S λx S=>W'.e env S λy S=>dE o x y S λc=>K (.a (.bool c)) S,λenv S P Q=>W.e env S λx S=>W'.e env S λy S=>dE o x y S λc=>aw c (P S) (Q S)⟩ (.Compare e1 [o] [e2] p):=
 ⟨λ{Ar f m en S Γ K Q E} hA q b h=>by
  show wpAny _ _ (eval e1 f.env >>=λlv=>compareChain p lv [o] [markedBehindIn o e2 (eval e2 f.env)]) _ _ _
  refine WT (h1.e hA q b λv1 Γ1 S1 x1 q1 st1 le1 r1=>?_)
  rw[markedBehindIn_of_false (iJ (h2.s q1) _)]
  exact WT (wpAny_holding (h2.e hA q1 (b.go st1 le1) λv2 Γ2 S2 x2 q2 st2 le2 r2=>WT (wpAny_standAt (wpAny_operating (mu st2 hA.roomy1 (r1.mono le2) r2 q2 λb tk k=>(h.to (le1.trans le2)).tok (x:=.a (.bool b)) st2 k λ_ _=>rfl))))),
 λ{Ar f m en S Γ P P' Q E} hA q b h h'=>by
  show wpAny _ _ (eval e1 f.env >>=λlv=>testChain p lv [o] [markedBehindIn o e2 (eval e2 f.env)]) _ _ _
  refine WT (h1.e hA q b λv1 Γ1 S1 x1 q1 st1 le1 r1=>?_)
  rw[markedBehindIn_of_false (iJ (h2.s q1) _)]
  exact WT (wpAny_holding (h2.e hA q1 (b.go st1 le1) λv2 Γ2 S2 x2 q2 st2 le2 r2=>WT (wpAny_standAt (WT (wpAny_operating (B6 hA st2 (r1.mono le2) r2 q2 λb tk k=>have s:=st2.tok tk;have le:=(le1.trans le2).trans s.2;match b,k with |true,k=>h _ _ k s.1 le |false,k=>h' _ _ k s.1 le)))))),λ_=>rfl⟩
theorem Au(h1:aY c u nm W e1)(h2:aY c u nm W' e2)(h3:aY c u nm W'' e3):aY c u nm ⟨λenv S K=>W.e env S λx S=>W'.e env S λy S=>dE o x y S λd=>aw d (W''.e env S λz S=>dE o' y z S λd=>K (.a (.bool d)) S) (K (.a (.bool false)) S),
  λenv S P Q=>W.e env S λx S=>W'.e env S λy S=>dE o x y S λd=>aw d (W''.e env S λz S=>dE o' y z S λd=>aw d (P S) (Q S)) (Q S)⟩ (.Compare e1 [o,o'] [e2,e3] p):=
 ⟨λ{Ar f m en S Γ K Q E} hA q b h=>by
  show wpAny _ _ (eval e1 f.env >>=λlv=>compareChain p lv [o,o'] [eval e2 f.env,markedBehindIn o' e3 (eval e3 f.env)]) _ _ _
  refine WT (h1.e hA q b λv1 Γ1 S1 x1 q1 st1 le1 r1=>WT (wpAny_holding (h2.e hA q1 (b.go st1 le1) λv2 Γ2 S2 x2 q2 st2 le2 r2=>WT (wpAny_standAt (WT (wpAny_holding (mu st2 hA.roomy1 (r1.mono le2) r2 q2 λd tk k=>WT (wpAny_release (WT (wpAny_holding (wpAny_truthy_bool ?_)))))))))))
  have s:=st2.tok tk
  have le:=(le1.trans le2).trans s.2
  cases d with
  |false=>exact WU (h _ _ _ _ k s.1 le rfl)
  |true=>
   have k:W''.e _ _ _:=k
   rw[markedBehindIn_of_false (iJ (h3.s k) _)]
   exact WT (wpAny_holding (h3.e hA k (b.go s.1 le) λv3 Γ3 S3 x3 q3 st3 le3 r3=>WT (wpAny_standAt (wpAny_operating (mu st3 hA.roomy1 (r2.mono (s.2.trans le3)) r3 q3 λb tk k=>(h.to (le.trans le3)).tok (x:=.a (.bool b)) st3 k λ_ _=>rfl))))),
 λ{Ar f m en S Γ P P' Q E} hA q b h h'=>by
  show wpAny _ _ (eval e1 f.env >>=λlv=>testChain p lv [o,o'] [eval e2 f.env,markedBehindIn o' e3 (eval e3 f.env)]) _ _ _
  refine WT (h1.e hA q b λv1 Γ1 S1 x1 q1 st1 le1 r1=>WT (wpAny_holding (h2.e hA q1 (b.go st1 le1) λv2 Γ2 S2 x2 q2 st2 le2 r2=>WT (wpAny_standAt (WT (wpAny_holding (mu st2 hA.roomy1 (r1.mono le2) r2 q2 λd tk k=>WT (wpAny_release (WT (wpAny_holding (wpAny_truthy_bool ?_)))))))))))
  have s:=st2.tok tk
  have le:=(le1.trans le2).trans s.2
  cases d with
  |false=>exact WU (h' _ _ k s.1 le)
  |true=>
   have k:W''.e _ _ _:=k
   rw[markedBehindIn_of_false (iJ (h3.s k) _)]
   exact WT (wpAny_holding (h3.e hA k (b.go s.1 le) λv3 Γ3 S3 x3 q3 st3 le3 r3=>WT (wpAny_standAt (WT (wpAny_operating (B6 hA st3 (r2.mono (s.2.trans le3)) r3 q3 λb tk k=>have s:=st3.tok tk;have le:=(le.trans le3).trans s.2;match b,k with |true,k=>h _ _ k s.1 le |false,k=>h' _ _ k s.1 le)))))),λ_=>rfl⟩
theorem aY.of'{src':Expr}(e:src=src')(h:aY c u nm W src'):aY c u nm W src:=e▸h
theorem rj{α β γ:Type}(f:α→β→γ){a a':α}{b b':β}(h:a=a')(h':b=b'):f a b=f a' b':=h▸h'▸rfl
theorem lH{α:Type}{o:Option α}{g:α→WP}(h:∀a,aY c u nm (g a) src)(h':aY c u nm W src):aY c u nm (alt o g W) src:=@Option.rec α (λo=>aY c u nm (alt o g W) src) h' (λa=>h a) o
theorem EC{ops:List CmpOp}{rs:List Expr}(ih:∀e,aY c u nm (F e) e):aY c u nm (LG F e1 ops rs) (.Compare e1 ops rs p):=
 lH (λo=>lH (λr=>.of' (rj (λa b=>Expr.Compare e1 a b p) o.2 r.2) (zK (ih _) (ih _))) .bad) (lH (λo=>lH (λr=>.of' (rj (λa b=>Expr.Compare e1 a b p) o.2 r.2) (Au (ih _) (ih _) (ih _))) .bad) .bad)
end
section
variable{v':Value}{y:X}{p':Pos}{F:Expr→WP}{o o':CmpOp}{lb:Nat}{es:List Expr}{xs:List X}{lo hi:Option Expr}
theorem qb(hb:h8 e1=true){env:Env}:attributeBase e1 n env (eval e1 env)=eval e1 env:=by
 cases e1 with
 |Call g as kw p=>cases g with
  |Name x q=>cases as with
   |nil=>cases kw with
    |nil=>exact nomatch hb
    |cons _ _=>rfl
   |cons _ _=>rfl
  |_=>rfl
 |_=>rfl
theorem Bj(hW:Wd c)(h1:aY c u nm W e1):aY c u nm (.of λenv S K=>aw (h8 e1) (W.e env S λx S=>cC x n S K) False) (.Attribute e1 n p):=.of (λ_ _=>rfl) rfl λ{Ar f m en S Γ K Q E} hA q b h=>bC q λhb q=>by
 show wpAny _ _ (attributeBase e1 n f.env (eval e1 f.env) >>=λo=>standAt p.atName >>=λ_=>holding [o] (getAttr o n true) >>=λr=>letTemporaryGo e1 o r >>=λ_=>pure r) _ _ _
 rw[qb hb]
 exact WT (h1.e hA q b λv1 Γ1 S1 x1 q1 st1 le1 r1=>WT (wpAny_standAt (WT (wpAny_holding (Fg (K:=K) (Q:=λv s=>wpAny c.M Ar (letTemporaryGo e1 v1 v >>=λ_=>pure v) Q E s) hW.ok st1 r1 q1 λv2 Γ2 S2 x2 q2 st2 le2 r2=>WT (wpAny_letTemporaryGo (WU (h _ _ _ _ q2 st2 (le1.trans le2) r2))))))))
theorem xj{s:Shared}{value slice:Expr}{o i:Value}{T id:String}{ops:List Value}(hT:s.TypeIs o T)(hl:typeLookup (.type T) "__getitem__"=pure (some (.builtin id)))(h:wpAny c.M Ar (getItem o i) Q E s)(hs:subscripted slice false o i=operate ops (getItem o i)):wpAny c.M Ar (subscriptTail value slice o i) Q E s:=by
 unfold subscriptTail
 refine WT ?_
 rw[getitemInPython_of_ne hT.not_modules]
 refine WT (wpAny_specialOf hT hl ?_)
 have fin:wpAny c.M Ar (subscripted slice false o i) (λr s₃=>wpAny c.M Ar (letTemporaryGo value o r >>=λ_=>pure r) Q E s₃) E s:=by
  rw[hs]
  exact wpAny_operating (wpAny_mono h (λr s₃ h₃=>WT (wpAny_letTemporaryGo (WU h₃))) λ_ _ x=>x)
 first
  |exact WU (WT fin)
  |exact WT (WU (WT fin))
  |exact WT fin
theorem fX{s:Expr}{o i:Value}(h:cG s=false):subscripted s false o i=operate [o,i] (getItem o i):=by cases s <;> first |rfl |exact nomatch h
inductive Sb(s:Shared)(v:Value):Prop |mk {T id:String} (h:s.TypeIs v T) (l:typeLookup (.type T) "__getitem__"=pure (some (.builtin id))):Sb s v
theorem M5(h:RL c Γ l v):Sb (c.st Γ) v:=dH (C:=λv=>Sb (c.st Γ) v) h λa vs g _ _=>.mk g.typeIs slot_list_getitem.lookup
theorem yL{r:A}(st:ah c f m S Γ)(hx:Xv c Γ x v)(e:aM x k (au S x)=some r):Sb (c.st Γ) v:=
 aV e (λl _ _=>bZ (C:=λv=>Sb (c.st Γ) v) st (bt hx l.2) λa vs g _ _=>.mk (T:="tuple") ⟨_,g,rfl⟩ F.slot_tuple_getitem.lookup) λe=>aV e (λs _ _=>cy (C:=λv=>Sb (c.st Γ) v) (bt hx s.2) λt _=>.mk (T:="str") (typeIs_str _ _ _) F.slot_str_getitem.lookup) λe=>
  aV e (λl e1 _=>M5 (aU st hx e1)) λe=>ad e λes e1 _=>RD.casesOn (motive:=λv _=>Sb (c.st Γ) v) (c7 st hx e1) λg _ _=>.mk (T:="dict") ⟨_,g,rfl⟩ slot_dict_getitem.lookup
theorem FE(h1:aY c u nm W e1)(h2:aY c u nm W' e2)(hs:cG e2=false){Z:En→AS→KX→Prop}:aY c u nm (.of λenv S K=>W.e env S λx S=>cond (cG e2) (Z env S K) (W'.e env S λy S=>ao x y S K)) (.Subscript e1 e2 p):=.of (λ_ _=>rfl) rfl λ{Ar f m en S Γ K Q E} hA q b h=>
 Subscript_ (h1.e hA q b λv1 Γ1 S1 x1 q1 st1 le1 r1=>h2.e hA (K:=λy S=>ao x1 y S K) (by rw[hs] at q1;exact q1) (b.go st1 le1) λv2 Γ2 S2 x2 q2 st2 le2 r2=>
  have sb:Sb (c.st Γ2) v1:=aa q2 λk _ q=>aa q λr e _=>yL st2 (r1.mono le2) e
  Sb.casesOn sb λhT hl=>xj hT hl (Et st2 hA.roomy1 (r1.mono le2) r2 q2 (h.to (le1.trans le2))) (fX hs))
theorem sJ(vs:List Value){k:Nat}:slicePick vs.toArray none (some (.ofNat k)) none=(vs.take k).toArray:=by
 have e:sliceBounds none (some (.ofNat k)) none vs.toArray.size=(((0:Nat):Int),((min k vs.toArray.size:Nat):Int),1):=by
  simp only[sliceBounds,Option.getD_none,show(1:Int)>0 by decide,if_true,if_neg (show ¬((k:Int)<0) by omega),Int.ofNat_eq_natCast]
  congr 1
  congr 1
  omega
 rw[kmk_pick_nat _ e,List.drop_zero,Nat.sub_zero,List.size_toArray,kmk_take_min]
theorem sj(vs:List Value){k:Nat}:slicePick vs.toArray (some (.ofNat k)) none none=(vs.drop k).toArray:=by
 have e:sliceBounds (some (.ofNat k)) none none vs.toArray.size=(((min k vs.toArray.size:Nat):Int),((vs.toArray.size:Nat):Int),1):=by
  simp only[sliceBounds,Option.getD_none,show(1:Int)>0 by decide,if_true,if_neg (show ¬((k:Int)<0) by omega),Int.ofNat_eq_natCast]
  congr 1
  omega
 rw[kmk_pick_nat _ e,List.size_toArray,kmk_drop_min,List.take_of_length_le (by simp;omega)]
structure Oa(l m:List A)(lo hi:Option Int):Prop where
 h:∀{c:Cx} {Γ:Gh} vs,aG c Γ l vs→∃us,slicePick vs.toArray lo hi none=us.toArray∧aG c Γ m us
theorem EN{lo hi:X}{l m:List A}{vl vu:Value}(hl:Xv c Γ lo vl)(hh:Xv c Γ hi vu)(e:IM lo hi l=some m)(k:∀a b,IsPart vl a→IsPart vu b→Oa l m a b→C):C:=by
 refine aV e (λp _ e=>ad e λi e1 e=>aH e λn e2 e=>?_) λe=>ad e λp _ e=>ad e λi e1 e=>aH e λn e2 e=>?_
 ·cases(dJ (q:=p) hl:vl=.none)
  exact aS (C:=λvu=>(∀a b,IsPart Value.none a→IsPart vu b→Oa l m a b→C)→C) (bt hh i.2) (λt k=>k none (some i.1) .none (.int _ _) ⟨λvs r=>⟨_,(wU e2).symm▸sJ vs,e▸r.take n⟩⟩) k
 ·cases(dJ (q:=p) hh:vu=.none)
  exact aS (C:=λvl=>(∀a b,IsPart vl a→IsPart Value.none b→Oa l m a b→C)→C) (bt hl i.2) (λt k=>k (some i.1) none (.int _ _) .none ⟨λvs r=>⟨_,(wU e2).symm▸sj vs,e▸r.drop n⟩⟩) k
theorem tI{e:Option Expr}(ih:∀e,aY c u nm (F e) e)(hA:Rm Ar u)(b:Bd c f nm en m S Γ)(q:t9 F e en S K)(h:cq c f m Γ K Q):wpAny c.M Ar (valueOrNone (evalOpt e f.env)) Q E (c.st Γ):=match e,q with
 |none,q=>WU (h.here b.1 q rfl)
 |some e,q=>(ih e).e hA q b h
theorem zm{m':List A}{vl vu:Value}{lo hi:Option Int}(st:ah c f m S Γ)(hx:RL c Γ l v)(pl:IsPart vl lo)(pu:IsPart vu hi)(ct:Oa l m' lo hi)(hn:m'.length≤bM){sk:SK}(q:ia sk (.list m') S K)(h:cq c f m Γ K Q):
  wpAny c.M Ar (getItem v (.ref Γ.h.objs.size)) Q E {c.st Γ with heap:=Γ.h.push {cls:=.type "slice",data:=.fields #[vl,vu,.none]}}:=
 dH (C:=λv=>wpAny c.M Ar (getItem v (.ref Γ.h.objs.size)) Q E {c.st Γ with heap:=Γ.h.push {cls:=.type "slice",data:=.fields #[vl,vu,.none]}}) hx λa vs g r n=>by
  obtain⟨us,e1,e2⟩:=ct.h vs r
  refine wpAny_getItem_list_slice (g.push _) (Heap.IsSliceOf.new ..) pl pu .none (by simp) ?_ (bY r▸h7 n)
  have F1:=st.F.push {cls:=.type "slice",data:=.fields #[vl,vu,.none]}
  have N1:=News.push F1 (st.N.grown λ_ _ e=>Heap.get?_push_of_some _ e) {cls:=.type "list",data:=.seq (slicePick vs.toArray lo hi none)}
  rw[e1] at N1 ⊢
  exact xH (ce:=.list m') (tk:=Γ.tk) st (F1.push _) N1 (λp hp=>Wh (Heap.lt_size (st.N p hp).1) (by show Γ.h.objs.size≤(Γ.h.push _).objs.size;rw[Heap.size_push];exact Nat.le_succ _)) (λΓ' w e m o=>CL.mk m o (aG.mono e _ _ e2) hn) q h
theorem xe(ih:∀e,aY c u nm (F e) e){X':En→AS→X→KX→Prop}:aY c u nm (.of λenv S K=>(F e1).e env S λx S=>cond (cG (.Slice lo hi none p')) (opt (gX (.Slice lo hi none p')) λq=>t9 F q.1.1.1 env S λy S=>t9 F q.1.1.2 env S λz S=>lz lb x y z S K) (X' env S x K)) (.Subscript e1 (.Slice lo hi none p') p):=.of (λ_ _=>rfl) rfl λ{Ar f m en S Γ K Q E} hA q b h=>by
 refine Subscript_ ((ih e1).e hA q b λv1 Γ1 S1 x1 q1 st1 le1 r1=>?_)
 have q1:t9 F lo en S1 λy S=>t9 F hi en S λz S=>lz lb x1 y z S K:=q1
 show wpAny _ _ (valueOrNone (evalOpt lo f.env) >>=λl=>holding [l] (valueOrNone (evalOpt hi f.env)) >>=λu=>holding [l,u] (pure .none) >>=λs=>newFields "slice" [l,u,s]) _ _ _
 refine WT (tI ih hA (b.go st1 le1) q1 λv2 Γ2 S2 x2 q2 st2 le2 r2=>WT (wpAny_holding (tI ih hA ((b.go st1 le1).go st2 le2) q2 λv3 Γ3 S3 x3 q3 st3 le3 r3=>WT (wpAny_holding (WU (wpAny_newObj_type ?_))))))
 refine aa q3 λl e1 q=>aa q λm' e2 q=>bJ q λhn q=>EN (r2.mono le3) r3 e2 λa b pa pb ct=>?_
 have hr:=aU st3 (r1.mono (le2.trans le3)) e1
 refine xj (T:="list") ?_ slot_list_getitem.lookup (zm st3 hr pa pb ct hn q (h.to ((le1.trans le2).trans le3))) rfl
 exact dH (C:=λv=>Shared.TypeIs {c.st Γ3 with heap:=Γ3.h.push {cls:=.type "slice",data:=.fields #[v2,v3,.none]}} v "list") hr λa vs g _ _=>⟨_,(g.push _).choose_spec.1,(g.push _).choose_spec.2.1⟩
end
noncomputable def rz(c:Cx)(Γ:Gh)(l:List (A×A)):List (Value×Value)→Prop:=@List.rec (A×A) (λ_=>List (Value×Value)→Prop) (λvs=>vs=[]) (λp _ ih=>az (λv=>Av c Γ p.1 v.1∧Av c Γ p.2 v.2) ih) l
section
variable{v':Value}{y:X}{p':Pos}{F:Expr→WP}{lb:Nat}{es:List Expr}{xs:List X}{lo hi:Option Expr}
theorem fb{C:List Value→Prop}(h:b4 c Γ (x::xs) vs)(k:∀v vs,Xv c Γ x v→b4 c Γ xs vs→C (v::vs)):C vs:=az.casesOn (motive:=λvs _=>C vs) h λa b=>k _ _ a b
theorem b4.mono(e:Le P Γ Γ')(xs:List X):∀vs,b4 c Γ xs vs→b4 c Γ' xs vs:=@List.rec X (λxs=>∀vs,b4 c Γ xs vs→b4 c Γ' xs vs) (λ_=>id) (λx xs ih vs h=>fb (C:=λvs=>b4 c Γ' (x::xs) vs) h λv vs a b=>.mk (a.mono e) (ih _ b)) xs
theorem qH(xs:List X):∀{vs Γ S} {K:List A→AS→Prop},ah c f m S Γ→b4 c Γ xs vs→eX xs S K→(∀Γ' S' l,K l S'→ah c f m S' Γ'→Le No Γ Γ'→aG c Γ' l vs→c.st Γ'=c.st Γ→C)→C:=
 @List.rec X (λxs=>∀{vs Γ S} {K:List A→AS→Prop},ah c f m S Γ→b4 c Γ xs vs→eX xs S K→(∀Γ' S' l,K l S'→ah c f m S' Γ'→Le No Γ Γ'→aG c Γ' l vs→c.st Γ'=c.st Γ→C)→C)
  (λ{vs Γ S K} st h q k=>k Γ S [] q st .refl h rfl)
  (λx xs ih {vs Γ S K} st h q k=>fb (C:=λvs=>(∀Γ' S' l,K l S'→ah c f m S' Γ'→Le No Γ Γ'→aG c Γ' l vs→c.st Γ'=c.st Γ→C)→C) h (λv vs hx hr k=>aa q λp e q=>eZ st hx e λΓ1 st1 le1 av eq=>ih st1 (b4.mono le1 _ _ hr) q λΓ2 S2 l q2 st2 le2 r eq2=>k Γ2 S2 (p.1::l) q2 st2 (le1.trans le2) (.mk (Av.mono le2.1 _ _ av) r) (eq2.trans eq)) k) xs
theorem dP(ih:∀e,aY c u nm (F e) e)(hA:Rm Ar u)(pos:Pos)(es:List Expr):∀{Γ S} {K:List X→AS→Prop} {Q:List Value→Shared→Prop},sR F es en S K→Bd c f nm en m S Γ→(∀vs Γ' S' xs,K xs S'→ah c f m S' Γ'→Le No Γ Γ'→b4 c Γ' xs vs→Q vs (c.st Γ'))→wpAny c.M Ar (spliced (backTo pos (starEach es f.env))) Q E (c.st Γ):=
 @List.rec Expr (λes=>∀{Γ S} {K:List X→AS→Prop} {Q:List Value→Shared→Prop},sR F es en S K→Bd c f nm en m S Γ→(∀vs Γ' S' xs,K xs S'→ah c f m S' Γ'→Le No Γ Γ'→b4 c Γ' xs vs→Q vs (c.st Γ'))→wpAny c.M Ar (spliced (backTo pos (starEach es f.env))) Q E (c.st Γ))
  (λq b h=>Calls.spliced_nil (h [] _ _ [] q b.1 .refl rfl))
  (λe r hr {Γ S K Q} q b h=>by
   rw[gb ((ih e).s q)]
   exact Calls.spliced_cons ((ih e).e hA q b λv1 Γ1 S1 x1 q1 st1 le1 r1=>hr q1 (b.go st1 le1) λvs Γ2 S2 xs k st2 le2 r2=>h (v1::vs) Γ2 S2 (x1::xs) k st2 (le1.trans le2) (.mk (r1.mono le2) r2))) es
theorem zJ(ih:∀e,aY c u nm (F e) e):aY c u nm (.of λenv S K=>sR F es env S λxs S=>eX xs S λl S=>ak l (ia (sk lb) (.list l) S K)) (.List es p):=.of (λ_ _=>rfl) rfl λhA q b h=>
 List_ (dP ih hA p es q b λvs Γ1 S1 xs q1 st1 le1 r1=>qH xs st1 r1 q1 λΓ2 S2 l q2 st2 le2 r2 eq=>eq▸bJ q2 λhn q2=>Eb st2 r2 hn q2 (h.to (le1.trans le2)))
theorem wx{kk:Nat}(ih:∀e,aY c u nm (F e) e):aY c u nm (.of λenv S K=>sR F es env S λxs S=>eX xs S λl S=>ak l (K (.a (.tup l)) S)) (.Tuple es kk p):=.of (λ_ _=>rfl) rfl λhA q b h=>
 Tuple_ (dP ih hA p es q b λvs Γ1 S1 xs q1 st1 le1 r1=>qH xs st1 r1 q1 λΓ2 S2 l q2 st2 le2 r2 eq=>eq▸bJ q2 λhn q2=>Kt st2 r2 hn q2 (h.to (le1.trans le2)))
theorem xG{C:List (Value×Value)→Prop}{p:A×A}{l:List (A×A)}{vs:List (Value×Value)}(h:rz c Γ (p::l) vs)(k:∀v vs,Av c Γ p.1 v.1→Av c Γ p.2 v.2→rz c Γ l vs→C (v::vs)):C vs:=az.casesOn (motive:=λvs _=>C vs) h λa b=>k _ _ a.1 a.2 b
theorem rz.mono(e:Lf Γ Γ')(l:List (A×A)):∀vs,rz c Γ l vs→rz c Γ' l vs:=@List.rec (A×A) (λl=>∀vs,rz c Γ l vs→rz c Γ' l vs) (λ_=>id) (λp l ih vs h=>xG (C:=λvs=>rz c Γ' (p::l) vs) h λv vs a b d=>.mk ⟨Av.mono e _ _ a,Av.mono e _ _ b⟩ (ih _ d)) l
theorem xf(ih:∀e,aY c u nm (F e) e)(hA:Rm Ar u)(pos:Pos)(ks:List (Option Expr)):∀{es Γ S} {K:List (A×A)→AS→Prop} {Q:List (Value×Value)→Shared→Prop},Oo F ks es en S K→Bd c f nm en m S Γ→(∀vs Γ' S' l,K l S'→ah c f m S' Γ'→Le No Γ Γ'→rz c Γ' l vs→l.length=ks.length→Q vs (c.st Γ'))→wpAny c.M Ar (evalPairs (pairTrees ks es f.env pos)) Q E (c.st Γ):=
 @List.rec (Option Expr) (λks=>∀{es Γ S} {K:List (A×A)→AS→Prop} {Q:List (Value×Value)→Shared→Prop},Oo F ks es en S K→Bd c f nm en m S Γ→(∀vs Γ' S' l,K l S'→ah c f m S' Γ'→Le No Γ Γ'→rz c Γ' l vs→l.length=ks.length→Q vs (c.st Γ'))→wpAny c.M Ar (evalPairs (pairTrees ks es f.env pos)) Q E (c.st Γ))
  (λ{es Γ S K Q} q b h=>match es,q with
   |[],q=>WU (h [] _ _ [] q b.1 .refl rfl rfl)
   |_::_,q=>q.elim)
  (λk ks hr {es Γ S K Q} q b h=>match k,es,q with
   |none,_,q=>q.elim
   |some k,[],q=>q.elim
   |some k,e::r,q=>by
    show wpAny _ _ (eval k f.env >>=λkv=>holding [kv] (eval e f.env >>=λx=>standAt pos >>=λ_=>pure x) >>=λvv=>holding [kv,vv] (evalPairs (pairTrees ks r f.env pos)) >>=λl=>pure ((kv,vv)::l)) _ _ _
    refine WT ((ih k).e hA q b λv1 Γ1 S1 x1 q1 st1 le1 r1=>WT (wpAny_holding (WT ((ih e).e hA q1 (b.go st1 le1) λv2 Γ2 S2 x2 q2 st2 le2 r2=>WT (wpAny_standAt (WU (WT (wpAny_holding ?_))))))))
    refine aa q2 λp e1 q2=>aa q2 λp' e2 q2=>eZ st2 (r1.mono le2) e1 λΓ3 st3 le3 av1 eq1=>eZ st3 (r2.mono le3) e2 λΓ4 st4 le4 av2 eq2=>eq1▸eq2▸?_
    have le:=(le1.trans le2).trans (le3.trans le4)
    exact hr q2 (b.go st4 le) λvs Γ5 S5 l q5 st5 le5 r5 hl=>WU (h ((v1,v2)::vs) Γ5 S5 ((p.1,p'.1)::l) q5 st5 (le.trans le5) (.mk ⟨Av.mono le5.1 _ _ (Av.mono le4.1 _ _ av1),Av.mono le5.1 _ _ av2⟩ r5) (congrArg (·+1) hl))) ks
theorem eK{d:PyData}(es:List (A×A)):(bV d k z es).length≤es.length+1:=@List.rec (A×A) (λes=>(bV d k z es).length≤es.length+1) (Nat.le_refl _) (λp es ih=>by
 show(cond (am d p.1) ((p.1,z)::es) (p::bV d k z es)).length≤es.length+1+1
 cases am d p.1
 ·exact Ww ih
 ·exact Nat.le_succ _) es
theorem AT(hA:aD Ar)(l:List (A×A)):∀{vs es ds ep Γ} {Q:PUnit→Shared→Prop},ah c f m S Γ→Zd c Γ a es ds ep→rz c Γ l vs→ri l es=some es'→es.length+l.length≤bM→(∀Γ' ds' ep',ah c f m S Γ'→Le (λb=>b=a) Γ Γ'→Zd c Γ' a es' ds' ep'→Q ⟨⟩ (c.st Γ'))→wpAny c.M Ar (storeAll a vs) Q E (c.st Γ):=
 @List.rec (A×A) (λl=>∀{vs es ds ep Γ} {Q:PUnit→Shared→Prop},ah c f m S Γ→Zd c Γ a es ds ep→rz c Γ l vs→ri l es=some es'→es.length+l.length≤bM→(∀Γ' ds' ep',ah c f m S Γ'→Le (λb=>b=a) Γ Γ'→Zd c Γ' a es' ds' ep'→Q ⟨⟩ (c.st Γ'))→wpAny c.M Ar (storeAll a vs) Q E (c.st Γ))
  (λ{vs es ds ep Γ Q} st zd h e hl k=>(show vs=[] from h)▸WU (k Γ ds ep st .refl (Wz e▸zd)))
  (λp l ih {vs es ds ep Γ Q} st zd h e hl k=>xG (C:=λvs=>wpAny c.M Ar (storeAll a vs) Q E (c.st Γ)) h λv vs a1 a2 r=>ad e λes1 e1 e2=>by
   have hl1:es1.length≤es.length+1:=aH e1 λd _ e=>e▸eK es
   unfold storeAll
   rw[List.forIn_cons]
   refine WT (WT (Hn st hA zd (V9 (Wo _ _) hl) a1 a2 e1 λΓ1 ds1 ep1 st1 le1 zd1=>WU ?_))
   have:=ih st1 zd1 (rz.mono le1.1 _ _ r) e2 (V9 (Wl hl1 _) (by rw[Nat.add_assoc,Nat.add_comm 1];exact hl)) λΓ2 ds2 ep2 st2 le2 zd2=>k Γ2 ds2 ep2 st2 (le1.trans le2) zd2
   unfold storeAll at this
   exact this) l
end
def im(c:Cx)(u:Nat)(a:Addr)(C:ay):Prop:=∀{Ar f m S Γ K xs vs} {R:Result→Shared→Prop},Rm Ar u→C xs S K→ah c f m S Γ→b4 c Γ xs vs→cq c f m Γ K (λv' s'=>R (.ok (.ret v')) s')→codeAny c.M Ar (.call (.ref a) ⟨vs,[]⟩) R (c.st Γ)
def dG(c:Cx)(u:Nat)(T:bA):Prop:=∀a C,T.fn a=some C→im c u a C
structure HI(c:Cx)(C:Addr)(n:Str)(f:Nat):Prop where
 a:findIn c.K (.ref C) "__getattribute__"=some (some (.builtin "object.__getattribute__"))
 b:findIn c.K (.ref C) "__getattr__"=some none
 m:findIn c.K (.ref C) n=some (some (.ref f))
 t:typeIn c.K (.ref f)=some (.type "function")
 k:keepIn c.K (.ref f)=true
def bN(c:Cx):Prop:=∀C n f,xK C n=some f→HI c C n f
section
variable{v':Value}{y:X}{p':Pos}{F:Expr→WP}{lb:Nat}{es:List Expr}{xs:List X}{T:bA}{ks:List (Option Expr)}{fc:ay}
theorem im.call(h:im c u a fc)(hA:Rm Ar u)(q:fc xs S K)(st:ah c f m S Γ)(hv:b4 c Γ xs vs)(k:cq c f m Γ K Q):wpAny c.M Ar (call (.ref a) vs) Q E (c.st Γ):=wpAny_call (h hA q st hv k)
theorem At(ih:∀e,aY c u nm (F e) e):aY c u nm (.of λenv S K=>aw (Nat.ble ks.length 15&&(ks.all Option.isSome&&Nat.beq ks.length es.length)) (Oo F ks es env S λl S=>opt (ri l []) λl=>ak l (ia (sk lb) (.dict l) S K)) False) (.Dict ks es p):=.of (λ_ _=>rfl) rfl λ{Ar f m en S Γ K Q E} hA q b h=>bC q λhk q=>by
 have hk:=WB hk
 have hk2:=WB hk.2
 have hl:ks.length=es.length:=Wv hk2.2
 have lt:∀p∈Γ.news,p.1<Γ.h.objs.size:=λp hp=>Heap.lt_size (b.N p hp).1
 have s0:=b.1.add (tk:=Γ.tk) (ob:=dictOf [] 0) (b.F.push _) (b.N.push b.F (dictOf [] 0)) lt .z
 have zd0:Zd c (Γ.add (Γ.h.push (dictOf [] 0)) Γ.tk Γ.h.objs.size (dictOf [] 0) .z) Γ.h.objs.size [] [] 0:=⟨.head _,s0.2.2,rfl,.nil⟩
 have fin:∀{Γ' S' l ds' ep'},ah c f m S' Γ'→Le No Γ Γ'→Zd c Γ' Γ.h.objs.size l ds' ep'→ak l (ia (sk lb) (.dict l) S' K)→Q (.ref Γ.h.objs.size) (c.st Γ'):=λst le zd q=>bJ q λhn q=>Hs (ce:=.dict _) st zd.m zd.z le (eG lt) (λΓ' w e m o=>CD.mk m o (cW.mono e _ _ zd.r) ⟨zd.o,hn⟩) q h
 match ks,es,q,hl,hk,hk2 with
 |[],[],q,_,_,_=>
  show wpAny _ _ (standAt p >>=λ_=>newDict) _ _ _
  have q:ak (α:=A×A) [] (ia (sk lb) (.dict []) S K):=q
  exact WT (wpAny_standAt (wpAny_newObj_type (fin s0.1 s0.2.1 zd0 q)))
 |k::ks,es,q,hl,hk,hk2=>
  refine wpAny_Dict_any hk2.1 hl (λe=>nomatch e) (ble hk.1) (xf ih hA p (k::ks) q (b.go s0.1 s0.2.1) λvs Γ1 S1 l q1 st1 le1 r1 hl=>aa q1 λl' e1 q1=>?_)
  have zd1:=zd0.mono le1 id
  exact AT hA.roomy l st1 zd1 r1 e1 (by rw[hl,List.length_nil,Nat.zero_add];exact V9 (ble hk.1) (by decide)) λΓ2 ds' ep' st2 le2 zd2=>fin st2 ((s0.2.1.trans le1).cut le2 (kC (eG lt))) zd2 q1
theorem Nx{C:List Value→Prop}(h:b4 c Γ [x] vs)(k:∀v,Xv c Γ x v→C [v]):C vs:=fb h λv r a b=>(show r=[] from b)▸k v a
theorem SV{C:List Value→Prop}(h:b4 c Γ [x,y] vs)(k:∀v w,Xv c Γ x v→Xv c Γ y w→C [v,w]):C vs:=fb h λv r a b=>Nx (C:=λr=>C (v::r)) b λw b=>k v w a b
theorem i0{o:{x:X // xs=[x]}}{C:List Value→Prop}(h:b4 c Γ xs vs)(k:∀v,Xv c Γ o.1 v→C [v]):C vs:=Nx (o.2▸h) k
theorem Dl{o:{p:X×X // xs=[p.1,p.2]}}{C:List Value→Prop}(h:b4 c Γ xs vs)(k:∀v w,Xv c Γ o.1.1 v→Xv c Γ o.1.2 w→C [v,w]):C vs:=SV (o.2▸h) k
theorem sD{bn:String}(hA:Rm Ar u)(st:ah c f m S Γ)(hv:b4 c Γ xs vs)(q:mz bn xs S K)(h:cq c f m Γ K Q):wpAny c.M Ar (call (.builtin bn) vs) Q E (c.st Γ):=
 a7 q (λe q=>of_decide_eq_true e▸aa q λo _ q=>aa q λn e q=>i0 (o:=o) (C:=λvs=>wpAny c.M Ar (call (.builtin "len") vs) Q E (c.st Γ)) hv λv hx=>L6 st hx e q h) λ_ q=>
 a7 q (λe q=>of_decide_eq_true e▸aa q λo _ q=>aa q λr e q=>bJ q λhn q=>i0 (o:=o) (C:=λvs=>wpAny c.M Ar (call (.builtin "sorted") vs) Q E (c.st Γ)) hv λv hx=>EV hA.roomy2 hA.1 st hx e hn q h) λ_ q=>
 a7 q (λe q=>of_decide_eq_true e▸aa q λo _ q=>aa q λi e1 q=>aa q λj e2 q=>Dl (o:=o) (C:=λvs=>wpAny c.M Ar (call (.builtin "max") vs) Q E (c.st Γ)) hv λv w hx hy=>aS (C:=λv=>wpAny c.M Ar (call (.builtin "max") [v,w]) Q E (c.st Γ)) (bt hx i.2) λt=>aS (C:=λw=>wpAny c.M Ar (call (.builtin "max") [_,w]) Q E (c.st Γ)) (bt hy j.2) λt'=>Kl hA.1 st q h) λ_ q=>
 a7 q (λe q=>of_decide_eq_true e▸aa q λo _ q=>aa q λl e1 q=>aa q λbs e2 q=>i0 (o:=o) (C:=λvs=>wpAny c.M Ar (call (.builtin "any") vs) Q E (c.st Γ)) hv λv hx=>JQ hA.1 st (aU st hx e1) e2 q h) λ_ q=>q.elim
theorem mU(st:ah c f m S Γ)(hv:b4 c Γ xs vs)(q:t7 xs S K)(h:cq c f m Γ K Q):wpAny c.M Ar (call (.type "tuple") vs) Q E (c.st Γ):=
 aa q λo _ q=>aa q λl e q=>i0 (o:=o) (C:=λvs=>wpAny c.M Ar (call (.type "tuple") vs) Q E (c.st Γ)) hv λv hx=>Ad st (Dx st hx e) q h
structure Va(pos:Pos)(env:Env)(es:List Expr):Prop where
 a:(backTo pos (starEach es env)).any (·.1)=false
 b:(backTo pos (starEach es env)).all (λx=> !x.1)=true
theorem jl(pos:Pos)(env:Env)(es:List Expr):es.all pl=true→Va pos env es:=@List.rec Expr (λes=>es.all pl=true→Va pos env es) (λ_=>⟨rfl,rfl⟩) (λe r ih h=>by
 have h:=WB h
 have i:=ih h.2
 constructor
 ·rw[gb h.1];exact i.a
 ·rw[gb h.1];exact i.b) es
theorem bj{M:Model}{g:Value}{env:Env}{pos:Pos}{es:List Expr}(hp:es.all pl=true){Q:Args→Shared→Prop}{s:Shared}(h:wpAny M Ar (spliced (backTo pos (starEach es env))) (λvs s'=>Q ⟨vs,[]⟩ s') E s):wpAny M Ar (evalArgs g true (backTo pos (starEach es env)) []) Q E s:=by
 cases es with
 |nil=>
  have h:wpAny M Ar (spliced []) (λvs s'=>Q ⟨vs,[]⟩ s') E s:=h
  show wpAny M Ar (evalArgs g true [] []) Q E s
  unfold evalArgs
  show wpAny M Ar (spliced [] >>=_) Q E s
  refine WT (wpAny_mono h (λvs s' hq=>WT (WU (wpAny_holding ?_))) λ_ _ e=>e)
  exact WT (WU (WT (WU (WU hq))))
 |cons e r=>
  rw[gb (WB hp).1] at h ⊢
  exact Calls.evalArgs_plain h
theorem i9{r:A}(e:ku nm n=some r):jB nm en n=some (.a r)∧DG n GL=some r:=ad e λk e1 e2=>by
 unfold jB
 rw[e1]
 cases k <;> first |exact nn e2 |exact⟨congrArg (Option.map X.a) e2,e2⟩
theorem xa{r:A}(h:np r=true)(k1:∀a,r=.obj (.ref a)→kX a uX=true→C)(k2:∀b,r=.obj (.builtin b)→C)(k3:∀b,r=.obj (.type b)→C):C:=by
 unfold np at h
 cases e:vO r with
 |none=>rw[e] at h;exact nomatch h
 |some p=>
  rw[e] at h
  clear e
  obtain⟨u,e⟩:=p
  cases u <;> first |exact k1 _ e h |exact k2 _ e |exact k3 _ e |exact ff h
theorem q9{w:Value}(h:Xv c Γ (.a (.obj w)) v):v=w:=h.1
theorem sf{px:Pos}(hW:Wd c)(hT:dG c u T)(ih:∀e,aY c u nm (F e) e)(hA:Rm Ar u)(hp:es.all pl=true)(b:Bd c f nm en m S Γ)(q:opt (ku nm n) λv=>aw (np v) (sR F es en S λxs S=>wq T v xs S K) False)(h:cq c f m Γ K Q):wpAny c.M Ar (eval (.Call (.Name n px) es [] p) f.env) Q E (c.st Γ):=
 aa q λr e q=>bC q λhc q=>WT (oK (K:=λx S'=>x=.a r∧S'=S) hW.gl b (i9 e).1 ⟨rfl,rfl⟩ λv1 Γ1 S1 x1 q1 st1 le1 r1=>by
  obtain⟨rfl,rfl⟩:=q1
  have hl:=jl p f.env es hp
  have b1:=b.go st1 le1
  refine xa hc (λa e' hcal=>?_) (λbn e'=>?_) λbn e'=>?_
  ·subst e'
   rw[q9 r1]
   refine callWith_of (P:=c.K.In) (by rw[hl.a];rfl) (keeps_K (hW.kp a hcal)) (bj hp (dP ih hA p es q b1 λvs Γ2 S2 xs q2 st2 le2 r2=>⟨st2.KI,aa q2 λC e q2=>?_⟩))
   rw[List.nil_append]
   exact im.call (hT a C e) hA q2 st2 r2 (h.to (le1.trans le2))
  ·subst e'
   rw[q9 r1]
   refine Calls.callWith_builtin hl.a (bj hp (dP ih hA p es q b1 λvs Γ2 S2 xs q2 st2 le2 r2=>?_))
   rw[List.nil_append]
   exact sD hA st2 r2 q2 (h.to (le1.trans le2))
  ·subst e'
   rw[q9 r1]
   refine PyProof.Rows.callWith_type hl.a (bj hp (dP ih hA p es q b1 λvs Γ2 S2 xs q2 st2 le2 r2=>a7 q2 (λe q2=>?_) λ_ q2=>q2.elim))
   rw[List.nil_append,of_decide_eq_true e]
   exact mU st2 r2 q2 (h.to (le1.trans le2)))
end
section
variable{v':Value}{y:X}{g:Expr}{ap:Pos}{F:Expr→WP}{lb:Nat}{es:List Expr}{xs:List X}{T:bA}{kw:List Keyword}{fc:ay}
theorem z4(r:fO c Γ as ds)(e:br n as=none):getL n ds=some none:=@List.rec (Str×A) (λas=>∀ds,fO c Γ as ds→br n as=none→getL n ds=some none) (λds r _=>(show ds=[] from r)▸rfl)
 (λp as ih ds r e=>az.casesOn (motive:=λds _=>getL n ds=some none) r λ{e' ds} h h'=>h.k.elim λt hk=>by
  have e:cond (seq p.1 n) (some p.2) (br n as)=none:=e
  rw[o5 hk]
  cases q:seq p.1 n with
  |true=>rw[q] at e;exact nomatch e
  |false=>rw[q] at e;exact ih _ h' e) as ds r e
theorem va(st:ah c f m S Γ)(hx:Xv c Γ x v)(hv:b4 c Γ xs vs)(q:opt (dM xs) λy=>opt (q6 S y.1) λp=>opt (ba (au p.2 x)) λl=>ak (l++[p.1]) (opt (fR p.2 x (.list (l++[p.1]))) λS=>K (.a .none) S))(h:cq c f m Γ K Q):wpAny c.M Ar (call (.builtin "list.append") (v::vs)) Q E (c.st Γ):=
 aa q λo _ q=>aa q λp e1 q=>aa q λl e2 q=>bJ q λhn q=>aa q λS' e3 q=>i0 (o:=o) (C:=λvs=>wpAny c.M Ar (call (.builtin "list.append") (v::vs)) Q E (c.st Γ)) hv λw hw=>eZ st hw e1 λΓ1 st1 le1 av eq=>eq▸gk e2 λe2=>vj st1 (hx.mono le1) e2 av hn e3 q (h.to le1)
theorem kL(st:ah c f m S Γ)(hx:Xv c Γ x v)(hv:b4 c Γ xs vs)(q:tZ x n xs S K)(h:cq c f m Γ K Q)(k:∀id,(n="append"∧id="list.append")∨(n="extend"∧id="list.extend")∨(n="pop"∧id="list.pop")→wpAny c.M Ar (call (.builtin id) (v::vs)) Q E (c.st Γ)→C):C:=
 a7 q (λe q=>k "list.append" (.inl ⟨aW e,rfl⟩) (va st hx hv q h)) λ_ q=>a7 q (λe q=>k "list.extend" (.inr (.inl ⟨aW e,rfl⟩)) (aa q λo _ q=>aa q λl e1 q=>aa q λl' e2 q=>bJ q λhn q=>aa q λS' e3 q=>
  i0 (o:=o) (C:=λvs=>wpAny c.M Ar (call (.builtin "list.extend") (v::vs)) Q E (c.st Γ)) hv λw hw=>gk e1 λe1=>xg (y:=x) st hx e1 (Dx st hw e2) hn e3 q h)) λ_ q=>
 a7 q (λe q2=>have e:=WB e;k "list.pop" (.inr (.inr ⟨aW e.1,rfl⟩)) (match xs,hv,e.2 with
  |[],hv,_=>(show vs=[] from hv)▸aa q2 λl e1 q=>aa q λp e2 q=>aa q λS' e3 q=>gk e1 λe1=>Iv st hx e1 e2 e3 q h
  |_::_,_,e=>nomatch e)) λ_ q=>q.elim
theorem qK{α:Type}{o:Option α}{f:α→Prop}{g:Prop}(h:alt o f g)(k:∀a,f a→C)(k':g→C):C:=@Option.rec α (λo=>alt o f g→C) k' (λa h=>k a h) o h
theorem y8(hA:Rm Ar u)(st:ah c f m S Γ)(hx:Xv c Γ x v)(hv:b4 c Γ xs vs)(q:bK T .dict x n xs S K)(h:cq c f m Γ K Q):wpAny c.M Ar (call (.builtin "dict.get") (v::vs)) Q E (c.st Γ):=
 aa q λes e1 q=>qK q (λo q=>aa q λkk e2 q=>aa q λd e3 q=>aa q λr e4 q=>Dl (o:=o) (C:=λvs=>wpAny c.M Ar (call (.builtin "dict.get") (v::vs)) Q E (c.st Γ)) hv λv1 v2 h1 h2=>Go st hA.roomy1 (c7 st hx e1) (bt h1 kk.2) (bt h2 d.2) e4 h q)
  λq=>aa q λo _ q=>aa q λkk e2 q=>aa q λr e4 q=>i0 (o:=o) (C:=λvs=>wpAny c.M Ar (call (.builtin "dict.get") (v::vs)) Q E (c.st Γ)) hv λv1 h1=>GO st hA.roomy1 (c7 st hx e1) (bt h1 kk.2) e4 h q
theorem L9(st:ah c f m S Γ)(hx:Xv c Γ x v)(hl:au S x=some (.list l))(ho:si S x=true):∃a vs ep,v=.ref a∧(a,b5 vs ep)∈Γ.news:=by
 unfold si at ho
 unfold au at hl
 cases e:rf x with
 |none=>rw[e] at ho;exact nomatch ho
 |some w=>
  rw[e] at ho hl
  have ho:alt (cont S w) (λo=> !jL o) false=true:=ho
  have hl:(cont S w).bind iy=some (.list l):=hl
  cases e':cont S w with
  |none=>rw[e'] at ho;exact nomatch ho
  |some o=>
   rw[e'] at ho hl
   cases o with
   |list l'=>exact CL.casesOn (st.C w _ e') λm _ _ _=>⟨_,_,_,(hx.rf e).1,m⟩
   |dict es=>exact nomatch(show some (Ce.dict es)=some (Ce.list l) from hl)
   |inst C as=>exact nomatch(show some (Ce.inst C as)=some (Ce.list l) from hl)
   |fz _=>exact nomatch ho
structure Ms(c:Cx)(T:bA)(u:Nat)(x:X)(n:Str)(S:AS)(r:MR)(v:Value)(s:Shared)(Ar:Around)(E:Value→Shared→Prop):Prop where
 h:∃g,(∀pl Q',Q' (g,[v]) s→wpAny c.M Ar (getMethod v n pl) Q' E s)∧((∃id,g=.builtin id)∨(∃a,g=.ref a∧keepIn c.K (.ref a)=true))∧
  ∀{Ar f m S Γ xs vs K Q E},Rm Ar u→ah c f m S Γ→Xv c Γ x v→b4 c Γ xs vs→bK T r x n xs S K→cq c f m Γ K Q→wpAny c.M Ar (call g (v::vs)) Q E (c.st Γ)
theorem zD{C:Addr}{ff:Nat}(hM:bN c)(hT:dG c u T)(st:ah c f m S Γ)(hi:RI c Γ C as v)(hf:xK C n=some ff)(hn:br n as=none):Ms c T u x n S (.fn ff) v (c.st Γ) Ar E:=
 RI.casesOn (motive:=λv _=>Ms c T u x n S (.fn ff) v (c.st Γ) Ar E) hi λ{a d ds ep} g g' r=>by
  have k:=hM C n ff hf
  have hsh:shadowIn (some (dictOf ds ep)) n=some false:=by
   show(lookIn n (dictOf ds ep)).map (·.isSome)=some false
   rw[lookIn_dict,z4 r hn];rfl
  exact⟨.ref ff,λpl Q' q=>method_fn st.KI ⟨g,rfl,rfl,g'⟩ k.a k.b k.m k.t hsh q,.inr ⟨ff,rfl,k.k⟩,λhA st hx hv q h=>aa q λC e q=>im.call (hT ff C e) hA q st (.mk hx hv) h⟩
theorem Ae(st:ah c f m S Γ)(hx:Xv c Γ x v)(hl:au S x=some (.list l))(ho:si S x=true)(hn:n="append"∨n="extend"∨n="pop"):Ms c T u x n S .list v (c.st Γ) Ar E:=by
 obtain⟨a,vs,ep,rfl,m⟩:=L9 st hx hl ho
 have hT:(c.st Γ).TypeIs (.ref a) "list":=⟨_,st.get m,rfl⟩
 have hD:∀b,Value.ref a=.ref b→∃ob,Γ.h.get? b=some ob∧ob.dict=none:=λb e=>by cases e;exact⟨_,st.get m,rfl⟩
 rcases hn with rfl |rfl |rfl
 ·exact⟨_,λpl Q' q=>getMethod_builtin hT F.plainAttrs_list F.slot_list_append F.type_list_append hD q,.inl ⟨_,rfl⟩,λhA st hx hv q h=>kL st hx hv q h λid hid r=>by rcases hid with⟨_,rfl⟩ |⟨e,_⟩ |⟨e,_⟩ <;> first |exact r |exact absurd e (by decide+kernel)⟩
 ·exact⟨_,λpl Q' q=>getMethod_builtin hT F.plainAttrs_list F.slot_list_extend F.type_list_extend hD q,.inl ⟨_,rfl⟩,λhA st hx hv q h=>kL st hx hv q h λid hid r=>by rcases hid with⟨e,_⟩ |⟨_,rfl⟩ |⟨e,_⟩ <;> first |exact r |exact absurd e (by decide+kernel)⟩
 ·exact⟨_,λpl Q' q=>getMethod_builtin hT F.plainAttrs_list F.slot_list_pop F.type_list_pop hD q,.inl ⟨_,rfl⟩,λhA st hx hv q h=>kL st hx hv q h λid hid r=>by rcases hid with⟨e,_⟩ |⟨e,_⟩ |⟨_,rfl⟩ <;> first |exact r |exact absurd e (by decide+kernel)⟩
theorem AY(st:ah c f m S Γ)(hd:RD c Γ es' v)(hn:n="get"):Ms c T u x n S .dict v (c.st Γ) Ar E:=by
 subst hn
 exact RD.casesOn (motive:=λv _=>Ms c T u x "get" S .dict v (c.st Γ) Ar E) hd λ{a ds ep} g _ _=>⟨_,λpl Q' q=>getMethod_builtin (⟨_,g,rfl⟩:(c.st Γ).TypeIs (.ref a) "dict") F.plainAttrs_dict F.slot_dict_get F.type_dict_get (λb e=>by cases e;exact⟨_,g,rfl⟩) q,.inl ⟨_,rfl⟩,λhA st hx hv q h=>y8 hA st hx hv q h⟩
theorem VX{a b d:Str}(h:(seq n a ||(seq n b ||seq n d))=true):n=a∨n=b∨n=d:=(Bool.or_eq_true_iff.mp h).imp aW λh=>(Bool.or_eq_true_iff.mp h).imp aW aW
theorem DC{r:MR}(hM:bN c)(hT:dG c u T)(st:ah c f m S Γ)(hx:Xv c Γ x v)(e:dT S x n=some r):Ms c T u x n S r v (c.st Γ) Ar E:=
 ad e λce e1 e=>match ce,e1,e with
  | .inst C as,e1,e=>ad e λff e2 e=>by
   have e:alt (br n as) (λ_=>none) (some (.fn ff))=some r:=e
   cases q:br n as with
   |some _=>rw[q] at e;exact nn e
   |none=>rw[q] at e;exact Wz e▸zD hM hT st (fj st hx e1) e2 q
  | .list l,e1,e=>aQ e λh e=>Wz e▸have h:=WB h;Ae st hx e1 h.1 (VX h.2)
  | .dict es,e1,e=>aQ e λh e=>Wz e▸AY st (fj st hx e1) (aW h)
  | .fz _,_,e=>nn e
end
section
variable{v':Value}{y:X}{g:Expr}{ap:Pos}{F:Expr→WP}{lb:Nat}{es:List Expr}{xs:List X}{T:bA}{kw:List Keyword}
theorem rO(hM:bN c)(hT:dG c u T)(ih:∀e,aY c u nm (F e) e)(hA:Rm Ar u)(hp:es.all pl=true)(b:Bd c f nm en m S Γ)(q:aw (h8 e1&&Nat.beq ap.endLine p.line&&Nat.ble es.length 29) ((F e1).e en S λx S=>opt (dT S x n) λr=>sR F es en S λxs S=>bK T r x n xs S K) False)(h:cq c f m Γ K Q):wpAny c.M Ar (eval (.Call (.Attribute e1 n ap) es [] p) f.env) Q E (c.st Γ):=
 bC q λhb q=>by
 have hb:=WB hb
 have hb1:=WB hb.1
 have hl:=jl p f.env es hp
 rw[arm_eval_Call,qb hb1.1]
 refine WT ((ih e1).e hA q b λv1 Γ1 S1 x1 q1 st1 le1 r1=>WT (wpAny_standAt (aa q1 λr e q1=>?_)))
 have hform:methodCallForm (es.length+([]:List Keyword).length) (backTo p (starEach es f.env)) (backToKw p (keywordEach [] f.env))=true:=by
  unfold methodCallForm
  rw[hl.b]
  exact decide_eq_true (Nat.lt_succ_of_le (ble hb.2))
 have hpos:methodCallPos true e1 f.env ap p=pure p:=by unfold methodCallPos;rw[Wv hb1.2];simp
 unfold methodCall
 rw[hform]
 obtain⟨g,hg,hk,hc⟩:=(DC (Ar:=Ar) (E:=E) hM hT st1 r1 e).h
 have fin:∀vs Γ' S' xs,bK T r x1 n xs S' K→ah c f m S' Γ'→Le No Γ1 Γ'→b4 c Γ' xs vs→wpAny c.M Ar (call g ([v1]++vs)) Q E (c.st Γ'):=λvs Γ' S' xs q st le hv=>hc hA st (r1.mono le) hv q (h.to (le1.trans le))
 refine WT (wpAny_holding (hg _ _ (WT (wpAny_of_eq hpos ?_))))
 show wpAny _ _ (callWith p g [v1] (backTo p (starEach es f.env)) []) _ _ _
 rcases hk with⟨id,rfl⟩ |⟨a,rfl,hk⟩
 ·exact Calls.callWith_builtin hl.a (bj hp (dP ih hA p es q1 (b.go st1 le1) fin))
 ·exact callWith_of (P:=c.K.In) (by rw[hl.a];rfl) (keeps_K hk) (bj hp (dP ih hA p es q1 (b.go st1 le1) λvs Γ' S' xs q st le hv=>⟨st.KI,fin vs Γ' S' xs q st le hv⟩))
theorem tL{α:Type}{l:List α}(h:aq l=false):l=[]:=match l,h with |[],_=>rfl |_::_,h=>nomatch h
theorem Bq(hW:Wd c)(hM:bN c)(hT:dG c u T)(ih:∀e,aY c u nm (F e) e):aY c u nm (.of λenv S K=>aw (aq kw || !(es.all pl)) False (alt (vg g)
   (λq=>aw (h8 q.1.1&&Nat.beq q.1.2.2.endLine p.line&&Nat.ble es.length 29) ((F q.1.1).e env S λx S=>opt (dT S x q.1.2.1) λm=>sR F es env S λxs S=>bK T m x q.1.2.1 xs S K) False)
   (opt (gj g) λq=>opt (ku nm q.1.1) λv=>aw (np v) (sR F es env S λxs S=>wq T v xs S K) False))) (.Call g es kw p):=.of (λ_ _=>rfl) rfl λ{Ar f m en S Γ K Q E} hA q b h=>
 cP q (λ_ q=>q.elim) λhk q=>by
  have hk:=Bool.or_eq_false_iff.mp hk
  have hp:es.all pl=true:=by have:=hk.2;cases q:es.all pl <;> first |rfl |(rw[q] at this;exact nomatch this)
  rw[tL hk.1]
  refine qK q (λo q=>?_) λq=>aa q λo _ q=>?_
  ·rw[o.2];exact rO hM hT ih hA hp b q h
  ·rw[o.2];exact sf hW hT ih hA hp b q h
end
abbrev Sl:=List (Str×Value)
theorem bR{α:Type}{x:Str}(l:List (Str×α)):br x l=l.lookup x:=@List.rec (Str×α) (λl=>br x l=l.lookup x) rfl (λp l ih=>by
 show cond (seq p.1 x) (some p.2) (br x l)=List.lookup x ((p.1,p.2)::l)
 rw[List.lookup_cons,ih]
 by_cases h:p.1=x
 ·subst h;rw[fZ,beq_self_eq_true];rfl
 ·rw[lP h,beq_eq_false_iff_ne.mpr λe=>h e.symm];rfl) l
theorem aJ{α:Type}{x:Str}{c:α}:∀{cs:List (Str×α)},cs.lookup x=some c→(x,c)∈cs
 |(y,d)::r,h=>by
  rw[List.lookup_cons] at h
  cases q:x==y with
  |true=>rw[q] at h;cases h;rw[beq_iff_eq.mp q];exact .head _
  |false=>rw[q] at h;exact .tail _ (aJ h)
theorem kh:∀{cs:List (Str×Addr)},cs.Pairwise (λx y=>x.2≠y.2)→∀{x y:Str} {c:Addr},(x,c)∈cs→(y,c)∈cs→x=y
 |p::r,h,x,y,c,h1,h2=>by
  rw[List.pairwise_cons] at h
  rcases WC h1 with e1 |k1 <;> rcases WC h2 with e2 |k2
  ·cases e1;cases e2;rfl
  ·cases e1;exact absurd rfl (h.1 (y,c) k2)
  ·cases e2;exact absurd rfl (h.1 (x,c) k1)
  ·exact kh h.2 k1 k2
theorem kl{ko:Str→Option NameKind}{x:Str}{v:Value}(hk:ko x=some .local):∀{binds:Sl} {m:Mp},(binds.map (·.1)).Nodup→((x,v)∈binds→PySem.bindL ko binds m x=some v)∧(x∉binds.map (·.1)→PySem.bindL ko binds m x=m x)
 |[],m,_=>⟨(λh=>nomatch h),λ_=>rfl⟩
 |(y,u)::r,m,hn=>by
  rw[List.map_cons,List.nodup_cons] at hn
  unfold PySem.bindL
  have ih:=kl (v:=v) hk (binds:=r) (m:=if ko y=some .local then λz=>if z=y then some u else m z else m) hn.2
  refine⟨λh=>?_,λh=>?_⟩
  ·rcases WC h with e |h
   ·cases e;rw[ih.2 hn.1,if_pos hk,if_pos rfl]
   ·exact ih.1 h
  ·rw[List.map_cons,List.mem_cons,not_or] at h
   rw[ih.2 h.2]
   split
   ·exact if_neg h.1
   ·rfl
theorem j9{ko:Str→Option NameKind}{x:Str}{v:Value}(hk:ko x≠some .local):∀{binds:Sl} {m:Mp},(binds.map (·.1)).Nodup→((x,v)∈binds→bindC ko binds m x=some v)∧(x∉binds.map (·.1)→bindC ko binds m x=m x)
 |[],m,_=>⟨(λh=>nomatch h),λ_=>rfl⟩
 |(y,u)::r,m,hn=>by
  rw[List.map_cons,List.nodup_cons] at hn
  unfold PySem.bindC
  have ih:=j9 (v:=v) hk (binds:=r) (m:=if ko y=some .local then m else λz=>if z=y then some u else m z) hn.2
  refine⟨λh=>?_,λh=>?_⟩
  ·rcases WC h with e |h
   ·cases e;rw[ih.2 hn.1,if_neg hk,if_pos rfl]
   ·exact ih.1 h
  ·rw[List.map_cons,List.mem_cons,not_or] at h
   rw[ih.2 h.2]
   split
   ·rfl
   ·exact if_neg h.1
theorem sH{cm:Str→Option Value}{cs:List (Str×Addr)}{cells:cO}(X:CellsAre cm cs cells):∀{x c},cs.lookup x=some c→∃o,(c,o)∈cells∧o.data=.cell (cm x):=by
 induction X with
 |nil=>intro x c h;cases h
 |@cons n c' o cs cells hd X ih=>
  intro x c h
  rw[List.lookup_cons] at h
  cases q:x==n with
  |true=>rw[q] at h;cases h;rw[beq_iff_eq.mp q];exact⟨o,.head _,hd⟩
  |false=>rw[q] at h;exact(ih h).elim λo' h=>⟨o',.tail _ h.1,h.2⟩
theorem rD{cm:Str→Option Value}{cs:List (Str×Addr)}{cells:cO}(X:CellsAre cm cs cells):cells.map (·.1)=cs.map (·.2):=by
 induction X with
 |nil=>rfl
 |cons _ _ ih=>exact congrArg (_::·) ih
variable{f':Fm}{v':Value}{y:X}{xs:List X}{cells:cO}
structure Gr(h₀:Heap)(L:Addr)(m:Mp)(g:Heap):Prop where
 st:h₀.StaysIn g
 back:∀L' m' news' h',Fr g L' h' m'→News g L' h' news'→Fr h₀ L h' m∧News h₀ L h' news'
theorem qS(F:Fr h₀ L h m)(N:News h₀ L h news):Gr h₀ L m (hideAll h (news.map (·.1))):=by
 have nm:∀b o,h₀.get? b=some o→b∉news.map (·.1):=λb o e q=>by
  obtain⟨p,hp,rfl⟩:=List.mem_map.mp q
  rw[(N p hp).2.2] at e;cases e
 have st:h₀.StaysIn (hideAll h (news.map (·.1))):=λb o e=>hideAll_get _ (F.keep b o e) (nm b o e)
 obtain⟨oL,es,ep,hL,hr⟩:=F.ns
 have hLg:=hideAll_get (news.map (·.1)) hL λq=>(List.mem_map.mp q).elim λp q=>(N p q.1).2.1 q.2
 refine⟨st,λL' m' news' h' F' N'=>⟨⟨⟨oL,es,ep,F'.keep L oL hLg,hr⟩,λb o e=>F'.keep b o (st b o e),F.above⟩,λp hp=>⟨(N' p hp).1,λq=>?_,?_⟩⟩⟩
 ·have:=(N' p hp).2.2;rw[q,hLg] at this;cases this
 ·cases q:h₀.get? p.1 with
  |none=>rfl
  |some o=>have:=(N' p hp).2.2;rw[st _ _ q] at this;cases this
def Gh.addAll(Γ:Gh)(h':Heap)(tk:Tok)(cells:cO):Gh:=⟨h',tk,cells++Γ.news,λb=>if b∈cells.map (·.1) then .z else Γ.o b,Γ.at_,Γ.live⟩
theorem xR.addAll(st:xR c S Γ)(I':c.K.In f'.h₀)(T':TopRead c.prog c.loose c.mg c.mb f'.h₀)(F':Fr f'.h₀ f'.env.locals h' m')(N':News f'.h₀ f'.env.locals h' (cells++Γ.news))(h1:(cells.map (·.1)).Nodup)(h2:∀p∈cells,∀q∈Γ.news,q.1<p.1):
  ah c f' m' S (Γ.addAll h' tk cells)∧Le No Γ (Γ.addAll h' tk cells):=by
 have k:∀b x,(b,x)∈Γ.news→(Γ.addAll h' tk cells).o b=Γ.o b:=λb x mb=>if_neg λq=>(List.mem_map.mp q).elim λp q=>Nat.lt_irrefl _ (q.2▸h2 p q.1 _ mb)
 have e:Lf Γ (Γ.addAll h' tk cells):=⟨λb x mb hf=>⟨WG _ mb,(k b x mb).symm▸hf⟩,λ_ _ h=>⟨h,rfl⟩⟩
 refine⟨⟨F',N',?_,I',T',st.M,λw ce h=>Cv.mono e (λb x mb _=>⟨WG _ mb,k b x mb⟩) (st.C w ce h),st.V⟩,e,λb x mb hz _=>⟨WG _ mb,(k b x mb).trans hz⟩,λ_ _ h=>⟨h,rfl⟩⟩
 show((cells++Γ.news).map (·.1)).Nodup
 rw[WS,List.nodup_append]
 exact⟨h1,st.once,λa ha b hb e=>(List.mem_map.mp ha).elim λp hp=>(List.mem_map.mp hb).elim λq hq=>Nat.lt_irrefl _ (by have:=h2 p hp.1 q hq.1;rwa [hp.2,hq.2,e] at this)⟩
theorem ah.addAll(st:ah c f m S Γ)(I':c.K.In f'.h₀)(T':TopRead c.prog c.loose c.mg c.mb f'.h₀)(F':Fr f'.h₀ f'.env.locals h' m')(N':News f'.h₀ f'.env.locals h' (cells++Γ.news))(h1:(cells.map (·.1)).Nodup)(h2:∀p∈cells,∀q∈Γ.news,q.1<p.1):
  ah c f' m' S (Γ.addAll h' tk cells)∧Le No Γ (Γ.addAll h' tk cells):=st.out.addAll I' T' F' N' h1 h2
theorem Bw{n:Str}(ps:List Str):∀xs vs,b4 c Γ xs vs→br n (ps.zip xs)=some x→∃v,(n,v)∈ps.zip vs∧Xv c Γ x v:=@List.rec Str (λps=>∀xs vs,b4 c Γ xs vs→br n (ps.zip xs)=some x→∃v,(n,v)∈ps.zip vs∧Xv c Γ x v) (λ_ _ _ e=>nn e)
 (λp ps ih xs vs h e=>match xs,h,e with
  |[],_,e=>nn e
  |y::xs,h,e=>fb (C:=λvs=>∃v,(n,v)∈(p::ps).zip vs∧Xv c Γ x v) h λw ws hy hr=>by
   have e:cond (seq p n) (some y) (br n (ps.zip xs))=some x:=e
   cases q:seq p n with
   |true=>rw[q] at e;exact⟨w,aW q▸.head _,Wz e▸hy⟩
   |false=>rw[q] at e;exact(ih xs ws hr e).elim λv hv=>⟨v,.tail _ hv.1,hv.2⟩) ps
theorem q8:∀{ps:List Str} {ws:List Value},ps.length=ws.length→(ps.zip ws).map (·.1)=ps
 |[],_,_=>rfl
 |p::ps,[],h=>nomatch h
 |p::ps,w::ws,h=>congrArg (p::·) (q8 (Nat.succ.inj h))
theorem b4.len(xs:List X):∀vs,b4 c Γ xs vs→vs.length=xs.length:=@List.rec X (λxs=>∀vs,b4 c Γ xs vs→vs.length=xs.length) (λvs h=>(show vs=[] from h)▸rfl) (λx xs ih vs h=>fb (C:=λvs=>vs.length=xs.length+1) h λv vs a b=>congrArg (·+1) (ih _ b)) xs
theorem b4.app(xs ys:List X){us:List Value}(k:b4 c Γ ys us):∀vs,b4 c Γ xs vs→b4 c Γ (xs++ys) (vs++us):=@List.rec X (λxs=>∀vs,b4 c Γ xs vs→b4 c Γ (xs++ys) (vs++us)) (λvs h=>(show vs=[] from h)▸k) (λx xs ih vs h=>fb (C:=λvs=>b4 c Γ (x::xs++ys) (vs++us)) h λv vs a b=>.mk a (ih _ b)) xs
theorem b4.shift(xs:List X):∀vs,b4 c Γ xs vs→b4 c (Γ.ren gF gZ) (xs.map Mine.shift) vs:=@List.rec X (λxs=>∀vs,b4 c Γ xs vs→b4 c (Γ.ren gF gZ) (xs.map Mine.shift) vs) (λ_=>id) (λx xs ih vs h=>fb (C:=λvs=>b4 c (Γ.ren gF gZ) ((x::xs).map Mine.shift) vs) h λv vs a b=>.mk a.shift (ih _ b)) xs
theorem b4.ofA(l:List A):∀vs,aG c Γ l vs→b4 c Γ (l.map X.a) vs:=@List.rec A (λl=>∀vs,aG c Γ l vs→b4 c Γ (l.map X.a) vs) (λ_=>id) (λx xs ih vs h=>dh (C:=λvs=>b4 c Γ ((x::xs).map X.a) vs) h λv vs a b=>.mk a (ih _ b)) l
inductive ly(c:Cx)(a:Addr)(fi:Fs):Prop |mk {o:Obj} {fd:FuncData} (g:c.K.lookup a=some o) (d:o.data=.func fd) (body:fd.body=.stmts fi.body) (code:codeIn c.K fd.code fd.qualname=true) (names:fd.scope.names=fi.nm) (kind:fd.scope.kind=.function)
 (co:fd.scope.isCoroutine=false) (gen:fd.scope.isGenerator=false) (clo:fd.closure=[]) (glob:fd.globals=mainGlobals) (bi:fd.builtins=builtinsNs) (nd:fi.ps.Nodup) (cn:((cellsFrom 0 fi.nm []).map (·.1)).Nodup) (pk:∀x∈fi.ps,fi.nm.lookup x=some .local∨fi.nm.lookup x=some .cell) (dbg:br "__debug__" fi.nm=none)
 (cons:∀x∈fi.nm,fi.nm.lookup x.1=some x.2) (nf:∀x∈fi.nm,x.2≠.free)
 (bind:∀(s:Shared) (vs:List Value),c.K.In s.heap→vs.length≤fi.ps.length→fi.ps.length≤vs.length+fi.ds.length→∃ws,BindsTo s fd ⟨vs,[]⟩ (fi.ps.zip (vs++ws))∧∀Γ,aG c Γ (fi.ds.drop (vs.length+fi.ds.length - fi.ps.length)) ws)
variable{fi:Fs}
theorem kE(ft:ly c a fi)(st:xR c S Γ)(KI:c.K.In Γ.h)(KG:c.K.In (hideAll Γ.h (Γ.news.map λp:Addr×Obj=>p.1)))(NL:Γ.h.NoLimit)(TG:TopRead c.prog c.loose c.mg c.mb (hideAll Γ.h (Γ.news.map λp:Addr×Obj=>p.1)))(hN:∀p∈Γ.news,Γ.h.get? p.1=some p.2)(hv:b4 c Γ xs vs)(hroom:Ar.depth<recursionLimit)(h1:xs.length≤fi.ps.length)(h2:fi.ps.length≤xs.length+fi.ds.length){R:Result→Shared→Prop}
  (h:∀f' m' Γ',f'.h₀=hideAll Γ.h (Γ.news.map λp:Addr×Obj=>p.1)→Bd c f' fi.nm (fi.ps.zip ((xs.map shift)++(fi.ds.drop (xs.length+fi.ds.length - fi.ps.length)).map X.a)) m' (push S) Γ'→Le No (Γ.ren gF gZ) Γ'→(∀b ob,(b,ob)∈Γ.news→¬bc f' b)→
   ∀E,wpAny c.M (Ar.deeper f'.env) (execs fi.body f'.env) (λfl s'=>R (.ok (.ret (match fl with | .ret v=>v |_=>.none))) s') E (c.st Γ')):codeAny c.M Ar (.call (.ref a) ⟨vs,[]⟩) R (c.st Γ):=by
 obtain⟨g,d,body,code,names,kind,co,gen,clo,glob,bi,nd,cn,pk,dbg,cons,nf,bind⟩:=ft
 rename_i o fd
 have hvl:=b4.len _ _ hv
 obtain⟨ws,hb,hws⟩:=bind (c.st Γ) vs KI (hvl▸h1) (hvl▸h2)
 have hwl:=(hws Γ).len
 have hlen:fi.ps.length=(vs++ws).length:=by rw[WN,hwl,List.length_drop,hvl];omega
 have hb1:=q8 hlen
 refine codeAny_call_function hroom (KI _ _ g) d co gen body (codeRec_of KI code) (hb _ _ _ _ ?_)
 rw[clo]
 refine wpAny_newFunctionEnv_cells kind (λx hx=>?_) λenv' he s' x=>?_
 ·have hx1:x.1∈fi.ps:=by rw[← hb1];exact List.mem_map_of_mem hx
  rw[names]
  exact(pk _ hx1).imp id λq=>⟨q,cellsFrom_some _ _ _ (.inl q)⟩
 subst he
 refine⟨NL.keeps x.toInCall.keep,codeAny_func ?_⟩
 obtain⟨h₁,tk,rfl,_⟩:=x.done
 have hk₁:=x.toInCall.keep
 have hnames:((cellsFrom (Γ.h.objs.size+1) fd.scope.names []).map (·.1)).Nodup:=by rw[names];exact cellsFrom_names fi.nm 0 (Γ.h.objs.size+1) [] [] rfl▸cn
 obtain⟨cells,NC,Y⟩:=Cl.news (h₀:=Γ.h) (Nat.le_refl _) λn c hm=>⟨x.cell n c (lookup_of_mem_nodup hnames hm),x.above n c hm⟩
 have hcf:cells.map (·.1)=(cellsFrom (Γ.h.objs.size+1) fd.scope.names []).map (·.2):=rD Y
 have hcab:∀p∈cells,Γ.h.objs.size<p.1:=λp hp=>by
  have:p.1∈(cellsFrom (Γ.h.objs.size+1) fd.scope.names []).map (·.2):=by rw[← hcf];exact List.mem_map_of_mem hp
  obtain⟨q,hq,e⟩:=List.mem_map.mp this
  exact e▸x.above q.1 q.2 hq
 have old:∀p∈Γ.news,p.1<Γ.h.objs.size:=λp hp=>Heap.lt_size (hN p hp)
 have N':News (hideAll Γ.h (Γ.news.map (·.1))) Γ.h.objs.size h₁ (cells++Γ.news):=λp hp=>by
  rcases WF hp with hp |hp
  ·refine⟨(NC p hp).1,(NC p hp).2.1,?_⟩
   cases q:(hideAll Γ.h (Γ.news.map (·.1))).get? p.1 with
   |none=>rfl
   |some o=>have:=of_hideAll _ q;rw[(NC p hp).2.2] at this;cases this
  ·exact⟨hk₁ _ _ (hN p hp),Nat.ne_of_lt (old p hp),hideAll_none _ (List.mem_map_of_mem hp)⟩
 have sp:=st.push
 have s:=sp.1.addAll (tk:=tk) (f':=⟨newEnv fd.scope Γ.h.objs.size fd.globals (cellsFrom (Γ.h.objs.size+1) fd.scope.names []) (fd.qualname++".<locals>.") (some a) fd.code none fd.builtins,hideAll Γ.h (Γ.news.map λp:Addr×Obj=>p.1)⟩) KG TG
  ⟨x.toInCall.ns,λb o e=>hk₁ b o (of_hideAll _ e),Wq (hideAll_size _ _)⟩ N' (hcf▸List.pairwise_map.mpr x.apart) λp hp q hq=>Wi (old q hq) (hcab p hp)
 have hvr:b4 c _ ((xs.map shift)++(fi.ds.drop (xs.length+fi.ds.length - fi.ps.length)).map X.a) (vs++ws):=b4.app _ _ (b4.ofA _ _ (hvl▸hws (Gh.addAll (Γ.ren gF gZ) h₁ tk cells))) _ (b4.mono s.2 _ _ (b4.shift _ _ hv))
 have hko:∀y k,br y fi.nm=some k→fd.scope.names.lookup y=some k:=λy k e=>by rw[names,← bR];exact e
 have nofree:∀y,br y fi.nm=some .free→False:=λy e=>nf _ (aJ (bR fi.nm▸e)) rfl
 have hcl:∀y b,(cellsFrom (Γ.h.objs.size+1) fd.scope.names []).lookup y=some b→∃ob,(b,ob)∈cells∧ob.data=.cell _:=λy b e=>sH Y e
 have hz:∀b ob,(b,ob)∈cells→(Gh.addAll (Γ.ren gF gZ) h₁ tk cells).o b=.z:=λb ob hm=>if_pos (List.mem_map_of_mem (f:=λp:Addr×Obj=>p.1) hm)
 refine h _ _ _ rfl ⟨s.1,⟨kind,glob,bi,λy k e=>?_,λy z b hy hz=>kh x.apart (aJ hy) (aJ hz),dbg,λy e=>?_⟩,λy w k e1 e2 e3=>?_,λy b e=>?_⟩ s.2 (λb ob hm ho=>?_) _
 ·have q:=hko y k e
  cases k <;> first |exact q |exact(nofree y e).elim
 ·exact Option.isSome_iff_exists.mp (cellsFrom_some _ _ _ (.inl (hko y _ e)))
 ·obtain⟨w',hw1,hw2⟩:=Bw fi.ps _ _ hvr e1
  have q:=hko y k e2
  cases k with
  |«local»=>exact .loc ((kl (v:=w') q (by rw[hb1];exact nd)).1 hw1) hw2
  |cell=>
   obtain⟨b,hb'⟩:=Option.isSome_iff_exists.mp (cellsFrom_some (x:=y) fd.scope.names (Γ.h.objs.size+1) [] (.inl q))
   obtain⟨ob,ho1,ho2⟩:=hcl y b hb'
   exact .cel hb' (WH _ ho1) (hz _ _ ho1) (ho2.trans (congrArg Data.cell ((j9 (v:=w') (λq'=>nomatch Wz (q.symm.trans (show fd.scope.names.lookup y=some .local from q'))) (by rw[hb1];exact nd)).1 hw1))) hw2
  |free=>exact(nofree y e2).elim
  |_=>exact nomatch e3
 ·obtain⟨ob,ho1,ho2⟩:=hcl y b e
  exact .mk (WH _ ho1) (hz _ _ ho1) ho2
 ·obtain⟨y,hy⟩:=ho
  exact Nat.lt_irrefl _ (Wi (old _ hm) (x.above y b (aJ hy)))
theorem zA(ft:ly c a fi)(st:ah c f m S Γ)(hv:b4 c Γ xs vs)(hroom:Ar.depth<recursionLimit)(h1:xs.length≤fi.ps.length)(h2:fi.ps.length≤xs.length+fi.ds.length){R:Result→Shared→Prop}
  (h:∀f' m' Γ',Bd c f' fi.nm (fi.ps.zip ((xs.map shift)++(fi.ds.drop (xs.length+fi.ds.length - fi.ps.length)).map X.a)) m' (push S) Γ'→Le No (Γ.ren gF gZ) Γ'→(∀b ob,(b,ob)∈Γ.news→¬bc f' b)→(∀Γ'' S'' m'',ah c f' m'' S'' Γ''→ah c f m S'' Γ'')→
   ∀E,wpAny c.M (Ar.deeper f'.env) (execs fi.body f'.env) (λfl s'=>R (.ok (.ret (match fl with | .ret v=>v |_=>.none))) s') E (c.st Γ')):codeAny c.M Ar (.call (.ref a) ⟨vs,[]⟩) R (c.st Γ):=
 have G:=qS st.F st.N
 kE ft st.out st.KI (st.I.keeps G.st) (st.T.nolimit.keeps st.F.keep) (st.T.keeps G.st) (λp hp=>(st.N p hp).1) hv hroom h1 h2 λf' m' Γ' e b le hno E=>h f' m' Γ' b le hno (λΓ'' S'' m'' s''=>by
  have q:=G.back _ _ _ _ (e▸s''.F) (e▸s''.N)
  exact⟨q.1,q.2,s''.once,st.I,st.T,s''.M,s''.C,s''.V⟩) E
variable{w:World}{R:Result→Shared→Prop}{env:Env}
theorem uJ{target:Expr}{it:Value}{body:List Stmt}
  (h:∀E,wpAny (model prog w) Ar (pyNext it) (λr s₁=>match r with
   |none=>R (.ok .next) s₁
   |some v=>wpAny (model prog w) Ar (letOwnedTupleGo target it v) (λ_ s₂=>wpAny (model prog w) Ar (assign target env v) (λ_ s₃=>wpAny (model prog w) Ar (execs body env) (λf s₄=>match f with
     | .next | .cont=>codeAny (model prog w) Ar (.forLoop target it body [] env) R s₄
     | .brk=>R (.ok .next) s₄
     | .ret v=>R (.ok (.ret v)) s₄) E s₃) E s₂) E s₁) E s):codeAny (model prog w) Ar (.forLoop target it body [] env) R s:=by
 refine codeAny_of_tree ?_
 show wpAny _ Ar ((forTurn target it body [] env).onRaise (λx=>do noteFrame x env;theTreesLotGoes x)) _ _ s
 refine wpAny_noted ?_
 simp only[forTurn]
 refine WT (wpAny_standAt (WT (wpAny_onRaise (wpAny_mono (h _) (λr s₁ h₁=>?_) λ_ _ h'=>wpAny_standAt h'))))
 cases r with
 |none=>exact WU ⟨rfl,codeAny_block (wpAny_execs_nil h₁)⟩
 |some v=>
  refine WT (wpAny_mono h₁ (λ_ s₂ h₂=>?_) λ_ _ h'=>h')
  refine WT (wpAny_mono h₂ (λ_ s₂ h₂=>WT (wpAny_mono h₂ (λf s₃ h₃=>?_) λ_ _ h'=>h')) λ_ _ h'=>h')
  cases f with
  |next=>exact WU ⟨rfl,h₃⟩
  |cont=>exact WU ⟨rfl,h₃⟩
  |brk=>exact WU h₃
  |ret v=>exact WU h₃
theorem o6{test:Expr}{body:List Stmt}
  (h:∀E,wpAny (model prog w) Ar (isTrue test env (eval test env)) (λb s₁=>if b=true then wpAny (model prog w) Ar (execs body env) (λf s₄=>match f with
     | .next | .cont=>codeAny (model prog w) Ar (.whileLoop test body [] env) R s₄
     | .brk=>R (.ok .next) s₄
     | .ret v=>R (.ok (.ret v)) s₄) E s₁ else R (.ok .next) s₁) E s):codeAny (model prog w) Ar (.whileLoop test body [] env) R s:=by
 refine codeAny_of_tree ?_
 show wpAny _ Ar ((whileTurn test body [] env).onRaise (λx=>do noteFrame x env;theTreesLotGoes x)) _ _ s
 refine wpAny_noted ?_
 simp only[whileTurn]
 refine WT (wpAny_mono (h _) (λb s₂ h₂=>?_) λ_ _ h'=>h')
 cases b with
 |false=>
  simp only[Bool.false_eq_true,if_false] at h₂ ⊢
  exact WT (wpAny_execs_nil (WU h₂))
 |true=>
  simp only[if_true] at h₂ ⊢
  refine WT (wpAny_mono h₂ (λf s₃ h₃=>?_) λ_ _ h'=>h')
  cases f with
  |next=>exact WU ⟨rfl,h₃⟩
  |cont=>exact WU ⟨rfl,h₃⟩
  |brk=>exact WU h₃
  |ret v=>exact WU h₃
def vm(env:Env)(M:Model)(Ar:Around)(ifs:List Expr)(Q:Bool→Shared→Prop)(E:Value→Shared→Prop)(s:Shared):Prop:=match ifs with
 |[]=>Q true s
 |[t]=>wpAny M Ar (isTrue t env (eval t env)) Q E s
 |_=>False
theorem r9{elt target iter:Expr}{ifs:List Expr}{scope:Scope}{pos:Pos}{it acc:Value}
  (h:∀E,wpAny (model prog w) Ar (pyNext it) (λr s₁=>match r with
   |none=>R (.ok .next) s₁
   |some v=>wpAny (model prog w) Ar (letOwnedTupleGo target it v) (λ_ s₂=>wpAny (model prog w) Ar (assign target env v) (λ_ s₃=>vm env (model prog w) Ar ifs (λb s₄=>
     if b=true then wpAny (model prog w) Ar (eval elt env) (λx s₅=>wpAny (model prog w) Ar (call (.builtin "list.append") [acc,x]) (λ_ s₆=>codeAny (model prog w) Ar (.compLoop (.ListComp elt [⟨target,iter,ifs,0⟩] scope pos) 0 it acc env) R s₆) E s₅) E s₄
     else codeAny (model prog w) Ar (.compLoop (.ListComp elt [⟨target,iter,ifs,0⟩] scope pos) 0 it acc env) R s₄) E s₃) E s₂) E s₁) E s):
  codeAny (model prog w) Ar (.compLoop (.ListComp elt [⟨target,iter,ifs,0⟩] scope pos) 0 it acc env) R s:=by
 refine codeAny_of_tree ?_
 show wpAny _ Ar ((compTurn (.ListComp elt [⟨target,iter,ifs,0⟩] scope pos) 0 it acc env).onRaise (λx=>do noteFrame x env;theTreesLotGoes x)) _ _ s
 refine wpAny_noted ?_
 rw[compTurn_list]
 refine WT (wpAny_standAt (WT (wpAny_mono (h _) (λr s₁ h₁=>?_) λ_ _ h'=>h')))
 cases r with
 |none=>exact WU h₁
 |some v=>
  refine WT (wpAny_mono h₁ (λ_ s₂ h₂=>?_) λ_ _ h'=>h')
  refine WT (wpAny_mono h₂ (λ_ s₃ h₃=>?_) λ_ _ h'=>h')
  dsimp only
  match ifs,h₃ with
  |[],h₃=>
   rw[List.forIn_nil]
   refine WT (WU ?_)
   have h₃:wpAny (model prog w) Ar (eval elt env) _ _ s₃:=h₃
   rw[if_pos rfl]
   exact WT (WT (wpAny_mono h₃ (λx s₅ h₅=>WT (wpAny_mono h₅ (λ_ s₆ h₆=>WU (WU ⟨rfl,h₆⟩)) λ_ _ e=>e)) λ_ _ e=>e))
  |[t],h₃=>
   rw[List.forIn_cons,if_pos rfl]
   have h₃:wpAny (model prog w) Ar (isTrue t env (eval t env)) _ _ s₃:=h₃
   refine WT (WT (WT (wpAny_mono h₃ (λb s₄ h₄=>WU ?_) λ_ _ e=>e)))
   dsimp only
   rw[List.forIn_nil]
   refine WU ?_
   cases b with
   |true=>
    rw[if_pos rfl]
    have h₄:wpAny (model prog w) Ar (eval elt env) _ _ s₄:=h₄
    exact WT (WT (wpAny_mono h₄ (λx s₅ h₅=>WT (wpAny_mono h₅ (λ_ s₆ h₆=>WU (WU ⟨rfl,h₆⟩)) λ_ _ e=>e)) λ_ _ e=>e))
   |false=>
    rw[if_neg (by decide)]
    exact WU ⟨rfl,h₄⟩
  |_::_::_,h₃=>exact h₃.elim
theorem vz{M:Model}{Ar:Around}{E:Value→Shared→Prop}{s:Shared}{ts:List Expr}{kk:Nat}{p:Pos}{I a:Addr}{o:Obj}{k:String}{vs:Array Value}{Q:Unit→Shared→Prop}(ho:s.heap.get? I=some o)(hc:o.cls=.type k)(hd:o.data=.fields vs)(hk:k="list_iterator"∨k="tuple_iterator")(h:Q () s):
  wpAny M Ar (letOwnedTupleGo (.Tuple ts kk p) (.ref I) (.ref a)) Q E s:=by
 show wpAny M Ar (load I >>=_) Q E s
 refine WT (wpAny_load ho ?_)
 rw[hc,hd]
 exact ca (λh=>by rcases hk with rfl |rfl <;> exact absurd (WB h).1 (by decide)) λ_=>WU h
theorem qf{M:Model}{Ar:Around}{E:Value→Shared→Prop}{s:Shared}{x:Str}{p:Pos}{it v:Value}{Q:Unit→Shared→Prop}(h:Q () s):wpAny M Ar (letOwnedTupleGo (.Name x p) it v) Q E s:=WU h
def o7(c:Cx)(f:Fm)(nm:Nm)(P:Addr→Prop)(Γ:Gh)(K:KN)(Q:Shared→Prop):Prop:=∀Γ' S' en' m',K en' S'→Bd c f nm en' m' S' Γ'→Le P Γ Γ'→Q (c.st Γ')
def jY(c:Cx)(f:Fm)(P:Addr→Prop)(Γ:Gh)(R:KX)(Q:Value→Shared→Prop):Prop:=∀v Γ' S' x m',R x S'→ah c f m' S' Γ'→Le P Γ Γ'→Xv c Γ' x v→Q v (c.st Γ')
def b6(c:Cx)(u:Nat)(nm:Nm)(W:SW)(ex:Env→Sem Flow):Prop:=∀{Ar f m en S Γ K C R} {Q:Flow→Shared→Prop} {E},Rm Ar u→W en S K C R→Bd c f nm en m S Γ→ge c f nm Γ K (Q .next)→ge c f nm Γ C (Q .cont)→jY c f (bc f) Γ R (λv=>Q (.ret v))→wpAny c.M Ar (ex f.env) Q E (c.st Γ)
section
variable{P':Addr→Prop}{g it t:Expr}{ap:Pos}{F:Expr→WP}{lb:Nat}{es ts:List Expr}{T:bA}{kn':KN}
theorem Fz.of(e:Le No Γ Γ')(h:Fz Γ' I):Fz Γ I:=λob m z=>have q:=e.z I ob m z id;h ob q.1 q.2
theorem o7.to{Q:Shared→Prop}(h:o7 c f nm P Γ kn' Q)(e:Le P Γ Γ'):o7 c f nm P Γ' kn' Q:=λΓ'' S' en' m' k b e'=>h Γ'' S' en' m' k b (e.trans e')
theorem jY.to(h:jY c f P Γ K Q)(e:Le P Γ Γ'):jY c f P Γ' K Q:=λv Γ'' S' x m' k st e'=>h v Γ'' S' x m' k st (e.trans e')
theorem ge.to'{Q:Shared→Prop}(h:ge c f nm Γ kn' Q)(e:Le (bc f) Γ Γ'):ge c f nm Γ' kn' Q:=o7.to h e
theorem bW{α:Type}{o:Option α}{f:α→Prop}{g:Prop}(h:alt o f g)(k:∀a,o=some a→f a→C)(k':o=none→g→C):C:=@Option.rec α (λo=>alt o f g→(∀a,o=some a→f a→C)→(o=none→g→C)→C) (λh _ k'=>k' rfl h) (λa h k _=>k a rfl h) o h k k'
theorem Le.cut2(a:Le No Γ₀ Γ)(b:Le (λa=>P a∨a=I) Γ Γ')(h:Fz Γ₀ I):Le P Γ₀ Γ':=⟨a.1.trans b.1,λx ob m z n=>have q:=a.z x ob m z id;b.z x ob q.1 q.2 λp=>p.elim n λe=>h ob (e▸m) (e▸z),λj k h=>have q:=a.l j k h;have r:=b.l j k q.1;⟨r.1,r.2.trans q.2⟩⟩
theorem mo(ts:List Expr):∀{l:List A} {en:En} {K:En→Prop},bindL nm ts l en K→ts.length=l.length∧(assignEach ts f.env).length=ts.length∧(assignEach ts f.env).findIdx? (·.1)=none:=@List.rec Expr (λts=>∀{l:List A} {en:En} {K:En→Prop},bindL nm ts l en K→ts.length=l.length∧(assignEach ts f.env).length=ts.length∧(assignEach ts f.env).findIdx? (·.1)=none)
 (λ{l en K} q=>match l,q with |[],_=>⟨rfl,rfl,rfl⟩ |_::_,q=>q.elim)
 (λt ts ih {l en K} q=>match l,q with
  |[],q=>q.elim
  |v::l,q=>aa q λo _ q=>bC q λ_ q=>by
   have i:=ih q
   rw[o.2]
   refine⟨congrArg (·+1) i.1,congrArg (·+1) i.2.1,?_⟩
   show List.findIdx? (·.1) ((false,_)::assignEach ts f.env)=none
   rw[List.findIdx?_cons,i.2.2];rfl) ts
theorem kq(ts:List Expr):∀{l:List A} {vs en m Γ} {K:En→Prop} {Q:Unit→Shared→Prop},bindL nm ts l en K→aG c Γ l vs→Bd c f nm en m S Γ→ge c f nm Γ (λen S'=>K en∧S'=S) (Q ())→wpAny c.M Ar (assignInOrder ((assignEach ts f.env).map (·.2)) vs) Q E (c.st Γ):=
 @List.rec Expr (λts=>∀{l:List A} {vs en m Γ} {K:En→Prop} {Q:Unit→Shared→Prop},bindL nm ts l en K→aG c Γ l vs→Bd c f nm en m S Γ→ge c f nm Γ (λen S'=>K en∧S'=S) (Q ())→wpAny c.M Ar (assignInOrder ((assignEach ts f.env).map (·.2)) vs) Q E (c.st Γ))
  (λ{l vs en m Γ K Q} q hv b h=>match l,q,hv with
   |[],q,hv=>(show vs=[] from hv)▸WU (h Γ S en m ⟨q,rfl⟩ b .refl)
   |_::_,q,_=>q.elim)
  (λt ts ih {l vs en m Γ K Q} q hv b h=>match l,q,hv with
   |[],q,_=>q.elim
   |z::l,q,hv=>aa q λo _ q=>dh (C:=λvs=>wpAny c.M Ar (assignInOrder ((assignEach (t::ts) f.env).map (·.2)) vs) Q E (c.st Γ)) hv λv1 vs1 h1 hr=>by
    rw[o.2]
    show wpAny _ _ (holding vs1 (assign (.Name o.1.1 o.1.2) f.env v1) >>=λ_=>assignInOrder ((assignEach ts f.env).map (·.2)) vs1) Q E _
    refine WT (wpAny_holding (wpAny_assign_Name (mH (x:=.a z) (K:=λen S'=>bindL nm ts l en K∧S'=S) b h1 ?_ λΓ1 S1 en1 m1 k1 b1 le1=>?_)))
    ·exact bC q λhs q=>by unfold cu;rw[hs];exact⟨q,rfl⟩
    ·obtain⟨k1,rfl⟩:=k1
     exact ih k1 (aG.mono le1.1 _ _ hr) b1 (h.to' le1)) ts
theorem xc(hA:Rm Ar u){K:En→Prop}{Q:Unit→Shared→Prop}(q:fI nm t z en K)(hz:Av c Γ z v)(b:Bd c f nm en m S Γ)(h:ge c f nm Γ (λen S'=>K en∧S'=S) (Q ())):wpAny c.M Ar (assign t f.env v) Q E (c.st Γ):=
 bW q (λo _ q=>by
  rw[o.2]
  exact wpAny_assign_Name (mH (x:=.a z) (K:=λen S'=>K en∧S'=S) b hz (bC q λhs q=>by unfold cu;rw[hs];exact⟨q,rfl⟩) h)) λ_ q=>aa q λo _ q=>aa q λl _ q=>bC q λ_ q=>by
  have i:=mo (f:=f) o.1.1 q
  rw[o.2]
  refine bZ (C:=λv=>wpAny c.M Ar (assign (.Tuple o.1.1 o.1.2.1 o.1.2.2) f.env v) Q E (c.st Γ)) b.1 (l.2▸hz) λa vs g r _=>?_
  refine unpackN_ b.F b.N ⟨_,g,rfl,_,rfl⟩ hA.1 (by rw[i.2.1,i.1,bY r]) i.2.2 λh' F' N'=>?_
  have s:=b.1.still (tk:=Γ.tk) F' N'
  exact kq o.1.1 q (aG.mono s.2.1 _ _ r) (b.go s.1 s.2) (h.to' s.2.no)
end
section
variable{P':Addr→Prop}{g it t:Expr}{ap:Pos}{F:Expr→WP}{lb:Nat}{es ts:List Expr}{T:bA}{body:List Stmt}
theorem ah.lt(st:ah c f m S Γ):∀p∈Γ.news,p.1<Γ.h.objs.size:=λp hp=>Heap.lt_size (st.N p hp).1
theorem zk(st:ah c f m S Γ)(hx:Xv c Γ x v)(hi:uI x=none)(e:bU S x=some l)(h:∀Γ' I,ah c f m S Γ'→Le No Γ Γ'→nS c Γ' I 0 x→Fz Γ I→Q (.ref I) (c.st Γ')):wpAny c.M Ar (pyIter v) Q E (c.st Γ):=by
 have e:alt (uI x) _ (alt (uT x) (λl=>some l.1) (ba (au S x)))=some l:=e
 rw[hi] at e
 have e:alt (uT x) (λl=>some l.1) (ba (au S x))=some l:=e
 cases ht:uT x with
 |some o=>
  have hx':Av c Γ (.tup o.1) v:=bt hx o.2
  refine bZ (C:=λv=>Av c Γ (.tup o.1) v→wpAny c.M Ar (pyIter v) Q E (c.st Γ)) st hx' (λa vs g r n hx'=>?_) hx'
  have s:=st.add (tk:=Γ.tk) (ob:={cls:=.type "tuple_iterator",data:=.fields #[.ref a,.int 0 0]}) (st.F.push _) (st.N.push st.F _) st.lt .z
  exact wpAny_pyIter_tuple ⟨_,g,rfl,_,rfl⟩ (h _ _ s.1 s.2.1 (o.2.symm▸⟨.tup (.head _) ⟨rfl,rfl⟩ (Av.mono s.2.1.1 _ _ hx'),s.2.2⟩) (eG st.lt))
 |none=>
  rw[ht] at e
  refine dH (C:=λv=>Xv c Γ x v→wpAny c.M Ar (pyIter v) Q E (c.st Γ)) (aU st hx e) (λa vs g r n hx=>?_) hx
  have s:=st.add (tk:=Γ.tk) (ob:={cls:=.type "list_iterator",data:=.fields #[.ref a,.int 0 0]}) (st.F.push _) (st.N.push st.F _) st.lt .z
  exact wpAny_pyIter_list g (h _ _ s.1 s.2.1 ⟨.list (.head _) ⟨rfl,rfl⟩ (hx.mono s.2.1) hi ht,s.2.2⟩ (eG st.lt))
theorem y0{i:Int}{t:Tok}(hn:i.natAbs≤bM)(st:ah c f m S Γ)(h:∀Γ' I,ah c f m S Γ'→Le No Γ Γ'→nS c Γ' I 0 (.a (.int i))→Fz Γ I→Q (.ref I) (c.st Γ')):wpAny c.M Ar (call (.type "range") [.int i t]) (λr s'=>wpAny c.M Ar (pyIter r) Q E s') E (c.st Γ):=by
 have hl:(bM:Int)=1000000:=rfl
 have hr:=IsRange.new Γ.h 0 i 1 Γ.tk t (Γ.tk+1)
 have e1:Builtin.Range.rangeSize 0 i 1=((i.toNat - 0:Nat):Int):=by
  rw[rangeSize_one]
  split <;> omega
 have hs:Builtin.Range.small 0 i 1=true:=small_one (by decide) (by decide) (by omega) (by omega)
 have s1:=st.add (tk:=Γ.tk+1+1) (ob:={cls:=.type "range",data:=.fields #[.int 0 Γ.tk,.int i t,.int 1 (Γ.tk+1)]}) (st.F.push _) (st.N.push st.F _) st.lt .z
 have s2:=s1.1.add (tk:=Γ.tk+1+1) (ob:=Vb 0 i.toNat) (s1.1.F.push _) (s1.1.N.push s1.1.F _) s1.1.lt .z
 refine call_range_1 (wpAny_pyIter_range hr hs ?_)
 rw[e1]
 exact h _ _ s2.1 (s1.2.1.trans s2.2.1) ⟨.range (.head _),s2.2.2⟩ (Fz.of s1.2.1 (eG s1.1.lt))
theorem rx{q:{q:(Str×Pos)×(Expr×Pos) // it=.Call (.Name q.1.1 q.1.2) [q.2.1] [] q.2.2}}(e:u0 nm it=some q):Bu (ku nm q.1.1.1)=true:=ad e λq1 _ e=>ad e λx _ e=>ad e λee _ e=>ad e λkk _ e=>aQ e λh e=>by cases Wz e;exact h
theorem Bh{o:Option A}(h:Bu o=true):o=some (.obj (.type "range")):=by
 unfold Bu at h
 cases o with
 |none=>exact nomatch h
 |some r=>
  have h:alt (vO r) _ false=true:=h
  cases e:vO r with
  |none=>rw[e] at h;exact nomatch h
  |some p=>
   rw[e] at h
   clear e
   obtain⟨w,rfl⟩:=p
   cases w <;> first |exact ff h |(have h:=of_decide_eq_true (show decide (_="range")=true from h);subst h;rfl)
theorem xM(hW:Wd c)(ih:∀e,aY c u nm (F e) e)(hA:Rm Ar u)(q:HV nm F it en S K)(b:Bd c f nm en m S Γ)(h:∀Γ' S' x I,K x S'→ah c f m S' Γ'→Le No Γ Γ'→nS c Γ' I 0 x→Fz Γ I→Q (.ref I) (c.st Γ')):wpAny c.M Ar (eval it f.env) (λx s'=>wpAny c.M Ar (pyIter x) Q E s') E (c.st Γ):=
 bW q (λo e q=>by
  have hg:=Bh (rx e)
  rw[o.2]
  show wpAny _ _ (eval (.Name o.1.1.1 o.1.1.2) f.env >>=λg=>callWith o.1.2.2 g [] (backTo o.1.2.2 (starEach [o.1.2.1] f.env)) []) _ _ _
  refine WT (oK (K:=λx S'=>x=.a (.obj (.type "range"))∧S'=S) hW.gl b (i9 hg).1 ⟨rfl,rfl⟩ λv1 Γ1 S1 x1 q1 st1 le1 r1=>?_)
  obtain⟨rfl,rfl⟩:=q1
  rw[q9 r1]
  have hs:=(ih _).s q
  have hp:[o.1.2.1].all pl=true:=by show(pl o.1.2.1&&true)=true;rw[hs];rfl
  refine PyProof.Rows.callWith_type (jl _ f.env _ hp).a (bj hp ?_)
  rw[gb hs]
  refine Calls.spliced_cons ((ih _).e hA q (b.go st1 le1) λv2 Γ2 S2 x2 q2 st2 le2 r2=>Calls.spliced_nil ?_)
  refine bC q2 λhr q2=>?_
  unfold f9 at hr
  cases e':uI x2 with
  |none=>rw[e'] at hr;exact nomatch hr
  |some i=>
   rw[e'] at hr
   refine aS (C:=λv=>wpAny c.M Ar (call (.type "range") ([]++[v])) _ E (c.st Γ2)) (bt r2 i.2) λt=>y0 (ble hr) st2 λΓ3 I st3 le3 it fz=>h _ _ x2 I q2 st3 ((le1.trans le2).trans le3) (i.2.symm▸it) (Fz.of (le1.trans le2) fz))
  λ_ q=>(ih it).e hA q b λv1 Γ1 S1 x1 q1 st1 le1 r1=>bW q1 (λ_ _ q=>q.elim) λhi q1=>aa q1 λl e q1=>zk st1 r1 hi e λΓ2 I st2 le2 it fz=>h _ _ x1 I q1 st2 (le1.trans le2) it (Fz.of le1 fz)
theorem JC(h:pl it=true)(v:Value)(env:Env):foldedSetIterable it env v=pure v:=by cases it <;> first |rfl |exact nomatch h
theorem t4(ih:∀e,aY c u nm (F e) e)(q:HV nm F it en S K)(v:Value)(env:Env):foldedSetIterable it env v=pure v:=bW q (λo _ _=>o.2.symm▸rfl) λ_ q=>JC ((ih it).s q) v env
end
section
variable{P':Addr→Prop}{g it t:Expr}{ap:Pos}{F:Expr→WP}{lb:Nat}{es ts:List Expr}{T:bA}{body:List Stmt}{Kn Cn:KN}{B:SW}{X':KX}
theorem Bd.own(b:Bd c f nm en m S Γ)(fz:Fz Γ I):¬bc f I:=λ⟨x,hx⟩=>ie.casesOn (b.Z x I hx) λn z _=>fz _ n z
theorem Bd.step(b:Bd c f nm en m S Γ)(st:ah c f m S Γ')(e:Le (λa=>a=I) Γ Γ')(hI:¬bc f I):Bd c f nm en m S Γ':=⟨st,b.k,λx v k h1 h2 h3=>(b.R x v k h1 h2 h3).mono e (λa l e'=>hI (e'▸⟨x,l⟩)) λ_=>rfl,λx a h=>(b.Z x a h).mono e λ(e':a=I)=>hI (e'▸⟨x,h⟩)⟩
theorem LB{k' k'':Nat}{Q:Unit→Shared→Prop}{l:List A}{S0:AS}{K:En→Prop}(st:ah c f m S Γ)(it:nS c Γ I k' x)(e:bU S0 x=some l)(hz:Av c Γ z v)(hn:l[k'']?=some z)(q:fI nm t z en K)(h:Q () (c.st Γ)):wpAny c.M Ar (letOwnedTupleGo t (.ref I) v) Q E (c.st Γ):=
 bW q (λo _ _=>o.2.symm▸qf h) λ_ q=>aa q λo _ q=>aa q λl' _ q=>by
  rw[o.2]
  refine bZ (C:=λv=>wpAny c.M Ar (letOwnedTupleGo (.Tuple o.1.1 o.1.2.1 o.1.2.2) (.ref I) v) Q E (c.st Γ)) st (l'.2▸hz) λa vs g r _=>?_
  obtain⟨it,_⟩:=it
  cases it with
  |range n=>
   exfalso
   have e:l=cB _ 0:=(Wz e).symm
   rw[e,dS] at hn
   cases hb:Nat.blt k'' _ with
   |true=>rw[hb] at hn;have:=Wz hn;rw[l'.2] at this;cases this
   |false=>rw[hb] at hn;cases hn
  |tup n i h'=>exact vz (st.get n) i.1 i.2 (.inr rfl) h
  |list n i h' _ _=>exact vz (st.get n) i.1 i.2 (.inl rfl) h
theorem L8(hA:Rm Ar u)(hb:b6 c u nm B (execs body)){R:Result→Shared→Prop}(N:Nat):∀{k' en m S Γ},c9 B nm t Kn X' x N k' en S→Bd c f nm en m S Γ→nS c Γ I k' x→¬bc f I→o7 c f nm (λa=>bc f a∨a=I) Γ Kn (R (.ok .next))→jY c f (λa=>bc f a∨a=I) Γ X' (λv=>R (.ok (.ret v)))→codeAny c.M Ar (.forLoop t (.ref I) body [] f.env) R (c.st Γ):=
 @Nat.rec (λN=>∀{k' en m S Γ},c9 B nm t Kn X' x N k' en S→Bd c f nm en m S Γ→nS c Γ I k' x→¬bc f I→o7 c f nm (λa=>bc f a∨a=I) Γ Kn (R (.ok .next))→jY c f (λa=>bc f a∨a=I) Γ X' (λv=>R (.ok (.ret v)))→codeAny c.M Ar (.forLoop t (.ref I) body [] f.env) R (c.st Γ))
  (λq=>q.elim)
  (λN ih {k' en m S Γ} q b it hI h hr=>aa q λl e q=>uJ λE=>w2 hA.1 b.1 it e (λz hz Γ1 v1 st1 le1 it1 av=>by
   have q:fI nm t z en λen=>B en S (c9 B nm t Kn X' x N (k'+1)) (c9 B nm t Kn X' x N (k'+1)) X':=by
    have q:@Option.rec A (λ_=>Prop) (Kn en S) (λv=>fI nm t v en λenv=>B env S (c9 B nm t Kn X' x N (k'+1)) (c9 B nm t Kn X' x N (k'+1)) X') l[k']?:=q
    rw[hz] at q;exact q
   have b1:=b.step st1 le1 hI
   have le1':Le (λa=>bc f a∨a=I) Γ Γ1:=le1.to λ_=>.inr
   refine LB st1 it1 e av hz q (xc hA q av b1 λΓ2 S2 en2 m2 k2 b2 le2=>?_)
   obtain⟨k2,rfl⟩:=k2
   have le2':=le1'.trans (le2.to λ_=>.inl)
   have nx:∀Γ' S' en' m',c9 B nm t Kn X' x N (k'+1) en' S'→Bd c f nm en' m' S' Γ'→Le (bc f) Γ2 Γ'→codeAny c.M Ar (.forLoop t (.ref I) body [] f.env) R (c.st Γ'):=λΓ' S' en' m' q' b' le'=>
    have le3:=le2'.trans (le'.to λ_=>.inl)
    ih q' b' ((it1.mono le2 hI).mono le' hI) hI (o7.to h le3) (jY.to hr le3)
   exact hb hA k2 b2 nx nx λv Γ' S' x' m' k st le' hx=>hr v Γ' S' x' m' k st (le2'.trans (le'.to λ_=>.inl)) hx)
  λhz Γ1 st1 le1=>h Γ1 _ _ _ (by
   have q:@Option.rec A (λ_=>Prop) (Kn en S) (λv=>fI nm t v en λenv=>B env S (c9 B nm t Kn X' x N (k'+1)) (c9 B nm t Kn X' x N (k'+1)) X') l[k']?:=q
   rw[hz] at q;exact q) (b.step st1 le1 hI) (le1.to λ_=>.inr)) N
theorem zV{wt:WP}(hA:Rm Ar u)(ht:aY c u nm wt t)(hb:b6 c u nm B (execs body)){R:Result→Shared→Prop}(N:Nat):∀{en m S Γ},Bt wt B Kn X' N en S→Bd c f nm en m S Γ→ge c f nm Γ Kn (R (.ok .next))→jY c f (bc f) Γ X' (λv=>R (.ok (.ret v)))→codeAny c.M Ar (.whileLoop t body [] f.env) R (c.st Γ):=
 @Nat.rec (λN=>∀{en m S Γ},Bt wt B Kn X' N en S→Bd c f nm en m S Γ→ge c f nm Γ Kn (R (.ok .next))→jY c f (bc f) Γ X' (λv=>R (.ok (.ret v)))→codeAny c.M Ar (.whileLoop t body [] f.env) R (c.st Γ))
  (λq=>q.elim)
  (λN ih {en m S Γ} q b h hr=>o6 λE=>ht.t (P:=λS=>B en S (Bt wt B Kn X' N) (Bt wt B Kn X' N) X') (P':=λS=>Kn en S) hA q b (λΓ1 S1 q1 st1 le1=>
   have nx:∀Γ' S' en' m',Bt wt B Kn X' N en' S'→Bd c f nm en' m' S' Γ'→Le (bc f) Γ1 Γ'→codeAny c.M Ar (.whileLoop t body [] f.env) R (c.st Γ'):=λΓ' S' en' m' q' b' le'=>ih q' b' (h.to' (le1.no.trans le')) (hr.to (le1.no.trans le'))
   hb hA q1 (b.go st1 le1) nx nx λv Γ' S' x' m' k st le' hx=>hr v Γ' S' x' m' k st (le1.no.trans le') hx) λΓ1 S1 q1 st1 le1=>h Γ1 S1 en m q1 (b.go st1 le1) le1.no) N
end
section
variable{P':Addr→Prop}{e g it t:Expr}{ap px:Pos}{F:Expr→WP}{lb N:Nat}{es ts:List Expr}{T:bA}{body a1 a2:List Stmt}{Kn Cn:KN}{B B':SW}{X':KX}{s:Stmt}{r:List Stmt}
theorem cg{t:Option Expr}{l:Nat}{env:Env}(h:dR e=false):swapsWith e t l env=pure false:=by cases e <;> first |rfl |exact nomatch h
theorem ge.here{Q:Shared→Prop}(h:ge c f nm Γ Kn Q)(b:Bd c f nm en m S Γ)(st:ah c f m S' Γ')(e:Le No Γ Γ')(q:Kn en S'):Q (c.st Γ'):=h _ _ _ _ q (b.go st e) e.no
theorem zQ(h1:aY c u nm W e):b6 c u nm (λenv S K _ _=>aw (dR e) False (W.e env S λ_ S=>K env S)) (exec (.Expr e p)):=λ{Ar f m en S Γ K C R Q E} hA q b h _ _=>cP q (λ_ q=>q.elim) λhc q=>by
 have hi:interactive f.env=false:=by unfold interactive;rw[b.k.kind];rfl
 rw[exec_Expr f.env e p hi (cg hc)]
 exact WT (wpAny_standAt (WT (h1.e hA q b λv1 Γ1 S1 x1 q1 st1 le1 r1=>wpAny_dropValue (h.here b st1 le1 q1))))
theorem DB{e:Option Expr}(ih:∀e,aY c u nm (F e) e):b6 c u nm (λenv S _ _ R=>t9 F e env S R) (exec (.Return e p)):=λ{Ar f m en S Γ K C R Q E} hA q b _ _ h=>match e,q with
 |none,q=>wpAny_Return_none (h .none Γ S (.a .none) m q b.1 .refl rfl)
 |some e,q=>wpAny_Return_some ((ih e).e hA q b λv1 Γ1 S1 x1 q1 st1 le1 r1=>h _ _ _ _ _ q1 st1 le1.no r1)
theorem zu:b6 c u nm (λenv S _ C _=>C env S) (exec (.Continue p)):=λhA q b _ h _=>WT (wpAny_standAt (WU (h _ _ _ _ q b .refl)))
theorem BL(hc:dR e=false)(h1:aY c u nm W e):b6 c u nm (λenv S K _ _=>W.e env S λx S=>cu nm n x env λenv=>K env S) (exec (.Assign [.Name n px] e p)):=λ{Ar f m en S Γ K C R Q E} hA q b h _ _=>by
 rw[exec_Assign_Name f.env n px e p (cg hc)]
 exact WT (wpAny_standAt (WT (h1.e hA q b λv1 Γ1 S1 x1 q1 st1 le1 r1=>WT (wpAny_standAt (WT (wpAny_bindName (mH (Q:=λ_ s=>wpAny c.M Ar (pure Flow.next) Q E s) (b.go st1 le1) r1 q1 (λΓ2 S2 en2 m2 k2 b2 le2=>WU (h _ _ _ _ k2 b2 (le1.no.trans le2))))))))))
theorem yp{kk:Nat}(ht:vQ e=false)(hc:dR e=false)(h1:aY c u nm W e):b6 c u nm (λenv S K _ _=>W.e env S λx S=>opt (uT x) λl=>bindL nm ts l.1 env λenv=>K env S) (exec (.Assign [.Tuple ts kk px] e p)):=λ{Ar f m en S Γ K C R Q E} hA q b h _ _=>by
 refine wpAny_Assign_stores ?_ (cg (env:=f.env) (l:=p.line) (t:=some (.Tuple ts kk px)) hc) (by cases e <;> first |rfl |exact nomatch ht)
 refine h1.e hA q b λv1 Γ1 S1 x1 q1 st1 le1 r1=>aa q1 λo _ q1=>?_
 have i:=mo (f:=f) ts q1
 have b1:=b.go st1 le1
 refine bZ (C:=λv=>wpAny c.M Ar (assign (.Tuple ts kk px) f.env v) _ E (c.st Γ1)) st1 (bt r1 o.2) λa vs g r _=>?_
 refine unpackN_ b1.F b1.N ⟨_,g,rfl,_,rfl⟩ hA.1 (by rw[i.2.1,i.1,bY r]) i.2.2 λh' F' N'=>?_
 have s:=st1.still (tk:=Γ1.tk) F' N'
 exact kq ts q1 (aG.mono s.2.1 _ _ r) (b1.go s.1 s.2) λΓ2 S2 en2 m2 k2 b2 le2=>h _ _ _ _ (k2.2.symm▸k2.1) b2 (le1.no.trans (s.2.no.trans le2))
theorem AG(hW:Wd c)(hc:dR e=false)(h1:aY c u nm W e)(h2:aY c u nm W' e1):b6 c u nm (λenv S K _ _=>W.e env S λv S=>W'.e env S λx S=>iZ x n v S λS=>K env S) (exec (.Assign [.Attribute e1 n px] e p)):=λ{Ar f m en S Γ K C R Q E} hA q b h _ _=>by
 refine wpAny_Assign_stores ?_ (cg (env:=f.env) (l:=p.line) (t:=some (.Attribute e1 n px)) hc) (by unfold swappedStores;rfl)
 refine h1.e hA q b λv1 Γ1 S1 x1 q1 st1 le1 r1=>?_
 show wpAny _ _ (holding [v1] (eval e1 f.env) >>=λov=>standAt px.atName >>=λ_=>holding [v1,ov] (setAttr ov n v1) >>=λ_=>release [v1,ov] []) _ _ _
 exact WT (wpAny_holding (h2.e hA q1 (b.go st1 le1) λv2 Γ2 S2 x2 q2 st2 le2 r2=>WT (wpAny_standAt (WT (wpAny_holding (sO (K:=λS=>K en S) hW.ok st2 r2 (r1.mono le2) q2 λΓ3 S3 q3 st3 le3=>wpAny_release (h.here b st3 ((le1.trans le2).trans le3) q3)))))))
theorem zx(hsl:cG e2=false)(hc:dR e=false)(h1:aY c u nm W e)(h2:aY c u nm W' e1)(h3:aY c u nm W'' e2):b6 c u nm (λenv S K _ _=>W.e env S λv S=>W'.e env S λx S=>W''.e env S λy S=>bv x y v S λS=>K env S) (exec (.Assign [.Subscript e1 e2 px] e p)):=λ{Ar f m en S Γ K C R Q E} hA q b h _ _=>by
 refine wpAny_Assign_stores ?_ (cg (env:=f.env) (l:=p.line) (t:=some (.Subscript e1 e2 px)) hc) (by unfold swappedStores;rfl)
 refine h1.e hA q b λv1 Γ1 S1 x1 q1 st1 le1 r1=>?_
 show wpAny _ _ (holding [v1] (eval e1 f.env) >>=λov=>holding [v1,ov] (eval e2 f.env) >>=λiv=>standAt px >>=λ_=>holding [v1,ov,iv] (setItem ov iv v1) >>=λ_=>release (match(generalizing:=false) e2 with | .Slice _ _ none _=>[iv,v1,ov] |_=>[v1,ov,iv]) []) _ _ _
 exact WT (wpAny_holding (h2.e hA q1 (b.go st1 le1) λv2 Γ2 S2 x2 q2 st2 le2 r2=>WT (wpAny_holding (h3.e hA q2 ((b.go st1 le1).go st2 le2) λv3 Γ3 S3 x3 q3 st3 le3 r3=>WT (wpAny_standAt (WT (wpAny_holding (rN (K:=λS=>K en S) st3 hA.roomy1 (r2.mono le3) r3 (r1.mono (le2.trans le3)) q3 λΓ4 S4 q4 st4 le4=>wpAny_release (h.here b st4 (((le1.trans le2).trans le3).trans le4) q4)))))))))
theorem DV{o:Operator}(h1:aY c u nm W e):b6 c u nm (λenv S K _ _=>aw (wX nm n) (opt (jB nm env n) λx=>W.e env S λy S=>aw (CX o) (opt (uI x) λa=>opt (uI y) λb=>opt (iU o a.1 b.1) λr=>cu nm n (.a (.int r)) env λenv=>K env S) False) False) (exec (.AugAssign (.Name n px) o e p)):=λ{Ar f m en S Γ K C R Q E} hA q b h _ _=>bC q λhs q=>aa q λx e1 q=>by
 rw[exec_AugAssign_Name]
 have fin:∀{Γ1:Gh} {S1:AS} {r:Int} {tk:Tok},ah c f m S1 Γ1→Le No Γ Γ1→cu nm n (.a (.int r)) en (λenv=>K env S1)→wpAny c.M Ar (standAt px >>=λ_=>bindName f.env n (.int r tk) >>=λ_=>pure Flow.next) Q E (c.st (Γ1.upd Γ1.h (tk+1) Γ1.news)):=λ{Γ1 S1 r tk} st1 le1 q1=>
  have s:=st1.tok (tk+1)
  WT (wpAny_standAt (WT (wpAny_bindName (mH (x:=.a (.int r)) (Q:=λ_ s=>wpAny c.M Ar (pure Flow.next) Q E s) (b.go s.1 (le1.trans s.2)) (gu.mk _) q1 (λΓ2 S2 en2 m2 k2 b2 le2=>WU (h _ _ _ _ k2 b2 ((le1.trans s.2).no.trans le2)))))))
 refine lA hs λk e2 hk=>WT (wpAny_standAt (WT (ur (K:=λx' S'=>x'=x∧S'=S) b (b.R n x k (ad e1 λk' a1 a2=>?_) e2 (by rcases hk with rfl |rfl <;> rfl)) (b.k.ks n k e2) ⟨rfl,rfl⟩ λv1 Γ1 S1 x1 q1 st1 le1 r1=>?_)))
 ·cases e2.symm.trans a1
  rcases hk with rfl |rfl <;> exact a2
 ·obtain⟨rfl,rfl⟩:=q1
  refine WT (wpAny_holding (h1.e hA q (b.go st1 le1) λv2 Γ2 S2 x2 q2 st2 le2 r2=>WT (wpAny_standAt (WT (wpAny_operating (bC q2 λho q2=>aa q2 λi1 _ q2=>aa q2 λi2 _ q2=>aa q2 λr e3 q2=>?_))))))
  refine aS (C:=λv=>wpAny c.M Ar (inplaceOp o v v2) _ E (c.st Γ2)) (bt (r1.mono le2) i1.2) λt=>aS (C:=λw=>wpAny c.M Ar (inplaceOp o _ w) _ E (c.st Γ2)) (bt r2 i2.2) λt'=>?_
  cases o <;> first |exact ff ho |skip
  ·cases e3;exact P.iadd_int (fin st2 (le1.trans le2) q2)
  ·cases e3;exact P.isub_int (fin st2 (le1.trans le2) q2)
theorem Iz(h1:aY c u nm W t)(h2:b6 c u nm B (execs a1))(h3:b6 c u nm B' (execs a2)):b6 c u nm (λenv S K C R=>W.t env S (λS=>B env S K C R) (λS=>B' env S K C R)) (exec (.If t a1 a2 p)):=λ{Ar f m en S Γ K C R Q E} hA q b h h' hr=>by
 show wpAny _ _ (standAt p >>=λ_=>isTrue t f.env (eval t f.env) >>=λc=>if c=true then execs a1 f.env else execs a2 f.env) _ _ _
 exact WT (wpAny_standAt (WT (h1.t (P:=λS=>B en S K C R) (P':=λS=>B' en S K C R) (Q:=λt s=>wpAny c.M Ar (if t=true then execs a1 f.env else execs a2 f.env) Q E s) hA q b (λΓ1 S1 q1 st1 le1=>h2 hA q1 (b.go st1 le1) (h.to' le1.no) (h'.to' le1.no) (hr.to le1.no)) λΓ1 S1 q1 st1 le1=>h3 hA q1 (b.go st1 le1) (h.to' le1.no) (h'.to' le1.no) (hr.to le1.no))))
theorem E2:b6 c u nm (λenv S K _ _=>K env S) (execs []):=λhA q b h _ _=>wpAny_execs_nil (h _ _ _ _ q b .refl)
theorem zy(h1:b6 c u nm B (exec s))(h2:b6 c u nm B' (execs r)):b6 c u nm (λenv S K C R=>B env S (λenv S=>B' env S K C R) C R) (execs (s::r)):=λ{Ar f m en S Γ K C R Q E} hA q b h h' hr=>by
 rw[execs_cons]
 exact WT (h1 hA q b (λΓ1 S1 en1 m1 q1 b1 le1=>h2 hA q1 b1 (h.to' le1) (h'.to' le1) (hr.to le1)) (λΓ1 S1 en1 m1 q1 b1 le1=>WU (h' _ _ _ _ q1 b1 le1)) λv Γ1 S1 x m1 q1 st1 le1 r1=>WU (hr _ _ _ _ _ q1 st1 le1 r1))
theorem wT(h1:aY c u nm W t)(hb:b6 c u nm B (execs body)):b6 c u nm (λenv S K _ R=>Bt W B K R N env S) (exec (.While t body [] p)):=λ{Ar f m en S Γ K C R Q E} hA q b h h' hr=>wpAny_While (zV hA h1 hb N q b h hr)
end
def fT(env:Env)(l:List (Str×NameKind))(cs:List (Str×Addr)):List (Str×Addr):=l.foldl (λcs x=>if x.2==.free then(x.1,(env.cells.lookup x.1).getD 0)::cs else cs) cs
theorem E3{env:Env}(l:List (Str×NameKind)):∀cs,(∀x∈l,x.2=.free→∃a,env.cells.lookup x.1=some a)→(forIn l cs λx (cs:List (Str×Addr))=>(if(x.2==.free)=true then do let a ← cellOf env x.1;pure (ForInStep.yield ((x.1,a)::cs)) else pure (ForInStep.yield cs):Sem (ForInStep (List (Str×Addr)))))=pure (fT env l cs):=by
 induction l with
 |nil=>intro cs _;rw[List.forIn_nil];rfl
 |cons x l ih=>
  intro cs hl
  rw[List.forIn_cons]
  unfold fT
  rw[List.foldl_cons]
  cases hx:x.2==.free with
  |true=>
   obtain⟨c,hc⟩:=hl x (.head _) (beq_iff_eq.mp hx)
   unfold cellOf
   rw[hc]
   exact ih _ λy hy=>hl y (.tail _ hy)
  |false=>exact ih _ λy hy=>hl y (.tail _ hy)
theorem nV{env:Env}{scope:Scope}(h:∀x∈scope.names,x.2=.free→∃a,env.cells.lookup x.1=some a):closureFor scope env=pure (fT env scope.names []):=by
 unfold closureFor
 exact(congrArg (· >>=λcs=>pure cs) (E3 scope.names [] h)).trans rfl
theorem nD{env:Env}{y:Str}{c:Addr}(l:List (Str×NameKind)):∀cs,(∀x∈l,x.2=.free→∃a,env.cells.lookup x.1=some a)→(y,c)∈fT env l cs→(y,c)∈cs∨env.cells.lookup y=some c:=by
 induction l with
 |nil=>exact λ_ _ h=>.inl h
 |cons x l ih=>
  intro cs hl h
  refine(ih _ (λy hy=>hl y (.tail _ hy)) h).elim (λh=>?_) .inr
  dsimp only at h
  cases hx:x.2==.free with
  |true=>
   rw[hx] at h
   refine(WC h).elim (λe=>?_) .inl
   cases e
   obtain⟨c,hc⟩:=hl _ (.head _) (beq_iff_eq.mp hx)
   exact .inr (hc.trans (congrArg (λo=>some (Option.getD o 0)) hc).symm)
  |false=>rw[hx] at h;exact .inl h
theorem rB{env:Env}{p:Str×Addr}(l:List (Str×NameKind)):∀cs,p∈cs→p∈fT env l cs:=by
 induction l with
 |nil=>exact λ_ h=>h
 |cons x l ih=>
  intro cs h
  refine ih _ ?_
  dsimp only
  split
  ·exact .tail _ h
  ·exact h
theorem x5{env:Env}{y:Str}(l:List (Str×NameKind)):∀cs,(y,NameKind.free)∈l→∃c,(y,c)∈fT env l cs:=by
 induction l with
 |nil=>exact λ_ h=>nomatch h
 |cons x l ih=>
  intro cs h
  refine(WC h).elim (λe=>?_) (ih _)
  cases e
  exact⟨_,rB l _ (.head _)⟩
theorem jn{α:Type}{y:Str}{c:α}:∀{cs:List (Str×α)},(y,c)∈cs→∃d,cs.lookup y=some d
 |(x,d)::r,h=>by
  rw[List.lookup_cons]
  cases q:y==x with
  |true=>exact⟨d,rfl⟩
  |false=>exact(WC h).elim (λe=>by cases e;rw[beq_self_eq_true] at q;cases q) jn
theorem eY{env:Env}{x:Str}:∀{names:List (Str×NameKind)},(names.map λ(n,k)=>if(k==NameKind.free&&env.scope.kind==.function&&env.kindOf n==some .cell) then(n,NameKind.cell) else(n,k)).lookup x=
  (names.lookup x).map λk=>if(k==NameKind.free&&env.scope.kind==.function&&env.kindOf x==some .cell) then NameKind.cell else k
 |[]=>rfl
 |(n,k)::r=>by
  have ih:=@eY env x r
  show List.lookup x ((if(k==NameKind.free&&env.scope.kind==.function&&env.kindOf n==some .cell)=true then(n,NameKind.cell) else(n,k))::_)=_
  cases hx:x==n with
  |true=>
   have:=beq_iff_eq.mp hx;subst this
   rw[show List.lookup x ((x,k)::r)=some k by rw[List.lookup_cons,beq_self_eq_true],Option.map_some]
   generalize(k==NameKind.free&&env.scope.kind==.function&&env.kindOf x==some .cell)=b
   cases b <;> (show List.lookup x ((x,_)::_)=_;rw[List.lookup_cons,beq_self_eq_true];rfl)
  |false=>
   rw[show List.lookup x ((n,k)::r)=List.lookup x r by rw[List.lookup_cons,hx]]
   generalize(k==NameKind.free&&env.scope.kind==.function&&env.kindOf n==some .cell)=b
   cases b <;> (show List.lookup x ((n,_)::_)=_;rw[List.lookup_cons,hx];exact ih)
theorem kO{x:Str}(h:seq x ".0"=false):∀{l:Nm},br x (fy l)=br x l:=λ{l}=>@List.rec (Str×NameKind) (λl=>br x (fy l)=br x l) rfl (λp r ih=>by
 show br x (List.filter _ (p::r))=cond (seq p.1 x) (some p.2) (br x r)
 rw[List.filter_cons]
 cases q:seq p.1 ".0" with
 |true=>
  cases q2:seq p.1 x with
  |true=>rw[← aW q2,q] at h;cases h
  |false=>exact ih
 |false=>exact congrArg (cond (seq p.1 x) (some p.2)) ih) l
theorem yU:∀{l:Nm},br ".0" (fy l)=none:=λ{l}=>@List.rec (Str×NameKind) (λl=>br ".0" (fy l)=none) rfl (λp r ih=>by
 show br ".0" (List.filter _ (p::r))=none
 rw[List.filter_cons]
 cases q:seq p.1 ".0" with
 |true=>exact ih
 |false=>exact(congrArg (λc=>cond c (some p.2) (br ".0" (fy r))) q).trans ih) l
theorem fv{x:Str}{k:NameKind}{l:Nm}(e:br x (fy l)=some k):br x l=some k∧x≠".0":=
 have h:x≠".0":=λq=>by subst q;rw[yU] at e;cases e
 ⟨(kO (lP h)).symm.trans e,h⟩
structure Ck(nm:Nm)(sc:Scope)(tgt:Str):Prop where
 kind:sc.kind=.function
 all:∀x∈sc.names,sc.names.lookup x.1=some x.2∧((x.2=.local∧(x.1=tgt∨x.1=".0"))∨x.2=.globalImplicit∨(x.2=.free∧br x.1 nm=some .cell))
 tg:sc.names.lookup tgt=some .local
 dbg:sc.names.lookup ("__debug__":Str)=none
 ne:seq tgt ".0"=false
theorem kj{nm:Nm}{sc:Scope}{tgt:Str}(h:nY nm sc tgt=true):Ck nm sc tgt:=by
 unfold nY at h
 have h0:=WB h
 have h1:=WB h0.1
 have h2:=WB h1.1
 have h3:=WB h2.1
 refine⟨of_decide_eq_true h3.1,λx hx=>?_,of_decide_eq_true h2.2,of_decide_eq_true h1.2,Bool.not_eq_true' _ |>.mp h0.2⟩
 have q:=WB (WL h3.2 x hx)
 refine⟨of_decide_eq_true q.2,?_⟩
 have q:=q.1
 obtain⟨n,k⟩:=x
 cases k with
 |«local»=>exact .inl ⟨rfl,(Bool.or_eq_true_iff.mp q).elim (λq=>.inl (aW q)) λq=>.inr (aW q)⟩
 |globalImplicit=>exact .inr (.inl rfl)
 |free=>
  refine .inr (.inr ⟨rfl,?_⟩)
  have q:alt (br n nm) (λk=>match k with | .cell=>true |_=>false) false=true:=q
  cases e:br n nm with
  |none=>rw[e] at q;exact nomatch q
  |some k=>rw[e] at q;cases k <;> first |rfl |exact nomatch q
 |_=>exact nomatch q
structure Aj(c:Cx)(f:Fm)(nm:Nm)(tgt:Str)(en:En)(m:Mp)(S:AS)(Γ:Gh):Prop extends ah c f m S Γ where
 k:D8 f nm
 tg:br tgt nm=some .local
 only:∀x k,br x nm=some k→wJ k=true→(k=.local∧x=tgt)∨kn k=.cell
 R:∀x v k,br x en=some v→br x nm=some k→kn k=.cell→c5 c f Γ m x v .cell
 Z:∀x a,f.env.cells.lookup x=some a→ie Γ a
section
variable{B C:Addr}{K:List A→AS→Prop}{tgt:Str}{P':Addr→Prop}{elt g it t:Expr}{ap px:Pos}{F:Expr→WP}{lb N:Nat}{acc:List A}{sc:Scope}
theorem Aj.step(b:Aj c f nm tgt en m S Γ)(st:ah c f m' S' Γ')(e:Le P Γ Γ')(hI:∀a,P a→¬bc f a):Aj c f nm tgt en m' S' Γ':=⟨st,b.k,b.tg,b.only,λx v k h1 h2 h3=>(b.R x v k h1 h2 h3).mono e (λa l p=>hI a p ⟨x,l⟩) (λq=>nomatch q),λx a h=>(b.Z x a h).mono e λp=>hI a p ⟨x,h⟩⟩
theorem Aj.store{Q:Unit→Shared→Prop}(b:Aj c f nm tgt en m S Γ)(hv:Av c Γ z v)(h:∀Γ' m',Bd c f nm ((tgt,.a z)::en) m' S Γ'→Le No Γ Γ'→Q () (c.st Γ')):wpAny c.M Ar (assign (.Name tgt p) f.env v) Q E (c.st Γ):=
 wpAny_assign_Name (wpAny_storeName_local (b.k.ks tgt _ b.tg) b.F.ns (λh' hn hs=>by
  have s:=b.1.still (tk:=Γ.tk+1) (b.F.set hn hs) (b.N.set hs)
  refine h _ (λy=>if y=tgt then some v else m y) ⟨s.1,b.k,λy w k e1 e2 e3=>?_,λy a e=>(b.Z y a e).mono s.2 id⟩ s.2
  have e1:cond (seq tgt y) (some (X.a z)) (br y en)=some w:=e1
  rcases b.only y k e2 e3 with⟨rfl,rfl⟩ |q
  ·rw[fZ] at e1
   exact .loc (if_pos rfl) (Wz e1▸Av.mono s.2.1 _ _ hv)
  ·rw[q]
   have hne:tgt≠y:=λe=>by subst e;cases b.tg.symm.trans e2;exact nomatch q
   rw[lP hne] at e1
   exact(b.R y w k e1 e2 q).mono s.2 (λ_ _ h=>h) λq=>nomatch q) (by rw[b.k.kind];rfl))
theorem tB{ground:Heap}(ck:Ck nm sc tgt)(b:Bd c f nm en m S Γ)(hf:f'=⟨compEnvC sc (fT f.env sc.names []) C f.env,ground⟩)(st:ah c f' m' S Γ)(hfree:∀x∈sc.names,x.2=.free→∃a,f.env.cells.lookup x.1=some a):Aj c f' (fy sc.names) tgt en m' S Γ:=by
 subst hf
 have hcl:∀x a,(fT f.env sc.names []).lookup x=some a→f.env.cells.lookup x=some a:=λx a hx=>(nD sc.names [] hfree (aJ hx)).elim (λq=>nomatch q) id
 have hmem:∀x k,br x sc.names=some k→(x,k)∈sc.names:=λx k e=>aJ (bR sc.names▸e)
 have fr:∀x,br x sc.names=some .free→br x nm=some .cell:=λx e=>by
  rcases(ck.all _ (hmem x _ e)).2 with q |q |q
  ·exact nomatch q.1
  ·exact nomatch q
  ·exact q.2
 have nocell:∀x,br x sc.names=some .cell→False:=λx e=>by
  rcases(ck.all _ (hmem x _ e)).2 with q |q |q
  ·exact nomatch q.1
  ·exact nomatch q
  ·exact nomatch q.1
 refine⟨st,⟨ck.kind,b.k.glob,b.k.bi,λx k e=>?_,λx y a hx hy=>b.k.cinj x y a (hcl x a hx) (hcl y a hy),(kO (by decide)).trans ((bR _).trans ck.dbg),λx e=>(nocell x (fv e).1).elim⟩,(kO ck.ne).trans ((bR _).trans ck.tg),λx k e h=>?_,λx v k e1 e2 e3=>?_,λx a e=>b.Z x a (hcl x a e)⟩
 ·obtain⟨e, -⟩:=fv e
  have q:(compEnvC sc (fT f.env sc.names []) C f.env).kindOf x=(sc.names.lookup x).map _:=eY
  show(compEnvC sc (fT f.env sc.names []) C f.env).kindOf x=_
  rw[q,← bR,e]
  cases k with
  |free=>
   have:=b.k.ks x _ (fr x e)
   show some (if _ then _ else _)=_
   rw[this,b.k.kind];rfl
  |_=>rfl
 ·obtain⟨e,ne⟩:=fv e
  cases k with
  |«local»=>
   rcases(ck.all _ (hmem x _ e)).2 with q |q |q
   ·exact .inl ⟨rfl,q.2.elim id λq=>(ne q).elim⟩
   ·exact nomatch q
   ·exact nomatch q.1
  |cell=>exact .inr rfl
  |free=>exact .inr rfl
  |_=>exact nomatch h
 ·obtain⟨e2, -⟩:=fv e2
  cases k with
  |cell=>exact(nocell x e2).elim
  |free=>
   have r:=b.R x v .cell e1 (fr x e2) rfl
   obtain⟨d,hd⟩:=x5 (env:=f.env) sc.names [] (hmem x _ e2)
   obtain⟨d',hd'⟩:=jn hd
   have r:c5 c f Γ m x v .cell:=r
   cases r with
   |cel l n z dd h=>
    have:=hcl x d' hd'
    rw[l] at this
    exact .cel ((Wz this).symm▸hd') n z dd h
  |_=>exact nomatch e3
theorem Vo{P P':Prop}(h:P):if true=true then P else P':=(if_pos rfl:(if true=true then P else P')=P)▸h
theorem QS{P P':Prop}(h:P'):if false=true then P else P':=(if_neg Bool.false_ne_true:(if false=true then P else P')=P')▸h
theorem xw{env:Env}{M:Model}{Qb:Bool→Shared→Prop}{s:Shared}(h:Qb true s):vm env M Ar (none:Option Expr).toList Qb E s:=h
theorem Fe{t:Option Expr}{Wt:Expr→WP}(hA:Rm Ar u)(he:aY c u nm W elt)(ht:∀e,aY c u nm (Wt e) e){R:Result→Shared→Prop}{iter:Expr}{pos:Pos}(hI:¬bc f I)(hB:¬bc f B)(hne:I≠B)(N:Nat):∀{k' acc vs ep m S Γ},cE W (t.map Wt) tgt en x N k' acc S K→Aj c f nm tgt en m S Γ→nS c Γ I k' x→Zl c Γ B acc vs ep→acc.length≤bM→
  (∀Γ' S' l vs ep m',K l S'→ah c f m' S' Γ'→Le (λa=>a=I∨a=B) Γ Γ'→Zl c Γ' B l vs ep→l.length≤bM→R (.ok .next) (c.st Γ'))→codeAny c.M Ar (.compLoop (.ListComp elt [⟨.Name tgt px,iter,t.toList,0⟩] sc pos) 0 (.ref I) (.ref B) f.env) R (c.st Γ):=
 @Nat.rec (λN=>∀{k' acc vs ep m S Γ},cE W (t.map Wt) tgt en x N k' acc S K→Aj c f nm tgt en m S Γ→nS c Γ I k' x→Zl c Γ B acc vs ep→acc.length≤bM→
  (∀Γ' S' l vs ep m',K l S'→ah c f m' S' Γ'→Le (λa=>a=I∨a=B) Γ Γ'→Zl c Γ' B l vs ep→l.length≤bM→R (.ok .next) (c.st Γ'))→codeAny c.M Ar (.compLoop (.ListComp elt [⟨.Name tgt px,iter,t.toList,0⟩] sc pos) 0 (.ref I) (.ref B) f.env) R (c.st Γ))
  (λq=>q.elim)
  (λN ih {k' acc vs ep m S Γ} q b it zl hl h=>aa q λl e q=>r9 λE=>w2 hA.1 b.1 it e (λz hz Γ1 v1 st1 le1 it1 av=>qf (by
   have q:@Option.rec WP (λ_=>Prop) _ _ (t.map Wt):=(by
    have q:@Option.rec A (λ_=>Prop) (K acc S) _ l[k']?:=q
    rw[hz] at q;exact q)
   have own:∀a,a=I∨a=B→¬bc f a:=λa h=>h.elim (λe=>e▸hI) λe=>e▸hB
   have b1:=b.step st1 le1 λa (e:a=I)=>e▸hI
   have zl1:=zl.mono le1 λ(e:B=I)=>hne e.symm
   refine b1.store av λΓ2 m2 b2 le2=>?_
   have bb:∀{Γ3 S3},ah c f m2 S3 Γ3→Le No Γ2 Γ3→Aj c f nm tgt en m2 S3 Γ3:=λst3 le3=>b1.step st3 (le2.trans le3) λ_ h=>h.elim
   have le12:Le (λa=>a=I∨a=B) Γ Γ2:=(le1.to λ_=>.inl).trans le2.no
   have skip:∀{Γ3 S3},cE W (t.map Wt) tgt en x N (k'+1) acc S3 K→ah c f m2 S3 Γ3→Le No Γ2 Γ3→codeAny c.M Ar (.compLoop (.ListComp elt [⟨.Name tgt px,iter,t.toList,0⟩] sc pos) 0 (.ref I) (.ref B) f.env) R (c.st Γ3):=λq3 st3 le3=>
    ih q3 (bb st3 le3) ((it1.mono le2 id).mono le3 id) ((zl1.mono le2 id).mono le3 id) hl λΓ' S' l' vs' ep' m' k st' le' zl' hl'=>h Γ' S' l' vs' ep' m' k st' ((le12.trans le3.no).trans le') zl' hl'
   have go:∀{Γ3 S3},(W.e ((tgt,.a z)::en) S3 λy S=>opt (q6 S y) λp=>ak (acc++[p.1]) (cE W (t.map Wt) tgt en x N (k'+1) (acc++[p.1]) p.2 K))→Bd c f nm ((tgt,.a z)::en) m2 S3 Γ3→Le No Γ2 Γ3→
     wpAny c.M Ar (eval elt f.env) (λx s₅=>wpAny c.M Ar (call (.builtin "list.append") [.ref B,x]) (λ_ s₆=>codeAny c.M Ar (.compLoop (.ListComp elt [⟨.Name tgt px,iter,t.toList,0⟩] sc pos) 0 (.ref I) (.ref B) f.env) R s₆) E s₅) E (c.st Γ3):=λ{Γ3 S3} q3 b3 le3=>he.e hA q3 b3 λv4 Γ4 S4 x4 q4 st4 le4 r4=>aa q4 λp e4 q4=>bJ q4 λhn q4=>eZ st4 r4 e4 λΓ5 st5 le5 av5 eq=>eq▸
     have le25:=(le3.trans le4).trans le5
     have zl5:=(zl1.mono le2 id).mono le25 id
     sQ st5 zl5 hl av5 λΓ6 vs6 ep6 st6 le6 zl6=>ih q4 ((bb st5 le25).step st6 le6 λa (e:a=B)=>e▸hB) (((it1.mono le2 id).mono le25 id).mono le6 hne) zl6 hn λΓ' S' l' vs' ep' m' k st' le' zl' hl'=>h Γ' S' l' vs' ep' m' k st' (((le12.trans le25.no).trans (le6.to λ_=>.inr)).trans le') zl' hl'
   cases t with
   |none=>exact xw (Vo (go q b2 .refl))
   |some te=>exact(ht te).t (Q:=λb s=>if b=true then _ else _) hA q b2 (λΓ3 S3 q3 st3 le3=>Vo (go q3 (b2.go st3 le3) le3)) λΓ3 S3 q3 st3 le3=>QS (skip q3 st3 le3)))
  λhz Γ1 st1 le1=>h Γ1 _ _ _ _ _ (by
    have q:@Option.rec A (λ_=>Prop) (K acc S) _ l[k']?:=q
    rw[hz] at q;exact q) st1 (le1.to λ_=>.inl) (zl.mono le1 λ(e:B=I)=>hne e.symm) hl) N
end
section
variable{B C:Addr}{K:List A→AS→Prop}{tgt:Str}{P':Addr→Prop}{elt g it t:Expr}{ap px pn pos p0:Pos}{F:Nm→Expr→WP}{lb N k':Nat}{acc:List A}{sc:Scope}{sk:SK}{KX':KX}{T:bA}{gens:List Comprehension}
theorem nS.mem(it:nS c Γ I k' x):∃o,(I,o)∈Γ.news:=match it.i with | .range n=>⟨_,n⟩ | .tup n _ _=>⟨_,n⟩ | .list n _ _ _ _=>⟨_,n⟩
theorem uO(st:ah c f m S Γ)(it:nS c Γ I k' x)(h:Q (.ref I) (c.st Γ)):wpAny c.M Ar (pyIter (.ref I)) Q E (c.st Γ):=by
 obtain⟨it,_⟩:=it
 cases it with
 |range n=>rename_i i;exact wpAny_pyIter_rangeiter (x:=(k':Int)) (left:=((i.toNat - k':Nat):Int)) (step:=1) (st.get n) h
 |tup n i hx=>exact bZ (C:=λt=>vw "tuple_iterator" t k' _→wpAny c.M Ar (pyIter (.ref I)) Q E (c.st Γ)) st hx (λa vs g _ _ i=>wpAny_pyIter_tupleiter ⟨_,st.get n,i.1,i.2⟩ h) i
 |list n i hx hi ht=>exact wpAny_pyIter_listiter ⟨_,st.get n,i.1,i.2⟩ h
theorem ah.but(st:ah c f m S Γ)(hs:Heap.SameBut C Γ.h h')(hL:C≠f.env.locals)(h0:f.h₀.get? C=none)(hn:∀p∈Γ.news,p.1≠C):ah c f m S (Γ.upd h' Γ.tk Γ.news)∧Le No Γ (Γ.upd h' Γ.tk Γ.news):=st.still (st.F.change hs hL h0) (kas_news st.N hs hn)
structure Cw(c:Cx)(f:Fm)(m:Mp)(Γ:Gh)(l:List A)(S':AS)(Γ':Gh)(B C:Addr):Prop where
 st:ah c f m S' Γ'
 le:Le No Γ Γ'
 zl:∃vs ep,Zl c Γ' B l vs ep
 hl:l.length≤bM
 fz:Fz Γ B
 ns:∃mC,Γ'.h.Ns C mC
 cL:C≠f.env.locals
 c0:f.h₀.get? C=none
 cn:∀p∈Γ'.news,p.1≠C
theorem xq{use:Option (Value→Sem Unit)}{iter:Expr}{t:Option Expr}{Kx:X→AS→Prop}(hW:Wd c)(ih:∀nm e,aY c u nm (F nm e) e)(hA:Rm Ar u)(ck:Ck nm sc tgt)(q:HV nm (F nm) iter en S Kx)(hK:∀x S,Kx x S→∃N,cE (F (fy sc.names) elt) (t.map (F (fy sc.names))) tgt en x N 0 [] S K)(b:Bd c f nm en m S Γ)
  (h':∀Γ' S' l B C,K l S'→Cw c f m Γ l S' Γ' B C→match use with
   |none=>∀h'',Heap.SameBut C Γ'.h h''→Q (.ref B) {c.st Γ' with heap:=h''}
   |some fn=>wpAny c.M Ar (fn (.ref B)) (λ_ s''=>∃m,s''.heap.Ns C m∧∀h',Heap.SameBut C s''.heap h'→Q .none {s'' with heap:=h'}) E (c.st Γ')):
  wpAny c.M Ar (comprehension (.ListComp elt [⟨.Name tgt px,iter,t.toList,0⟩] sc pos) sc f.env p0 (newList []) false (eval iter f.env) use) Q E (c.st Γ):=by
 have hfree:∀x∈sc.names,x.2=.free→∃a,f.env.cells.lookup x.1=some a:=λx hx hk=>by
  rcases(ck.all x hx).2 with q |q |q
  ·exact nomatch hk.symm.trans q.1
  ·exact nomatch hk.symm.trans q
  ·exact b.k.ce _ q.2
 have hcell:∀x∈sc.names,x.2≠.cell:=λx hx hk=>by
  rcases(ck.all x hx).2 with q |q |q
  ·exact nomatch hk.symm.trans q.1
  ·exact nomatch hk.symm.trans q
  ·exact nomatch hk.symm.trans q.1
 have hcl:∀x a,(fT f.env sc.names []).lookup x=some a→f.env.cells.lookup x=some a:=λx a hx=>(nD sc.names [] hfree (aJ hx)).elim (λq=>nomatch q) id
 refine wpAny_comprehension_free (cl:=fT f.env sc.names []) rfl (λx=>t4 (ih nm) q x f.env) (nV hfree) ck.kind (λx hx hl=>hl▸(ck.all x hx).1) (xM hW (ih nm) hA q b λΓ1 S1 x1 I q1 st1 le1 it1 fz1=>newList_K st1.F st1.N (λB h2 F2 N2 hlt=>?_) (Nat.zero_le _))
 have s2:=st1.add (tk:=Γ1.tk) (ob:=b5 [] 0) F2 N2 hlt .z
 refine wpAny_newFunctionEnv hcell (λy hy=>nomatch hy) (λh3 ns3 sb3=>?_) ck.kind
 have G:=qS s2.1.F s2.1.N
 have old:∀bb o,h2.get? bb=some o→h3.get? bb=some o:=λbb o e=>sb3.extBut bb o (Nat.ne_of_lt (Heap.lt_size e)) (Heap.get?_push_of_some _ e)
 have hltn:=s2.1.lt
 have s3:=s2.1.addAll (tk:=Γ1.tk) (cells:=[]) (f':=f) s2.1.I s2.1.T (s2.1.F.keeps old) (λp hp=>⟨old _ _ (s2.1.N p hp).1,(s2.1.N p hp).2⟩) .nil λp hp=>nomatch hp
 have s4:=s2.1.addAll (tk:=Γ1.tk) (cells:=[]) (f':=⟨compEnvC sc (fT f.env sc.names []) h2.objs.size f.env,hideAll h2 (((B,b5 [] 0)::Γ1.news).map λp:Addr×Obj=>p.1)⟩) (s2.1.I.keeps G.st) (s2.1.T.keeps G.st) ⟨ns3,λbb o e=>old _ _ (of_hideAll _ e),Wq (hideAll_size _ _)⟩
  (λp hp=>⟨old _ _ (s2.1.N p hp).1,Nat.ne_of_lt (hltn p hp),hideAll_none _ (List.mem_map_of_mem (f:=λp:Addr×Obj=>p.1) hp)⟩) .nil λp hp=>nomatch hp
 have e03:=le1.trans (s2.2.1.trans s3.2)
 have B3:=tB ck (b.go s3.1 e03) rfl s4.1 hfree
 have it3:=(it1.mono s2.2.1 id).mono s3.2 id
 have zl3:Zl c _ B [] [] 0:=Zl.mono s3.2 id ⟨.head _,s2.2.2,rfl⟩
 have fzB:Fz Γ B:=Fz.of le1 (eG hlt)
 have hI:¬bc f I:=b.own fz1
 have hB:¬bc f B:=b.own fzB
 have hne:I≠B:=λe=>it1.mem.elim λo ho=>Nat.lt_irrefl B (e▸hlt _ ho)
 have hL:f.env.locals<h2.objs.size:=s2.1.F.ns.lt
 have loop:codeAny c.M Ar (.compLoop (.ListComp elt [⟨.Name tgt px,iter,t.toList,0⟩] sc pos) 0 (.ref I) (.ref B) (compEnvC sc (fT f.env sc.names []) h2.objs.size f.env)) (compPost c.M Ar E use Q (.ref B) h2.objs.size) (c.st ((Γ1.add h2 Γ1.tk B (b5 [] 0) .z).addAll h3 Γ1.tk [])):=by
  obtain⟨N,q2⟩:=hK _ _ q1
  refine Fe hA (ih (fy sc.names) elt) (ih (fy sc.names)) (λ⟨x,hx⟩=>hI ⟨x,hcl x _ hx⟩) (λ⟨x,hx⟩=>hB ⟨x,hcl x _ hx⟩) hne N q2 B3 it3 zl3 (Nat.zero_le _) λΓ4 S4 l vs4 ep4 m4 k4 st4 le4 zl4 hl4=>?_
  have bk:=G.back _ _ _ _ st4.F st4.N
  have r:=h' Γ4 S4 l B h2.objs.size k4 ⟨⟨bk.1,bk.2,st4.once,b.I,b.T,st4.M,st4.C,st4.V⟩,e03.cut le4 λx hx=>hx.elim (λe=>e▸fz1) λe=>e▸fzB,⟨_,_,zl4⟩,hl4,fzB,⟨_,st4.F.ns⟩,Nat.ne_of_gt hL,Heap.get?_none_of_le (Nat.le_of_lt (Wg s2.1.F.above hL)),λp hp=>(st4.N p hp).2.1⟩
  cases use with
  |none=>exact⟨m4,st4.F.ns,r⟩
  |some fn=>exact r
 exact codeAny_compStart_list loop (uO (Q:=λit' s'=>codeAny c.M Ar (.compLoop (.ListComp elt [⟨.Name tgt px,iter,t.toList,0⟩] sc pos) 0 it' (.ref B) (compEnvC sc (fT f.env sc.names []) h2.objs.size f.env)) (compPost c.M Ar E use Q (.ref B) h2.objs.size) s') s4.1 it3 loop)
end
section
variable{B C:Addr}{tgt:Str}{P':Addr→Prop}{elt g it t:Expr}{ap px pn pos p0:Pos}{F:Nm→Expr→WP}{lb N k':Nat}{acc:List A}{sc:Scope}{T:bA}{gens:List Comprehension}
theorem iE{b:Bool}{P:Nat→Prop}{N:Nat}(h:cond b (∃n,P n) (P N)):∃n,P n:=a7 h (λ_ h=>h) λ_ h=>⟨N,h⟩
theorem qv(hW:Wd c)(ih:∀nm e,aY c u nm (F nm e) e){sk':SK}:aY c u nm (.of λenv S K=>qX T F nm elt gens sc lb env S λl S=>ia sk' (.list l) S K) (.ListComp elt gens sc p):=.of (λ_ _=>rfl) rfl λ{Ar f m en S Γ K Q E} hA q b h=>aa q λg _ q=>aa q λt _ q=>bC q λhc q=>by
 rw[g.2,t.2,eval_ListComp]
 exact xq (use:=none) hW ih hA (kj hc) q (λx S h=>iE h) b λΓ' S' l B C k cw h'' hs=>by
  obtain⟨vs,ep,zl⟩:=cw.zl
  have s:=cw.st.but hs cw.cL cw.c0 cw.cn
  have zl:=zl.mono s.2 id
  exact Hs (ce:=.list l) s.1 zl.m zl.z (cw.le.trans s.2) cw.fz (λΓ' w e m o=>CL.mk m o (aG.mono e _ _ zl.r) cw.hl) k h
theorem oZ(hW:Wd c)(ih:∀nm e,aY c u nm (F nm e) e){sk':SK}:b6 c u nm (λenv S K _ _=>qX T F nm elt gens sc lb env S λl S=>ia sk' (.list l) S λx S=>cu nm n x env λenv=>K env S) (exec (.Assign [.Name n pn] (.ListComp elt gens sc pos) p)):=λ{Ar f m en S Γ K C R Q E} hA q b h _ _=>by
 have hsw:swapsWith (.ListComp elt gens sc pos) (some (.Name n pn)) p.line f.env=pure (f.env.blockKind==.function&&f.env.kindOf n==some .local&&pn.line==pos.line&& !(sc.names.any λ(n',k)=>n'==n&&(k==.local ||k==.cell))):=rfl
 cases hb:(f.env.blockKind==.function&&f.env.kindOf n==some .local&&pn.line==pos.line&& !(sc.names.any λ(n',k)=>n'==n&&(k==.local ||k==.cell))) with
 |false=>
  rw[hb] at hsw
  rw[exec_Assign_Name f.env n pn _ p hsw]
  exact WT (wpAny_standAt (WT ((qv (p:=pos) hW ih).e hA q b λv1 Γ1 S1 x1 q1 st1 le1 r1=>WT (wpAny_standAt (WT (wpAny_bindName (mH (Q:=λ_ s=>wpAny c.M Ar (pure Flow.next) Q E s) (b.go st1 le1) r1 q1 (λΓ2 S2 en2 m2 k2 b2 le2=>WU (h _ _ _ _ k2 b2 (le1.no.trans le2))))))))))
 |true=>
  rw[hb] at hsw
  have hloc:f.env.kindOf n=some .local:=beq_iff_eq.mp (WB (WB (WB hb).1).1).2
  rw[exec_Assign_Name_used n pn _ p hsw]
  refine aa q λg _ q=>aa q λt _ q=>bC q λhc q=>WT (wpAny_standAt (WT ?_))
  rw[g.2,t.2]
  show wpAny _ _ (comprehension (.ListComp elt [⟨.Name g.1.1.1 g.1.1.2,g.1.2.1,t.1.toList,0⟩] sc pos) sc f.env _ (newList []) false (eval g.1.2.1 f.env) (some (assign (.Name n pn) f.env)) >>=λ_=>pure ()) _ _ _
  refine WT (xq (use:=some (assign (.Name n pn) f.env)) (Q:=λ_ s'=>wpAny c.M Ar (pure ()) (λ_ s''=>wpAny c.M Ar (pure Flow.next) Q E s'') E s') hW ih hA (kj hc) q (λx S h=>iE h) b λΓ' S' l B C k cw=>?_)
  refine wpAny_assign_Name (wpAny_storeName_local hloc cw.st.F.ns (λh5 hn hs=>?_) (by rw[b.k.kind];rfl))
  obtain⟨mC,hC⟩:=cw.ns
  refine⟨mC,hC.sameBut hs cw.cL,λh6 hs6=>WU (WU ?_)⟩
  have s5:=cw.st.still (tk:=Γ'.tk+1) (cw.st.F.set hn hs) (cw.st.N.set hs)
  have s6:=s5.1.but hs6 cw.cL cw.c0 cw.cn
  obtain⟨vs,ep,zl⟩:=cw.zl
  have zl:=(zl.mono s5.2 id).mono s6.2 id
  refine Hs (Q:=λv s=>v=.ref B→Q .next s) (ce:=.list l) s6.1 zl.m zl.z (cw.le.trans (s5.2.trans s6.2)) cw.fz (λΓ' w e m o=>CL.mk m o (aG.mono e _ _ zl.r) cw.hl) k (λv Γ3 S3 x k3 st3 le3 hx hv=>bC k3 λhst k3=>lA hst λkk e2 hk=>?_) rfl
  have e3:=b.k.ks n kk e2
  rw[hloc] at e3
  have hkk:kk=.local:=by rcases hk with rfl |rfl <;> first |rfl |exact nomatch(Wz e3)
  subst hkk
  exact h _ _ _ _ k3 ⟨st3,b.k,ue b e2 (.loc ((if_pos rfl).trans (congrArg some hv.symm)) hx) λy v k hy r=>r.mono le3 (λ_ _ h=>h) λ_=>if_neg hy,λy a e=>(b.Z y a e).mono le3 id⟩ le3.no
end
variable{it t v:Expr}{p':Pos}{F:Nm→Expr→WP}{T:bA}{lo hi st:Option Expr}{body els:List Stmt}{Kn Cn:KN}{B:SW}{X':KX}{Q:Flow→Shared→Prop}{n:Nat}
theorem Bm(hW:Wd c)(ih:∀nm e,aY c u nm (F nm e) e){s:Expr}{lb:Nat}:aY c u nm (.of λenv S K=>(F nm e1).e env S λx S=>cond (cG s) (opt (gX s) λq=>t9 (F nm) q.1.1.1 env S λy S=>t9 (F nm) q.1.1.2 env S λz S=>lz lb x y z S K) ((F nm s).e env S λy S=>ao x y S K)) (.Subscript e1 s p):=by
 have key:gX s=none∨∃o,gX s=some o:=by cases gX s;exact .inl rfl;exact .inr ⟨_,rfl⟩
 rcases key with hv |⟨o,hv⟩
 ·cases hs:cG s with
  |false=>exact .of (λ_ _=>rfl) rfl λhA q b h=>(FE (p:=p) (Z:=λ_ _ _=>False) (ih nm e1) (ih nm s) hs).e hA (by rw[hs];exact q) b h
  |true=>rw[hv];exact .of (λ_ _=>rfl) rfl λhA q b h=>Subscript_ ((ih nm e1).e hA q b λv1 Γ1 S1 x1 q1 st1 le1 r1=>q1.elim)
 ·clear hv
  obtain⟨q,rfl⟩:=o
  exact xe (ih nm) (X':=λenv S x K=>(F nm (.Slice q.1.1 q.1.2 none q.2)).e env S λy S=>ao x y S K)
theorem wM(hW:Wd c)(hM:bN c)(hT:dG c u T)(n:Nat):∀nm e,aY c u nm (wp T n nm e) e:=@Nat.rec (λn=>∀nm e,aY c u nm (wp T n nm e) e) (λ_ _=>.bad) (λn ih nm e=>by
 show aY c u nm (U3 T (wp T n) nm e) e
 cases e with
 |Constant k kd p=>exact um
 |Name x p=>exact zr hW
 |BinOp l o r p=>exact Hh (ih nm l) (ih nm r)
 |UnaryOp o a p=>cases o with
  |Not=>exact GI (ih nm a)
  |USub=>exact Eo (ih nm a)
  |_=>exact .bad
 |IfExp t a b p=>exact NV (ih nm t) (ih nm a) (ih nm b)
 |BoolOp op l p=>exact zN (ih nm) l
 |Compare l ops rs p=>exact EC (ih nm)
 |Attribute v n p=>exact Bj hW (ih nm v)
 |Subscript v s p=>exact Bm hW ih
 |List es p=>exact zJ (ih nm)
 |Tuple es k p=>exact wx (ih nm)
 |Dict ks vs p=>exact At (ih nm)
 |ListComp elt gens sc p=>exact qv hW ih
 |Call g as kw p=>exact Bq hW hM hT (ih nm)
 |_=>exact .bad) n
theorem JU(hW:Wd c)(ih:∀e,aY c u nm (F nm e) e)(hb:b6 c u nm B (execs body)){Kx:KX}{K:KN}{R:KX}(hA:Rm Ar u)(q:HV nm (F nm) it en S Kx)(hK:∀x S,Kx x S→∃N,c9 B nm t K R x N 0 en S)(b:Bd c f nm en m S Γ)(h:ge c f nm Γ K (Q .next))(hr:jY c f (bc f) Γ R λv=>Q (.ret v)):wpAny c.M Ar (exec (.For t it body [] p) f.env) Q E (c.st Γ):=
 wpAny_For (xM hW ih hA q b λΓ1 S1 x1 I q1 st1 le1 it1 fz=>(hK _ _ q1).elim λN q1=>L8 (R:=_) hA hb N q1 (b.go st1 le1) it1 (b.own fz) (λΓ2 S2 en2 m2 k2 b2 le2=>h _ _ _ _ k2 b2 (le1.cut2 le2 fz)) (λv Γ2 S2 x2 m2 k2 st2 le2 hx=>hr _ _ _ _ _ k2 st2 (le1.cut2 le2 fz) hx)) (λx=>t4 ih q x f.env)
theorem HE(hW:Wd c)(hF:∀nm e,aY c u nm (wp T n nm e) e)(hG:∀e,aY c u nm (wp T (n+1) nm e) e):b6 c u nm (rQ (wp T (n+1) nm) nm t v) (exec (.Assign [t] v p)):=λ{Ar f m en S Γ K C R Q E} hA q b h h' hr=>
 bW q (λo _ q=>by
  rw[o.2]
  cases hc:dR v with
  |false=>exact BL hc (hG v) hA q b h h' hr
  |true=>cases v with
   |ListComp elt gens sc pos=>
    have q:qX T (wp T n) nm elt gens sc (x9 pos) en S λl S=>ia (sk (x9 pos)) (.list l) S λx S=>cu nm o.1.1 x en λenv=>K env S:=q
    exact oZ hW hF hA q b h h' hr
   |SetComp _ _ _ _=>exact False.elim q
   |DictComp _ _ _ _ _=>exact False.elim q
   |_=>exact ff hc) λ_ q=>cP q (λ_ q=>q.elim) λhc q=>bW q (λo _ q=>cP q (λ_ q=>q.elim) λht q=>by
  rw[o.2];exact yp ht hc (hG v) hA q b h h' hr) λ_ q=>bW q (λo _ q=>by
  rw[o.2];exact AG hW hc (hG v) (hG _) hA q b h h' hr) λ_ q=>aa q λo _ q=>cP q (λ_ q=>q.elim) λhsl q=>by
  rw[o.2];exact zx hsl hc (hG v) (hG _) (hG _) hA q b h h' hr
theorem dD{g:Stmt→SW}(hg:∀s,b6 c u nm (g s) (exec s))(l:List Stmt):b6 c u nm (bS g l) (execs l):=@List.rec Stmt (λl=>b6 c u nm (bS g l) (execs l)) E2 (λs r ih=>zy (hg s) ih) l
theorem u7(hW:Wd c)(hM:bN c)(hT:dG c u T)(n:Nat):∀nm s,b6 c u nm (ws T n nm s) (exec s):=@Nat.rec (λn=>∀nm s,b6 c u nm (ws T n nm s) (exec s)) (λ_ _ {Ar f m en S Γ K C R Q E} hA q b h h' hr=>q.elim) (λn ih nm s=>by
 have hF:=wM hW hM hT 40
 show b6 c u nm (Vh T (wp T 40) (ws T n) nm s) (exec s)
 cases s with
 |Expr e p=>exact zQ (hF nm e)
 |Return e p=>exact DB (hF nm)
 |Assign ts v p=>exact λ{Ar f m en S Γ K C R Q E} hA q b h h' hr=>aa q λo _ q=>by rw[o.2];exact HE (n:=39) hW (wM hW hM hT 39) (hF nm) hA q b h h' hr
 |AugAssign t o e p=>exact λ{Ar f m en S Γ K C R Q E} hA q b h h' hr=>aa q λo _ q=>by rw[o.2];exact DV (hF nm e) hA q b h h' hr
 |If t a b p=>exact Iz (hF nm t) (dD (ih nm) a) (dD (ih nm) b)
 |While t b els p=>exact λ{Ar f m en S Γ K C R Q E} hA q bd h h' hr=>cP q (λ_ q=>q.elim) λhk q=>(iE q).elim λN q=>tL hk▸wT (hF nm t) (dD (ih nm) b) hA q bd h h' hr
 |For t it b els p=>exact λ{Ar f m en S Γ K C R Q E} hA q bd h h' hr=>cP q (λ_ q=>q.elim) λhk q=>tL hk▸JU (F:=wp T 40) hW (hF nm) (dD (ih nm) b) hA q (λx S h=>iE h) bd h hr
 |Continue p=>exact zu
 |_=>exact λ{Ar f m en S Γ K C R Q E} hA q b h h' hr=>False.elim q) n
inductive jw(c:Cx)(a:Addr):Option Nat→Prop
 |none (m:makesIn c.K a=true) (i:findIn c.K (.ref a) "__init__"=some (some (.builtin "object.__init__"))):jw c a none
 |some {g:Nat} (m:makesIn c.K a=true) (i:findIn c.K (.ref a) "__init__"=some (some (.ref g))) (t:typeIn c.K (.ref g)=some (.type "function")):jw c a (some g)
section
variable{Q:Value→Shared→Prop}{sk:SK}{h₁:Heap}{ax dx:Addr}{v:Value}
theorem Rm.deeper{env:Env}(h:Rm Ar (u+1)):Rm (Ar.deeper env) u:=⟨h.1,by
 have:=h.2.1
 show Ar.depth+1+2*u+4≤_
 exact V9 (by rw[Nat.mul_add,Nat.add_assoc,Nat.add_assoc,Nat.add_assoc,Nat.add_assoc];exact Wj (by rw[Nat.add_left_comm];exact Wj (by decide) _) _) this,by
 have:=h.2.2
 show Ar.units+3+10*u+100≤_
 exact V9 (by rw[Nat.mul_add,Nat.add_assoc,Nat.add_assoc,Nat.add_assoc,Nat.add_assoc];exact Wj (by rw[Nat.add_left_comm];exact Wj (by decide) _) _) this⟩
theorem Rm.room(h:Rm Ar (u+1)):Ar.depth<recursionLimit:=Wh (Nat.lt_succ_of_le (V9 (Wo _ (2*(u+1))) (Wo _ 3))) h.2.1
theorem K4(hW:Wd c)(hM:bN c)(hT:dG c u T)(ft:∀fi,io a=some fi→ly c a fi):im c (u+1) a (ae T a):=λ{Ar f m S Γ K xs vs R} hA q st hv h=>by
 unfold ae at q
 refine aa q λfi e q=>bC q λhl q=>?_
 have hl:=WB hl
 refine zA (ft fi e) st hv hA.room (ble hl.1) (ble hl.2) λf' m' Γ' bd le hno back E=>?_
 have cut:∀{Γ2},Le (bc f') Γ' Γ2→Le No (Γ.ren gF gZ) Γ2:=λle2=>le.cut le2 λx hx ob hm _=>hno x ob hm hx
 refine dD (u7 hW hM hT 20 fi.nm) fi.body hA.deeper q bd (λΓ2 S2 en2 m2 k2 b2 le2=>?_) (λΓ2 S2 en2 m2 k2 b2 le2=>k2.elim) λv Γ2 S2 x m2 k2 st2 le2 hx=>?_
 ·exact lI (v:=.none) (x:=.a .none) (back _ _ _ b2.1) (cut le2) rfl k2 λΓ3 S3 x3 k3 st3 le3 hx3 eq=>eq▸h _ Γ3 S3 x3 k3 st3 le3 hx3
 ·exact a7 k2 (λ_ k2=>yQ (back _ _ _ st2) (cut le2) hx k2 λΓ3 S3 x3 k3 st3 le3 hx3 eq=>eq▸h _ Γ3 S3 x3 k3 st3 le3 hx3) λ_ k2=>lI (back _ _ _ st2) (cut le2) hx k2 λΓ3 S3 x3 k3 st3 le3 hx3 eq=>eq▸h _ Γ3 S3 x3 k3 st3 le3 hx3
structure Wn(c:Cx)(f:Fm)(m:Mp)(S:AS)(Γ₀:Gh)(s:Shared)(a:Addr)(ce:Ce)(w:Ow)(Γ:Gh):Prop where
 st:ah c f m S Γ
 le:Le No Γ₀ Γ
 cv:Cv c Γ w a ce
 eq:c.st Γ=s
theorem RS{s:Shared}(hw:∀w,∃Γ,Wn c f m S Γ₀ s a ce w Γ)(q:ia sk ce S K)(p:cq c f m Γ₀ K Q):Q (.ref a) s:=by
 cases sk with
 |loc=>
  unfold ia at q
  cases hS:S.loc with
  |nil=>rw[hS] at q;exact q.elim
  |cons fr r=>
   rw[hS] at q
   have⟨c1,c2,c0⟩:=oV (ce:=ce) hS
   obtain⟨Γ,wn⟩:=hw (.l 0 fr.length)
   have s2:=wn.st.name (w:=.l 0 fr.length) rfl c0 c1 c2 wn.cv
   exact wn.eq▸p (.ref a) (Γ.name _ a) _ _ q s2.1 (wn.le.trans s2.2.1) ⟨congrArg Value.ref s2.2.2.symm,.inl rfl⟩
 |frz=>
  obtain⟨Γ,wn⟩:=hw .f
  exact wn.eq▸p (.ref a) Γ _ _ q wn.st wn.le (oy wn.st rfl wn.cv)
 |glob l=>
  refine a7 q (λhl q=>?_) λ_ q=>q.elim
  have⟨c1,c2,c0⟩:=oY (S:=S) (ce:=ce) hl
  obtain⟨Γ,wn⟩:=hw (.g l (S.get l).length)
  have s2:=wn.st.name (w:=.g l (S.get l).length) rfl c0 c1 c2 wn.cv
  have this:=mG.mk (Γ:=Γ.name (.g l (S.get l).length) a) (l:=l) (i:=(S.get l).length) (.inl rfl)
  rw[s2.2.2] at this
  exact wn.eq▸p (.ref a) (Γ.name _ a) _ _ q s2.1 (wn.le.trans s2.2.1) this
theorem LU(st:ah c f m S Γ)(F':Fr f.h₀ f.env.locals h₁ m)(N':News f.h₀ f.env.locals h₁ ((ax,instObj a dx)::(dx,dictOf [] 0)::Γ.news))(hd:∀p∈Γ.news,p.1<dx)(hx:dx<ax)(q:ia sk (.inst a []) S K)(p:cq c f m Γ K Q):Q (.ref ax) {c.s₀ with heap:=h₁,toks:=tk}:=by
 have s1:=st.add (tk:=tk) F' (λp hp=>N' p (.tail _ hp)) hd .z
 have s2:=s1.1.add (tk:=tk) F' N' (λp hp=>(WC hp).elim (λe=>e▸hx) λhp=>Wi (hd p hp) hx) .z
 refine RS (ce:=.inst a []) (λw=>?_) q p
 have hz:((Γ.add h₁ tk dx (dictOf [] 0) .z).add h₁ tk ax (instObj a dx) .z).o dx=.z:=(if_neg (Nat.ne_of_lt hx)).trans s1.2.2
 have s3:=s2.1.own hz (.d w)
 have hz':(((Γ.add h₁ tk dx (dictOf [] 0) .z).add h₁ tk ax (instObj a dx) .z).own dx (.d w)).o ax=.z:=(if_neg (Nat.ne_of_gt hx)).trans s2.2.2
 have s4:=s3.1.own hz' w
 have e02:=s1.2.1.trans s2.2.1
 have f1:Fz Γ dx:=eG hd
 have f2:Fz Γ ax:=eG λp hp=>Wi (hd p hp) hx
 exact⟨_,s4.1,(e02.cut s3.2.1 (kC f1)).cut s4.2.1 (kC f2),CI.mk (.head _) s4.2.2 (.tail _ (.head _)) ((if_neg (Nat.ne_of_lt hx)).trans s3.2.2) rfl,rfl⟩
theorem Rm.under{rest:List Value}{kw:List (Str×Value)}{C:Addr}(h:Rm Ar (u+1)):Rm (Ar.under (.builtin "type.__call__" ⟨.ref C::rest,kw⟩)) u:=⟨h.1,by
 have:=h.2.1
 show Ar.depth+1+2*u+4≤_
 exact V9 (by rw[Nat.mul_add,Nat.add_assoc,Nat.add_assoc,Nat.add_assoc,Nat.add_assoc];exact Wj (by rw[Nat.add_left_comm];exact Wj (by decide) _) _) this,by
 have:=h.2.2
 show Ar.units+1+10*u+100≤_
 exact V9 (by rw[Nat.mul_add,Nat.add_assoc,Nat.add_assoc,Nat.add_assoc,Nat.add_assoc];exact Wj (by rw[Nat.add_left_comm];exact Wj (by decide) _) _) this⟩
theorem CF(hT:dG c u T)(ct:∀i,lk a c6=some i→jw c a i):im c (u+1) a (cT T a):=λ{Ar f m S Γ K xs vs R} hA q st hv h=>by
 unfold cT at q
 refine aa q λi e q=>?_
 cases ct i e with
 |none k1 k2=>
  cases xs with
  |cons _ _=>exact q.elim
  |nil=>
   have hv:vs=[]:=hv
   subst hv
   have q:ia (ck a) (.inst a []) S K:=q
   exact make_K0 st.F st.N st.KI k1 k2 λx dx h1 F1 N1 hd hx=>LU (tk:=Γ.tk) st F1 N1 hd hx q h
 |some k1 k2 k3=>
  rename_i g
  have q:opt (T.fn g) λC=>ia (match ck a with | .frz=>.loc |k=>k) (.inst a []) S λx S=>C (x::xs) S λy S=>opt (isNone y) λ_=>(match ck a with | .frz=>opt (q6 S x) λp=>K (.a p.1) p.2 |_=>K x S):=q
  refine aa q λC e2 q=>make_K st.F st.N st.KI k1 k2 k3 λx dx h1 F1 N1 hd hx=>?_
  refine LU (tk:=Γ.tk) (Q:=λv s=>v=.ref x→codeAny c.M (Ar.under (.builtin "type.__call__" ⟨.ref a::vs,[]⟩)) (.call (.ref g) ⟨.ref x::vs,[]⟩) (InitBack x R) s) st F1 N1 hd hx q (λv Γ1 S1 x1 q1 st1 le1 r1 hv1=>?_) rfl
  subst hv1
  refine hT g C e2 hA.under q1 st1 (.mk r1 (b4.mono le1 _ _ hv)) λv2 Γ2 S2 y q2 st2 le2 r2=>aa q2 λo _ q2=>?_
  cases(dJ (q:=o) r2:v2=.none)
  refine⟨rfl,?_⟩
  have fin:(match ck a with | .frz=>opt (q6 S2 x1) λp=>K (.a p.1) p.2 |_=>K x1 S2)→R (.ok (.ret (.ref x))) (c.st Γ2):=by
   cases ck a with
   |frz=>exact λq2=>aa q2 λp e q2=>eZ st2 (r1.mono le2) e λΓ3 st3 le3 av eq=>eq▸h _ _ _ _ q2 st3 ((le1.trans le2).trans le3) av
   |loc=>exact λq2=>h _ _ _ _ q2 st2 (le1.trans le2) (r1.mono le2)
   |glob _=>exact λq2=>h _ _ _ _ q2 st2 (le1.trans le2) (r1.mono le2)
  exact fin q2
end
end
end
section
open PySem
section
@[reducible] def tx(s:String):A:=.str (Str.ofString s)
noncomputable def gC(L:List A)(s:Nat)(n:Int):Ce:=.dict [(tx "nums",.fl L),(tx "spot",.int (.ofNat s)),(tx "nid",.int n),(tx "uses",.g 2 0)]
noncomputable def Tr{α:Type}(b:Bool)(f:b=true→Option α):Option α:=@Bool.rec (λb=>(b=true→Option α)→Option α) (λ_=>none) (λf=>f rfl) b f
noncomputable def Pb(s:Str)(a:A):Option {_u:Unit // a=.str s}:=(vS a).bind λt=>Tr (seq t.1 s) λh=>some ⟨(),t.2.trans (congrArg A.str (aW h))⟩
noncomputable def vF(a:A):Option {l:List A // a=.fl l}:=match a with | .fl l=>some ⟨l,rfl⟩ |_=>none
noncomputable def vG(a:A):Option {p:Nat×Nat // a=.g p.1 p.2}:=match a with | .g i j=>some ⟨(i,j),rfl⟩ |_=>none
noncomputable def Ox(i j:Nat)(a:A):Option {_u:Unit // a=.g i j}:=(vG a).bind λp=>Tr (Nat.beq p.1.1 i&&Nat.beq p.1.2 j) λh=>some ⟨(),have h:=WB h;p.2.trans ((congrArg (A.g · p.1.2) (Wv h.1)).trans (congrArg (A.g i) (Wv h.2)))⟩
noncomputable def Sa(i:Int):Option {n:Nat // i=.ofNat n}:=match i with | .ofNat n=>some ⟨n,rfl⟩ | .negSucc _=>none
noncomputable def vN(a:A):Option {n:Nat // a=.int (.ofNat n)}:=(vI a).bind λi=>(Sa i.1).map λn=>⟨n.1,i.2.trans (congrArg A.int n.2)⟩
noncomputable def vD(c:Ce):Option {l:List (A×A) // c=.dict l}:=match c with | .dict l=>some ⟨l,rfl⟩ |_=>none
noncomputable def cV{α:Type}(l:List α):Option {p:α×List α // l=p.1::p.2}:=match l with |a::r=>some ⟨(a,r),rfl⟩ |[]=>none
noncomputable def eV{β:Type}(k:Str)(g:β→A)(f:(a:A)→Option {b:β // a=g b})(es:List (A×A)):Option {p:β×List (A×A) // es=(.str k,g p.1)::p.2}:=(cV es).bind λp=>(Pb k p.1.1.1).bind λt=>(f p.1.1.2).map λb=>⟨(b.1,p.1.2),p.2.trans (congrArg (·::p.1.2) (Prod.ext t.2 b.2))⟩
noncomputable def rG(c:List Ce):Option {q:(List A×Nat)×Int // c=[gC q.1.1 q.1.2 q.2]}:=(dM c).bind λc1=>(vD c1.1).bind λes=>(eV "nums" A.fl vF es.1).bind λp1=>(eV "spot" (λn=>A.int (.ofNat n)) vN p1.1.2).bind λp2=>(eV "nid" A.int vI p2.1.2).bind λp3=>(eV "uses" (λ_:Unit=>A.g 2 0) (λa=>(Ox 2 0 a).map λu=>⟨u.1,u.2⟩) p3.1.2).bind λp4=>(tV p4.1.2).map λz=>
 ⟨((p1.1.1,p2.1.1),p3.1.1),c1.2.trans (congrArg (λx=>[x]) (es.2.trans (congrArg Ce.dict (p1.2.trans (congrArg (_::·) (p2.2.trans (congrArg (_::·) (p3.2.trans (congrArg (_::·) (p4.2.trans (congrArg (_::·) z.2)))))))))))⟩
theorem eO(d:Nat):∀l r,ac d l (eC d l r) r=r:=@Nat.rec (λd=>∀l (r:Rg d),ac d l (eC d l r) r=r) (λ_ _=>rfl) (λd ih l r=>by
 show cond (Nat.beq (l % 2) 0) (ac d (l / 2) (cond (Nat.beq (l % 2) 0) (eC d (l / 2) r.1) (eC d (l / 2) r.2)) r.1,r.2) (r.1,ac d (l / 2) (cond (Nat.beq (l % 2) 0) (eC d (l / 2) r.1) (eC d (l / 2) r.2)) r.2)=r
 cases Nat.beq (l % 2) 0
 ·exact congrArg (r.1,·) (ih _ _)
 ·exact congrArg (·,r.2) (ih _ _)) d
noncomputable def a2(xs:List X):Option {m:Int // xs=[.a (.g 1 0),.a (.int m)]}:=(jO xs).bind λp=>(uA p.1.1).bind λg=>(Ox 1 0 g.1).bind λu=>(uI p.1.2).map λi=>⟨i.1,p.2.trans (rj (λa b=>[a,b]) (g.2.trans (congrArg X.a u.2)) i.2)⟩
noncomputable def w9(L:List A)(xs:List X)(S:AS)(K:KX):Prop:=opt (a2 xs) λm=>opt (rG (S.get 1)) λq=>q.1.1.1=L∧aw (decide (0<m.1)) (∀i:Nat,(i:Int)<m.1→K (.a (.int i)) (S.set 1 [gC L (q.1.1.2+1) q.1.2])) False
theorem GQ{a m:Int}(h:0<m):∃i:Nat,a.fmod m=i∧(i:Int)<m:=⟨(a.fmod m).toNat,(Int.toNat_of_nonneg (Int.fmod_nonneg_of_pos a h)).symm,by rw[Int.toNat_of_nonneg (Int.fmod_nonneg_of_pos a h)];exact Int.fmod_lt_of_pos a h⟩
theorem aj{α:Type}{o:Option α}{a:α}{K:α→Prop}(e:o=some a)(h:K a):opt o K:=e▸h
theorem aX{b:Bool}{P Q:Prop}(h:b=true→P)(h':b=false→Q):aw b P Q:=match b,h,h' with |true,h,_=>h rfl |false,_,h'=>h' rfl
variable{T:bA}{L:List A}{xs:List X}{S:AS}{K:KX}
theorem N8{a m:Int}{K:Int→Prop}(h:0<m)(k:∀i:Nat,(i:Int)<m→K i):opt (iU .Mod a m) K:=(GQ (a:=a) h).elim λi e=>aj (a:=(i:Int)) (by show cond (decide (m>0)) _ _=_;rw[decide_eq_true h];exact congrArg some e.1) (k i e.2)
theorem zE(hL:∀a∈L,∃i,a=.int i)(loc:List (List Ce))(gl:Rg 5)(s:Nat)(n m:Int)(hm:0<m)(k:∀i:Nat,(i:Int)<m→K (.a (.int i)) ⟨loc,ac 5 1 [gC L (s+1) n] gl⟩):
  aw (decide ((s:Int)<(L.length:Int))) (opt (aM (.a (.fl L)) (.int s) (some (.list L))) λv=>aw (ui (.a v)) False (opt (uI (.a v)) λa=>opt (iU .Mod a.1 m) λr=>K (.a (.int r)) ⟨loc,ac 5 1 [gC L (s+1) n] gl⟩))
   (opt (iU .Mult s 17) λr=>opt (iU .Mod (r+Int.fdiv (s:Int) 5+4) m) λr=>K (.a (.int r)) ⟨loc,ac 5 1 [gC L (s+1) n] gl⟩):=
 aX (λh=>by
  have hj:s<L.length:=WM (of_decide_eq_true h)
  obtain⟨i,hi⟩:=hL _ (List.getElem_mem hj)
  refine aj (a:=.int i) (show L[s]?=_ from(List.getElem?_eq_getElem hj).trans (congrArg some hi)) ?_
  exact N8 hm k) λ_=>aj (a:=(s:Int)*17) (by show cond (small s ||small 17) _ _=_;rw[Bool.or_comm];rfl) (N8 hm k)
theorem AH{q:(List A×Nat)×Int}(h:S.get 1=[gC q.1.1 q.1.2 q.2]):S=⟨S.loc,ac 5 1 [gC q.1.1 q.1.2 q.2] S.gl⟩:=congrArg (AS.mk S.loc) ((eO 5 1 S.gl).symm.trans (congrArg (λc=>ac 5 1 c S.gl) h))
theorem HG(hL:∀a∈L,∃i,a=.int i)(loc:List (List Ce))(gl:Rg 5)(s:Nat)(n m:Int)(hm:0<m)(k:∀i:Nat,(i:Int)<m→K (.a (.int i)) ⟨loc,ac 5 1 [gC L (s+1) n] gl⟩):ae T 1481 [.a (.g 1 0),.a (.int m)] ⟨loc,ac 5 1 [gC L s n] gl⟩ K:=cast (by kernel_rfl) (zE hL loc gl s n m hm k)
theorem tw(hL:∀a∈L,∃i,a=.int i)(h:w9 L xs S K):ae T 1481 xs S K:=aa h λm _ h=>aa h λq e h=>bC h.2 λhm k=>by
 rw[m.2]
 refine(congrArg (λS=>ae T 1481 [.a (.g 1 0),.a (.int m.1)] S K) (AH q.2)).mpr ?_
 rw[h.1]
 exact HG hL S.loc S.gl q.1.1.2 q.1.2 m.1 (of_decide_eq_true hm) k
noncomputable def nd(kind:Int)(a:A)(ks:List A)(fl n:Int):A:=.fi 44 [("kind",.int kind),("a",a),("kids",.fl ks),("flags",.int fl),("at",.int (4*n+3)),("nid",.int n)]
noncomputable def tab(l:List (Nat×ay)):bA:={fn:=λa=>lk a l}
noncomputable def L0:List (Nat×ay):=[(41,ae {} 41)]
noncomputable def L1:List (Nat×ay):=(44,cT (tab L0) 44)::L0
noncomputable def L2:List (Nat×ay):=(55,ae (tab L1) 55)::L1
section
variable(L:List A)(loc:List (List Ce))(gl:Rg 5)(s:Nat)(n kind f:Int)(av:A)(ks:List A)(K:KX)
theorem Hz(h:K (.a (nd kind av ks f (n+1))) ⟨loc,ac 5 1 [gC L s (n+1)] gl⟩):ae (tab L2) 1489 [.a (.g 1 0),.a (.int kind),.a av,.a (.fl ks),.a (.int f)] ⟨loc,ac 5 1 [gC L s n] gl⟩ K:=cast (by kernel_rfl) h
theorem zM(h:K (.a (nd kind av ks 0 (n+1))) ⟨loc,ac 5 1 [gC L s (n+1)] gl⟩):ae (tab L2) 1489 [.a (.g 1 0),.a (.int kind),.a av,.a (.fl ks)] ⟨loc,ac 5 1 [gC L s n] gl⟩ K:=cast (by kernel_rfl) h
theorem EW(h:K (.a (nd kind av ks f (n+1))) ⟨[.fz (.fl ks)]::loc,ac 5 1 [gC L s (n+1)] gl⟩):ae (tab L2) 1489 [.a (.g 1 0),.a (.int kind),.a av,.l 0 0,.a (.int f)] ⟨[.list ks]::loc,ac 5 1 [gC L s n] gl⟩ K:=cast (by kernel_rfl) h
theorem zi(h:K (.a (nd kind av ks 0 (n+1))) ⟨[.fz (.fl ks)]::loc,ac 5 1 [gC L s (n+1)] gl⟩):ae (tab L2) 1489 [.a (.g 1 0),.a (.int kind),.a av,.l 0 0] ⟨[.list ks]::loc,ac 5 1 [gC L s n] gl⟩ K:=cast (by kernel_rfl) h
end
noncomputable def aN(xs:List X):Option {p:(Int×A)×(X×Option Int) // xs=.a (.g 1 0)::.a (.int p.1.1)::.a p.1.2::p.2.1::(p.2.2.toList.map λf=>X.a (.int f))}:=(cV xs).bind λp1=>(uA p1.1.1).bind λg=>(Ox 1 0 g.1).bind λu=>(cV p1.1.2).bind λp2=>(uI p2.1.1).bind λk=>(cV p2.1.2).bind λp3=>(uA p3.1.1).bind λa=>(cV p3.1.2).bind λp4=>
 have e:∀r,p4.1.2=r→xs=.a (.g 1 0)::.a (.int k.1)::.a a.1::p4.1.1::r:=λr h=>p1.2.trans (rj (·::·) (g.2.trans (congrArg X.a u.2)) (p2.2.trans (rj (·::·) k.2 (p3.2.trans (rj (·::·) a.2 (p4.2.trans (congrArg (_::·) h)))))))
 alt (tV p4.1.2) (λz=>some ⟨((k.1,a.1),(p4.1.1,none)),e _ z.2⟩) ((dM p4.1.2).bind λx=>(uI x.1).map λf=>⟨((k.1,a.1),(p4.1.1,some f.1)),e _ (x.2.trans (congrArg (λx=>[x]) f.2))⟩)
noncomputable def Vv(x:X):Option {_u:Unit // x=.l 0 0}:=match x with | .l j k=>(match j,k with |0,0=>some ⟨(),rfl⟩ |_,_=>none) | .a _=>none
noncomputable def TM(c:Ce):Option {l:List A // c=.list l}:=match c with | .list l=>some ⟨l,rfl⟩ |_=>none
noncomputable def M4(l:List (List Ce)):Option {q:List A×List (List Ce) // l=[.list q.1]::q.2}:=(cV l).bind λp=>(dM p.1.1).bind λc=>(TM c.1).map λx=>⟨(x.1,p.1.2),p.2.trans (congrArg (·::p.1.2) (c.2.trans (congrArg (λc=>[c]) x.2)))⟩
noncomputable def dX(L:List A)(xs:List X)(S:AS)(K:KX):Prop:=opt (aN xs) λp=>opt (rG (S.get 1)) λq=>q.1.1.1=L∧
 alt ((uA p.1.2.1).bind λa=>(vF a.1).map λl=>l.1) (λks=>K (.a (nd p.1.1.1 p.1.1.2 ks (p.1.2.2.getD 0) (q.1.2+1))) ⟨S.loc,ac 5 1 [gC L q.1.1.2 (q.1.2+1)] S.gl⟩)
  (opt (Vv p.1.2.1) λ_=>opt (M4 S.loc) λk=>K (.a (nd p.1.1.1 p.1.1.2 k.1.1 (p.1.2.2.getD 0) (q.1.2+1))) ⟨[.fz (.fl k.1.1)]::k.1.2,ac 5 1 [gC L q.1.1.2 (q.1.2+1)] S.gl⟩)
theorem D6(L:List A)(loc:List (List Ce))(gl:Rg 5)(s:Nat)(n kind:Int)(av:A)(ks:List A)(K:KX)(f:Option Int)(h:K (.a (nd kind av ks (f.getD 0) (n+1))) ⟨loc,ac 5 1 [gC L s (n+1)] gl⟩):ae (tab L2) 1489 (.a (.g 1 0)::.a (.int kind)::.a av::.a (.fl ks)::(f.toList.map λf=>X.a (.int f))) ⟨loc,ac 5 1 [gC L s n] gl⟩ K:=
 @Option.casesOn Int (λf=>K (.a (nd kind av ks (f.getD 0) (n+1))) ⟨loc,ac 5 1 [gC L s (n+1)] gl⟩→ae (tab L2) 1489 (.a (.g 1 0)::.a (.int kind)::.a av::.a (.fl ks)::(f.toList.map λf=>X.a (.int f))) ⟨loc,ac 5 1 [gC L s n] gl⟩ K) f (zM L loc gl s n kind av ks K) (λf=>Hz L loc gl s n kind f av ks K) h
theorem DI(L:List A)(loc:List (List Ce))(gl:Rg 5)(s:Nat)(n kind:Int)(av:A)(ks:List A)(K:KX)(f:Option Int)(h:K (.a (nd kind av ks (f.getD 0) (n+1))) ⟨[.fz (.fl ks)]::loc,ac 5 1 [gC L s (n+1)] gl⟩):ae (tab L2) 1489 (.a (.g 1 0)::.a (.int kind)::.a av::.l 0 0::(f.toList.map λf=>X.a (.int f))) ⟨[.list ks]::loc,ac 5 1 [gC L s n] gl⟩ K:=
 @Option.casesOn Int (λf=>K (.a (nd kind av ks (f.getD 0) (n+1))) ⟨[.fz (.fl ks)]::loc,ac 5 1 [gC L s (n+1)] gl⟩→ae (tab L2) 1489 (.a (.g 1 0)::.a (.int kind)::.a av::.l 0 0::(f.toList.map λf=>X.a (.int f))) ⟨[.list ks]::loc,ac 5 1 [gC L s n] gl⟩ K) f (zi L loc gl s n kind av ks K) (λf=>EW L loc gl s n kind f av ks K) h
theorem E9(L:List A)(loc:List (List Ce))(gl:Rg 5)(s:Nat)(n kind:Int)(av:A)(kx:X)(K:KX)(f:Option Int)(h:alt ((uA kx).bind λa=>(vF a.1).map λl=>l.1) (λks=>K (.a (nd kind av ks (f.getD 0) (n+1))) ⟨loc,ac 5 1 [gC L s (n+1)] gl⟩) (opt (Vv kx) λ_=>opt (M4 loc) λk=>K (.a (nd kind av k.1.1 (f.getD 0) (n+1))) ⟨[.fz (.fl k.1.1)]::k.1.2,ac 5 1 [gC L s (n+1)] gl⟩)):
  ae (tab L2) 1489 (.a (.g 1 0)::.a (.int kind)::.a av::kx::(f.toList.map λf=>X.a (.int f))) ⟨loc,ac 5 1 [gC L s n] gl⟩ K:=
 bW h (λks e h=>ad e λa _ e=>aH e λl _ e=>(show .a (.fl ks)=kx from(a.2.trans (congrArg X.a (l.2.trans (congrArg A.fl e)))).symm)▸D6 L loc gl s n kind av ks K f h) λ_ h=>aa h λu _ h=>aa h λk _ h=>by rw[u.2,k.2];exact DI L k.1.2 gl s n kind av k.1.1 K f h
theorem DY{L:List A}{xs:List X}{S:AS}{K:KX}(h:dX L xs S K):ae (tab L2) 1489 xs S K:=aa h λp _ h=>aa h λq _ h=>by
 rw[p.2]
 refine(congrArg (λS=>ae (tab L2) 1489 _ S K) (AH q.2)).mpr ?_
 rw[h.1]
 exact E9 L S.loc S.gl _ _ _ _ _ K _ h.2
inductive Uf |mem |text |idx |bare
structure Us where
 i:Nat
 fm:Uf
 sup:Bool
 nm:Str
 mode:Int
 role:Int
 n:Int
def lU{α:Type}(f:Uf)(a b c d:α):α:=@Uf.rec (λ_=>α) a b c d f
def Us.who(u:Us):A:=nd (cond u.sup 10 9) (tx "") [] 0 (u.n+1)
def Us.hold(u:Us):A:=lU u.fm (nd 16 (.str u.nm) [u.who] 0 (u.n+1+1)) (nd 17 (tx "") [u.who,nd 2 (.str u.nm) [] 0 (u.n+1+1)] 0 (u.n+1+1+1)) (nd 17 (tx "") [u.who,nd 8 (tx "c") [] 0 (u.n+1+1)] 0 (u.n+1+1+1)) .none
def Us.made(u:Us):A:=lU u.fm u.hold u.hold u.hold u.who
def Us.name(u:Us):Str:=lU u.fm u.nm u.nm (Str.ofString "") (Str.ofString "")
def Us.fin(u:Us):Int:=lU u.fm (u.n+1+1) (u.n+1+1+1) (u.n+1+1+1) (u.n+1)
def Us.word(u:Us):Str:=cond u.sup (Str.ofString "super") (Str.ofString "this")
def Se(w h:A)(role mode:Int)(word:Str)(nm:A)(i:Nat)(fl md:A):Ce:=.dict [(tx "node",w),(tx "holder",h),(tx "role",.int role),(tx "mode",.int mode),(tx "word",.str word),(tx "name",nm),(tx "met",.g 4 i),(tx "flow",fl),(tx "made",md)]
def Us.ce(u:Us)(fl:A):Ce:=Se u.who u.hold u.role u.mode u.word (.str u.name) u.i fl u.made
def fU(w:List Us):List A:=w.map λu=>.g 3 u.i
def sN(w:List Us):List Ce:=w.map λu=>u.ce (.int 0)
def zp(w:List Us):List Ce:=w.map λ_=>.list []
def GS(loc:List (List Ce))(gl:Rg 5)(L:List A)(s:Nat)(n:Int)(w:List Us):AS:=⟨loc,ac 5 1 [gC L s n] (ac 5 2 [.list (fU w)] (ac 5 3 (sN w) (ac 5 4 (zp w) gl)))⟩
def BF(loc:List (List Ce))(gl:Rg 5)(L:List A)(s:Nat)(n:Int)(us:List A)(ds ms:List Ce)(c:Ce):AS:=⟨loc,ac 5 1 [gC L s n] (ac 5 2 [.list (us++[A.g 3 ds.length])] (ac 5 3 (ds++[c]) (ac 5 4 (ms++[.list []]) gl)))⟩
def LL(L:List A)(k:Nat)(P:Prop):Prop:=@Nat.rec (λ_=>Prop) P (λ_ ih=>L=L∧ih) k
theorem bL{L:List A}{P:Prop}(h:P)(k:Nat):LL L k P:=@Nat.rec (λk=>LL L k P) h (λ_ ih=>⟨rfl,ih⟩) k
def rest(T:bA)(a k:Nat)(env:En)(S:AS)(K:KX):Prop:=opt (io a) λfi=>RZ T fi.nm (fi.body.drop k) env S (λ_ S=>ret (.a .none) S K) (λ_ _=>False) (λx S=>ret x S K)
def T3(L:List A):List (Nat×ay):=(1481,w9 L)::(1489,dX L)::L0
def T4(L:List A):List (Nat×ay):=(1496,ae (tab (T3 L)) 1496)::T3 L
def aR:List Str:=[Str.ofString "x",Str.ofString "y",Str.ofString "z",Str.ofString "k",Str.ofString "q"]
theorem Vt{i:Nat}(h:(i:Int)<5):∃v∈aR,aM (X.a (tx "xyzkq")) (A.int i) none=some (.str v):=
 have e:(List.range 5).map (λi=>aM (X.a (tx "xyzkq")) (A.int (i:Nat)) none)=aR.map λv=>some (.str v):=by kernel_rfl
 have hi:i<5:=WM h
 have hm:aM (X.a (tx "xyzkq")) (A.int i) none∈aR.map λv=>some (A.str v):=e▸List.mem_map.mpr ⟨i,WE hi,rfl⟩
 (List.mem_map.mp hm).elim λv h=>⟨v,h.1,h.2.symm⟩
section
variable(loc:List (List Ce))(gl:Rg 5)(L:List A)(n mode role:Int)(us:List A)(ds ms:List Ce)(K:KX)(sup:Bool)
def RO(i:Nat)(v:A):En:=[("g",.a (.g 1 0)),("mode",.a (.int mode)),("role",.a (.int role)),("word",.a (.str (cond sup (Str.ofString "super") (Str.ofString "this")))),("form",.a (.int i)),("name",.a v)]
def uR(s i:Nat)(v:A):Prop:=rest (tab (T4 L)) 1503 3 (RO mode role sup i v) ⟨[]::loc,ac 5 1 [gC L s n] (ac 5 2 [.list us] (ac 5 3 ds (ac 5 4 ms gl)))⟩ K
def uW(s:Nat):Prop:=LL L 1 (∀i:Nat,(i:Int)<6→LL L 1 (∀j:Nat,(j:Int)<5→opt (aM (X.a (tx "xyzkq")) (A.int j) none) λv=>uR loc gl L n mode role us ds ms K sup (s+1+1+1) i v))
theorem NP(s:Nat)(h:LL L 1 (∀i:Nat,(i:Int)<5→aw (PyData.eqv (.int i) (.int 1)) (uW loc gl L n mode role us ds ms K true s) (uW loc gl L n mode role us ds ms K false s))):ae (tab (T4 L)) 1503 [.a (.g 1 0),.a (.int mode),.a (.int role)] ⟨loc,ac 5 1 [gC L s n] (ac 5 2 [.list us] (ac 5 3 ds (ac 5 4 ms gl)))⟩ K:=cast (by kernel_rfl) h
def uF(s:Nat)(v:Str)(f:Uf):Prop:=
 have u:Us:=⟨ms.length,f,sup,v,mode,role,n⟩
 LL L (lU f 2 3 3 1) (aw (Nat.ble (us++[A.g 3 ds.length]).length 1000000) (K (.a (.g 3 ds.length)) (BF loc gl L s u.fin us ds ms (u.ce (.int 0)))) False)
def uN(s:Nat)(v:Str)(i:Nat):Prop:=(cond (Nat.ble i 2) (uF loc gl L n mode role us ds ms K sup s v .mem) (cond (Nat.ble i 3) (uF loc gl L n mode role us ds ms K sup s v .text) (cond (Nat.ble i 4) (uF loc gl L n mode role us ds ms K sup s v .idx)
 (aw (decide (role>0)) (uF loc gl L n mode role us ds ms K sup s v .mem) (uF loc gl L n mode role us ds ms K sup s v (cond sup .mem .bare))))))
theorem BX(s:Nat)(v:Str):(List.range 6).map (λi=>(uR loc gl L n mode role us ds ms K true s i (.str v),uR loc gl L n mode role us ds ms K false s i (.str v)))=(List.range 6).map λi=>(uN loc gl L n mode role us ds ms K true s v i,uN loc gl L n mode role us ds ms K false s v i):=by kernel_rfl
end
def Md(m:Int):Prop:=∃b:Bool,m=cond b 1 0
structure Us.Ok(u:Us):Prop where
 md:Md u.mode
 nm:u.nm∈aR
 bare:u.fm=.bare→u.sup=false∧¬0<u.role
def aE(w:List Us):Nat→Int→Int→Prop:=@List.rec Us (λ_=>Nat→Int→Int→Prop) (λ_ lo hi=>lo≤hi) (λu _ ih i lo hi=>u.i=i∧u.Ok∧lo≤u.n∧ih (i+1) u.fin hi) w
theorem aE.up{a b:Int}(q:a≤b):∀{w:List Us} {i:Nat} {lo:Int},aE w i lo a→aE w i lo b:=λ{w}=>@List.rec Us (λw=>∀{i:Nat} {lo:Int},aE w i lo a→aE w i lo b) (λ{_ _} h=>Wy h q) (λu r ih {_ _} h=>⟨h.1,h.2.1,h.2.2.1,ih h.2.2.2⟩) w
theorem aE.app{v:List Us}{a b:Int}:∀{w:List Us} {i:Nat} {lo:Int},aE w i lo a→(∀j,j=i+w.length→aE v j a b)→aE (w++v) i lo b:=λ{w}=>@List.rec Us (λw=>∀{i:Nat} {lo:Int},aE w i lo a→(∀j,j=i+w.length→aE v j a b)→aE (w++v) i lo b)
 (λ{i lo} h k=>@List.rec Us (λv=>aE v i a b→aE v i lo b) (λk=>Wy h k) (λu r _ k=>⟨k.1,k.2.1,Wy h k.2.2.1,k.2.2.2⟩) v (k i rfl))
 (λu r ih {i lo} h k=>⟨h.1,h.2.1,h.2.2.1,ih h.2.2.2 λj e=>k j (e.trans (Nat.add_right_comm i 1 r.length))⟩) w
structure Gi(w:List Us)(n:Int)(k:Nat):Prop where
 len:w.length+k≤900
 asc:aE w 0 0 n
structure Gs(S:AS)(w:List Us)(n:Int)(k:Nat):Prop where
 g2:S.get 2=[.list (fU w)]
 g3:S.get 3=sN w
 g4:S.get 4=zp w
 gi:Gi w n k
def gen(L:List A)(j:Nat)(S:AS)(R:Nat→A→List Us→Prop)(K:KX):Prop:=opt (rG (S.get 1)) λq=>q.1.1.1=L∧∃w k,Gs S w q.1.2 (k+j)∧∀(t:A) (s:Nat) (n:Int) (v:List Us),R w.length t v→Gi (w++v) n k→K (.a t) (GS S.loc S.gl L s n (w++v))
def d6(j:Nat)(loc:List (List Ce))(gl:Rg 5)(L:List A)(s:Nat)(n:Int)(w:List Us)(R:Nat→A→List Us→Prop)(P:A→Nat→Int→List Us→Prop):Prop:=L=L∧∃w1 k,Gs (GS loc gl L s n w) w1 n (k+j)∧∀(t:A) (s:Nat) (n:Int) (v:List Us),R w1.length t v→Gi (w1++v) n k→P t s n (w1++v)
variable{j k:Nat}{loc:List (List Ce)}{gl:Rg 5}{s:Nat}{n m:Int}{w:List Us}{R:Nat→A→List Us→Prop}{P:A→Nat→Int→List Us→Prop}{C:Prop}
theorem iC(g:Gi w n (k+j))(f:∀t s n v,R w.length t v→Gi (w++v) n k→P t s n (w++v)):d6 j loc gl L s n w R P:=⟨rfl,w,k,⟨rfl,rfl,rfl,g⟩,f⟩
theorem U4{c:List Ce}{g2:List Ce}{g3:List Ce}{g4:List Ce}(h1:S.get 1=c)(h2:S.get 2=g2)(h3:S.get 3=g3)(h4:S.get 4=g4):S=⟨S.loc,ac 5 1 c (ac 5 2 g2 (ac 5 3 g3 (ac 5 4 g4 S.gl)))⟩:=by
 subst h1 h2 h3 h4
 show S=⟨S.loc,ac 5 1 (eC 5 1 S.gl) (ac 5 2 (eC 5 2 S.gl) (ac 5 3 (eC 5 3 S.gl) (ac 5 4 (eC 5 4 S.gl) S.gl)))⟩
 rw[eO,eO,eO,eO]
theorem iR(h:gen L j S R K)(f:∀s n w k,S=GS S.loc S.gl L s n w→Gi w n (k+j)→(∀t s n v,R w.length t v→Gi (w++v) n k→K (.a t) (GS S.loc S.gl L s n (w++v)))→C):C:=aa h λq _ h=>Exists.elim h.2 λw h'=>Exists.elim h' λk h'=>f q.1.1.2 q.1.2 w k (h.1▸U4 q.2 h'.1.g2 h'.1.g3 h'.1.g4) h'.1.gi h'.2
theorem Gi.up(h:Gi w n k)(q:n≤m):Gi w m k:=⟨h.len,h.asc.up q⟩
theorem Gi.dr{i:Nat}(h:Gi w n (k+j))(q:i≤j):Gi w n (k+i):=⟨V9 (Wj (Wj q k) _) h.len,h.asc⟩
theorem Gi.snoc{u:Us}(g:Gi w n (k+1))(hi:u.i=w.length)(ok:u.Ok)(hn:n≤u.n)(hf:u.fin≤m):Gi (w++[u]) m k:=⟨by rw[WN];exact V9 (Wq (Nat.add_assoc w.length 1 k)) (Nat.add_comm 1 k▸g.len),g.asc.app λj e=>⟨hi.trans (e.trans (Nat.zero_add _)).symm,ok,hn,hf⟩⟩
theorem AQ{u:Us}{ds ms:List Ce}(h3:ds=sN w)(h4:ms=zp w)(hi:u.i=w.length):BF loc gl L s n (fU w) ds ms (u.ce (.int 0))=GS loc gl L s n (w++[u]):=by
 subst h3 h4
 unfold BF GS sN fU zp
 rw[WS,WS,WS,WO,← hi]
 rfl
theorem qF{b:Bool}{P Q:Prop}(h:P)(h':Q):cond b P Q:=@Bool.casesOn (λb=>cond b P Q) b h' h
def gV(xs:List X):Option {r:List X // xs=.a (.g 1 0)::r}:=(cV xs).bind λp=>(uA p.1.1).bind λg=>(Ox 1 0 g.1).map λu=>⟨p.1.2,p.2.trans (congrArg (·::p.1.2) (g.2.trans (congrArg X.a u.2)))⟩
def a1(xs:List X):Option {m:Int // xs=[.a (.g 1 0),.a (.int m)]}:=(gV xs).bind λp=>(dM p.1).bind λx=>(uI x.1).map λi=>⟨i.1,p.2.trans (congrArg (_::·) (x.2.trans (congrArg (λx=>[x]) i.2)))⟩
def a3(xs:List X):Option {m:Int×Int // xs=[.a (.g 1 0),.a (.int m.1),.a (.int m.2)]}:=(gV xs).bind λp=>(jO p.1).bind λx=>(uI x.1.1).bind λi=>(uI x.1.2).map λj=>⟨(i.1,j.1),p.2.trans (congrArg (_::·) (x.2.trans (rj (λa b=>[a,b]) i.2 j.2)))⟩
def a0(xs:List X):Option {u:Unit // xs=[.a (.g 1 0)]}:=(gV xs).bind λp=>(tV p.1).map λx=>⟨(),p.2.trans (congrArg (_::·) x.2)⟩
inductive y5(m r:Int)(i:Nat):A→List Us→Prop
 |mk (u:Us) (hi:u.i=i) (ok:u.Ok) (hm:u.mode=m) (hr:u.role=r):y5 m r i (.g 3 u.i) [u]
def Dz(L:List A)(xs:List X)(S:AS)(K:KX):Prop:=opt (a3 xs) λp=>Md p.1.1∧gen L 1 S (y5 p.1.1 p.1.2) K
section
variable{loc:List (List Ce)}{gl:Rg 5}{L:List A}{s:Nat}{n mode role:Int}{us:List A}{ds ms:List Ce}{K:KX}{v:Str}
 (hd:Md mode) (hl:Nat.ble (us++[A.g 3 ds.length]).length 1000000=true)
 (f:∀(u:Us) (s:Nat),u.Ok→u.n=n→u.i=ms.length→u.mode=mode→u.role=role→K (.a (.g 3 ds.length)) (BF loc gl L s u.fin us ds ms (u.ce (.int 0))))
include hd hl f
theorem Ca{sup:Bool}(hv:v∈aR)(fm:Uf)(hf:fm=.bare→sup=false∧¬0<role):uF loc gl L n mode role us ds ms K sup s v fm:=
 bL (hl.symm▸f ⟨ms.length,fm,sup,v,mode,role,n⟩ s ⟨hd,hv,hf⟩ rfl rfl rfl rfl:aw _ _ False) _
theorem B5{sup:Bool}(hv:v∈aR)(i:Nat):uN loc gl L n mode role us ds ms K sup s v i:=by
 have z:∀x:Uf,x≠.bare→uF loc gl L n mode role us ds ms K sup s v x:=λx h=>Ca hd hl f hv x λe=>(h e).elim
 exact qF (z .mem (λh=>nomatch h)) (qF (z .text (λh=>nomatch h)) (qF (z .idx (λh=>nomatch h)) (aX (λ_=>z .mem (λh=>nomatch h)) λq=>Ca hd hl f hv _ λe=>@Bool.casesOn (λb=>cond b Uf.mem .bare=.bare→b=false∧¬0<role) sup (λ_=>⟨rfl,of_decide_eq_false q⟩) (λh=>nomatch h) e)))
theorem Ju:ae (tab (T4 L)) 1503 [.a (.g 1 0),.a (.int mode),.a (.int role)] ⟨loc,ac 5 1 [gC L s n] (ac 5 2 [.list us] (ac 5 3 ds (ac 5 4 ms gl)))⟩ K:=
 NP _ _ _ _ _ _ _ _ _ _ _ (bL (λi hi=>aX (λ_=>bL (λi hi=>bL (λj hj=>(Vt hj).elim λv h=>aj h.2 (((Prod.mk.injEq ..).mp (WA (BX loc gl L n mode role us ds ms K _ v) i (WE (WM hi)))).1.mpr (B5 hd hl f h.1 i))) 1) 1)
  λ_=>bL (λi hi=>bL (λj hj=>(Vt hj).elim λv h=>aj h.2 (((Prod.mk.injEq ..).mp (WA (BX loc gl L n mode role us ds ms K _ v) i (WE (WM hi)))).2.mpr (B5 hd hl f h.1 i))) 1) 1) 1)
end
theorem aC{a b:Nat}(h:a≤b):Nat.ble a b=true:=Wx h
theorem Gi.ble{w:List Us}{n:Int}{k:Nat}{a:A}(g:Gi w n (k+1)):Nat.ble (fU w++[a]).length 1000000=true:=aC (by rw[WN,fU,WO];exact V9 (Wj (Wp 1 k) _) (V9 g.len (by decide)))
theorem J9{L:List A}{xs:List X}{S:AS}{K:KX}(h:Dz L xs S K):ae (tab (T4 L)) 1503 xs S K:=aa h λp _ h'=>iR h'.2 λs n w k e g f=>by
 rw[e,p.2]
 refine Ju (ds:=sN w) h'.1 g.ble λu s ok hn hi hm hr=>?_
 have hi:u.i=w.length:=hi.trans (WO _)
 rw[AQ rfl rfl hi,sN,WO]
 exact hi▸f _ _ _ _ (.mk u hi ok hm hr) (g.snoc hi ok (Int.le_of_eq hn.symm) (Int.le_refl _))
def F9(s:Stmt):Option (Expr×List Stmt):=nR s.ctorIdx 11 λh=>Stmt.While.elim (motive_2:=λ_=>Option (Expr×List Stmt)) s h λt b _ _=>some (t,b)
def yb(s:Stmt):Option (Expr×List Stmt):=nR s.ctorIdx 9 λh=>Stmt.For.elim (motive_2:=λ_=>Option (Expr×List Stmt)) s h λt _ b _ _=>some (t,b)
def wh(T:bA)(a k:Nat)(K:KX)(n:Nat):KN:=λenv S=>opt (io a) λfi=>opt (nth fi.body k) λs=>opt (F9 s) λp=>Bt (wp T 40 fi.nm p.1) (bS (ws T 19 fi.nm) p.2) (λenv S=>rest T a (k+1) env S K) (λx S=>ret x S K) n env S
def HH(T:bA)(a k j:Nat)(K:KX)(n:Nat):KN:=λenv S=>opt (io a) λfi=>opt (nth fi.body k) λs=>opt (F9 s) λp=>bS (ws T 19 fi.nm) (p.2.drop j) env S (wh T a k K n) (wh T a k K n) (λx S=>ret x S K)
theorem aA{c:Bool}{P Q:Prop}(h:c=true)(g:P):aw c P Q:=h▸g
theorem cY{c:Bool}{P Q:Prop}(h:c=false)(g:Q):aw c P Q:=h▸g
def uj(k:Int):Bool:=decide (33=k) ||(decide (32=k) ||(decide (29=k) ||(decide (31=k) ||(decide (20=k) ||false))))
inductive jJ:A→A→Prop
 |here {k fl n:Int} {a:A} {ks:List A} (h:uj k=false):jJ (nd k a ks fl n) (nd k a ks fl n)
 |go {k fl n:Int} {a x y:A} {ks:List A} (h:uj k=true) (q:jJ x y):jJ (nd k a (x::ks) fl n) y
inductive dA:A→Prop
 |mk (k:Int) (a:A) (ks:List A) (fl n:Int):dA (nd k a ks fl n)
theorem jJ.isNd{x y:A}(h:jJ x y):dA y:=by
 induction h with
 |here h=>exact .mk ..
 |go _ _ ih=>exact ih
theorem jJ.isNd'{x y:A}(h:jJ x y):dA x:=by cases h <;> exact .mk ..
inductive j0:A→A→Int→Prop
 |top {x:A}:j0 .none x 0
 |nil {k fl n:Int} {a x:A}:j0 (nd k a [] fl n) x 0
 |leaf {k fl n:Int} {a x:A} {ks:List A}:j0 (nd k a (.none::ks) fl n) x 0
 |plain {k fl n k' fl' n':Int} {a a' x y:A} {ks ks':List A} (h:jJ x y) (hk:(decide (k=25) ||(decide (k=36) ||decide (k=18)))=false):j0 (nd k a (x::ks) fl n) (nd k' a' ks' fl' n') 0
 |call {fl n k' fl' n':Int} {a a' x:A} {ks ks':List A} (h:jJ x (nd k' a' ks' fl' n')):j0 (nd 18 a (x::ks) fl n) (nd k' a' ks' fl' n') 2
 |asg {fl n k' fl' n':Int} {a' x:A} {ks ks':List A} (h:jJ x (nd k' a' ks' fl' n')):j0 (nd 25 (tx "=") (x::ks) fl n) (nd k' a' ks' fl' n') 1
def tU(xs:List X)(S:AS)(K:KX):Prop:=∃par x r,xs=[.a par,.a x]∧j0 par x r∧K (.a (.int r)) S
def TR:bA:={fn:=λ_=>none,sy:=[630004]}
section
variable{par x y:A}{S:AS}{K:KX}
def HY(par node x:A):En:=[("parent",.a par),("node",.a node),("first",.a x)]
theorem vy{node:A}(h:jJ x y)(f:rest TR 866 3 (HY par node y) S K):∃n,wh TR 866 2 K n (HY par node x) S:=by
 induction h with
 |@here k fl n a ks h=>exact⟨1,cast (by kernel_rfl) (cY (P:=opt (aM (.a (.fl ks)) (.int 0) (some (.list ks))) λv=>False) h f)⟩
 |@go k fl n a x y ks h q ih=>exact(ih f).elim λm g=>⟨m+1,cast (by kernel_rfl) (aA (Q:=rest TR 866 3 (HY par node (nd k a (x::ks) fl n)) S K) h g)⟩
theorem kT{k fl n:Int}{a x node:A}{ks:List A}(h:∃N,wh TR 866 2 K N (HY (nd k a (x::ks) fl n) node x) (push S)):ae TR 866 [.a (nd k a (x::ks) fl n),.a node] S K:=cast (by kernel_rfl) h
section
variable(k fl n k' fl' n' k2 fl2 n2:Int)(a a' a2 x:A)(ks ks' ks2:List A)(S:AS)(K:KX)
def VV:Prop:=aw (!PyData.eqv (.int n2) (.int n')) (K (.a (.int 0)) S) (aw (PyData.eqv (.int k) (.int 25)) (lF (push S) (.a a) (.a (tx "=")) λc=>aw c (K (.a (.int 1)) S) (aw (PyData.eqv (.int k) (.int 36)) (K (.a (.int 1)) S) (aw (PyData.eqv (.int k) (.int 18)) (K (.a (.int 2)) S) (K (.a (.int 0)) S))))
 (aw (PyData.eqv (.int k) (.int 36)) (K (.a (.int 1)) S) (aw (PyData.eqv (.int k) (.int 18)) (K (.a (.int 2)) S) (K (.a (.int 0)) S))))
theorem pe(h:VV k n' n2 a S K):rest TR 866 3 (HY (nd k a (x::ks) fl n) (nd k' a' ks' fl' n') (nd k2 a2 ks2 fl2 n2)) (push S) K:=cast (by kernel_rfl) h
end
theorem mF{n:Int}:(!PyData.eqv (.int n) (.int n))=false:=congrArg not (show decide (n=n)=true from decide_eq_true rfl)
theorem Iw{k fl n k' fl' n':Int}{a a' x y:A}{ks ks':List A}(h:jJ x y)(hk:(decide (k=25) ||(decide (k=36) ||decide (k=18)))=false)(f:K (.a (.int 0)) S):ae TR 866 [.a (nd k a (x::ks) fl n),.a (nd k' a' ks' fl' n')] S K:=
 kT (vy h (@dA.casesOn (λy _=>rest TR 866 3 (HY (nd k a (x::ks) fl n) (nd k' a' ks' fl' n') y) (push S) K) y h.isNd λk2 a2 ks2 fl2 n2=>pe _ _ _ _ _ _ _ _ _ _ _ _ _ _ _ _ _ _ (aX (λ_=>f) λ_=>
  cY (Bool.or_eq_false_iff.mp hk).1 (cY (Bool.or_eq_false_iff.mp (Bool.or_eq_false_iff.mp hk).2).1 (cY (Bool.or_eq_false_iff.mp (Bool.or_eq_false_iff.mp hk).2).2 f)))))
theorem Nr{fl n k' fl' n':Int}{a a' x:A}{ks ks':List A}(h:jJ x (nd k' a' ks' fl' n'))(f:K (.a (.int 2)) S):ae TR 866 [.a (nd 18 a (x::ks) fl n),.a (nd k' a' ks' fl' n')] S K:=kT (vy h (pe _ _ _ _ _ _ _ _ _ _ _ _ _ _ _ _ _ _ (cY mF (cast (by kernel_rfl) f))))
theorem Nf{fl n k' fl' n':Int}{a' x:A}{ks ks':List A}(h:jJ x (nd k' a' ks' fl' n'))(f:K (.a (.int 1)) S):ae TR 866 [.a (nd 25 (tx "=") (x::ks) fl n),.a (nd k' a' ks' fl' n')] S K:=kT (vy h (pe _ _ _ _ _ _ _ _ _ _ _ _ _ _ _ _ _ _ (cY mF (cast (by kernel_rfl) f))))
theorem Nt{x:A}(f:K (.a (.int 0)) S):ae TR 866 [.a .none,.a x] S K:=cast (by kernel_rfl) f
theorem Kw{k fl n:Int}{a x:A}{ks:List A}(f:K (.a (.int 0)) S):ae TR 866 [.a (nd k a (.none::ks) fl n),.a x] S K:=kT ⟨1,cast (by kernel_rfl) f⟩
theorem Jn{r:Int}(h:j0 par x r):K (.a (.int r)) S→ae TR 866 [.a par,.a x] S K:=@j0.casesOn (λpar x r _=>K (.a (.int r)) S→ae TR 866 [.a par,.a x] S K) par x r h (λf=>Nt f) (λf=>cast (by kernel_rfl) f) (λf=>Kw f) (λh hk f=>Iw h hk f) (λh f=>Nr h f) (λh f=>Nf h f)
theorem Ho{xs:List X}{S:AS}{K:KX}(h:tU xs S K):ae TR 866 xs S K:=Exists.elim h λpar h=>Exists.elim h λx h=>Exists.elim h λr h=>h.1▸Jn h.2.1 h.2.2
end
def TP:bA:={fn:=λ_=>none,sy:=[647004]}
def x8(a:A):Bool:=alt (b7 (.a a)) id false
def tu(node m t:A):List A:=cond (x8 t) [] [.tup [t,node,m]]
def j4(node m:A)(l:List A):List A:=@List.rec A (λ_=>List A) [] (λt _ ih=>ih++tu node m t) l
theorem wc{node m t:A}:∀{l:List A},j4 node m (l++[t])=tu node m t++j4 node m l:=λ{l}=>@List.rec A (λl=>j4 node m (l++[t])=tu node m t++j4 node m l) (WQ _).symm (λa r ih=>(congrArg (·++tu node m a) ih).trans (WR ..)) l
def pU(b:Bool)(o Y:List A)(r:List (List Ce)):List (List Ce):=cond b ([.list o,.list Y]::r) ([]::[.list o,.list Y]::r)
def U1(l:List (List Ce)):Option {q:(List A×List A)×List (List Ce) // l=[.list q.1.1,.list q.1.2]::q.2}:=(cV l).bind λp=>(jO p.1.1).bind λc=>(TM c.1.1).bind λa=>(TM c.1.2).map λb=>⟨((a.1,b.1),p.1.2),p.2.trans (congrArg (·::p.1.2) (c.2.trans (rj (λa b=>[a,b]) a.2 b.2)))⟩
def NJ(j k:Nat)(x:X):Option {_u:Unit // x=.l j k}:=@X.rec (λx=>Option {_u:Unit // x=.l j k}) (λ_=>none) (λj' k'=>Tr (Nat.beq j' j&&Nat.beq k' k) λh=>have h:=WB h;some ⟨(),rj X.l (Wv h.1) (Wv h.2)⟩) x
def VO(x:X)(l:List (List Ce)):Option {q:Bool×((List A×List A)×List (List Ce)) // x=.l (cond q.1 0 1) 1∧l=pU q.1 q.2.1.1 q.2.1.2 q.2.2}:=
 alt (NJ 0 1 x) (λu=>(U1 l).map λq=>⟨(true,q.1),u.2,q.2⟩) ((NJ 1 1 x).bind λu=>(cV l).bind λp=>(tV p.1.1).bind λz=>(U1 p.1.2).map λq=>⟨(false,q.1),u.2,p.2.trans (rj (·::·) z.2 q.2)⟩)
inductive dp(m:A)(Y:List A)(P:List A→Prop):A→Int→Prop
 |mk (k:Int) (a:A) (pre post:List A) (fl n:Int) (ht:∀t∈post,b7 (.a t)=some (x8 t)) (hl:(Y++j4 (nd k a (pre++post) fl n) m post).length≤bM) (p:P (Y++j4 (nd k a (pre++post) fl n) m post)):dp m Y P (nd k a (pre++post) fl n) (pre.length:Nat)
def p4(xs:List X):Option {q:(X×A)×(Int×A) // xs=[q.1.1,.a q.1.2,.a (.int q.2.1),.a q.2.2]}:=(cV xs).bind λp=>(cV p.1.2).bind λp2=>(jO p2.1.2).bind λt=>(uA p2.1.1).bind λa=>(uI t.1.1).bind λi=>(uA t.1.2).map λb=>⟨((p.1.1,a.1),(i.1,b.1)),p.2.trans (congrArg (_::·) (p2.2.trans (rj (·::·) a.2 (t.2.trans (rj (λa b=>[a,b]) i.2 b.2)))))⟩
def uB(xs:List X)(S:AS)(K:KX):Prop:=opt (p4 xs) λp=>opt (VO p.1.1.1 S.loc) λq=>dp p.1.2.2 q.1.2.1.2 (λY=>K (.a .none) ⟨pU q.1.1 q.1.2.1.1 Y q.1.2.2,S.gl⟩) p.1.1.2 p.1.2.1
variable{b:Bool}{o:List A}{r:List (List Ce)}{k fl f:Int}{a m:A}{ks:List A}
def VP(b:Bool)(node:A)(f:Int)(m:A)(i:Int):En:=[("stack",.l (cond b 1 2) 1),("node",.a node),("first",.a (.int f)),("nested",.a m),("at",.a (.int i))]
def sg(b:Bool)(o:List A)(r:List (List Ce))(gl:Rg 5)(K:KX)(node:A)(f:Int)(m:A)(N:Nat)(i:Int)(Y:List A):Prop:=wh TP 887 1 K N (VP b node f m i) ⟨[]::pU b o Y r,gl⟩
def Vl(b:Bool)(o:List A)(r:List (List Ce))(gl:Rg 5)(K:KX)(node:A)(ks:List A)(f:Int)(m:A)(N:Nat)(i:Int)(Y:List A):Prop:=aw (decide (i≥f)) (opt (aM (.a (.fl ks)) (.int i) (some (.list ks))) λv=>opt (b7 (.a v)) λc=>aw (!c) (opt (aM (.a (.fl ks)) (.int i) (some (.list ks))) λv=>ak (Y++[.tup [v,node,m]]) (sg b o r gl K node f m N (i - 1) (Y++[.tup [v,node,m]]))) (sg b o r gl K node f m N (i - 1) Y)) (K (.a .none) ⟨pU b o Y r,gl⟩)
theorem N6{N:Nat}{i:Int}{Y:List A}:sg b o r gl K (nd k a ks fl n) f m (N+1) i Y=Vl b o r gl K (nd k a ks fl n) ks f m N i Y:=@Bool.casesOn (λb=>sg b o r gl K (nd k a ks fl n) f m (N+1) i Y=Vl b o r gl K (nd k a ks fl n) ks f m N i Y) b (by kernel_rfl) (by kernel_rfl)
theorem Sr{Y:List A}(h:∃N,sg b o r gl K (nd k a ks fl n) f m N ((ks.length:Nat) - 1) Y):ae TP 887 [.l (cond b 0 1) 1,.a (nd k a ks fl n),.a (.int f),.a m] ⟨pU b o Y r,gl⟩ K:=@Bool.casesOn (λb=>(∃N,sg b o r gl K (nd k a ks fl n) f m N ((ks.length:Nat) - 1) Y)→ae TP 887 [.l (cond b 0 1) 1,.a (nd k a ks fl n),.a (.int f),.a m] ⟨pU b o Y r,gl⟩ K) b (λh=>cast (by kernel_rfl) h) (λh=>cast (by kernel_rfl) h) h
theorem GU{X Z:List A}(h:(X++Z).length≤bM):Nat.ble X.length bM=true:=aC (V9 (by rw[WN];exact Wo _ _) h)
theorem Sg{N:Nat}{i:Int}{v:A}{Y:List A}(hv:b7 (.a v)=some (x8 v))(hl:Nat.ble (Y++tu (nd k a ks fl n) m v).length bM=true)(f':sg b o r gl K (nd k a ks fl n) f m N (i - 1) (Y++tu (nd k a ks fl n) m v))(hi:aM (.a (.fl ks)) (.int i) (some (.list ks))=some v):
  opt (aM (.a (.fl ks)) (.int i) (some (.list ks))) λv=>opt (b7 (.a v)) λc=>aw (!c) (opt (aM (.a (.fl ks)) (.int i) (some (.list ks))) λv=>ak (Y++[.tup [v,nd k a ks fl n,m]]) (sg b o r gl K (nd k a ks fl n) f m N (i - 1) (Y++[.tup [v,nd k a ks fl n,m]]))) (sg b o r gl K (nd k a ks fl n) f m N (i - 1) Y):=by
 rw[hi]
 show opt (b7 (.a v)) λc=>aw (!c) (ak (Y++[.tup [v,nd k a ks fl n,m]]) (sg b o r gl K (nd k a ks fl n) f m N (i - 1) (Y++[.tup [v,nd k a ks fl n,m]]))) (sg b o r gl K (nd k a ks fl n) f m N (i - 1) Y)
 refine aj hv ?_
 revert hl f'
 unfold tu
 cases x8 v with
 |true=>exact λ_ f'=>cY rfl (WQ Y▸f')
 |false=>exact λhl f'=>aA rfl (aA hl f')
theorem Sn{pre:List A}(rs:List A):∀(suf Y:List A) (i:Int),i+1=(pre.length+rs.length:Nat)→ks=pre++(rs.reverse++suf)→(∀t∈rs,b7 (.a t)=some (x8 t))→(Y++j4 (nd k a ks fl n) m rs.reverse).length≤bM→K (.a .none) ⟨pU b o (Y++j4 (nd k a ks fl n) m rs.reverse) r,gl⟩→∃N,sg b o r gl K (nd k a ks fl n) (pre.length:Nat) m N i Y:=
 @List.rec A (λrs=>∀(suf Y:List A) (i:Int),i+1=(pre.length+rs.length:Nat)→ks=pre++(rs.reverse++suf)→(∀t∈rs,b7 (.a t)=some (x8 t))→(Y++j4 (nd k a ks fl n) m rs.reverse).length≤bM→K (.a .none) ⟨pU b o (Y++j4 (nd k a ks fl n) m rs.reverse) r,gl⟩→∃N,sg b o r gl K (nd k a ks fl n) (pre.length:Nat) m N i Y)
 (λsuf Y i hi hk ht hl f=>⟨1,N6▸cY (decide_eq_false (Int.not_le.mpr (Int.add_one_le_iff.mp (Int.le_of_eq hi)))) (show K (.a .none) ⟨pU b o Y r,gl⟩ from(WQ Y).symm▸f)⟩)
 (λv rs ih suf Y i hi hk ht hl f=>by
  rw[List.reverse_cons,wc,← WR] at hl f
  have hi':i=(pre.length+rs.length:Nat):=(Int.add_left_inj 1).mp hi
  subst hi'
  have hk':ks=pre++(rs.reverse++(v::suf)):=by rw[hk,List.reverse_cons,WR];rfl
  obtain⟨N,q⟩:=ih (v::suf) (Y++tu (nd k a ks fl n) m v) ((pre.length+rs.length:Nat) - 1) (Int.sub_add_cancel _ _) hk' (λt h=>ht t (.tail _ h)) hl f
  refine⟨N+1,N6▸aA (decide_eq_true (Int.ofNat_le.mpr (Wo _ _))) (Sg (ht v (.head _)) (GU hl) q ?_)⟩
  show ks[pre.length+rs.length]?=some v
  rw[hk',List.getElem?_append_right (Wo _ _),Nat.add_sub_cancel_left,List.getElem?_append_right (by rw[List.length_reverse];exact Nat.le_refl _),List.length_reverse,Nat.sub_self]
  rfl) rs
theorem FQ{b:Bool}{o Y:List A}{r:List (List Ce)}{gl:Rg 5}{node m:A}{f:Int}{K:KX}(h:dp m Y (λY=>K (.a .none) ⟨pU b o Y r,gl⟩) node f):ae TP 887 [.l (cond b 0 1) 1,.a node,.a (.int f),.a m] ⟨pU b o Y r,gl⟩ K:=
 @dp.casesOn m Y (λY=>K (.a .none) ⟨pU b o Y r,gl⟩) (λnode f _=>ae TP 887 [.l (cond b 0 1) 1,.a node,.a (.int f),.a m] ⟨pU b o Y r,gl⟩ K) node f h λk a pre post fl n ht hl p=>
 have er:post.reverse.reverse=post:=List.reverse_reverse _
 Sr (Sn post.reverse [] _ _ (by rw[Int.sub_add_cancel,List.length_reverse,WN]) (by rw[er,WQ]) (λt h=>ht t (List.mem_reverse.mp h)) (er.symm▸hl) (er.symm▸p))
theorem Hg{xs:List X}{S:AS}{K:KX}(h:uB xs S K):ae TP 887 xs S K:=aa h λp _ h=>aa h λq _ h=>by
 rw[p.2,q.2.1]
 exact(congrArg (λS=>ae TP 887 _ S K) (show S=⟨pU q.1.1 q.1.2.1.1 q.1.2.1.2 q.1.2.2,S.gl⟩ from congrArg (AS.mk · S.gl) q.2.2)).mpr (FQ h)
def I9(s:Stmt):Option (Expr×Expr):=nR s.ctorIdx 5 λh=>Stmt.Assign.elim (motive_2:=λ_=>Option (Expr×Expr)) s h λts v _=>(dM ts).map λt=>(t.1,v)
def OA:List (Nat×ay):=[(62,ae {} 62),(69,ae {} 69),(90,ae {} 90),(873,ae {} 873),(887,uB),(866,tU)]
def VJ:List (Nat×ay):=(880,ae (tab OA) 880)::(901,ae (tab OA) 901)::OA
def TU:bA:={fn:=λa=>lk a VJ,sy:=[654004]}
structure UQ where
 loc:List (List Ce)
 gl:Rg 5
 cx:A
 root:A
 K:KX
def uE(q:UQ)(x y z:A):En:=[("cx",.a q.cx),("root",.a q.root),("sid",.a (.int 0)),("out",.l 0 0),("stack",.l 0 1),("node",.a x),("parent",.a y),("nested",.a z)]
def lY(q:UQ)(out X:List A):AS:=⟨[.list out,.list X]::q.loc,q.gl⟩
def UL(q:UQ)(n:Nat)(x y z:A)(out X:List A):Prop:=wh TU 894 2 q.K n (uE q x y z) (lY q out X)
def UB(q:UQ)(n:Nat)(x y z:A)(out X:List A):Prop:=HH TU 894 2 1 q.K n (uE q x y z) (lY q out X)
def US(q:UQ)(out X:List A):Prop:=∃n,∀x y z,UL q n x y z out X
def UG(q:UQ)(n:Nat)(b:Bool)(o:Option (List A×A))(env:En)(out X:List A):Prop:=opt (io 894) λfi=>opt (nth fi.body 2) λs=>opt (F9 s) λp=>aw b (opt o λr=>opt (nth p.2 0) λs=>opt (I9 s) λt=>
 rQ (λ_=>.of λ_ _ K=>K (.a r.2) (lY q out r.1)) fi.nm t.1 t.2 env (lY q out X) (λenv S=>bS (ws TU 19 fi.nm) (p.2.drop 1) env S (wh TU 894 2 q.K n) (wh TU 894 2 q.K n) (λx S=>ret x S q.K)) (λ_ _=>False) (λ_ _=>False)) (rest TU 894 3 env (lY q out X) q.K)
theorem dQ{X:List A}{e:A}:aq (X++[e])=true:=by cases X <;> rfl
theorem d0{e:A}:∀{X:List A},cf (X++[e])=some (X,e):=λ{X}=>@List.rec A (λX=>cf (X++[e])=some (X,e)) rfl (λa r ih=>(congrArg (λo=>alt o (λp:List A×A=>some (a::p.1,p.2)) (some ([],a))) ih:_)) X
section
variable{q:UQ}{n:Nat}{x y z x' y' z':A}{out X:List A}
theorem FT(h:UB q n x' y' z' out X):UL q (n+1) x y z out (X++[.tup [x',y',z']]):=
 have e:UG q n (aq (X++[.tup [x',y',z']])) (cf (X++[.tup [x',y',z']])) (uE q x y z) out (X++[.tup [x',y',z']]):=by
  rw[dQ,d0];exact cast (by kernel_rfl) h
 cast (by kernel_rfl) e
end
def uM(b:Bool):A:=.int (cond b 1 0)
def du:Nat:=900000
def Us.out(u:Us):A:=.tup [u.who,u.hold,.int (lU u.fm u.role u.role u.role 0),.int u.mode]
def cc(par:A)(k:Nat)(b:Bool)(t:A)(v:List Us):Prop:=∀(q:UQ) (out X:List A),X.length+k≤du→out.length+v.length≤du→US q (out++v.map Us.out) X→US q out (X++[.tup [t,par,uM b]])
def HJ(par:A):Prop:=∀k a ks fl n,j0 par (nd k a ks fl n) 0
structure Sem(k:Nat)(b:Bool)(t:A)(v:List Us):Prop where
 thr:∃y,jJ t y
 run:∀par,HJ par→cc par k b t v
inductive a6(par:A)(k:Nat)(b:Bool):List A→List Us→Prop
 |nil:a6 par k b [] []
 |none {ts:List A} {v:List Us} (h:a6 par k b ts v):a6 par k b (.none::ts) v
 |cons {t:A} {ts:List A} {v v':List Us} (i:dA t) (h:cc par k b t v) (h':a6 par k b ts v'):a6 par k b (t::ts) (v++v')
theorem cc.le{par:A}{j k:Nat}{b:Bool}{t:A}{v:List Us}(h:cc par j b t v)(q:j≤k):cc par k b t v:=λu out X h1 h2 f=>h u out X (V9 (Wj q _) h1) h2 f
theorem Sem.le{j k:Nat}{b:Bool}{t:A}{v:List Us}(h:Sem j b t v)(q:j≤k):Sem k b t v:=⟨h.thr,λpar p=>(h.run par p).le q⟩
end
section
theorem dA.n{t:A}(h:dA t):b7 (.a t)=some false:=@dA.casesOn (λt _=>b7 (.a t)=some false) t h λ_ _ _ _ _=>rfl
theorem B8{t:A}(h:dA t):x8 t=false:=congrArg (λo=>alt o id false) h.n
theorem a6.ok{par:A}{k:Nat}{b:Bool}{ts:List A}{v:List Us}(h:a6 par k b ts v):∀t∈ts,b7 (.a t)=some (x8 t):=@a6.rec par k b (λts v _=>∀t∈ts,b7 (.a t)=some (x8 t)) (λt h=>(WJ h).elim) (λ_ ih t h=>(WC h).elim (λe=>e▸rfl) (ih t)) (λi _ _ ih t h=>(WC h).elim (λe=>e▸i.n.trans (congrArg some (B8 i)).symm) (ih t)) ts v h
theorem iG{node m:A}:∀{l:List A},(j4 node m l).length≤l.length:=λ{l}=>@List.rec A (λl=>(j4 node m l).length≤l.length) (Nat.le_refl _) (λt r ih=>by
 show(j4 node m r++tu node m t).length≤r.length+1
 rw[WN]
 exact Wm ih (by unfold tu;cases x8 t;exact Nat.le_refl 1;exact Nat.zero_le 1)) l
theorem vf{X Y:List A}{j k B:Nat}(q:Y.length≤j)(h:X.length+(j+k)≤B):(X++Y).length+k≤B:=by rw[WN,Nat.add_assoc];exact V9 (Wj (Wl q k) _) h
theorem CM{out:List A}{v v':List Us}{B:Nat}(h:out.length+(v++v').length≤B):out.length+v.length≤B∧(out++v.map Us.out).length+v'.length≤B:=by
 rw[WN,← Nat.add_assoc] at h
 exact⟨V9 (Wo _ _) h,by rw[WN,WO];exact h⟩
theorem a6.run{par:A}{k:Nat}{b:Bool}{ts:List A}{v:List Us}(h:a6 par k b ts v):∀(q:UQ) (out X:List A),X.length+(ts.length+k)≤du→out.length+v.length≤du→US q (out++v.map Us.out) X→US q out (X++j4 par (uM b) ts):=
 @a6.rec par k b (λts v _=>∀(q:UQ) (out X:List A),X.length+(ts.length+k)≤du→out.length+v.length≤du→US q (out++v.map Us.out) X→US q out (X++j4 par (uM b) ts))
 (λq out X _ _ f=>by rw[List.map_nil,WQ] at f;exact(WQ X).symm▸f)
 (λ{ts v} _ ih q out X h1 h2 f=>show US q out (X++(j4 par (uM b) ts++[])) from(WQ (j4 par (uM b) ts)).symm▸ih q out X (V9 (Wj (Wl (Nat.le_succ _) k) _) h1) h2 f)
 (λ{t ts v v'} i hp _ ih q out X h1 h2 f=>by
  have e:j4 par (uM b) (t::ts)=j4 par (uM b) ts++[.tup [t,par,uM b]]:=congrArg (j4 par (uM b) ts++·) (congrArg (λc=>cond c [] [A.tup [t,par,uM b]]) (B8 i))
  rw[WS,← WR] at f
  rw[e,← WR]
  have h1':X.length+(ts.length+k)≤du:=V9 (Wj (Wl (Nat.le_succ _) k) _) h1
  exact hp q out _ (vf iG h1') (CM h2).1 (ih q _ X h1' (CM h2).2 f)) ts v h
def BB:List Bool:=[true,false]
theorem bb(b:Bool):b∈BB:=by cases b;exact .tail _ (.head _);exact .head _
def gJ:List Int:=[1,2,8,11,25,28,43,44,45,59,71]
section
variable{q:UQ}{n j:Nat}{x y z par:A}{out X:List A}{a:A}{ks:List A}{fl i k:Int}{b:Bool}{v:List Us}
theorem gA{node m:A}{o' X':List A}(h:∀n,(∀x y z,UL q n x y z o' X')→UB q n node par m out X)(g:US q o' X'):US q out (X++[.tup [node,par,m]]):=Exists.elim g λn g=>Exists.intro (n+1) λx y z=>@FT q n x y z node par m out X (h n g)
theorem dp.to{m:A}{Y:List A}{P:List A→Prop}{node:A}{f:Int}{C:Prop}(h:dp m Y P node f)(k:∀Y',P Y'→(∀P':List A→Prop,P' Y'→dp m Y P' node f)→C):C:=
 @dp.casesOn m Y P (λnode f _=>(∀Y',P Y'→(∀P':List A→Prop,P' Y'→dp m Y P' node f)→C)→C) node f h (λkd a pre post fl i ht hl p k=>k _ p λP' p'=>.mk kd a pre post fl i ht hl p') k
theorem pY{node:A}{f:Int}{m:A}(h:∀n,UB q n node par (uM b) out X=dp m X (λY=>UL q n node par (uM b) out Y) node f)(p:dp m X (λY=>US q out Y) node f):US q out (X++[.tup [node,par,uM b]]):=
 p.to λY g r=>gA (λn g=>cast (h n).symm (r _ (g node par (uM b)))) g
theorem Bi{node:A}(h:∀n,UB q n node par (uM b) out X=UL q n node par (uM b) out X)(g:US q out X):US q out (X++[.tup [node,par,uM b]]):=gA (λn g=>cast (h n).symm (g node par (uM b))) g
theorem D2{node e:A}(h:∀n,UB q n node par (uM b) out X=ak (X++[e]) (UL q n node par (uM b) out (X++[e])))(hl:(X++[e]).length≤bM)(g:US q out (X++[e])):US q out (X++[.tup [node,par,uM b]]):=gA (λn g=>cast (h n).symm (aA (aC hl) (g node par (uM b)))) g
theorem vL:gJ.map (λk=>BB.map λb=>UB q n (nd k a ks fl i) par (uM b) out X)=gJ.map λk=>BB.map λb=>dp (uM b) X (λY=>UL q n (nd k a ks fl i) par (uM b) out Y) (nd k a ks fl i) 0:=by kernel_rfl
theorem EE:[33,32].map (λk=>BB.map λb=>UB q n (nd k a (x::ks) fl i) par (uM b) out X)=[33,32].map λk=>BB.map λb=>ak (X++[.tup [x,par,uM b]]) (UL q n (nd k a (x::ks) fl i) par (uM b) out (X++[.tup [x,par,uM b]])):=by kernel_rfl
theorem uG:[12,4].map (λfl=>BB.map λb=>UB q n (nd 27 a ks fl i) par (uM b) out X)=[12,4].map λfl=>BB.map λb=>dp (uM true) X (λY=>UL q n (nd 27 a ks fl i) par (uM b) out Y) (nd 27 a ks fl i) 0:=by kernel_rfl
theorem HC:[27,61].map (λk=>BB.map λb=>UB q n (nd k a ks 0 i) par (uM b) out X)=[27,61].map λk=>BB.map λb=>UL q n (nd k a ks 0 i) par (uM b) out X:=by kernel_rfl
theorem cr{α β γ:Type}{l:List α}{l':List β}{P Q:α→β→γ}(h:l.map (λa=>l'.map λb=>P a b)=l.map λa=>l'.map λb=>Q a b){a:α}{b:β}(ha:a∈l)(hb:b∈l'):P a b=Q a b:=WA (WA h a ha) b hb
theorem Bc{X Y:List A}{k j:Nat}(q:Y.length≤j)(h:X.length+(j+k)≤du):(X++Y).length≤bM:=V9 (V9 (Wo _ _) (vf q h)) (by decide)
theorem iF{b':Bool}{node:A}(e:node=nd k a ks fl i)(hu:∀n q out X,UB q n node par (uM b) out X=dp (uM b') X (λY=>UL q n node par (uM b) out Y) node 0)(h:a6 node j b' ks v)(hk:ks.length≤8):cc par (8+j) b node v:=λq out X h1 h2 f=>by
 subst e
 have h1':X.length+(ks.length+j)≤du:=V9 (Wj (Wl hk j) _) h1
 exact pY (λn=>hu n q out X) (.mk k a [] ks fl i h.ok (Bc iG h1') (h.run q out X h1' h2 f))
theorem a8(hk:k∈gJ)(h:a6 (nd k a ks fl i) j b ks v)(hl:ks.length≤8):cc par (8+j) b (nd k a ks fl i) v:=iF rfl (λn q out X=>cr vL hk (bb b)) h hl
theorem hJ(hk:fl∈[12,4])(h:a6 (nd 27 a ks fl i) j true ks v)(hl:ks.length≤8):cc par (8+j) b (nd 27 a ks fl i) v:=iF rfl (λn q out X=>cr uG hk (bb b)) h hl
theorem zh(hk:k∈[27,61]):cc par j b (nd k a ks 0 i) []:=λq out X h1 h2 f=>Bi (λn=>cr HC hk (bb b)) (by rw[List.map_nil,WQ] at f;exact f)
theorem qQ(hk:k∈[33,32])(h:cc par j b x v):cc par (1+j) b (nd k a (x::ks) fl i) v:=λq out X h1 h2 f=>
 D2 (λn=>cr EE hk (bb b)) (Bc (j:=1) (Nat.le_refl _) h1) (h q out X (V9 (Wj (Wp j 1) _) h1) h2 f)
end
def oN:List Uf:=[.mem,.text,.idx]
section
variable{q:UQ}{n j:Nat}{x y z par:A}{out X:List A}{a:A}{ks:List A}{fl i k:Int}{b:Bool}{v:List Us}
def HU(q:UQ)(n:Nat)(par:A)(b:Bool)(out X:List A)(who made:A):Prop:=∃p v r,([.a par,.a made]:List Mine.X)=[.a p,.a v]∧j0 p v r∧ak (out++[.tup [who,made,.int r,uM b]]) (dp (uM b) X (λY=>UL q n made par (uM b) (out++[.tup [who,made,.int r,uM b]]) Y) made 1)
theorem GF{pl:Nat}{nm:Str}{mode role un:Int}:oN.map (λf=>BB.map λs=>BB.map λb=>UB q n (Us.made ⟨pl,f,s,nm,mode,role,un⟩) par (uM b) out X)=oN.map λf=>BB.map λs=>BB.map λb=>HU q n par b out X (Us.who ⟨pl,f,s,nm,mode,role,un⟩) (Us.made ⟨pl,f,s,nm,mode,role,un⟩):=by kernel_rfl
theorem zY{un:Int}{nm:A}:BB.map (λs=>BB.map λb=>UB q n (nd (cond s 10 9) nm [] 0 un) par (uM b) out X)=BB.map λs=>BB.map λb=>ak (out++[.tup [nd (cond s 10 9) nm [] 0 un,.none,.int 0,uM b]]) (UL q n (nd (cond s 10 9) nm [] 0 un) par (uM b) (out++[.tup [nd (cond s 10 9) nm [] 0 un,.none,.int 0,uM b]]) X):=by kernel_rfl
theorem ta{who made:A}{post:List A}{r:Int}(e:made=nd k a ([who]++post) fl i)(hu:∀n,UB q n made par (uM b) out X=HU q n par b out X who made)(h:a6 made 8 b post [])(hl:post.length≤1)(hr:j0 par made r)
  (h1:X.length+9≤du) (h2:out.length+1≤du) (f:US q (out++[.tup [who,made,.int r,uM b]]) X):US q out (X++[.tup [made,par,uM b]]):=
 have h1':X.length+(post.length+8)≤du:=V9 (Wj (Wl hl 8) _) h1
 have ho:(out++[A.tup [who,made,.int r,uM b]]).length≤du:=by rw[WN];exact h2
 gA (X':=X++j4 made (uM b) post) (λn g=>cast (hu n).symm ⟨par,made,r,rfl,hr,aA (aC (V9 ho (by decide))) (by
  have p:dp (uM b) X (λY=>UL q n made par (uM b) (out++[.tup [who,made,.int r,uM b]]) Y) (nd k a ([who]++post) fl i) 1:=.mk k a [who] post fl i h.ok (e▸Bc iG h1') (e▸g made par (uM b))
  exact e▸p)⟩) (h.run q _ X h1' ho ((WQ _).symm▸f))
theorem CE{node:A}(hk:k∈gJ):a6 node 8 b [nd k a [] fl i] []:=.cons (v:=[]) (v':=[]) (.mk ..) (a8 (j:=0) hk .nil (Nat.zero_le _)) .nil
theorem kH{u:Us}(hm:u.mode=cond b 1 0)(hr:j0 par u.made u.role):cc par 9 b u.made [u]:=λq out X h1 h2 f=>by
 have g:∀{f:Uf} {s:Bool} {pl:Nat} {nm:Str} {mode role un:Int} (hf:f∈oN) (n:Nat),UB q n (Us.made ⟨pl,f,s,nm,mode,role,un⟩) par (uM b) out X=HU q n par b out X (Us.who ⟨pl,f,s,nm,mode,role,un⟩) (Us.made ⟨pl,f,s,nm,mode,role,un⟩):=λhf n=>cr (WA GF _ hf) (bb _) (bb b)
 obtain⟨pl,fm,s,nm,mode,role,un⟩:=u
 subst hm
 exact@Uf.casesOn (λfm=>j0 par (Us.made ⟨pl,fm,s,nm,cond b 1 0,role,un⟩) role→US q (out++[Us.out ⟨pl,fm,s,nm,cond b 1 0,role,un⟩]) X→US q out (X++[.tup [Us.made ⟨pl,fm,s,nm,cond b 1 0,role,un⟩,par,uM b]])) fm
  (λhr f=>ta (post:=[]) rfl (g (.head _)) .nil (Nat.zero_le _) hr h1 h2 f)
  (λhr f=>ta (post:=[nd 2 (.str nm) [] 0 (un+1+1)]) rfl (g (.tail _ (.head _))) (CE (.tail _ (.head _))) (Nat.le_refl _) hr h1 h2 f)
  (λhr f=>ta (post:=[nd 8 (tx "c") [] 0 (un+1+1)]) rfl (g (.tail _ (.tail _ (.head _)))) (CE (.tail _ (.tail _ (.head _)))) (Nat.le_refl _) hr h1 h2 f)
  (λhr f=>gA (λn g=>cast (cr zY (bb s) (bb b)).symm (aA (aC (by rw[WN];exact V9 h2 (by decide))) (g _ _ _))) f) hr f
end
def bz(k:Int)(p:Option Int)(u:Us):A:=alt p (λi=>nd k (tx "") [u.made] 0 i) u.made
def dC(p:Option Int)(a:Int):A:=alt p (λb=>nd 33 (tx "") [nd 10 (tx "") [] 0 a] 0 b) (nd 10 (tx "") [] 0 a)
def bP(ks:List A)(n:Int):A:=nd 71 (tx "") ks 0 n
section
variable{q:UQ}{n j:Nat}{x y z par:A}{out X:List A}{a:A}{ks:List A}{fl i i' k:Int}{b:Bool}{v:List Us}{u:Us}{p:Option Int}
theorem ro{pl:Nat}{nm:Str}{mode role un:Int}:[none,some i'].map (λp=>oN.map λf=>BB.map λs=>BB.map λb=>UB q n (nd 18 a (bz 33 p ⟨pl,f,s,nm,mode,role,un⟩::ks) fl i) par (uM b) out X)=
  [none,some i'].map λp=>oN.map λf=>BB.map λs=>BB.map λb=>dp (uM b) X (λY=>UL q n (nd 18 a (bz 33 p ⟨pl,f,s,nm,mode,role,un⟩::ks) fl i) par (uM b) out Y) (nd 18 a (bz 33 p ⟨pl,f,s,nm,mode,role,un⟩::ks) fl i) 0:=by kernel_rfl
theorem uf{c:A}{m:Int}:BB.map (λb=>UB q n (nd 18 a (nd 8 c [] 0 m::ks) fl i) par (uM b) out X)=BB.map λb=>dp (uM b) X (λY=>UL q n (nd 18 a (nd 8 c [] 0 m::ks) fl i) par (uM b) out Y) (nd 18 a (nd 8 c [] 0 m::ks) fl i) 0:=by kernel_rfl
theorem tz{m:Int}:[none,some i'].map (λp=>BB.map λb=>UB q n (nd 18 a (dC p m::ks) fl i) par (uM b) out X)=[none,some i'].map λp=>BB.map λb=>dp (uM b) X (λY=>UL q n (nd 18 a (dC p m::ks) fl i) par (uM b) out Y) (nd 18 a (dC p m::ks) fl i) 1:=by kernel_rfl
theorem fK(u:Us):jJ u.made u.made∧dA u.made:=by
 obtain⟨pl,fm,s,nm,mode,role,un⟩:=u
 exact@Uf.casesOn (λfm=>jJ (Us.made ⟨pl,fm,s,nm,mode,role,un⟩) (Us.made ⟨pl,fm,s,nm,mode,role,un⟩)∧dA (Us.made ⟨pl,fm,s,nm,mode,role,un⟩)) fm ⟨.here rfl,.mk ..⟩ ⟨.here rfl,.mk ..⟩ ⟨.here rfl,.mk ..⟩ ⟨@Bool.casesOn (λs=>jJ (nd (cond s 10 9) (tx "") [] 0 (un+1)) (nd (cond s 10 9) (tx "") [] 0 (un+1))) s (.here rfl) (.here rfl),.mk ..⟩
theorem wK(h:k∈[33,32]):jJ (bz k p u) u.made∧dA (bz k p u):=@Option.casesOn Int (λp=>jJ (bz k p u) u.made∧dA (bz k p u)) p (fK u) λi=>⟨.go (WL (show([33,32]:List Int).all uj=true by kernel_rfl) k h) (fK u).1,.mk ..⟩
theorem pi{par x:A}{r:Int}(h:dA x)(f:∀k a ks fl n,x=nd k a ks fl n→j0 par (nd k a ks fl n) r):j0 par x r:=@dA.casesOn (λy _=>x=y→j0 par y r) x h (λk a ks fl n e=>f k a ks fl n e) rfl
theorem nr(hk:k∈[33,32])(hm:u.mode=cond b 1 0)(hr:j0 par u.made u.role):cc par 10 b (bz k p u) [u]:=@Option.casesOn Int (λp=>cc par 10 b (bz k p u) [u]) p ((kH hm hr).le (by decide)) λi=>qQ hk (kH hm hr)
theorem cJ{nm:A}(hk:k∈gJ):cc par 8 b (nd k nm [] fl i) []:=a8 (j:=0) hk .nil (Nat.zero_le _)
theorem Cr{t:A}(h:cc (nd 71 (tx "") [t] 0 i) j b t v)(ht:dA t):cc par (8+j) b (bP [t] i) v:=WQ v▸a8 (ks:=[t]) (by decide) (.cons ht h .nil) (Wu rfl)
theorem xV{i2:Int}(hu:u.fm≠.bare)(hm:u.mode=cond b 1 0)(hr:u.role=2):cc par 18 b (nd 18 a [bz 33 p u,bP [] i2,.none] fl i) [u]:=by
 have l:=@wK 33 u p (.head _)
 refine iF (b':=b) (j:=10) rfl (λn q out X=>?_) (.cons (v':=[]) l.2 (nr (.head _) hm (pi (fK u).2 λk a ks fl n e=>(congrArg (j0 _ _) hr).mpr (.call (e▸l.1)))) (.cons (v:=[]) (v':=[]) (.mk ..) ((cJ (by decide)).le (by decide)) (.none .nil))) (Wu rfl)
 obtain⟨pl,fm,s,nm,mode,role,un⟩:=u
 have hf:fm∈oN:=@Uf.casesOn (λfm=>fm≠.bare→fm∈oN) fm (λ_=>.head _) (λ_=>.tail _ (.head _)) (λ_=>.tail _ (.tail _ (.head _))) (λh=>(h rfl).elim) hu
 exact@Option.casesOn Int (λp=>UB q n (nd 18 a (bz 33 p ⟨pl,fm,s,nm,mode,role,un⟩::[bP [] i2,.none]) fl i) par (uM b) out X=dp (uM b) X (λY=>UL q n (nd 18 a (bz 33 p ⟨pl,fm,s,nm,mode,role,un⟩::[bP [] i2,.none]) fl i) par (uM b) out Y) (nd 18 a (bz 33 p ⟨pl,fm,s,nm,mode,role,un⟩::[bP [] i2,.none]) fl i) 0) p
  (cr (WA (WA (ro (i':=0)) none (.head _)) _ hf) (bb s) (bb b)) λi'=>cr (WA (WA (ro (i':=i')) (some i') (.tail _ (.head _))) _ hf) (bb s) (bb b)
theorem yS{i2:Int}(hm:u.mode=cond b 1 0)(hr:u.role=1):cc par 18 b (nd 25 (tx "=") [bz 32 p u,nd 1 (.int 1) [] 0 i2] fl i) [u]:=
 have l:=@wK 32 u p (.tail _ (.head _))
 a8 (j:=10) (by decide) (.cons (v':=[]) l.2 (nr (.tail _ (.head _)) hm (pi (fK u).2 λk a ks fl n e=>(congrArg (j0 _ _) hr).mpr (.asg (e▸l.1)))) (.cons (v:=[]) (v':=[]) (.mk ..) ((cJ (by decide)).le (by decide)) .nil)) (Wu rfl)
theorem rv{i1 i2:Int}:cc par 16 b (nd 18 a [nd 8 x [] 0 i1,bP [] i2,.none] fl i) []:=
 iF (b':=b) (j:=8) rfl (λn q out X=>WA uf b (bb b)) (.cons (v:=[]) (v':=[]) (.mk ..) (cJ (by decide)) (.cons (v:=[]) (v':=[]) (.mk ..) (cJ (by decide)) (.none .nil))) (Wu rfl)
theorem rm{m i2:Int}(hl:cc (nd 18 a [dC p m,bP ks i2,.none] fl i) j b (bP ks i2) v):cc par (2+j) b (nd 18 a [dC p m,bP ks i2,.none] fl i) v:=λq out X h1 h2 f=>by
 have h:a6 (nd 18 a [dC p m,bP ks i2,.none] fl i) j b [bP ks i2,.none] v:=WQ v▸.cons (.mk ..) hl (.none .nil)
 exact pY (λn=>@Option.casesOn Int (λp=>UB q n (nd 18 a (dC p m::[bP ks i2,.none]) fl i) par (uM b) out X=dp (uM b) X (λY=>UL q n (nd 18 a (dC p m::[bP ks i2,.none]) fl i) par (uM b) out Y) (nd 18 a (dC p m::[bP ks i2,.none]) fl i) 1) p
  (cr (tz (i':=0)) (.head _) (bb b)) λi'=>cr (tz (i':=i')) (.tail _ (.head _)) (bb b)) (.mk 18 a [dC p m] [bP ks i2,.none] fl i h.ok (Bc (j:=2) iG h1) (h.run q out X h1 h2 f))
end
structure Dp(d:Int)(k:Nat):Prop where
 lo:0≤d
 hi:d<k
def Pt(k:Nat)(m:Int)(_:Nat)(t:A)(v:List Us):Prop:=∀b:Bool,m=cond b 1 0→Sem (30*(k+1)) b t v
def jk(k:Nat):Nat:=@Nat.rec (λ_=>Nat) 1 (λk ih=>@Nat.rec (λ_=>Nat) 1 (λ_ _=>ih+ih) k) k
def cI(L:List A)(k:Nat)(xs:List X)(S:AS)(K:KX):Prop:=opt (a3 xs) λp=>Dp p.1.1 k∧Md p.1.2∧gen L (jk k) S (Pt k p.1.2) K
def T5(L:List A):List (Nat×ay):=(1508,ae (tab (T4 L)) 1508)::(1503,Dz L)::T4 L
def T6(L:List A):List (Nat×ay):=(1515,ae (tab (T5 L)) 1515)::T5 L
variable{j k k' s:Nat}{loc lo lo':List (List Ce)}{gl:Rg 5}{L:List A}{n d m r i i1 i2 i3 i4:Int}{w v v':List Us}{K:KX}{t t':A}{b:Bool}{P:A→Nat→Int→List Us→Prop}{par:A}{u:Us}
theorem Og{a:Nat}(h:a≤30):a+30*(k+1)≤30*(k+1+1):=Nat.add_comm (30*(k+1)) a▸Wj h _
theorem I5{a:Nat}(h:a≤30):a≤30*(k+1+1):=V9 h (Wp 30 _)
theorem a6.one(h:cc par j b t v)(i:dA t):a6 par j b [t] v:=WQ v▸.cons i h .nil
theorem gM{k:Int}{a x:A}{ks:List A}{fl n:Int}(h:∃y,jJ x y)(hk:(decide (k=25) ||(decide (k=36) ||decide (k=18)))=false):HJ (nd k a (x::ks) fl n):=λ_ _ _ _ _=>h.elim λy h=>.plain h hk
theorem D4{k:Int}{a:A}{ks:List A}{fl n:Int}:HJ (nd k a (.none::ks) fl n):=λ_ _ _ _ _=>.leaf
theorem mN{nm:A}{k fl:Int}{ts:List A}(hk:k∈gJ)(hj:8≤j)(h:a6 par j b ts v):a6 par j b (nd k nm [] fl i::ts) v:=.cons (v:=[]) (.mk ..) ((cJ hk).le hj) h
theorem j8:8≤30*(k+1):=V9 (by decide:8≤30) (Wp 30 _)
theorem iK(hm:u.mode=cond b 1 0)(hr:u.role=0):Sem 9 b u.made [u]:=⟨⟨_,(fK u).1⟩,λpar p=>kH hm (pi (fK u).2 λk a ks fl n e=>(congrArg (j0 _ _) hr).mpr (p k a ks fl n))⟩
theorem tT(h:Sem (30*(k+1)) true t v):Sem (30*(k+1+1)) b (nd 27 (tx "") [.none,bP [] i1,.none,t] (4+8) i) v:=
 ⟨⟨_,.here rfl⟩,λpar _=>(hJ (by decide) (.none (mN (by decide) j8 (.none (.one (h.run _ D4) h.thr.choose_spec.isNd')))) (Wu rfl)).le (Og (by decide))⟩
theorem uP(h:Sem (30*(k+1)) true t v):Sem (30*(k+1+1)) b (nd 27 (tx "") [.none,bP [nd 28 (tx "") [nd 8 (tx "a") [] 0 i1,.none,t] 0 i2] i3,.none,nd 59 (tx "") [] 0 i4] 4 i) v:=
 have hp:cc (bP [nd 28 (tx "") [nd 8 (tx "a") [] 0 i1,.none,t] 0 i2] i3) (8+30*(k+1)) true (nd 28 (tx "") [nd 8 (tx "a") [] 0 i1,.none,t] 0 i2) v:=a8 (by decide) (mN (by decide) j8 (.none (.one (h.run _ (gM ⟨_,.here rfl⟩ rfl)) h.thr.choose_spec.isNd'))) (Wu rfl)
 ⟨⟨_,.here rfl⟩,λpar _=>(hJ (j:=8+(8+30*(k+1))) (by decide) (.none (WQ v▸.cons (.mk ..) (Cr hp (.mk ..)) (.none (.one ((cJ (by decide)).le (Wo _ _)) (.mk ..))))) (Wu rfl)).le (by rw[← Nat.add_assoc,← Nat.add_assoc];exact Og (by decide))⟩
theorem yK(h:Sem (30*(k+1)) b t v)(h':Sem (30*(k+1)) b t' v'):Sem (30*(k+1+1)) b (nd 11 (tx "") [t,t'] 0 i) (v++v'):=
 ⟨⟨_,.here rfl⟩,λpar _=>(a8 (by decide) (.cons h.thr.choose_spec.isNd' (h.run _ (gM h.thr rfl)) (.one (h'.run _ (gM h.thr rfl)) h'.thr.choose_spec.isNd')) (Wu rfl)).le (Og (by decide))⟩
theorem yw(h:Sem (30*(k+1)) b t v):Sem (30*(k+1+1)) b (nd 33 (tx "") [t] 0 i) v:=⟨⟨_,.go rfl h.thr.choose_spec⟩,λpar p=>(qQ (.head _) (h.run par p)).le (Og (by decide))⟩
theorem qL{kd:Int}{ks:List A}(hk:kd∈[27,61]):Sem j b (nd kd (tx "") ks 0 i) []:=⟨⟨_,.here (WL (show([27,61]:List Int).all (λk=> !uj k)=true by kernel_rfl) kd hk |> (Bool.not_eq_true' _).mp)⟩,λpar _=>zh hk⟩
section
variable(loc lo lo':List (List Ce))(gl:Rg 5)(L:List A)(s k:Nat)(n d m:Int)(w:List Us)(K:KX)
def rq(s:Nat)(w:List Us)(r:Int):Prop:=Md m∧d6 1 lo gl L s n w (y5 m r) λt s n w'=>opt (aM (.a t) (tx "made") (au (GS lo gl L s n w') (.a t))) λv=>K (.a v) (GS lo' gl L s n w')
def kA(s:Nat)(w:List Us)(m:Int)(P:A→Nat→Int→List Us→Prop):Prop:=Dp (d - 1) k∧Md m∧d6 (jk k) ([]::loc) gl L s n w (Pt k m) P
def Su(n:Int):A:=nd 27 (tx "") [.none,bP [] (n+1+1+1+1),.none,nd 59 (tx "") [nd 43 (tx "") [nd 16 (tx "x") [nd 9 (tx "") [] 0 (n+1)] 0 (n+1+1)] 0 (n+1+1+1)] 0 (n+1+1+1+1+1)] 0 (n+1+1+1+1+1+1)
def Q5(n:Int):A:=nd 61 (tx "") [.none,.none,.none,bP [] (n+1+1+1+1),bP [nd 62 (tx "x") [.none,nd 16 (tx "x") [nd 9 (tx "") [] 0 (n+1)] 0 (n+1+1)] 0 (n+1+1+1)] (n+1+1+1+1+1)] 0 (n+1+1+1+1+1+1)
def HO(f:A→A):Prop:=LL L 3 (∀i:Nat,(i:Int)<2→aw (PyData.eqv (.int i) (.int 0)) (LL L 4 (K (.a (f (Su n))) (GS loc gl L (s+1+1) (n+1+1+1+1+1+1) w))) (LL L 4 (K (.a (f (Q5 n))) (GS loc gl L (s+1+1) (n+1+1+1+1+1+1) w))))
theorem Ht(h:LL L 1 (∀i:Nat,(i:Int)<8→aw (PyData.eqv (.int d) (.int 0)) (rq ([]::loc) loc gl L n m K (s+1) w 0) (aw (decide ((i:Int)<3)) (rq ([]::loc) loc gl L n m K (s+1) w 0)
  (aw (PyData.eqv (.int i) (.int 3)) (kA loc gl L k n d (s+1) w 1 λt s n w'=>LL L 2 (K (.a (nd 27 (tx "") [.none,bP [] (n+1),.none,t] (4+8) (n+1+1))) (GS loc gl L s (n+1+1) w')))
  (aw (PyData.eqv (.int i) (.int 4)) (HO loc gl L s n w K id)
  (aw (PyData.eqv (.int i) (.int 5)) (kA loc gl L k n d (s+1) w 1 λt s n w'=>LL L 5 (K (.a (nd 27 (tx "") [.none,bP [nd 28 (tx "") [nd 8 (tx "a") [] 0 (n+1),.none,t] 0 (n+1+1)] (n+1+1+1),.none,nd 59 (tx "") [] 0 (n+1+1+1+1)] 4 (n+1+1+1+1+1))) (GS loc gl L s (n+1+1+1+1+1) w')))
  (aw (PyData.eqv (.int i) (.int 6)) (kA loc gl L k n d (s+1) w m λt s n w'=>kA loc gl L k n d s w' m λt' s n w'=>LL L 1 (K (.a (nd 11 (tx "") [t,t'] 0 (n+1))) (GS loc gl L s (n+1) w')))
  (kA loc gl L k n d (s+1) w m λt s n w'=>LL L 1 (K (.a (nd 33 (tx "") [t] 0 (n+1))) (GS loc gl L s (n+1) w')))))))))):
  ae (tab ((1522,cI L k)::T6 L)) 1522 [.a (.g 1 0),.a (.int d),.a (.int m)] (GS loc gl L s n w) K:=cast (by kernel_rfl) h
end
theorem wC{f:Us→Ce}(h:u.i=w.length):((w++[u]).map f)[u.i]?=some (f u):=by rw[WS,h,List.getElem?_append_right (Wq (WO _)),WO,Nat.sub_self];rfl
theorem kF(h:u.i=w.length):au (GS lo gl L s n (w++[u])) (.a (.g 3 u.i))=some (u.ce (.int 0)):=congrArg (λo=>Option.bind o iy) (wC (f:=λu=>u.ce (.int 0)) h)
theorem eS(h:u.i=w.length):aM (.a (.g 3 u.i)) (tx "made") (au (GS lo gl L s n (w++[u])) (.a (.g 3 u.i)))=some u.made:=by rw[kF h];kernel_rfl
theorem yG(hd:Md m)(g:Gi w n (k+1))(f:∀(u:Us) (s:Nat) (n:Int),u.i=w.length→u.mode=m→u.role=r→u.Ok→Gi (w++[u]) n k→K (.a u.made) (GS lo' gl L s n (w++[u]))):rq lo lo' gl L n m K s w r:=⟨hd,
 iC g λt s n v h=>@y5.casesOn m r w.length (λt v _=>Gi (w++v) n k→opt (aM (.a t) (tx "made") (au (GS lo gl L s n (w++v)) (.a t))) λx=>K (.a x) (GS lo' gl L s n (w++v))) t v h λu hi ok hm hr g=>aj (eS hi) (f u s n hi hm hr ok g)⟩
theorem Vm:1≤jk k∧jk k≤jk (k+1):=@Nat.rec (λk=>1≤jk k∧jk k≤jk (k+1)) ⟨Nat.le_refl _,Nat.le_refl _⟩ (λk ih=>⟨V9 ih.1 ih.2,Wo _ _⟩) k
theorem Dp.nz(hd:Dp d (k+1))(h:d≠0):∃j,k=j+1:=match k,hd with
 |0,hd=>(h (Int.le_antisymm (Int.lt_add_one_iff.mp hd.hi) hd.lo)).elim
 |j+1,_=>⟨j,rfl⟩
theorem Dp.dn(hd:Dp d (k+1))(h:d≠0):Dp (d - 1) k:=⟨Int.sub_nonneg_of_le (Int.lt_iff_add_one_le.mp (Int.lt_iff_le_and_ne.mpr ⟨hd.lo,Ne.symm h⟩)),Int.add_sub_cancel (k:Int) 1▸Int.sub_lt_sub_right (show d<(k:Int)+1 from hd.hi) 1⟩
theorem Gi.h2(g:Gi w n (k'+jk (k+1)))(hd:Dp d (k+1))(h:d≠0):Gi w n (k'+jk k+jk k):=(hd.nz h).elim λj e=>by subst e;exact Nat.add_assoc _ _ _▸g
theorem eI(hd:Dp d (k+1))(hm:Md m)(h:d≠0)(g:Gi w n (k'+jk k))(f:∀t s n v,Pt k m w.length t v→Gi (w++v) n k'→P t s n (w++v)):kA loc gl L k n d s w m P:=⟨hd.dn h,hm,iC g f⟩
theorem le1:n≤n+1:=Int.le_of_lt (Int.lt_add_one_iff.mpr (Int.le_refl _))
theorem le2:n≤n+1+1:=Wy le1 le1
theorem le3:n≤n+1+1+1:=Wy le2 le1
theorem le5:n≤n+1+1+1+1+1:=Wy le3 le2
theorem le6:n≤n+1+1+1+1+1+1:=Wy le3 le3
theorem n8(g:Gi w n k):Gi (w++[]) n k:=(WQ w).symm▸g
theorem rr{f':A→A}(g:Gi w n k)(f:∀kd ks i s,kd∈[27,61]→Gi w (n+1+1+1+1+1+1) k→K (.a (f' (nd kd (tx "") ks 0 i))) (GS loc gl L s (n+1+1+1+1+1+1) w)):HO loc gl L s n w K f':=
 bL (λi _=>aX (λ_=>bL (f 27 _ _ _ (.head _) (g.up le6)) 4) λ_=>bL (f 61 _ _ _ (.tail _ (.head _)) (g.up le6)) 4) 3
theorem GC(hd:Dp d (k+1))(hm:Md m)(g:Gi w n (k'+jk (k+1)))(f:∀t s n v,Pt (k+1) m w.length t v→Gi (w++v) n k'→K (.a t) (GS loc gl L s n (w++v))):ae (tab ((1522,cI L k)::T6 L)) 1522 [.a (.g 1 0),.a (.int d),.a (.int m)] (GS loc gl L s n w) K:=by
 have hu:∀s,rq ([]::loc) loc gl L n m K s w 0:=λs=>yG hm (g.dr Vm.1) λu s n hi hm hr ok g=>f _ s n _ (λb e=>(iK (hm.trans e) hr).le (I5 (by decide))) g
 have gf:=g.dr (j:=jk (k+1)) (i:=jk k) Vm.2
 refine Ht _ _ _ _ _ _ _ _ _ _ (bL (λi _=>aX (λ_=>hu _) λq=>?_) 1)
 have hz:d≠0:=of_decide_eq_false q
 exact aX (λ_=>hu _) λ_=>aX (λ_=>eI hd ⟨true,rfl⟩ hz gf λt s n v h g=>bL (f _ _ _ _ (λb _=>tT (h true rfl)) (g.up le2)) 2) λ_=>
  aX (λ_=>rr (f':=id) (g.dr (Nat.zero_le _)) λkd ks i s hk g=>(WQ w▸f _ s _ [] (λb _=>qL hk) (n8 g):K (.a (nd kd (tx "") ks 0 i)) (GS loc gl L s _ w))) λ_=>
  aX (λ_=>eI hd ⟨true,rfl⟩ hz gf λt s n v h g=>bL (f _ _ _ _ (λb _=>uP (h true rfl)) (g.up le5)) 5) λ_=>
  aX (λ_=>eI hd hm hz (g.h2 hd hz) λt s n v h g=>eI hd hm hz g λt' s n v' h' g=>bL (WR w v v'▸f _ _ _ _ (λb e=>yK (h b e) (h' b e)) (WR w v v'▸g.up le1)) 1) λ_=>
  eI hd hm hz gf λt s n v h g=>bL (f _ _ _ _ (λb e=>yw (h b e)) (g.up le1)) 1
theorem o4{xs:List X}{S:AS}(h:cI L (k+1) xs S K):ae (tab ((1522,cI L k)::T6 L)) 1522 xs S K:=aa h λp _ h=>iR h.2.2 λs n w k' e g f=>by
 rw[e,p.2]
 exact GC h.1 h.2.1 g f
theorem Bo{xs:List X}{S:AS}(h:cI L 0 xs S K):False:=aa h λp _ h=>(Int.lt_irrefl 0 (Int.lt_of_le_of_lt h.1.lo h.1.hi)).elim
def rA:bA:={fn:=λ_=>none,sy:=[678004]}
def Os(q:UQ)(x:A):En:=[("param",.a q.root),("out",.l 0 0),("waiting",.l 0 1),("node",.a x)]
def PL(q:UQ)(n:Nat)(x:A)(out X:List A):Prop:=wh rA 906 2 q.K n (Os q x) (lY q out X)
def PB(q:UQ)(n:Nat)(x:A)(out X:List A):Prop:=HH rA 906 2 1 q.K n (Os q x) (lY q out X)
def PW(q:UQ)(out X:List A):Prop:=∃n,∀x,PL q n x out X
def PG(q:UQ)(n:Nat)(b:Bool)(o:Option (List A×A))(env:En)(out X:List A):Prop:=opt (io 906) λfi=>opt (nth fi.body 2) λs=>opt (F9 s) λp=>aw b (opt o λr=>opt (nth p.2 0) λs=>opt (I9 s) λt=>
 rQ (λ_=>.of λ_ _ K=>K (.a r.2) (lY q out r.1)) fi.nm t.1 t.2 env (lY q out X) (λenv S=>bS (ws rA 19 fi.nm) (p.2.drop 1) env S (wh rA 906 2 q.K n) (wh rA 906 2 q.K n) (λx S=>ret x S q.K)) (λ_ _=>False) (λ_ _=>False)) (rest rA 906 3 env (lY q out X) q.K)
section
variable{q:UQ}{n k k':Nat}{x y a t t1 t2 i1 i2:A}{out X Y:List A}{m m1 m2:Int}{l l1 l2:List (A×List Us)}{v v1 v2 u1 u2:List Us}{o:Bool}
theorem Fq(h:PB q n y out X):PL q (n+1) x out (X++[y]):=
 have e:PG q n (aq (X++[y])) (cf (X++[y])) (Os q x) out (X++[y]):=by
  rw[dQ,d0];exact cast (by kernel_rfl) h
 cast (by kernel_rfl) e
theorem gc{o' X':List A}(h:∀n,(∀x,PL q n x o' X')→PB q n y out X)(g:PW q o' X'):PW q out (X++[y]):=Exists.elim g λn g=>Exists.intro (n+1) λx=>@Fq q n x y out X (h n g)
structure r6(k:Nat)(p:A)(l:List (A×List Us))(v:List Us):Prop where
 nd:dA p
 run:∀q out X,X.length+k≤du→out.length+l.length≤du→PW q (out++l.map (·.1)) X→PW q out (X++[p])
 perm:(l.flatMap (·.2)).Perm v
 sem:∀x∈l,Sem 200 false x.1 x.2
inductive sW:A→List (A×List Us)→List Us→Prop
 |none:sW .none [] []
 |some {t:A} {v:List Us} (h:Sem 200 false t v):sW t [(t,v)] v
def ye(o:Bool)(ks:List A)(n:Int):A:=cond o (nd 34 (tx "") ks 0 n) (nd 35 (tx "") (.none::ks) 0 n)
def D5(o:Bool)(t i:A)(n:Int):A:=nd 36 (cond o (tx "k") (tx "")) [t,i] 0 n
theorem yY:PB q n (nd 8 a [] 0 m) out X=PL q n (nd 8 a [] 0 m) out X:=by kernel_rfl
theorem Fo{s:A}{ks:List A}{fl:Int}:BB.map (λo=>PB q n (ye o [nd 36 s ks fl m1] m) out X)=BB.map λo=>ak (X++[nd 36 s ks fl m1]) (PL q n (ye o [nd 36 s ks fl m1] m) out (X++[nd 36 s ks fl m1])):=by kernel_rfl
theorem Gc{s s':A}{ks ks':List A}{fl fl':Int}:BB.map (λo=>PB q n (ye o [nd 36 s ks fl m1,nd 36 s' ks' fl' m2] m) out X)=BB.map λo=>ak (X++[nd 36 s ks fl m1,nd 36 s' ks' fl' m2]) (PL q n (ye o [nd 36 s ks fl m1,nd 36 s' ks' fl' m2] m) out (X++[nd 36 s ks fl m1,nd 36 s' ks' fl' m2])):=by kernel_rfl
theorem Ii{s:A}{fl k:Int}{ks:List A}{c:A}:PB q n (nd 36 s [t,nd k c ks fl m] 0 m1) out X=ak (out++[nd k c ks fl m]) (ak (X++[t]) (PL q n (nd 36 s [t,nd k c ks fl m] 0 m1) (out++[nd k c ks fl m]) (X++[t]))):=by kernel_rfl
theorem MY{s:A}:PB q n (nd 36 s [t,.none] 0 m1) out X=ak (X++[t]) (PL q n (nd 36 s [t,.none] 0 m1) out (X++[t])):=by kernel_rfl
theorem jc{j:Nat}(h:X.length+Y.length+j≤du):Nat.ble (X++Y).length bM=true:=aC (by rw[WN];exact V9 (Wo _ j) (V9 h (by decide)))
theorem oR{s:A}(h:r6 k t l v)(hi:sW i1 l1 u1)(h1:X.length+(1+k)≤du)(h2:out.length+(l1++l).length≤du)(f:PW q (out++(l1++l).map (·.1)) X):PW q out (X++[nd 36 s [t,i1] 0 m1]):=by
 have h1':X.length+1+k≤du:=Nat.add_assoc _ 1 k▸h1
 have hX:X.length+k≤du:=V9 (Wl (Nat.le_succ _) k) h1'
 cases hi with
 |none=>exact gc (λn g=>cast MY.symm (aA (jc h1') (g _))) (h.run q out X hX h2 f)
 |some hs=>
  cases hs.thr.choose_spec.isNd' with
  |mk k c ks fl m=>
   rw[WS,← WR] at f
   have h2':out.length+1+l.length≤du:=by rw[WN] at h2;exact Nat.add_assoc _ 1 _▸h2
   exact gc (λn g=>cast Ii.symm (aA (jc h2') (aA (jc h1') (g _)))) (h.run q _ X hX (by rw[WN];exact h2') f)
theorem ci(h:sW i1 l1 u1):(l1.flatMap (·.2)).Perm u1∧∀x∈l1,Sem 200 false x.1 x.2:=by
 cases h with
 |none=>exact⟨.refl _,λx h=>(WJ h).elim⟩
 |some h=>exact⟨.of_eq (WQ u1),λx q=>(WD q)▸h⟩
theorem zn(h:sW i1 l1 u1):l1.length≤1:=by cases h;exact Nat.zero_le _;exact Nat.le_refl _
theorem xr:r6 0 (nd 8 a [] 0 m) [] []:=⟨.mk ..,λq out X _ _ f=>gc (λn g=>cast yY.symm (g _)) (WQ out▸f),.refl _,λx h=>(WJ h).elim⟩
theorem w5{ks:List A}:dA (ye o ks m):=@Bool.casesOn (λo=>dA (ye o ks m)) o (.mk ..) (.mk ..)
theorem zX(h:r6 k t l v)(hi:sW i1 l1 u1):r6 (4+k) (ye o [D5 o t i1 m1] m) (l1++l) (v++u1):=⟨w5,λq out X h1 h2 f=>
  gc (λn g=>cast (WA (Fo (m:=m)) o (bb o)).symm (aA (jc (Y:=[_]) (j:=3+k) (by rw[Nat.add_assoc,← Nat.add_assoc _ 3 k];exact h1)) (g _))) (oR h hi (V9 (Wj (Wl (by decide) k) _) h1) h2 f),
 by rw[List.flatMap_append];exact((ci hi).1.append h.perm).trans List.perm_append_comm,λx hx=>(WF hx).elim ((ci hi).2 x) (h.sem x)⟩
theorem yn(h:r6 k t1 l v)(hi:sW i1 l1 u1)(h':r6 k t2 l2 v2)(hi':sW i2 l1' u2):r6 (4+k) (ye o [D5 o t1 i1 m1,D5 o t2 i2 m2] m) ((l1'++l2)++(l1++l)) (v++u1++(v2++u2)):=⟨w5,λq out X h1 h2 f=>by
  rw[WN,← Nat.add_assoc] at h2
  rw[WS,← WR] at f
  refine gc (λn g=>cast (WA (Gc (m:=m)) o (bb o)).symm (aA (jc (Y:=[_,_]) (j:=2+k) (by rw[Nat.add_assoc,← Nat.add_assoc _ 2 k];exact h1)) (g _))) ?_
  rw[List.append_cons]
  exact oR h' hi' (by rw[WN,Nat.add_assoc,← Nat.add_assoc _ 1 k];exact V9 (Wj (Wl (Wu rfl:1+1≤4) k) _) h1) (V9 (Wo _ _) h2) (oR h hi (V9 (Wj (Wl (by decide) k) _) h1) (by rw[WN,WO];exact h2) f),
 by
  rw[List.flatMap_append,List.flatMap_append,List.flatMap_append]
  exact((((ci hi').1.append h'.perm).trans List.perm_append_comm).append (((ci hi).1.append h.perm).trans List.perm_append_comm)).trans List.perm_append_comm,
 λx hx=>(WF hx).elim (λhx=>(WF hx).elim ((ci hi').2 x) (h'.sem x)) λhx=>(WF hx).elim ((ci hi).2 x) (h.sem x)⟩
end
def fo(T:bA)(a k:Nat)(x:X)(K:KX):KN:=λenv S=>opt (io a) λfi=>opt (nth fi.body k) λs=>opt (yb s) λp=>c9 (bS (ws T 19 fi.nm) p.2) fi.nm p.1 (λenv S=>rest T a (k+1) env S K) (λx S=>ret x S K) x 70 0 env S
def lb(k:Nat):Nat:=@Nat.rec (λ_=>Nat) 0 (λ_ ih=>ih+1+(ih+1)) k
def wy(k:Nat)(_:Nat)(t:A)(v:List Us):Prop:=∃l,r6 (4*k) t l v∧l.length≤lb k
def pj(k:Nat):Nat:=@Nat.rec (λ_=>Nat) 0 (λk ih=>@Nat.rec (λ_=>Nat) 0 (λ_ _=>ih+2+(ih+2)) k) k
def d8(L:List A)(k:Nat)(xs:List X)(S:AS)(K:KX):Prop:=opt (a1 xs) λp=>Dp p.1 k∧gen L (pj k) S (wy k) K
def T7(L:List A):List (Nat×ay):=(1522,cI L 2)::T4 L
section
variable(loc:List (List Ce))(gl:Rg 5)(L:List A)(k:Nat)(n d:Int)(w:List Us)(K:KX)
def HF(fr:List A)(s:Nat)(n:Int)(w:List Us)(C:A→A→Nat→Int→List Us→Prop):Prop:=Dp (d - 1) k∧d6 (pj k) ([.list fr]::loc) gl L s n w (wy k) λt s n w=>LL L 1 (∀i:Nat,(i:Int)<2→aw (PyData.eqv (.int i) (.int 0)) (Dp 1 2∧Md 0∧d6 2 ([.list fr]::loc) gl L (s+1) n w (Pt 2 0) λi s n w=>LL L 1 (C t i s n w)) (LL L 1 (C t .none (s+1) n w)))
def tm(s:Nat)(o:Bool)(i:Nat):Prop:=HF loc gl L k d [] s n w λt i1 s n w=>cond (Nat.beq i 0) (LL L 1 (K (.a (ye o [D5 o t i1 (n+1)] (n+1+1))) (GS loc gl L s (n+1+1) w)))
 (HF loc gl L k d [D5 o t i1 (n+1)] s (n+1) w λt2 i2 s m w=>LL L 1 (K (.a (ye o [D5 o t i1 (n+1),D5 o t2 i2 (m+1)] (m+1+1))) (GS loc gl L s (m+1+1) w)))
def VC(way:Nat):En:=[("g",.a (.g 1 0)),("deep",.a (.int d)),("way",.a (.int way))]
def U9(s:Nat)(o:Bool)(i:Nat):Prop:=fo (tab ((1529,d8 L k)::T7 L)) 1529 3 (.a (.int (1+i))) K [("g",.a (.g 1 0)),("deep",.a (.int d)),("way",.a (.int (cond o 2 3))),("kids",.l 0 0)] (GS ([.list []]::loc) gl L s n w)
theorem RB(s:Nat):BB.map (λo=>(List.range 2).map λi=>U9 loc gl L k n d w K s o i)=BB.map λo=>(List.range 2).map λi=>tm loc gl L k n d w K s o i:=by kernel_rfl
def Od(s:Nat)(way:Nat):Prop:=rest (tab ((1529,d8 L k)::T7 L)) 1529 1 (VC d way) (GS ([]::loc) gl L s n w) K
def H8(s:Nat):Prop:=LL L 1 (K (.a (nd 8 (tx "a") [] 0 (n+1))) (GS loc gl L s (n+1) w))
def Jh(s:Nat)(o:Bool):Prop:=LL L 1 (∀i:Nat,(i:Int)<2→aw (f9 (.a (.int (1+i)))) (U9 loc gl L k n d w K (s+1) o i) False)
theorem Tp(s:Nat):(List.range 4).map (λway=>Od loc gl L k n d w K s way)=[H8 loc gl L n w K s,H8 loc gl L n w K s,Jh loc gl L k n d w K s true,Jh loc gl L k n d w K s false]:=by kernel_rfl
theorem PA(s:Nat)(h:aw (decide (d>0)) (LL L 1 (∀i:Nat,(i:Int)<4→Od loc gl L k n d w K (s+1) i)) (H8 loc gl L n w K s)):ae (tab ((1529,d8 L k)::T7 L)) 1529 [.a (.g 1 0),.a (.int d)] (GS loc gl L s n w) K:=cast (by kernel_rfl) h
end
variable{u1 u2:List Us}{o:Bool}{i:A}{l l1 l2 l':List (A×List Us)}
theorem r6.le{j:Nat}(h:r6 j t l v)(q:j≤k):r6 k t l v:=⟨h.nd,λu out X h1 h2=>h.run u out X (V9 (Wj q _) h1) h2,h.perm,h.sem⟩
theorem Pt.ini(h:Pt k 0 s t v)(hk:30*(k+1)≤200):sW t [(t,v)] v:=.some ((h false rfl).le hk)
theorem n0{C:A→A→Nat→Int→List Us→Prop}{fr:List A}(hd:Dp d (k+1))(hp:d≠0)(g:Gi w n (k'+2+pj k))(f:∀t i s n v l l1 u1,r6 (4*k) t l v→l.length≤lb k→sW i l1 u1→Gi (w++(v++u1)) n k'→C t i s n (w++(v++u1))):HF loc gl L k d fr s n w C:=
 ⟨hd.dn hp,iC g λt s n v h g=>h.elim λl h=>bL (λi _=>aX (λ_=>⟨⟨by decide,by decide⟩,⟨false,rfl⟩,iC g λt' s n u h' g=>bL (WR w v u▸f t t' s n v l _ u h.1 h.2 (h'.ini (by decide)) (WR w v u▸g)) 1⟩) λ_=>
  bL (WQ v▸f t .none (s+1) n v l [] [] h.1 h.2 .none ((WQ v).symm▸g.dr (i:=0) (Nat.zero_le _)):C t .none (s+1) n (w++v)) 1) 1⟩
theorem PF(hi:sW i l1 u1)(hl:l.length≤lb k):(l1++l).length≤lb k+1:=by rw[WN,Nat.add_comm];exact Wm hl (zn hi)
theorem yJ(hd:Dp d (k+1))(hp:d≠0)(g:Gi w n (k'+pj (k+1)))(f:∀t s n v,wy (k+1) s t v→Gi (w++v) n k'→K (.a t) (GS loc gl L s n (w++v)))(j:Nat):tm loc gl L k n d w K s o j:=by
 have g2:Gi w n (k'+2+pj k+2+pj k):=(hd.nz hp).elim λj e=>by
  subst e
  exact⟨V9 (Wq (show w.length+(k'+2+pj (j+1)+2+pj (j+1))=w.length+(k'+(pj (j+1)+2+(pj (j+1)+2))) by rw[Nat.add_assoc k',Nat.add_assoc k',Nat.add_assoc k',Nat.add_comm 2 (pj (j+1)),Nat.add_assoc (pj (j+1)+2),Nat.add_comm 2 (pj (j+1))])) g.len,g.asc⟩
 have g1:Gi w n (k'+2+pj k):=⟨V9 (Wj (V9 (Wo _ 2) (Wo _ (pj k))) _) g2.len,g2.asc⟩
 have e4:4+4*k=4*(k+1):=Nat.add_comm _ _
 unfold tm
 cases Nat.beq j 0 with
 |true=>exact n0 hd hp g1 λt i s n v l l1 u1 h hl hi g=>bL (f _ _ _ _ ⟨_,e4▸zX h hi,V9 (PF hi hl) (Wo _ _)⟩ (g.up le2)) 1
 |false=>exact n0 hd hp g2 λt i s n v l l1 u1 h hl hi g=>n0 hd hp (g.up le1) λt2 i2 s m v2 l2 l1' u2 h' hl' hi' g=>bL (WR w (v++u1) (v2++u2)▸f _ _ _ _ ⟨_,e4▸yn h hi h' hi',by rw[WN];exact Wm (PF hi' hl') (PF hi hl)⟩ (WR w (v++u1) (v2++u2)▸g.up le2)) 1
theorem Ki{i:Nat}(h:i<4):f9 (.a (.int (1+i)))=true:=WA (show(List.range 4).map (λi:Nat=>f9 (.a (.int (1+i))))=(List.range 4).map λ_=>true by kernel_rfl) i (WE h)
theorem Np(hd:Dp d (k+1))(g:Gi w n (k'+pj (k+1)))(f:∀t s n v,wy (k+1) s t v→Gi (w++v) n k'→K (.a t) (GS loc gl L s n (w++v))):ae (tab ((1529,d8 L k)::T7 L)) 1529 [.a (.g 1 0),.a (.int d)] (GS loc gl L s n w) K:=by
 have nm:∀s,H8 loc gl L n w K s:=λs=>bL (WQ w▸f _ s _ [] ⟨[],xr.le (Nat.zero_le _),Nat.zero_le _⟩ (n8 ((g.dr (i:=0) (Nat.zero_le _)).up le1)):K _ (GS loc gl L s (n+1) w)) 1
 refine PA _ _ _ _ _ _ _ _ _ (aX (λq=>?_) λ_=>nm s)
 have hp:d≠0:=Ne.symm (Int.ne_of_lt (of_decide_eq_true q))
 have hl:∀s o,Jh loc gl L k n d w K s o:=λs o=>bL (λi hi=>aA (Ki (V9 (WM hi) (by decide))) (cast (cr (RB loc gl L k n d w K (s+1)) (bb o) (WE (WM hi))).symm (yJ hd hp g f i))) 1
 exact bL (λi hi=>by
  have e:=Tp loc gl L k n d w K (s+1)
  have hm:Od loc gl L k n d w K (s+1) i∈(List.range 4).map λway=>Od loc gl L k n d w K (s+1) way:=List.mem_map.mpr ⟨i,WE (WM hi),rfl⟩
  rw[e] at hm
  have al:∀P∈[H8 loc gl L n w K (s+1),H8 loc gl L n w K (s+1),Jh loc gl L k n d w K (s+1) true,Jh loc gl L k n d w K (s+1) false],P:=List.forall_mem_cons.mpr ⟨nm _,List.forall_mem_cons.mpr ⟨nm _,List.forall_mem_cons.mpr ⟨hl _ _,List.forall_mem_cons.mpr ⟨hl _ _,λ_ h=>nomatch h⟩⟩⟩⟩
  exact al _ hm) 1
theorem uz{xs:List X}{S:AS}(h:d8 L (k+1) xs S K):ae (tab ((1529,d8 L k)::T7 L)) 1529 xs S K:=aa h λp _ h=>iR h.2 λs n w k' e g f=>by
 rw[e,p.2]
 exact Np h.1 g f
theorem FS{xs:List X}{S:AS}(h:d8 L 0 xs S K):False:=aa h λp _ h=>(Int.lt_irrefl 0 (Int.lt_of_le_of_lt h.1.lo h.1.hi)).elim
inductive ya:A→List (A×List Us)→List Us→Prop
 |mk {p i:A} {n:Int} {l l1:List (A×List Us)} {v u1:List Us} (h:r6 12 p l v) (hl:l.length≤20) (hi:sW i l1 u1):ya (nd 28 (tx "") [p,.none,i] 0 n) (l++l1) (v++u1)
def nC(_:Nat)(t:A)(v:List Us):Prop:=∃l,ya t l v
def lj(L:List A)(xs:List X)(S:AS)(K:KX):Prop:=opt (a0 xs) λ_=>gen L 16 S nC K
def T8(L:List A):List (Nat×ay):=(1529,d8 L 3)::(1522,cI L 3)::T6 L
section
variable{loc:List (List Ce)}{gl:Rg 5}{L:List A}{s k:Nat}{n:Int}{w v u1:List Us}{K:KX}{S:AS}{t p i:A}{l l1:List (A×List Us)}
theorem Bl(h:Dp 2 3∧d6 12 ([]::loc) gl L s n w (wy 3) λt s n w=>LL L 1 (∀i:Nat,(i:Int)<3→aw (decide ((i:Int)<2)) (Dp 2 3∧Md 0∧d6 4 ([]::loc) gl L (s+1) n w (Pt 3 0) λt1 s n w=>LL L 1 (K (.a (nd 28 (tx "") [t,.none,t1] 0 (n+1))) (GS loc gl L s (n+1) w)))
  (LL L 1 (K (.a (nd 28 (tx "") [t,.none,.none] 0 (n+1))) (GS loc gl L (s+1) (n+1) w))))):ae (tab (T8 L)) 1536 [.a (.g 1 0)] (GS loc gl L s n w) K:=cast (by kernel_rfl) h
theorem Bf(g:Gi w n (k+16))(f:∀t s n v,nC s t v→Gi (w++v) n k→K (.a t) (GS loc gl L s n (w++v))):ae (tab (T8 L)) 1536 [.a (.g 1 0)] (GS loc gl L s n w) K:=
 Bl ⟨⟨by decide,by decide⟩,iC (k:=k+4) g λt s n v h g=>h.elim λl h=>bL (λi _=>aX (λ_=>⟨⟨by decide,by decide⟩,⟨false,rfl⟩,iC g λt1 s n u h' g=>bL (WR w v u▸f _ _ _ _ ⟨_,.mk h.1 (V9 h.2 (by decide)) (h'.ini (by decide))⟩ (WR w v u▸g.up le1)) 1⟩) λ_=>
  bL (WQ v▸f (nd 28 (tx "") [t,.none,.none] 0 (n+1)) (s+1) (n+1) (v++[]) ⟨_,.mk h.1 (V9 h.2 (by decide)) .none⟩ ((WQ v).symm▸(g.dr (i:=0) (Nat.zero_le _)).up le1):K (.a (nd 28 (tx "") [t,.none,.none] 0 (n+1))) (GS loc gl L (s+1) (n+1) (w++v))) 1) 1⟩
theorem yI{xs:List X}(h:lj L xs S K):ae (tab (T8 L)) 1536 xs S K:=aa h λp _ h=>iR h λs n w k' e g f=>by
 rw[e,p.2]
 exact Bf g f
def bO(xs:List X)(S:AS)(K:KX):Prop:=∃t l v,xs=[.a t]∧ya t l v∧K (.a (.fl (l.map (·.1)))) S
def M7(root:A):En:=[("param",.a root),("out",.l 0 0),("waiting",.l 0 1)]
theorem UR{q:UQ}{N:Nat}{x:A}(h:PL q (N+1) x [] [p]):PB q N p [] []:=
 have e:PG q N true (some ([],p)) (Os q x) [] [p]:=cast (by kernel_rfl) h
 cast (by kernel_rfl) e
theorem Ty{q:UQ}{N:Nat}(h:PB q N p [] []):wh rA 906 2 q.K (N+1) (M7 q.root) (lY q [] [p]):=
 have e:PG q N true (some ([],p)) (M7 q.root) [] [p]:=cast (by kernel_rfl) h
 cast (by kernel_rfl) e
theorem Q6{loc:List (List Ce)}{gl:Rg 5}{cx:A}{n:Int}(h:∃N,wh rA 906 2 K N (M7 (nd 28 (tx "") [p,.none,i] 0 n)) (lY ⟨loc,gl,cx,nd 28 (tx "") [p,.none,i] 0 n,K⟩ [] [p])):ae rA 906 [.a (nd 28 (tx "") [p,.none,i] 0 n)] ⟨loc,gl⟩ K:=cast (by kernel_rfl) h
theorem SB{q:UQ}(h:PW q [] [p]):∃N,wh rA 906 2 q.K N (M7 q.root) (lY q [] [p]):=Exists.elim h λN h=>@Nat.casesOn (λN=>(∀x,PL q N x [] [p])→∃N,wh rA 906 2 q.K N (M7 q.root) (lY q [] [p])) N (λh=>(show False from h .none).elim) (λN h=>⟨N+1,Ty (UR (h .none))⟩) h
theorem HA{loc:List (List Ce)}{gl:Rg 5}{cx:A}{n:Int}(h:PW ⟨loc,gl,cx,nd 28 (tx "") [p,.none,i] 0 n,K⟩ [] [p]):ae rA 906 [.a (nd 28 (tx "") [p,.none,i] 0 n)] ⟨loc,gl⟩ K:=@Q6 _ _ _ loc gl cx n (@SB _ ⟨loc,gl,cx,nd 28 (tx "") [p,.none,i] 0 n,K⟩ h)
theorem UC{q:UQ}{p i x:A}{n:Int}{out:List A}(e:q.root=nd 28 (tx "") [p,.none,.none] 0 n)(h:q.K (.a (.fl out)) ⟨q.loc,q.gl⟩):PL q 1 x out []:=by
 obtain⟨loc,gl,cx,root,K⟩:=q
 subst e
 exact cast (by kernel_rfl) h
theorem JK{q:UQ}{p a x:A}{n fl m k:Int}{ks:List A}{out:List A}(e:q.root=nd 28 (tx "") [p,.none,nd k a ks fl m] 0 n)(h:ak (out++[nd k a ks fl m]) (q.K (.a (.fl (out++[nd k a ks fl m]))) ⟨q.loc,q.gl⟩)):PL q 1 x out []:=by
 obtain⟨loc,gl,cx,root,K⟩:=q
 subst e
 exact cast (by kernel_rfl) h
theorem As{xs:List X}(h:bO xs S K):ae rA 906 xs S K:=by
 obtain⟨t,l,v,rfl,hp,f⟩:=h
 cases hp with
 |@mk p i n l l1 v u1 h hl hi=>
  have g:PW ⟨S.loc,S.gl,.none,nd 28 (tx "") [p,.none,i] 0 n,K⟩ ([]++l.map (·.1)) []:=by
   cases hi with
   |none=>exact⟨1,λx=>UC (i:=.none) rfl (by rw[WQ] at f;exact f)⟩
   |some hs=>cases hs.thr.choose_spec.isNd' with
    |mk k c ks fl m=>exact⟨1,λx=>JK rfl (aA (aC (by rw[WN];exact V9 (Wl (V9 (Wq (WO _)) hl) 1) (by decide))) (by rw[WS] at f;exact f))⟩
  exact HA (h.run _ [] [] (by decide) (V9 (Wq (Nat.zero_add _)) (V9 hl (by decide))) g)
end
inductive Wk |sup |idle |call |set
structure S1 where
 w:Wk
 u:Option Us
 t:A
inductive aB
 |one (s:S1)
 |arr (ss:List S1) (t:A)
def GB(m:Int)(P:Nat→Prop):Prop:=cond (decide (m=2)) (P 0∧P 1) (cond (decide (m=3)) (P 0∧P 1∧P 2) (∀i:Nat,(i:Int)<m→P i))
def iN(L:List A)(xs:List X)(S:AS)(K:KX):Prop:=opt (a2 xs) λm=>opt (rG (S.get 1)) λq=>q.1.1.1=L∧aw (decide (0<m.1)) (GB m.1 (λi=>K (.a (.int i)) (S.set 1 [gC L (q.1.1.2+1) q.1.2]))) False
theorem Jx{m:Int}{P:Nat→Prop}(h:GB m P):∀i:Nat,(i:Int)<m→P i:=by
 unfold GB at h
 cases e:decide (m=2) with
 |true=>
  rw[e] at h
  intro i hi
  rw[of_decide_eq_true e] at hi
  match i,hi with
  |0,_=>exact h.1
  |1,_=>exact h.2
 |false=>
  rw[e] at h
  cases e:decide (m=3) with
  |true=>
   rw[e] at h
   intro i hi
   rw[of_decide_eq_true e] at hi
   match i,hi with
   |0,_=>exact h.1
   |1,_=>exact h.2.1
   |2,_=>exact h.2.2
  |false=>rw[e] at h;exact h
theorem Bz{T:bA}{L:List A}{xs:List X}{S:AS}{K:KX}(hL:∀a∈L,∃i,a=.int i)(h:iN L xs S K):ae T 1481 xs S K:=tw hL (aa h λm em h=>aa h λq eq h=>aj em (aj eq ⟨h.1,bC h.2 λhm h=>aA hm (Jx h)⟩))
def oo{α:Type}(f:Wk)(a b c d:α):α:=@Wk.rec (λ_=>α) a b c d f
def Wk.a(w:Wk):A:=oo w (tx "super") (tx "idle") (tx "call") (tx "set")
def Tv(u:Option Us):A:=alt u (λu=>.g 3 u.i) .none
def nP(w u:A)(inside:List A)(node:A):A:=.fd [(tx "word",w),(tx "use",u),(tx "inside",.fl inside),(tx "node",node)]
def S1.den(s:S1):A:=nP s.w.a (Tv s.u) [] s.t
def A4{α:Type}(f:aB)(a:S1→α)(b:List S1→A→α):α:=@aB.rec (λ_=>α) a b f
def aB.den(T:aB):A:=A4 T S1.den λss t=>nP (tx "arrow") .none (ss.map S1.den) t
def aB.node(T:aB):A:=A4 T S1.t λ_ t=>t
def aB.us(T:aB):List Us:=A4 T (λs=>s.u.toList) λss _=>ss.flatMap λs=>s.u.toList
def gg(t:A)(b:Bool):Prop:=∀S K,K (.a (.bool b)) S→ae (tab [(69,ae {} 69)]) 880 [.a t] S K
structure Sp(b:Bool)(s:S1):Prop where
 sem:Sem 60 b s.t s.u.toList
 mode:∀u,s.u=some u→u.mode=cond b 1 0
 set:s.w=.set→s.u≠none
 sup:s.w=.sup→gg s.t true
 call:s.w=.call→gg s.t false
inductive bh:Bool→aB→Prop
 |one {b:Bool} {s:S1} (h:Sp b s):bh b (.one s)
 |arr {ss:List S1} {t:A} (h:∀s∈ss,Sp true s) (hs:Sem 200 false t (ss.flatMap λs=>s.u.toList)) (hl:ss.length≤2):bh false (.arr ss t)
def ir(m:Int)(_:Nat)(t:A)(v:List Us):Prop:=∃T:aB,t=T.den∧v=T.us∧∀b,m=cond b 1 0→bh b T
inductive Dm:Int→Nat→Prop |one:Dm 1 1 |zero:Dm 0 2
def dZ(L:List A)(k:Nat)(xs:List X)(S:AS)(K:KX):Prop:=opt (a1 xs) λp=>Dm p.1 k∧gen L k S (ir p.1) K
def T9(L:List A):List (Nat×ay):=(1543,ae (tab (T4 L)) 1543)::(1481,iN L)::T6 L
section
variable(loc:List (List Ce))(gl:Rg 5)(L:List A)(k:Nat)(n m:Int)(w:List Us)(K:KX)
def xp(s:Nat)(r:Int)(C:Bool→A→A→Nat→Int→List Us→Prop):Prop:=Md m∧d6 1 ([]::loc) gl L s n w (y5 m r) λt s n w=>opt (aM (.a t) (tx "name") (au (GS ([]::[]::loc) gl L s n w) (.a t))) λv=>opt (EH v (.a (.fl [tx "y",tx "k"])) (some (.list [tx "y",tx "k"]))) λc=>
 aw c (opt (aM (.a t) (tx "made") (au (GS ([]::[]::loc) gl L s n w) (.a t))) λv=>C true t v s n w) (opt (aM (.a t) (tx "made") (au (GS ([]::[]::loc) gl L s n w) (.a t))) λv=>C false t v s n w)
def u9(s:Nat):Prop:=Md m∧d6 1 ([]::loc) gl L s n w (y5 m 0) λt s n w=>opt (aM (.a t) (tx "made") (au (GS ([]::loc) gl L s n w) (.a t))) λv=>K (.a (nP (tx "idle") t [] v)) (GS loc gl L s n w)
def CU(s:Nat):Prop:=xp loc gl L n m w s 2 λc t v s n w=>cond c (LL L 3 (K (.a (nP (tx "call") t [] (nd 18 (tx "") [nd 33 (tx "") [v] 0 (n+1),bP [] (n+1+1),.none] 0 (n+1+1+1)))) (GS loc gl L s (n+1+1+1) w))) (LL L 2 (K (.a (nP (tx "call") t [] (nd 18 (tx "") [v,bP [] (n+1),.none] 0 (n+1+1)))) (GS loc gl L s (n+1+1) w)))
def EF(s:Nat):Prop:=xp loc gl L n m w s 1 λc t v s n w=>cond c (LL L 3 (K (.a (nP (tx "set") t [] (nd 25 (tx "=") [nd 32 (tx "") [v] 0 (n+1),nd 1 (.int 1) [] 0 (n+1+1)] 0 (n+1+1+1)))) (GS loc gl L s (n+1+1+1) w))) (LL L 2 (K (.a (nP (tx "set") t [] (nd 25 (tx "=") [v,nd 1 (.int 1) [] 0 (n+1)] 0 (n+1+1)))) (GS loc gl L s (n+1+1) w)))
def Eu(p:Option Int)(q a:Int)(t:A)(s:Nat)(w:List Us):Prop:=opt (b7 (.a t)) λb=>aw b (LL L 2 (K (.a (nP (tx "super") t [] (nd 18 (tx "") [dC p a,bP [] (q+1),.none] 0 (q+1+1)))) (GS loc gl L s (q+1+1) w)))
 (opt (aM (.a t) (tx "made") (au (GS ([]::loc) gl L s q w) (.a t))) λv=>LL L 2 (K (.a (nP (tx "super") t [] (nd 18 (tx "") [dC p a,bP [v] (q+1),.none] 0 (q+1+1)))) (GS loc gl L s (q+1+1) w)))
def C6(s:Nat):Prop:=Md m∧d6 1 ([]::loc) gl L s n w (y5 m 0) λt s n w=>LL L 2 (Eu loc gl L K none (n+1) (n+1) t (s+1) w∧LL L 1 (Eu loc gl L K (some (n+1+1)) (n+1+1) (n+1) t (s+1) w))
def tM(p:Option Int)(q a:Int)(s:Nat):Prop:=LL L 2 (K (.a (nP (tx "super") .none [] (nd 18 (tx "") [dC p a,bP [] (q+1),.none] 0 (q+1+1)))) (GS loc gl L s (q+1+1) w))
def Cd(s:Nat):Prop:=LL L 2 (tM loc gl L w K none (n+1) (n+1) (s+1)∧LL L 1 (tM loc gl L w K (some (n+1+1)) (n+1+1) (n+1) (s+1)))
def tt(s:Nat):Prop:=LL L 3 (K (.a (nP (tx "call") .none [] (nd 18 (tx "") [nd 8 (tx "f") [] 0 (n+1),bP [] (n+1+1),.none] 0 (n+1+1+1)))) (GS loc gl L s (n+1+1+1) w))
def Oe(s:Nat)(w:List Us)(n:Int)(P:A→Nat→Int→List Us→Prop):Prop:=Dm 1 k∧d6 k ([]::loc) gl L s n w (ir 1) P
def rl(t:A)(s:Nat)(n:Int)(w:List Us)(P:A→Prop):Prop:=opt (aM (.a t) (tx "node") (au (GS ([]::loc) gl L s n w) (.a t))) P
def MU(s:Nat):Prop:=LL L 1 ((Oe loc gl L k (s+1) w n λt s n w=>rl loc gl L t s n w λv=>LL L 4 (K (.a (nP (tx "arrow") .none [t] (nd 27 (tx "") [.none,bP [] (n+1+1),.none,nd 59 (tx "") [nd 43 (tx "") [v] 0 (n+1)] 0 (n+1+1+1)] 4 (n+1+1+1+1)))) (GS loc gl L s (n+1+1+1+1) w)))
 ∧Oe loc gl L k (s+1) w n λt s n w=>Oe loc gl L k s w n λt1 s n w=>rl loc gl L t s n w λv=>rl loc gl L t1 s n w λv1=>LL L 5 (K (.a (nP (tx "arrow") .none [t,t1] (nd 27 (tx "") [.none,bP [] (n+1+1+1),.none,nd 59 (tx "") [nd 43 (tx "") [v] 0 (n+1),nd 43 (tx "") [v1] 0 (n+1+1)] 0 (n+1+1+1+1)] 4 (n+1+1+1+1+1)))) (GS loc gl L s (n+1+1+1+1+1) w)))
def UY(s how:Nat):Prop:=rest (tab ((1548,dZ L k)::T9 L)) 1548 1 [("g",.a (.g 1 0)),("mode",.a (.int m)),("how",.a (.int how))] (GS ([]::loc) gl L s n w) K
def Vc(s:Nat):List Prop:=[EF loc gl L n m w K (s+1),EF loc gl L n m w K (s+1),u9 loc gl L n m w K (s+1),CU loc gl L n m w K (s+1),Cd loc gl L n w K (s+1),C6 loc gl L n m w K (s+1),aw (PyData.eqv (.int m) (.int 0)) (MU loc gl L k n w K (s+1)) (u9 loc gl L n m w K (s+1)),HO loc gl L s n w K (nP (tx "idle") .none []),tt loc gl L n w K (s+1)]
theorem RP(s:Nat):(List.range 9).map (λhow=>UY loc gl L k n m w K (s+1) how)=Vc loc gl L k n m w K s:=by kernel_rfl
theorem PX(s:Nat)(h:LL L 1 (∀i:Nat,(i:Int)<9→UY loc gl L k n m w K (s+1) i)):ae (tab ((1548,dZ L k)::T9 L)) 1548 [.a (.g 1 0),.a (.int m)] (GS loc gl L s n w) K:=cast (by kernel_rfl) h
end
section
variable{lo loc:List (List Ce)}{gl:Rg 5}{L:List A}{s k k':Nat}{n m r i i' i1 i2 i3 i4:Int}{w v:List Us}{K:KX}{P:A→Nat→Int→List Us→Prop}{u:Us}{b:Bool}{p:Option Int}{S:AS}{t:A}{ks:List A}
theorem DD(hd:Md m)(g:Gi w n (k+1))(f:∀(u:Us) (s:Nat) (n:Int),u.i=w.length→u.mode=m→u.role=r→u.Ok→Gi (w++[u]) n k→P (.g 3 u.i) s n (w++[u])):Md m∧d6 1 lo gl L s n w (y5 m r) P:=⟨hd,
 iC g λt s n v h=>@y5.casesOn m r w.length (λt v _=>Gi (w++v) n k→P t s n (w++v)) t v h λu hi ok hm hr g=>f u s n hi hm hr ok g⟩
theorem tA(h:u.i=w.length):aM (.a (.g 3 u.i)) (tx "name") (au (GS lo gl L s n (w++[u])) (.a (.g 3 u.i)))=some (.str u.name):=by rw[kF h];kernel_rfl
theorem Po{x:Str}:EH (.str x) (.a (.fl [tx "y",tx "k"])) (some (.list [tx "y",tx "k"]))=some ([PyData.str "y",PyData.str "k"].any λy=>PyData.eqv y (.str x)):=by kernel_rfl
theorem qw{C:Bool→A→A→Nat→Int→List Us→Prop}(hd:Md m)(g:Gi w n (k+1))(f:∀(u:Us) (s:Nat) (n:Int) (c:Bool),u.mode=m→u.role=r→u.Ok→Gi (w++[u]) n k→C c (.g 3 u.i) u.made s n (w++[u])):xp loc gl L n m w s r C:=
 DD hd g λu s n hi hm hr ok g=>aj (tA hi) (aj Po (aX (λ_=>aj (eS hi) (f u s n _ hm hr ok g)) λ_=>aj (eS hi) (f u s n _ hm hr ok g)))
theorem pT{pl:Nat}{nm:Str}{mode role un:Int}:[none,some i'].map (λp=>oN.map λf=>BB.map λs=>ae (tab [(69,ae {} 69)]) 880 [.a (nd 18 (tx "") (bz 33 p ⟨pl,f,s,nm,mode,role,un⟩::ks) 0 i)] S K)=[none,some i'].map λp=>oN.map λf=>BB.map λs=>K (.a (.bool false)) S:=by kernel_rfl
theorem w3:ae (tab [(69,ae {} 69)]) 880 [.a (nd 18 (tx "") (nd 8 t [] 0 i1::ks) 0 i)] S K=K (.a (.bool false)) S:=by kernel_rfl
theorem tE:[none,some i'].map (λp=>ae (tab [(69,ae {} 69)]) 880 [.a (nd 18 (tx "") (dC p i1::ks) 0 i)] S K)=[none,some i'].map λp=>K (.a (.bool true)) S:=by kernel_rfl
theorem yt(ok:u.Ok)(h:0<u.role):u.fm≠.bare:=λe=>(ok.bare e).2 h
theorem o8{f:Uf}(h:f≠.bare):f∈oN:=@Uf.casesOn (λfm=>fm≠.bare→fm∈oN) f (λ_=>.head _) (λ_=>.tail _ (.head _)) (λ_=>.tail _ (.tail _ (.head _))) (λh=>(h rfl).elim) h
theorem rP(h:u.fm≠.bare):gg (nd 18 (tx "") (bz 33 p u::ks) 0 i) false:=λS K q=>by
 obtain⟨pl,fm,s,nm,mode,role,un⟩:=u
 exact@Option.casesOn Int (λp=>ae (tab [(69,ae {} 69)]) 880 [.a (nd 18 (tx "") (bz 33 p ⟨pl,fm,s,nm,mode,role,un⟩::ks) 0 i)] S K) p ((cr (WA (pT (i':=0)) none (.head _)) (o8 h) (bb s)).mpr q) λi'=>(cr (WA (pT (i':=i')) (some i') (.tail _ (.head _))) (o8 h) (bb s)).mpr q
theorem mq:gg (nd 18 (tx "") (dC p i1::ks) 0 i) true:=λS K q=>@Option.casesOn Int (λp=>ae (tab [(69,ae {} 69)]) 880 [.a (nd 18 (tx "") (dC p i1::ks) 0 i)] S K) p ((WA (tE (i':=0)) none (.head _)).mpr q) λi'=>(WA (tE (i':=i')) (some i') (.tail _ (.head _))).mpr q
theorem here{kd fl n:Int}{a:A}{ks:List A}(h:uj kd=false):∃y,jJ (nd kd a ks fl n) y:=⟨_,.here h⟩
theorem fg(hm:u.mode=cond b 1 0):∀x,some u=some x→x.mode=cond b 1 0:=λx e=>Wz e▸hm
theorem rn(ok:u.Ok)(hm:u.mode=cond b 1 0)(hr:u.role=2):Sp b ⟨.call,some u,nd 18 (tx "") [bz 33 p u,bP [] i2,.none] 0 i⟩:=
 have nb:=yt ok (hr▸by decide)
 ⟨⟨here rfl,λpar _=>(xV nb hm hr).le (by decide)⟩,fg hm,(λh=>nomatch h),(λh=>nomatch h),λ_=>rP nb⟩
theorem xv(hm:u.mode=cond b 1 0)(hr:u.role=1):Sp b ⟨.set,some u,nd 25 (tx "=") [bz 32 p u,nd 1 (.int 1) [] 0 i2] 0 i⟩:=⟨⟨here rfl,λpar _=>(yS hm hr).le (by decide)⟩,fg hm,λ_ h=>(nomatch h),(λh=>nomatch h),(λh=>nomatch h)⟩
theorem yr(hm:u.mode=cond b 1 0)(hr:u.role=0):Sp b ⟨.idle,some u,u.made⟩:=⟨(iK hm hr).le (by decide),fg hm,(λh=>nomatch h),(λh=>nomatch h),(λh=>nomatch h)⟩
theorem tW:Sp b ⟨.call,none,nd 18 (tx "") [nd 8 t [] 0 i1,bP [] i2,.none] 0 i⟩:=⟨⟨here rfl,λpar _=>rv.le (by decide)⟩,(λ_ h=>nomatch h),(λh=>nomatch h),(λh=>nomatch h),λ_ S K q=>w3.mpr q⟩
theorem zo:Sp b ⟨.sup,none,nd 18 (tx "") [dC p i1,bP [] i2,.none] 0 i⟩:=⟨⟨here rfl,λpar _=>(rm (j:=8) (cJ (by decide))).le (by decide)⟩,(λ_ h=>nomatch h),(λh=>nomatch h),λ_=>mq,(λh=>nomatch h)⟩
theorem zw(hm:u.mode=cond b 1 0)(hr:u.role=0):Sp b ⟨.sup,some u,nd 18 (tx "") [dC p i1,bP [u.made] i2,.none] 0 i⟩:=⟨⟨here rfl,λpar _=>(rm (j:=8+9) (Cr ((iK hm hr).run _ (gM (iK hm hr).thr rfl)) (fK u).2)).le (by decide)⟩,fg hm,(λh=>nomatch h),λ_=>mq,(λh=>nomatch h)⟩
theorem GH{kd:Int}(hk:kd∈[27,61]):Sp b ⟨.idle,none,nd kd (tx "") ks 0 i⟩:=⟨qL hk,(λ_ h=>nomatch h),(λh=>nomatch h),(λh=>nomatch h),(λh=>nomatch h)⟩
theorem n9{par:A}(h:Sem 60 b t v):cc par 68 b (nd 43 (tx "") [t] 0 i) v:=a8 (j:=60) (by decide) (.one (h.run _ (gM h.thr rfl)) h.thr.choose_spec.isNd') (Wu rfl)
theorem qV{ts:List A}(h:∀par,a6 par 68 true ts v)(hl:ts.length≤8):Sem 200 false (nd 27 (tx "") [.none,bP [] i1,.none,nd 59 (tx "") ts 0 i2] 4 i) v:=
 ⟨here rfl,λpar _=>(hJ (j:=8+68) (by decide) (.none (mN (by decide) (by decide) (.none (.one (a8 (by decide) (h _) hl) (.mk ..))))) (Wu rfl)).le (by decide)⟩
end
section
variable{lo loc:List (List Ce)}{gl:Rg 5}{L:List A}{s k k':Nat}{n m r i i' i1 i2 i3 i4 q:Int}{w v:List Us}{K:KX}{P:A→Nat→Int→List Us→Prop}{u:Us}{b:Bool}{p:Option Int}{S:AS}{t:A}{ks:List A}
theorem fin1{x:S1}{j:Nat}(h:∀b,m=cond b 1 0→Sp b x):ir m j x.den x.u.toList:=⟨.one x,rfl,rfl,λb e=>.one (h b e)⟩
theorem iL{T:aB}{o:Option Ce}:aM (.a T.den) (tx "node") (au S (.a T.den))=some T.node:=@aB.casesOn (λT=>aM (.a T.den) (tx "node") (au S (.a T.den))=some T.node) T (λs=>by kernel_rfl) (λss t=>by kernel_rfl)
theorem DM{T:aB}(h:bh true T):∃x,T=.one x∧Sp true x:=@bh.casesOn (λb T _=>b=true→∃x,T=.one x∧Sp b x) true T h (λ{b s} h _=>⟨s,rfl,h⟩) (λ_ _ _ e=>nomatch e) rfl
theorem xd(hm:Dm 1 k)(g:Gi w n (k'+k))(f:∀x s n,Sp true x→Gi (w++x.u.toList) n k'→P x.den s n (w++x.u.toList)):Oe loc gl L k s w n P:=⟨hm,iC g λt s n v h g=>by
 obtain⟨T,rfl,rfl,h⟩:=h
 obtain⟨x,rfl,hx⟩:=DM (h true rfl)
 exact f x s n hx g⟩
theorem kS{x:S1}{P:A→Prop}(f:P x.t):rl loc gl L x.den s n w P:=aj (iL (T:=.one x) (o:=none)) f
theorem le4:n≤n+1+1+1+1:=Wy le2 le2
section
variable(f:∀t s n v,ir m s t v→Gi (w++v) n k'→K (.a t) (GS loc gl L s n (w++v)))
include f
theorem oF{x:S1}(hx:x.u=none)(h:∀b,m=cond b 1 0→Sp b x)(g:Gi w n k'):K (.a x.den) (GS loc gl L s n w):=by
 have q:=f x.den s n x.u.toList (fin1 h)
 rw[hx] at q
 exact WQ w▸q (n8 g)
theorem gS{x:S1}(hx:x.u=some u)(h:∀b,m=cond b 1 0→Sp b x)(g:Gi (w++[u]) n k'):K (.a x.den) (GS loc gl L s n (w++[u])):=by
 have q:=f x.den s n x.u.toList (fin1 h)
 rw[hx] at q
 exact q g
theorem p7(hd:Md m)(g:Gi w n (k'+1))(s:Nat):u9 loc gl L n m w K s:=DD hd g λu s n hi hm hr ok g=>aj (eS hi) (gS f (x:=⟨.idle,some u,u.made⟩) rfl (λb e=>yr (hm.trans e) hr) g)
theorem Ai(hd:Md m)(g:Gi w n (k'+1))(s:Nat):CU loc gl L n m w K s:=qw hd g λu s n c hm hr ok g=>@Bool.casesOn (λc=>cond c _ _) c
 (bL (gS f (x:=⟨.call,some u,nd 18 (tx "") [bz 33 none u,bP [] (n+1),.none] 0 (n+1+1)⟩) rfl (λb e=>rn ok (hm.trans e) hr) (g.up le2)) 2)
 (bL (gS f (x:=⟨.call,some u,nd 18 (tx "") [bz 33 (some (n+1)) u,bP [] (n+1+1),.none] 0 (n+1+1+1)⟩) rfl (λb e=>rn ok (hm.trans e) hr) (g.up le3)) 3)
theorem wS(hd:Md m)(g:Gi w n (k'+1))(s:Nat):EF loc gl L n m w K s:=qw hd g λu s n c hm hr ok g=>@Bool.casesOn (λc=>cond c _ _) c
 (bL (gS f (x:=⟨.set,some u,nd 25 (tx "=") [bz 32 none u,nd 1 (.int 1) [] 0 (n+1)] 0 (n+1+1)⟩) rfl (λb e=>xv (hm.trans e) hr) (g.up le2)) 2)
 (bL (gS f (x:=⟨.set,some u,nd 25 (tx "=") [bz 32 (some (n+1)) u,nd 1 (.int 1) [] 0 (n+1+1)] 0 (n+1+1+1)⟩) rfl (λb e=>xv (hm.trans e) hr) (g.up le3)) 3)
theorem Al(g:Gi w n k')(s:Nat):Cd loc gl L n w K s:=
 have h:∀p q a s,Gi w (q+1+1) k'→tM loc gl L w K p q a s:=λp q a s g=>bL (oF f (x:=⟨.sup,none,nd 18 (tx "") [dC p a,bP [] (q+1),.none] 0 (q+1+1)⟩) rfl (λb e=>zo) g) 2
 bL ⟨h _ _ _ _ (g.up le3),bL (h _ _ _ _ (g.up le4)) 1⟩ 2
omit f in
theorem tF{w0:List Us}(f:∀t s n v,ir m s t v→Gi (w0++v) n k'→K (.a t) (GS loc gl L s n (w0++v)))(hi:u.i=w0.length)(hm:u.mode=m)(hr:u.role=0)(g:Gi (w0++[u]) (q+1+1) k'):Eu loc gl L K p q i (.g 3 u.i) s (w0++[u]):=
 aj (a:=false) rfl (aj (eS hi) (bL (gS f (x:=⟨.sup,some u,nd 18 (tx "") [dC p i,bP [u.made] (q+1),.none] 0 (q+1+1)⟩) rfl (λb e=>zw (hm.trans e) hr) g) 2):aw false _ _)
theorem zz(hd:Md m)(g:Gi w n (k'+1))(s:Nat):C6 loc gl L n m w K s:=DD hd g λu s n hi hm hr ok g=>bL ⟨tF f hi hm hr (g.up le3),bL (tF f hi hm hr (g.up le4)) 1⟩ 2
theorem wH(g:Gi w n k')(s:Nat):tt loc gl L n w K s:=bL (oF f (x:=⟨.call,none,nd 18 (tx "") [nd 8 (tx "f") [] 0 (n+1),bP [] (n+1+1),.none] 0 (n+1+1+1)⟩) rfl (λb e=>tW) (g.up le3)) 3
end
theorem R0{x:S1}{j:Nat}(h:Sp true x):ir 0 j (nP (tx "arrow") .none [x.den] (nd 27 (tx "") [.none,bP [] i1,.none,nd 59 (tx "") [nd 43 (tx "") [x.t] 0 i2] 0 i3] 4 i)) x.u.toList:=
 ⟨.arr [x] _,rfl,(WQ _).symm,λb e=>@Bool.casesOn (λb=>(0:Int)=cond b 1 0→bh b _) b (λ_=>.arr (λs hs=>WD hs▸h) (qV (λpar=>.cons (.mk ..) (n9 h.sem) .nil) (Wu rfl)) (Nat.le_succ 1)) (λe=>nomatch e) e⟩
theorem UH{x y:S1}{j:Nat}(h:Sp true x)(h':Sp true y):ir 0 j (nP (tx "arrow") .none [x.den,y.den] (nd 27 (tx "") [.none,bP [] i1,.none,nd 59 (tx "") [nd 43 (tx "") [x.t] 0 i2,nd 43 (tx "") [y.t] 0 i3] 0 i4] 4 i)) (x.u.toList++y.u.toList):=
 ⟨.arr [x,y] _,rfl,congrArg (x.u.toList++·) (WQ _).symm,λb e=>@Bool.casesOn (λb=>(0:Int)=cond b 1 0→bh b _) b (λ_=>.arr (λs hs=>(WC hs).elim (λe=>e▸h) λhs=>WD hs▸h') (qV (λpar=>.cons (.mk ..) (n9 h.sem) (.cons (.mk ..) (n9 h'.sem) .nil)) (Wu rfl)) (Nat.le_refl 2)) (λe=>nomatch e) e⟩
theorem GA(f:∀t s n v,ir 0 s t v→Gi (w++v) n k'→K (.a t) (GS loc gl L s n (w++v)))(g:Gi w n (k'+1+1))(s:Nat):MU loc gl L 1 n w K s:=
 bL ⟨xd .one (k':=k'+1) g λx s n h g=>kS (bL (f _ _ _ _ (R0 h) ((g.dr (Nat.zero_le 1)).up le4)) 4),xd .one (k':=k'+1) g λx s n h g=>xd .one g λy s n h' g=>kS (kS (bL (WR w x.u.toList y.u.toList▸f _ _ _ _ (UH h h') (WR w x.u.toList y.u.toList▸g.up le5)) 5))⟩ 1
theorem j7{j:Nat}(h:Dm m j):Md m:=@Dm.casesOn (λm _ _=>Md m) m j h ⟨true,rfl⟩ ⟨false,rfl⟩
theorem Ge(hd:Dm m (k+1))(g:Gi w n (k'+(k+1)))(f:∀t s n v,ir m s t v→Gi (w++v) n k'→K (.a t) (GS loc gl L s n (w++v)))(s:Nat):∀P∈Vc loc gl L k n m w K s,P:=
 have g1:Gi w n (k'+1):=g.dr (Wp _ _)
 have g0:Gi w n k':=g.dr (i:=0) (Nat.zero_le _)
 List.forall_mem_cons.mpr ⟨wS f (j7 hd) g1 _,List.forall_mem_cons.mpr ⟨wS f (j7 hd) g1 _,List.forall_mem_cons.mpr ⟨p7 f (j7 hd) g1 _,List.forall_mem_cons.mpr ⟨Ai f (j7 hd) g1 _,List.forall_mem_cons.mpr ⟨Al f g0 _,List.forall_mem_cons.mpr ⟨zz f (j7 hd) g1 _,
  List.forall_mem_cons.mpr ⟨aX (λq=>(@Dm.casesOn (λm j _=>m=0→j=k+1→ir m=ir 0∧k=1) m (k+1) hd (λh=>nomatch h) (λ_ e=>⟨rfl,(Nat.succ.inj e).symm⟩) (of_decide_eq_true q) rfl).elim λe1 e2=>by subst e2;exact GA (e1▸f) g _) λ_=>p7 f (j7 hd) g1 _,
  List.forall_mem_cons.mpr ⟨rr g0 λkd ks i s hk g=>oF f (x:=⟨.idle,none,nd kd (tx "") ks 0 i⟩) rfl (λb e=>GH hk) g,List.forall_mem_cons.mpr ⟨wH f g0 _,λ_ h=>nomatch h⟩⟩⟩⟩⟩⟩⟩⟩⟩
theorem wf{xs:List X}(h:dZ L (k+1) xs S K):ae (tab ((1548,dZ L k)::T9 L)) 1548 xs S K:=aa h λp _ h=>iR h.2 λs n w k' e g f=>by
 rw[e,p.2]
 refine PX _ _ _ _ _ _ _ _ _ (bL (λi hi=>?_) 1)
 exact Ge h.1 g f s _ (RP S.loc S.gl L k n p.1 w K s▸List.mem_map.mpr ⟨i,WE (WM hi),rfl⟩)
theorem A5{xs:List X}(h:dZ L 0 xs S K):False:=aa h λp _ h=>@Dm.casesOn (λm k _=>k=0→False) p.1 0 h.1 (λh=>nomatch h) (λh=>nomatch h) rfl
end
def Nk(L:List A)(S:AS)(R:A→Prop)(K:KX):Prop:=opt (rG (S.get 1)) λq=>q.1.1.1=L∧∃w k,Gs S w q.1.2 k∧∀(t:A) (s:Nat) (n:Int),R t→Gi w n k→K (.a t) (GS S.loc S.gl L s n w)
def NO(loc:List (List Ce))(gl:Rg 5)(L:List A)(s:Nat)(n:Int)(w:List Us)(R:A→Prop)(P:A→Nat→Int→List Us→Prop):Prop:=L=L∧∃w1 k,Gs (GS loc gl L s n w) w1 n k∧∀(t:A) (s:Nat) (n:Int),R t→Gi w1 n k→P t s n w1
variable{i:Int}{R:A→Prop}{C:Prop}{S:AS}{rs ts:List A}
theorem Kj(g:Gi w n k)(f:∀t s n,R t→Gi w n k→P t s n w):NO loc gl L s n w R P:=⟨rfl,w,k,⟨rfl,rfl,rfl,g⟩,f⟩
theorem yO(h:Nk L S R K)(f:∀s n w k,S=GS S.loc S.gl L s n w→Gi w n k→(∀t s n,R t→Gi w n k→K (.a t) (GS S.loc S.gl L s n w))→C):C:=aa h λq _ h=>Exists.elim h.2 λw h'=>Exists.elim h' λk h'=>f q.1.1.2 q.1.2 w k (h.1▸U4 q.2 h'.1.g2 h'.1.g3 h'.1.g4) h'.1.gi h'.2
def ic(Ts:List aB):List Us:=Ts.flatMap aB.us
structure gY(v:List Us)(rs:List A):Prop where
 sem:∀par,a6 par 240 false rs v
 len:rs.length≤2
def z9(v:List Us)(t:A):Prop:=∃rs,t=.fl rs∧gY v rs
inductive kR:List aB→List A→Prop
 |one {T:aB} (h:bh false T):kR [T] [T.den]
 |two {T T':aB} (h:bh false T) (h':bh false T'):kR [T,T'] [T.den,T'.den]
def gL(xs:List X):Option {l:List A // xs=[.a (.g 1 0),.a (.fl l)]}:=(gV xs).bind λp=>(dM p.1).bind λx=>(uA x.1).bind λa=>(vF a.1).map λl=>⟨l.1,p.2.trans (congrArg (_::·) (x.2.trans (congrArg (λx=>[x]) (a.2.trans (congrArg X.a l.2)))))⟩
def wE(L:List A)(xs:List X)(S:AS)(K:KX):Prop:=opt (gL xs) λl=>∃Ts,kR Ts l.1∧Nk L S (z9 (ic Ts)) K
theorem i7{T:aB}(h:bh false T):Sem 200 false T.node T.us:=@bh.casesOn (λb T _=>b=false→Sem 200 b T.node T.us) false T h (λh e=>h.sem.le (by decide)) (λ_ hs _ _=>hs) rfl
theorem kU{par:A}{j:Nat}(h:Sem j b t v):cc par (8+j) b (nd 43 (tx "") [t] 0 i) v:=a8 (by decide) (.one (h.run _ (gM h.thr rfl)) h.thr.choose_spec.isNd') (Wu rfl)
theorem a6.le{par:A}{j:Nat}(h:a6 par j b ts v)(q:j≤k):a6 par k b ts v:=@a6.rec par j b (λts v _=>a6 par k b ts v) .nil (λ_ ih=>.none ih) (λi h _ ih=>.cons i (h.le q) ih) ts v h
theorem oT{par:A}(h:∀par,a6 par 208 false rs v)(hl:rs.length≤2):cc par 216 false (nd 59 (tx "") rs 0 i) v:=a8 (j:=208) (by decide) (h _) (V9 hl (by decide))
theorem y7(h:∀par,a6 par 208 false rs v)(hl:rs.length≤2):gY v rs∧∀i,gY v [nd 59 (tx "") rs 0 i]∧∀i1 i2,gY v [nd 44 (tx "") [nd 8 (tx "c") [] 0 i1,nd 59 (tx "") rs 0 i,.none] 0 i2]∧gY v [nd 45 (tx "") [nd 8 (tx "c") [] 0 i1,nd 59 (tx "") rs 0 i] 0 i2]:=
 ⟨⟨λpar=>(h par).le (by decide),hl⟩,λi=>⟨⟨λpar=>.one ((oT h hl).le (by decide)) (.mk ..),Nat.le_succ 1⟩,λi1 i2=>
  ⟨⟨λpar=>.one ((a8 (j:=216) (by decide) (mN (by decide) (by decide) (WQ v▸.cons (.mk ..) (oT h hl) (.none .nil))) (Wu rfl)).le (by decide)) (.mk ..),Nat.le_succ 1⟩,
   ⟨λpar=>.one ((a8 (j:=216) (by decide) (mN (by decide) (by decide) (.one (oT h hl) (.mk ..))) (Wu rfl)).le (by decide)) (.mk ..),Nat.le_succ 1⟩⟩⟩⟩
def QC(loc:List (List Ce))(gl:Rg 5)(L:List A)(w:List Us)(K:KX)(s:Nat)(n:Int)(rs:List A):Prop:=LL L 1 (∀i:Nat,(i:Int)<4→aw (PyData.eqv (.int i) (.int 0)) (K (.a (.fl rs)) (GS loc gl L (s+1) n w)) (LL L 1 (aw (PyData.eqv (.int i) (.int 1)) (K (.a (.fl [nd 59 (tx "") rs 0 (n+1)])) (GS loc gl L (s+1) (n+1) w))
 (LL L 1 (aw (PyData.eqv (.int i) (.int 2)) (LL L 1 (K (.a (.fl [nd 44 (tx "") [nd 8 (tx "c") [] 0 (n+1+1),nd 59 (tx "") rs 0 (n+1),.none] 0 (n+1+1+1)])) (GS loc gl L (s+1) (n+1+1+1) w)))
  (LL L 1 (K (.a (.fl [nd 45 (tx "") [nd 8 (tx "c") [] 0 (n+1+1),nd 59 (tx "") rs 0 (n+1)] 0 (n+1+1+1)])) (GS loc gl L (s+1) (n+1+1+1) w))))))))
def PJ(loc:List (List Ce))(gl:Rg 5)(L:List A)(w:List Us)(s:Nat)(n:Int)(t:A)(P:A→Prop):Prop:=opt (aM (.a t) (tx "node") (au (GS ([]::loc) gl L s n w) (.a t))) P
theorem zf(h:PJ loc gl L w s n t λv=>LL L 1 (QC loc gl L w K s (n+1) [nd 43 (tx "") [v] 0 (n+1)])):ae (tab (T4 L)) 1553 [.a (.g 1 0),.a (.fl [t])] (GS loc gl L s n w) K:=cast (by kernel_rfl) h
theorem z6(h:PJ loc gl L w s n t λv=>LL L 1 (PJ loc gl L w s (n+1) t' λv'=>LL L 1 (QC loc gl L w K s (n+1+1) [nd 43 (tx "") [v] 0 (n+1),nd 43 (tx "") [v'] 0 (n+1+1)]))):ae (tab (T4 L)) 1553 [.a (.g 1 0),.a (.fl [t,t'])] (GS loc gl L s n w) K:=cast (by kernel_rfl) h
theorem uv(g:Gi w n k)(h:∀par,a6 par 208 false rs v)(hl:rs.length≤2)(f:∀t s n,z9 v t→Gi w n k→K (.a t) (GS loc gl L s n w)):QC loc gl L w K s n rs:=
 have q:=y7 h hl
 bL (λi _=>aX (λ_=>f _ _ _ ⟨_,rfl,q.1⟩ g) λ_=>bL (aX (λ_=>f _ _ _ ⟨_,rfl,(q.2 _).1⟩ (g.up le1)) λ_=>bL (aX (λ_=>bL (f _ _ _ ⟨_,rfl,((q.2 _).2 _ _).1⟩ (g.up le3)) 1) λ_=>bL (f _ _ _ ⟨_,rfl,((q.2 _).2 _ _).2⟩ (g.up le3)) 1) 1) 1) 1
theorem Es{xs:List X}(h:wE L xs S K):ae (tab (T4 L)) 1553 xs S K:=aa h λl _ h=>Exists.elim h λTs h=>yO h.2 λs n w k e g f=>by
 rw[e,l.2]
 refine@kR.casesOn (λTs ts _=>(∀t s n,z9 (ic Ts) t→Gi w n k→K (.a t) (GS S.loc S.gl L s n w))→ae (tab (T4 L)) 1553 [.a (.g 1 0),.a (.fl ts)] (GS S.loc S.gl L s n w) K) Ts l.1 h.1 (λ{T} h f=>?_) (λ{T T'} h h' f=>?_) f
 ·exact zf (aj (iL (o:=none)) (bL (uv (g.up le1) (λpar=>.cons (.mk ..) (kU (i7 h)) .nil) (Nat.le_succ 1) f) 1))
 ·exact z6 (aj (iL (o:=none)) (bL (aj (iL (o:=none)) (bL (uv (g.up le2) (λpar=>.cons (.mk ..) (kU (i7 h)) (.cons (.mk ..) (kU (i7 h')) .nil)) (Nat.le_refl 2) f) 1)) 1))
def j3(i:Nat)(n:Int):Int:=cond (Nat.ble i 8) (cond (Nat.beq i 5) (n+1+1) (cond (Nat.beq i 8) (n+1+1+1+1+1) (n+1))) (n+1+1+1)
def M1(i:Nat)(n:Int):A:=cond (Nat.beq i 5) (nd 1 (.int 1) [] 0 (n+1)) (cond (Nat.beq i 8) (nd 33 (tx "") [nd 27 (tx "") [.none,bP [] (n+1),.none,nd 59 (tx "") [] 0 (n+1+1)] 4 (n+1+1+1)] 0 (n+1+1+1+1)) .none)
def JZ(i:Nat):Int:=cond (Nat.beq i 4) 4096 (cond (Nat.beq i 6) 2097152 (cond (Nat.beq i 7) 262144 0))
def bq(i:Nat)(a:A)(n:Int):A:=cond (Nat.ble i 8) (nd 62 a [.none,M1 i n] (JZ i) (j3 i n)) (nd 27 a [.none,bP [] (n+1+1),.none,nd 59 (tx "") [] 0 (n+1)] (cond (Nat.beq i 9) 32 64) (n+1+1+1))
def TC(i:Nat):Nat:=cond (Nat.ble i 8) (cond (Nat.beq i 5) 2 (cond (Nat.beq i 8) 5 1)) 3
def nJ(i:Nat)(n:Int):Int:=cond (Nat.beq i 0) n (cond (Nat.beq i 3) (n+1+1+1) (cond (Nat.beq i 2 ||Nat.beq i 5) (n+1+1) (n+1)))
def iS(i:Nat)(n:Int):A:=cond (Nat.beq i 0) .none (cond (Nat.beq i 3) (nd 18 (tx "") [nd 8 (tx "f") [] 0 (n+1),bP [] (n+1+1),.none] 0 (n+1+1+1)) (cond (Nat.beq i 1) (nd 6 (tx "") [] 0 (n+1)) (cond (Nat.beq i 2) (nd 33 (tx "") [nd 6 (tx "") [] 0 (n+1)] 0 (n+1+1)) (cond (Nat.beq i 4) (nd 8 (tx "B") [] 0 (n+1)) (nd 33 (tx "") [nd 8 (tx "B") [] 0 (n+1)] 0 (n+1+1))))))
def M9(i:Nat):Nat:=cond (Nat.beq i 0) 0 (cond (Nat.beq i 3) 3 (cond (Nat.beq i 2 ||Nat.beq i 5) 2 1))
def V7(xs:List X):Option {p:A×Nat // xs=[.a (.g 1 0),.a p.1,.a (.int (.ofNat p.2))]}:=(gV xs).bind λp=>(jO p.1).bind λx=>(uA x.1.1).bind λa=>(uI x.1.2).bind λi=>(Sa i.1).map λn=>⟨(a.1,n.1),p.2.trans (congrArg (_::·) (x.2.trans (rj (λa b=>[a,b]) a.2 (i.2.trans (congrArg (λi=>X.a (.int i)) n.2)))))⟩
def gN(xs:List X):Option {n:Nat // xs=[.a (.g 1 0),.a (.int (.ofNat n))]}:=(a1 xs).bind λi=>(Sa i.1).map λn=>⟨n.1,i.2.trans (congrArg (λi=>[X.a (.g 1 0),.a (.int i)]) n.2)⟩
def my(L:List A)(xs:List X)(S:AS)(K:KX):Prop:=opt (V7 xs) λp=>opt (rG (S.get 1)) λq=>q.1.1.1=L∧p.1.2<11∧K (.a (bq p.1.2 p.1.1 q.1.2)) (S.set 1 [gC L q.1.1.2 (j3 p.1.2 q.1.2)])
def vp(L:List A)(xs:List X)(S:AS)(K:KX):Prop:=opt (gN xs) λp=>opt (rG (S.get 1)) λq=>q.1.1.1=L∧p.1<6∧K (.a (iS p.1 q.1.2)) (S.set 1 [gC L q.1.1.2 (nJ p.1 q.1.2)])
variable{a:A}
theorem JS:(List.range 11).map (λi=>ae (tab (T5 L)) 1591 [.a (.g 1 0),.a a,.a (.int (.ofNat i))] ⟨loc,ac 5 1 [gC L s n] gl⟩ K)=(List.range 11).map λi=>LL L (TC i) (K (.a (bq i a n)) ⟨loc,ac 5 1 [gC L s (j3 i n)] gl⟩):=by kernel_rfl
theorem FD:(List.range 6).map (λi=>ae (tab (T4 L)) 1605 [.a (.g 1 0),.a (.int (.ofNat i))] ⟨loc,ac 5 1 [gC L s n] gl⟩ K)=(List.range 6).map λi=>LL L (M9 i) (K (.a (iS i n)) ⟨loc,ac 5 1 [gC L s (nJ i n)] gl⟩):=by kernel_rfl
theorem MZ{i:Nat}(hi:i<11)(h:K (.a (bq i a n)) ⟨loc,ac 5 1 [gC L s (j3 i n)] gl⟩):ae (tab (T5 L)) 1591 [.a (.g 1 0),.a a,.a (.int (.ofNat i))] ⟨loc,ac 5 1 [gC L s n] gl⟩ K:=(WA JS i (WE hi)).mpr (bL h _)
theorem Hf{i:Nat}(hi:i<6)(h:K (.a (iS i n)) ⟨loc,ac 5 1 [gC L s (nJ i n)] gl⟩):ae (tab (T4 L)) 1605 [.a (.g 1 0),.a (.int (.ofNat i))] ⟨loc,ac 5 1 [gC L s n] gl⟩ K:=(WA FD i (WE hi)).mpr (bL h _)
theorem uw{xs:List X}(h:my L xs S K):ae (tab (T5 L)) 1591 xs S K:=aa h λp _ h=>aa h λq _ h=>by
 rw[p.2]
 refine(congrArg (λS=>ae (tab (T5 L)) 1591 _ S K) (AH q.2)).mpr ?_
 rw[h.1]
 exact MZ h.2.1 h.2.2
theorem Gb{xs:List X}(h:vp L xs S K):ae (tab (T4 L)) 1605 xs S K:=aa h λp _ h=>aa h λq _ h=>by
 rw[p.2]
 refine(congrArg (λS=>ae (tab (T4 L)) 1605 _ S K) (AH q.2)).mpr ?_
 rw[h.1]
 exact Hf h.2.1 h.2.2
structure Dr where
 way:Nat
 plain:Nat
 a:Nat
 b:Nat
 c:Nat
def F5(L:List A):List (Nat×ay):=[(1481,iN L),(1489,dX L),(1496,ae (tab (T3 L)) 1496),(1536,lj L),(1548,dZ L 2),(1553,wE L),(1591,my L),(1605,vp L)]
def MG:List Nat:=[1273004,1278004,1304004,1313004,1315004,1320010]
def TW(L:List A)(Y:List (Nat×ay)):bA:={fn:=λa=>lk a (F5 L++Y),sy:=MG}
structure Dr.Ok(d:Dr):Prop where
 way:d.way<6
 plain:d.plain<3
 a:d.a<11
 b:d.b<11
 c:d.c<11
def a9(T:bA)(a k j:Nat)(env:En)(S:AS)(K:KN)(R:KX):Prop:=opt (io a) λfi=>RZ T fi.nm ((fi.body.drop k).take j) env S K (λ_ _=>False) R
def Fa(a:Nat):Fs:=(io a).getD ⟨[],[],[],[]⟩
theorem w6{f:Stmt→SW}{C:KN}{R:KX}{b:List Stmt}{K:KN}{a:List Stmt}:∀{env:En} {S:AS},bS f (a++b) env S K C R=bS f a env S (λenv S=>bS f b env S K C R) C R:=@List.rec Stmt (λa=>∀{env:En} {S:AS},bS f (a++b) env S K C R=bS f a env S (λenv S=>bS f b env S K C R) C R) rfl (λs r ih env S=>congrArg (λk=>f s env S k C R) (funext λenv=>funext λS=>ih)) a
theorem x0{α:Type}{o:Option α}{a:α}{K:α→Prop}(e:o=some a):opt o K=K a:=congrArg (λo=>opt o K) e
theorem ag{T:bA}{a k j:Nat}{env:En}{S:AS}{K:KX}(h:a9 T a k j env S (λenv S=>rest T a (k+j) env S K) λx S=>ret x S K):rest T a k env S K:=aa h λfi e h=>aj e (by
 rw[← List.take_append_drop j (fi.body.drop k),List.drop_drop]
 refine(w6 (K:=λ_ S=>ret (.a .none) S K)).mpr ?_
 refine(congrArg (λk=>bS _ _ env S k _ _) (funext λenv=>funext λS=>?_)).mp h
 exact x0 e)
theorem bx{T:bA}{a:Nat}{xs:List X}{env:En}{S:AS}{K:KX}{fi:Fs}(e:io a=some fi)(ha:Nat.beq a 55=false)(hb:(Nat.ble xs.length fi.ps.length&&Nat.ble fi.ps.length (xs.length+fi.ds.length))=true)(he:fi.ps.zip ((xs.map shift)++(fi.ds.drop (xs.length+fi.ds.length - fi.ps.length)).map X.a)=env)(h:rest T a 0 env (push S) K):ae T a xs S K:=by
 unfold ae
 refine aj e ?_
 rw[ha]
 refine aA hb ?_
 rw[he]
 exact(x0 e).mp h
def gE(gl:Rg 5):Rg 5:=ac 5 1 [] (ac 5 2 [] (ac 5 3 [] (ac 5 4 [] (ac 5 5 [] (ac 5 6 [] gl)))))
def e5(L0:List A)(d:Dr):En:=[("script",.a (.fl L0)),("g",.a (.g 1 0)),("way",.a (.int d.way)),("based",.a (.bool (decide ((d.way:Int)>2)))),("plain",.a (.int d.plain)),("sorts",.a (.fl [.int d.a,.int d.b,.int d.c]))]
def e9(L0:List A)(d:Dr)(ps:List A)(bo:Nat):List (Str×X):=(e5 L0 d:List (Str×X))++([("params",.a (.fl ps)),("border",.a (.int bo)),("blocks",.a (.g 5 0)),("rows",.l 0 0)]:List (Str×X))
section
variable{L0:List A}{Y:List (Nat×ay)}{d:Dr}
def pV(gl:Rg 5)(K:KN)(L0:List A)(way p:Nat):Prop:=LL (L0.take 63) 1 (∀a:Nat,(a:Int)<11→LL (L0.take 63) 1 (∀b:Nat,(b:Int)<11→LL (L0.take 63) 1 (∀c:Nat,(c:Int)<11→K (e5 L0 ⟨way,p,a,b,c⟩) (GS [[]] (ac 5 5 [] (ac 5 6 [] gl)) (L0.take 63) 5 0 []))))
theorem NQ{K:KN}{R:KX}(h:aw (Nat.ble (L0.take 63).length 1000000) (LL (L0.take 63) 1 (∀way:Nat,(way:Int)<6→LL (L0.take 63) 1 (pV gl K L0 way 0∧pV gl K L0 way 1∧pV gl K L0 way 2))) False):a9 (TW (L0.take 63) Y) 1622 0 5 [("script",.a (.fl L0))] ⟨[[]],gE gl⟩ K R:=cast (by kernel_rfl) h
theorem FM(h:∀d:Dr,d.Ok→rest (TW (L0.take 63) Y) 1622 5 (e5 L0 d) (GS [[]] (ac 5 5 [] (ac 5 6 [] gl)) (L0.take 63) 5 0 []) K):ae (TW (L0.take 63) Y) 1622 [.a (.fl L0)] ⟨[],gE gl⟩ K:=
 bx (fi:=Fa 1622) (by kernel_rfl) rfl (by kernel_rfl) (env:=[("script",.a (.fl L0))]) (by kernel_rfl) (ag (j:=5) (NQ (aA (aC (V9 (by rw[List.length_take];exact Nat.min_le_left _ _) (by decide:63≤1000000))) (bL (λway hw=>
  have q:∀p,p<3→pV gl (λenv S=>rest (TW (L0.take 63) Y) 1622 5 env S K) L0 way p:=λp hp=>bL (λa ha=>bL (λb hb=>bL (λc hc=>h ⟨way,p,a,b,c⟩ ⟨WM hw,hp,WM ha,WM hb,WM hc⟩) 1) 1) 1
  bL ⟨q 0 (by decide),q 1 (by decide),q 2 (by decide)⟩ 1) 1))))
inductive li:List A→List (List (A×List Us))→List Us→Prop
 |nil:li [] [] []
 |cons {t:A} {ts:List A} {l:List (A×List Us)} {ls:List (List (A×List Us))} {v v':List Us} (h:ya t l v) (h':li ts ls v'):li (t::ts) (l::ls) (v++v')
def j5(gl:Rg 5)(K:KN)(L L0:List A)(d:Dr)(ps:List A)(s:Nat)(n:Int)(w:List Us):Prop:=K (e9 L0 d ps (fU w).length) (GS [[.list []]] (ac 5 5 [.list []] (ac 5 6 [] gl)) L s n w)
theorem Iu{K:KN}{R:KX}(h:LL L 1 ((d6 16 [[]] (ac 5 5 [] (ac 5 6 [] gl)) L 6 0 [] nC λt s n w=>j5 gl K L L0 d [t] s n w)∧(d6 16 [[]] (ac 5 5 [] (ac 5 6 [] gl)) L 6 0 [] nC λt s n w=>d6 16 [[]] (ac 5 5 [] (ac 5 6 [] gl)) L s n w nC λt' s n w=>j5 gl K L L0 d [t,t'] s n w)∧j5 gl K L L0 d [] 6 0 [])):
  a9 (TW L Y) 1622 5 4 (e5 L0 d) (GS [[]] (ac 5 5 [] (ac 5 6 [] gl)) L 5 0 []) K R:=cast (by kernel_rfl) h
theorem GZ(h:∀ps ls s n w,li ps ls w→ps.length≤2→Gi w n 868→rest (TW L Y) 1622 9 (e9 L0 d ps w.length) (GS [[.list []]] (ac 5 5 [.list []] (ac 5 6 [] gl)) L s n w) K):rest (TW L Y) 1622 5 (e5 L0 d) (GS [[]] (ac 5 5 [] (ac 5 6 [] gl)) L 5 0 []) K:=
 have q:∀ps ls s n w w',w'=w→li ps ls w'→ps.length≤2→Gi w n 868→j5 gl (λenv S=>rest (TW L Y) 1622 9 env S K) L L0 d ps s n w:=λps ls s n w w' e a b c=>(congrArg (λj=>rest (TW L Y) 1622 9 (e9 L0 d ps j) (GS [[.list []]] (ac 5 5 [.list []] (ac 5 6 [] gl)) L s n w) K) (WO _)).mpr (h ps ls s n w (e▸a) b c)
 have g0:Gi [] 0 (868+16+16):=⟨by decide,Int.le_refl 0⟩
 have h1:d6 16 [[]] (ac 5 5 [] (ac 5 6 [] gl)) L 6 0 [] nC λt s n w=>j5 gl (λenv S=>rest (TW L Y) 1622 9 env S K) L L0 d [t] s n w:=iC (k:=868+16) g0 λt s n v h1 g=>h1.elim λl h1=>q [t] [l] s n v (v++[]) (WQ v) (.cons h1 .nil) (Nat.le_succ 1) (g.dr (i:=0) (j:=16) (Nat.zero_le _))
 have h2:d6 16 [[]] (ac 5 5 [] (ac 5 6 [] gl)) L 6 0 [] nC λt s n w=>d6 16 [[]] (ac 5 5 [] (ac 5 6 [] gl)) L s n w nC λt' s n w=>j5 gl (λenv S=>rest (TW L Y) 1622 9 env S K) L L0 d [t,t'] s n w:=iC (k:=868+16) g0 λt s n v h1 g=>h1.elim λl h1=>iC g λt' s n v' h2 g=>h2.elim λl' h2=>q [t,t'] [l,l'] s n _ (v++(v'++[])) (congrArg (v++·) (WQ v')) (.cons h1 (.cons h2 .nil)) (Nat.le_refl 2) g
 ag (j:=4) (Iu ⟨rfl,h1,h2,q [] [] _ _ _ _ rfl .nil (Nat.zero_le _) ⟨by decide,Int.le_refl 0⟩⟩)
end
def fV(T:bA)(a k:Nat)(K:KN)(R:KX)(x:X)(n j:Nat):KN:=λenv S=>opt (io a) λfi=>opt (nth fi.body k) λs=>opt (yb s) λp=>c9 (bS (ws T 19 fi.nm) p.2) fi.nm p.1 K R x n j env S
def dw(T:bA)(a k:Nat)(K:KN)(R:KX)(v:A):KN:=λenv S=>opt (io a) λfi=>opt (nth fi.body k) λs=>opt (yb s) λp=>fI fi.nm p.1 v env λenv=>bS (ws T 19 fi.nm) p.2 env S K K R
theorem Cb{n j:Nat}(h:j<n):(cB n 0)[j]?=some (.int (j:Nat)):=(dS n 0 j).trans (by rw[show Nat.blt j n=true from Wx h,Nat.zero_add];rfl)
theorem Co{n j:Nat}(h:n≤j):(cB n 0)[j]?=none:=(dS n 0 j).trans (by rw[show Nat.blt j n=false from Bool.eq_false_iff.mpr λq=>Nat.not_lt.mpr h (Wu q)];rfl)
variable{T:bA}{a:Nat}{K:KN}{R:KX}{x:X}{n N:Nat}{env:En}{l:List A}{v:A}{P:Nat→KN}
theorem e7(hs:bU S x=some l)(hl:l[j]?=some v)(h:dw T a k (fV T a k K R x n (j+1)) R v env S):fV T a k K R x (n+1) j env S:=
 aa h λfi e1 h=>aa h λs e2 h=>aa h λp e3 h=>aj e1 (aj e2 (aj e3 (aj hs (by
  have e:fV T a k K R x n (j+1)=c9 (bS (ws T 19 fi.nm) p.2) fi.nm p.1 K R x n (j+1):=funext λenv=>funext λS=>(x0 e1).trans ((x0 e2).trans (x0 e3))
  rw[e] at h
  show@Option.rec A (λ_=>Prop) (K env S) _ l[j]?
  rw[hl]
  exact h))))
theorem gB{fi:Fs}{s:Stmt}{p:Expr×List Stmt}(e1:io a=some fi)(e2:nth fi.body k=some s)(e3:yb s=some p)(hs:bU S x=some l)(hl:l[j]?=none)(h:K env S):fV T a k K R x (n+1) j env S:=
 aj e1 (aj e2 (aj e3 (aj hs (by
  show@Option.rec A (λ_=>Prop) (K env S) _ l[j]?
  rw[hl]
  exact h))))
theorem je{fi:Fs}{s:Stmt}{p:Expr×List Stmt}(e1:io a=some fi)(e2:nth fi.body k=some s)(e3:yb s=some p)(hs:∀S,bU S x=some (cB N 0))(hk:∀env S,P 0 env S→K env S)
  (hb:∀j i env S K',j+(i+1)=N→P (i+1) env S→(∀env S,P i env S→K' env S)→dw T a k K' R (.int (j:Nat)) env S):∀i j env S,j+i=N→P i env S→fV T a k K R x (i+1) j env S:=λi=>
 @Nat.rec (λi=>∀j env S,j+i=N→P i env S→fV T a k K R x (i+1) j env S) (λj env S e h=>gB e1 e2 e3 (hs S) (Co (Wq e.symm)) (hk env S h))
  (λi ih j env S e h=>e7 (hs S) (Cb (Wh (Nat.lt_add_of_pos_right (Nat.succ_pos i)) (Wq e))) (hb j i env S _ e h λenv S h=>ih (j+1) env S ((Nat.add_right_comm j 1 i).trans e) h)) i
theorem q7{fi:Fs}{s:Stmt}{p:Expr×List Stmt}{β:Type}{f:β→A}(e1:io a=some fi)(e2:nth fi.body k=some s)(e3:yb s=some p){P:List β→KN}{xs:List β}(hs:∀S,bU S x=some (xs.map f))(hk:∀env S,P [] env S→K env S)
  (hb:∀y ys env S K',P (y::ys) env S→(∀env S,P ys env S→K' env S)→dw T a k K' R (f y) env S):∀ys zs env S,xs=zs++ys→P ys env S→fV T a k K R x (ys.length+1) zs.length env S:=λys=>
 @List.rec β (λys=>∀zs env S,xs=zs++ys→P ys env S→fV T a k K R x (ys.length+1) zs.length env S)
  (λzs env S e h=>gB e1 e2 e3 (hs S) (by rw[e,WQ];exact List.getElem?_eq_none (by rw[WO];exact Nat.le_refl _)) (hk env S h))
  (λy ys ih zs env S e h=>e7 (hs S) (show(xs.map f)[zs.length]?=some (f y) by rw[e,WS,List.getElem?_append_right (by rw[WO];exact Nat.le_refl _),WO,Nat.sub_self];rfl) (hb y ys env S _ h λenv S h=>(show fV T a k K R x (ys.length+1) (zs.length+1) env S from(List.length_append (as:=zs) (bs:=[y]))▸ih (zs++[y]) env S (e.trans (List.append_cons zs y ys)) h))) ys
def cK(Ts:List aB):A:=.fl (Ts.map aB.den)
def FP(Ts:List aB):Prop:=kR Ts (Ts.map aB.den)
def hQ(Tss:List (List aB)):List Us:=Tss.flatMap ic
def AE(L0:List A)(d:Dr)(ps:List A)(bo:Nat)(m:Option Nat):List (Str×X):=alt m (λk=>e9 L0 d ps bo++([("lap",.a (.int k))]:List (Str×X))) (e9 L0 d ps bo)
section
variable(L L0:List A)(Y:List (Nat×ay))(gl:Rg 5)(K:KN)(d:Dr)(k bo:Nat)(w:List Us)(Bs rs ps:List A)
def rJ(Bs:List A)(gl:Rg 5):Rg 5:=ac 5 5 [.list Bs] (ac 5 6 [] gl)
def y4(ts:List A)(s:Nat)(n:Int)(w:List Us):Prop:=aw (Nat.ble (Bs++[A.fl ts]).length 1000000) (opt (aM (.a (.g 5 0)) (.int k) (some (.list (Bs++[A.fl ts])))) λv=>opt (gL [.a (.g 1 0),.a v]) λl=>∃Ts,kR Ts l.1∧NO [[.list rs]] (rJ (Bs++[A.fl ts]) gl) L s n w (z9 (ic Ts)) λt s n w=>
 opt (tK (.a t) (au (GS [[.list rs]] (rJ (Bs++[A.fl ts]) gl) L s n w) (.a t))) λm=>aw (Nat.ble (rs++m).length 1000000) (K (AE L0 d ps bo (some k)) (GS [[.list (rs++m)]] (rJ (Bs++[A.fl ts]) gl) L s n w)) False) False
def y9(s:Nat)(n:Int)(w:List Us)(P:A→Nat→Int→List Us→Prop):Prop:=Dm 0 2∧d6 2 [[.list rs]] (rJ Bs gl) L s n w (ir 0) P
theorem KZ(m:Option Nat)(R:KX)(s:Nat)(n:Int)(h:LL L 1 ((y9 L gl Bs rs (s+1) n w λt s n w=>y4 L L0 gl K d k bo Bs rs ps [t] s n w)∧y9 L gl Bs rs (s+1) n w λt s n w=>y9 L gl Bs rs s n w λt' s n w=>y4 L L0 gl K d k bo Bs rs ps [t,t'] s n w)):
  dw (TW L Y) 1622 9 K R (.int (k:Nat)) (AE L0 d ps bo m) (GS [[.list rs]] (rJ Bs gl) L s n w):=@Option.casesOn Nat (λm=>dw (TW L Y) 1622 9 K R (.int (k:Nat)) (AE L0 d ps bo m) (GS [[.list rs]] (rJ Bs gl) L s n w)) m (cast (by kernel_rfl) h) λi=>cast (by kernel_rfl) h
end
section
variable{L0:List A}{Y:List (Nat×ay)}{d:Dr}{i bo:Nat}{w0 v:List Us}{Bs rs' ps:List A}{Ts:List aB}{n:Int}{P:A→Nat→Int→List Us→Prop}{Tss:List (List aB)}
theorem QY:gL [.a (.g 1 0),.a (.fl ts)]=some ⟨ts,rfl⟩:=by kernel_rfl
theorem ze(hT:kR Ts ts)(hk:Bs.length=k)(h1:k<1000)(h2:rs.length<1000)(g:Gi w n i)(f:∀rs' s n,gY (ic Ts) rs'→Gi w n i→K (AE L0 d ps bo (some k)) (GS [[.list (rs++rs')]] (rJ (Bs++[A.fl ts]) gl) L s n w)):y4 L L0 gl K d k bo Bs rs ps ts s n w:=
 aA (aC (by rw[WN,hk];exact V9 h1 (by decide))) (aj (show(Bs++[A.fl ts])[k]?=some (.fl ts) by rw[List.getElem?_append_right (Wq hk),hk,Nat.sub_self];rfl) (aj QY ⟨Ts,hT,Kj g λt s n h g=>h.elim λrs' h=>h.1▸aj (a:=rs') rfl
  (aA (aC (by rw[WN];exact V9 (Wm (Nat.le_of_lt h2) h.2.len) (by decide))) (f rs' s n h.2 g))⟩))
theorem a6.app{ts ts':List A}(h:a6 par j b ts v)(h':a6 par j b ts' v'):a6 par j b (ts++ts') (v++v'):=@a6.rec par j b (λts v _=>a6 par j b (ts++ts') (v++v')) h' (λ_ ih=>.none ih) (λ{t ts v v1} i h _ ih=>(WR v v1 v').symm▸.cons i h ih) ts v h
theorem nG:hQ (Tss++[Ts])=hQ Tss++ic Ts:=by unfold hQ;rw[List.flatMap_append];exact congrArg (_++·) (WQ _)
inductive BI(L L0:List A)(gl:Rg 5)(d:Dr)(ps:List A)(bo N:Nat)(w0:List Us)(i:Nat):En→AS→Prop
 |mk (m:Option Nat) (s:Nat) (n:Int) (rs:List A) (Tss:List (List aB)) (hl:Tss.length+i=N) (hb:∀Ts∈Tss,FP Ts) (hr:∀par,a6 par 240 false rs (hQ Tss)) (hn:rs.length≤2*Tss.length) (g:Gi (w0++hQ Tss) n (4*i)) (hm:m=none→Tss=[]):BI L L0 gl d ps bo N w0 i (AE L0 d ps bo m) (GS [[.list rs]] (rJ (Tss.map cK) gl) L s n (w0++hQ Tss))
theorem lS{k':Nat}(g:Gi w n (k'+2))(f:∀T s n,bh false T→Gi (w++T.us) n k'→P T.den s n (w++T.us)):y9 L gl Bs rs s n w P:=⟨.zero,iC g λt s n v h g=>by
 obtain⟨T,rfl,rfl,h⟩:=h
 exact f T s n (h false rfl) g⟩
theorem qP{K':KN}(hN:N≤4)(hl:Tss.length+(i+1)=N)(hb:∀Ts∈Tss,FP Ts)(hr:∀par,a6 par 240 false rs (hQ Tss))(hn:rs.length≤2*Tss.length)(f:∀env S,BI L L0 gl d ps bo N w0 i env S→K' env S)(hT:FP Ts)(g:Gi (w0++hQ Tss++ic Ts) n (4*i)):y4 L L0 gl K' d Tss.length bo (Tss.map cK) rs ps (Ts.map aB.den) s n (w0++hQ Tss++ic Ts):=by
 have hlt:Tss.length<4:=Wh (Nat.lt_add_of_pos_right (Nat.succ_pos i)) (hl▸hN)
 refine ze hT (WO _) (Wi hlt (by decide)) (Wg hn (Wh (Nat.mul_lt_mul_of_pos_left hlt (by decide)) (by decide))) g λrs' s n h g=>?_
 rw[WR,← nG] at g ⊢
 have q:=f _ _ (.mk (some Tss.length) s n (rs++rs') (Tss++[Ts]) (by rw[WN];exact(Nat.add_right_comm _ 1 i).trans hl) (λT h=>(WF h).elim (hb T) λh=>WD h▸hT) (λpar=>nG▸(hr par).app (h.sem par)) (by rw[WN,WN];exact Wm hn h.len) g (λh=>nomatch h))
 rw[WS] at q
 exact q
theorem u5{K':KN}{R:KX}{env:En}{S:AS}(hN:N≤4)(jj:Nat)(e:jj+(i+1)=N)(h:BI L L0 gl d ps bo N w0 (i+1) env S)(f:∀env S,BI L L0 gl d ps bo N w0 i env S→K' env S):dw (TW L Y) 1622 9 K' R (.int (jj:Nat)) env S:=
 @BI.casesOn L L0 gl d ps bo N w0 (i+1) (λenv S _=>dw (TW L Y) 1622 9 K' R (.int (jj:Nat)) env S) env S h λm s n rs Tss hl hb hr hn g _=>by
 have ej:jj=Tss.length:=Nat.add_right_cancel (e.trans hl.symm)
 subst ej
 refine KZ _ _ _ _ _ _ _ _ _ _ _ _ _ _ _ _ (bL ⟨lS (k':=4*i+2) g λT s n hT g=>?_,lS (k':=4*i+2) g λT s n hT g=>lS g λT' s n hT' g=>?_⟩ 1)
 ·have q:=qP (s:=s) hN hl hb hr hn f (Ts:=[T]) (.one hT) (n:=n) (by rw[show ic [T]=T.us from WQ _];exact g.dr (Nat.zero_le 2))
  rw[show ic [T]=T.us from WQ _] at q
  exact q
 ·have eu:ic [T,T']=T.us++T'.us:=congrArg (T.us++·) (WQ _)
  have q:=qP (s:=s) hN hl hb hr hn f (Ts:=[T,T']) (.two hT hT') (n:=n) (by rw[eu,← WR];exact g)
  rw[eu,← WR] at q
  exact q
end
def Vu(L0:List A)(d:Dr)(ps:List A)(bo lap N:Nat):List (Str×X):=AE L0 d ps bo (some lap)++([("most",.a (.int N)),("ways",.a (.g 6 0))]:List (Str×X))
def gW(L0:List A)(d:Dr)(ps:List A)(bo lap N:Nat)(m:Option (Nat×Int)):List (Str×X):=alt m (λq=>Vu L0 d ps bo lap N++([("place",.a (.int q.1)),("to",.a (.int q.2))]:List (Str×X))) (Vu L0 d ps bo lap N)
def d9(ps rs:List A)(n:Int):A:=nd 27 (tx "") [.none,bP ps (n+1),.none,nd 59 (tx "") rs 0 (n+1+1)] 256 (n+1+1+1)
def ou(d:Dr)(n:Int):Int:=j3 d.a (n+1+1+1)
def og(d:Dr)(n:Int):Int:=j3 d.b (ou d n)
def ub(d:Dr)(n:Int):Int:=j3 d.c (og d n)
def tO(d:Dr)(n:Int):List A:=[bq d.a (tx "x") (n+1+1+1),bq d.b (tx "y") (ou d n),bq d.c (tx "z") (og d n)]
def iA(d:Dr)(n:Int):Int:=nJ d.way (ub d n)
def Ds(d:Dr)(ps rs:List A)(n:Int):List A:=[.none,iS d.way (ub d n),.none,bP [] (iA d n+1),bP (tO d n++[d9 ps rs n]) (iA d n+1+1)]
def be(d:Dr)(ps rs:List A)(n:Int):A:=nd 61 (tx "C") (Ds d ps rs n) 0 (iA d n+1+1+1)
def OB(L0:List A)(d:Dr)(ps rs:List A)(bo lap N:Nat)(m:Nat×Int)(n:Int):List (Str×X):=gW L0 d ps bo lap N (some m)++([("ctor",.a (d9 ps rs n)),("members",.a (.fl (tO d n))),("kids",.a (.fl (Ds d ps rs n))),("node",.a (be d ps rs n))]:List (Str×X))
section
variable(L L0:List A)(Y:List (Nat×ay))(gl:Rg 5)(K:KN)(R:KX)(d:Dr)(k bo lap N:Nat)(w:List Us)(Bs rs ps Ws:List A)
def oP(Bs Ws:List A)(gl:Rg 5):Rg 5:=ac 5 5 [.list Bs] (ac 5 6 [.list Ws] gl)
theorem MS(s:Nat)(n:Int)(h:LL L 1 (∀i:Nat,(i:Int)<4→aw (f9 (.a (.int (1+i)))) (∃n',fV (TW L Y) 1622 9 K R (.a (.int (1+i))) n' 0 (AE L0 d ps bo none) (GS [[.list rs]] (rJ Bs gl) L (s+1) n w)) False)):a9 (TW L Y) 1622 9 1 (e9 L0 d ps bo) (GS [[.list rs]] (rJ Bs gl) L s n w) K R:=cast (by kernel_rfl) h
theorem FJ(s:Nat)(n:Int)(h:K (gW L0 d ps bo lap Bs.length none) (GS [[.list rs]] (oP Bs [] gl) L s n w)):a9 (TW L Y) 1622 10 2 (AE L0 d ps bo (some lap)) (GS [[.list rs]] (rJ Bs gl) L s n w) K R:=cast (by kernel_rfl) h
theorem GK(s:Nat)(n:Int)(h:aw (f9 (.a (.int N))) (∃n',fV (TW L Y) 1622 12 K R (.a (.int N)) n' 0 (gW L0 d ps bo lap N none) (GS [[.list rs]] (oP Bs Ws gl) L s n w)) False):a9 (TW L Y) 1622 12 1 (gW L0 d ps bo lap N none) (GS [[.list rs]] (oP Bs Ws gl) L s n w) K R:=cast (by kernel_rfl) h
def Ew(to:Int)(s:Nat)(n:Int):Prop:=LL L 1 (aw (decide (0<(N:Int)+2)) (GB ((N:Int)+2) λj=>aw (Nat.ble (Ws++[A.tup [.int to,.int j]]).length 1000000) (K (gW L0 d ps bo lap N (some (k,to))) (GS [[.list rs]] (oP Bs (Ws++[A.tup [.int to,.int j]]) gl) L (s+1) n w)) False) False)
theorem Nq(m:Option (Nat×Int))(s:Nat)(n:Int)(h:LL L 1 (∀i:Nat,(i:Int)<4→aw (!PyData.eqv (.int i) (.int 3)) (Ew L L0 gl K d k bo lap N w Bs rs ps Ws ((k:Int)+1) (s+1) n) (LL L 1 (aw (decide (0<(N:Int)+1)) (GB ((N:Int)+1) λj=>Ew L L0 gl K d k bo lap N w Bs rs ps Ws j (s+1+1) n) False)))):
  dw (TW L Y) 1622 12 K R (.int (k:Nat)) (gW L0 d ps bo lap N m) (GS [[.list rs]] (oP Bs Ws gl) L s n w):=@Option.casesOn (Nat×Int) (λm=>dw (TW L Y) 1622 12 K R (.int (k:Nat)) (gW L0 d ps bo lap N m) (GS [[.list rs]] (oP Bs Ws gl) L s n w)) m (cast (by kernel_rfl) h) λi=>cast (by kernel_rfl) h
theorem Ha(m:Nat×Int)(s:Nat)(n:Int)(h:LL L 4 (d.a<11∧LL L 1 (d.b<11∧LL L 1 (d.c<11∧LL L 1 (d.way<6∧LL L 3 (K (OB L0 d ps rs bo lap N m n) (GS [[.fz (.fl rs)]] (oP Bs Ws gl) L s (iA d n+1+1+1) w))))))):a9 (TW L Y) 1622 13 4 (gW L0 d ps bo lap N (some m)) (GS [[.list rs]] (oP Bs Ws gl) L s n w) K R:=cast (by kernel_rfl) h
end
structure jV where
 d:Dr
 ps:List A
 ls:List (List (A×List Us))
 pw:List Us
 Tss:List (List aB)
 W:List (Nat×Nat)
 rs:List A
 n:Int
def cZ(p:Nat×Nat):A:=.tup [.int p.1,.int p.2]
end
section
def jV.w(G:jV):List Us:=G.pw++hQ G.Tss
structure jV.Ok(G:jV):Prop where
 d:G.d.Ok
 ps:li G.ps G.ls G.pw
 psl:G.ps.length≤2
 blk:∀Ts∈G.Tss,FP Ts
 pos:0<G.Tss.length
 le:G.Tss.length≤4
 rs:∀par,a6 par 240 false G.rs (hQ G.Tss)
 rsl:G.rs.length≤8
 wl:G.W.length=G.Tss.length
 way:∀p∈G.W,p.1≤G.Tss.length∧p.2≤G.Tss.length+1
 gi:Gi G.w G.n 0
 pwl:G.pw.length≤32
inductive WI(L L0:List A)(gl:Rg 5)(d:Dr)(ps:List A)(bo lap N:Nat)(Bs rs:List A)(w:List Us)(n:Int)(i:Nat):En→AS→Prop
 |mk (m:Option (Nat×Int)) (s:Nat) (W:List (Nat×Nat)) (hl:W.length+i=N) (hw:∀p∈W,p.1≤N∧p.2≤N+1) (hm:m=none→W=[]):WI L L0 gl d ps bo lap N Bs rs w n i (gW L0 d ps bo lap N m) (GS [[.list rs]] (oP Bs (W.map cZ) gl) L s n w)
section
variable{L L0:List A}{Y:List (Nat×ay)}{gl:Rg 5}{K:KN}{R:KX}{d:Dr}{i k bo lap N s:Nat}{w:List Us}{Bs rs ps:List A}{n:Int}{W:List (Nat×Nat)}
theorem Gi.lo{j:Nat}(g:Gi w n k)(h:j≤k):Gi w n j:=⟨V9 (Wj h _) g.len,g.asc⟩
theorem tX{m:Int}{P:Nat→Prop}(hm:0<m)(h:∀i:Nat,(i:Int)<m→P i):GB m P:=by
 unfold GB
 cases e:decide (m=2) with
 |true=>rw[of_decide_eq_true e] at h;exact⟨h 0 (by decide),h 1 (by decide)⟩
 |false=>
  cases e:decide (m=3) with
  |true=>rw[of_decide_eq_true e] at h;exact⟨h 0 (by decide),h 1 (by decide),h 2 (by decide)⟩
  |false=>exact h
theorem lx(j:Nat):(0:Int)<(N:Int)+((j+1:Nat):Int):=show(0:Int)<((N+(j+1):Nat):Int) from Int.ofNat_lt.mpr (Nat.succ_pos _)
theorem C7{i j:Nat}(h:(i:Int)<(N:Int)+((j+1:Nat):Int)):i≤N+j:=Nat.le_of_lt_succ (WM (show(i:Int)<((N+(j+1):Nat):Int) from h))
theorem qo{to:Nat}(hN:N≤4)(hl:W.length+(i+1)=N)(hw:∀p∈W,p.1≤N∧p.2≤N+1)(ht:to≤N)(f:∀env S,WI L L0 gl d ps bo lap N Bs rs w n i env S→K env S):Ew L L0 gl K d k bo lap N w Bs rs ps (W.map cZ) to s n:=
 bL (aA (decide_eq_true (lx 1)) (tX (lx 1) λj hj=>aA (aC (by rw[WN,WO];exact V9 (Wm (V9 (Wo _ (i+1)) (hl▸hN)) (Nat.le_refl _)) (Wu rfl:4+1≤1000000))) (by
  have q:=f _ _ (.mk (some (k,(to:Int))) (s+1) (W++[(to,j)]) (by rw[WN];exact(Nat.add_right_comm _ 1 i).trans hl) (λp h=>(WF h).elim (hw p) λh=>WD h▸⟨ht,C7 (j:=1) hj⟩) (λh=>nomatch h))
  rw[WS] at q
  exact q))) 1
theorem wY(hN:N≤4)(j:Nat)(e:j+(i+1)=N){env:En}{S:AS}(h:WI L L0 gl d ps bo lap N Bs rs w n (i+1) env S)(f:∀env S,WI L L0 gl d ps bo lap N Bs rs w n i env S→K env S):dw (TW L Y) 1622 12 K R (.int (j:Nat)) env S:=
 @WI.casesOn L L0 gl d ps bo lap N Bs rs w n (i+1) (λenv S _=>dw (TW L Y) 1622 12 K R (.int (j:Nat)) env S) env S h λm s W hl hw hm=>
 Nq _ _ _ _ _ _ _ _ _ _ _ _ _ _ _ _ _ _ _ (bL (λq hq=>aX (λ_=>qo (to:=j+1) hN hl hw (e▸Wj (Ww (Nat.zero_le i)) j) f) λ_=>bL (aA (decide_eq_true (lx 0)) (tX (lx 0) λt ht=>qo hN hl hw (C7 (j:=0) ht) f)) 1) 1)
def Fb(a k:Nat):Stmt:=(nth (Fa a).body k).getD (.Pass ⟨0,0,0,0⟩)
def Fp(a k:Nat):Expr×List Stmt:=(yb (Fb a k)).getD (.Name "" ⟨0,0,0,0⟩,[])
theorem tY:∀S,bU S (.a (.int (N:Nat)))=some (cB N 0):=λS=>rfl
theorem s8(h:N≤1000):f9 (.a (.int (N:Nat)))=true:=aC (V9 h (by decide))
end
section
variable{L L0:List A}{Y:List (Nat×ay)}{gl:Rg 5}{K:KX}{d:Dr}{bo s:Nat}{n:Int}{w:List Us}{ps:List A}
def ny(L L0:List A)(Y:List (Nat×ay))(gl:Rg 5)(K:KX)(d:Dr)(bo:Nat)(w:List Us)(ps:List A)(Tss:List (List aB))(W:List (Nat×Nat))(rs:List A)(n:Int):Prop:=∀s m lap,rest (TW L Y) 1622 17 (OB L0 d ps rs bo lap Tss.length m n) (GS [[.fz (.fl rs)]] (oP (Tss.map cK) (W.map cZ) gl) L s (iA d n+1+1+1) w) K
theorem Ff{Tss:List (List aB)}{W:List (Nat×Nat)}{rs:List A}{m:Nat×Int}{lap:Nat}(hd:d.Ok)(h:ny L L0 Y gl K d bo w ps Tss W rs n):rest (TW L Y) 1622 13 (gW L0 d ps bo lap Tss.length (some m)) (GS [[.list rs]] (oP (Tss.map cK) (W.map cZ) gl) L s n w) K:=
 ag (j:=4) (Ha _ _ _ _ _ _ _ _ _ _ _ _ _ _ _ _ _ _ (bL ⟨hd.a,bL ⟨hd.b,bL ⟨hd.c,bL ⟨hd.way,bL (h _ _ _) 3⟩ 1⟩ 1⟩ 1⟩ 4))
theorem FB{Tss:List (List aB)}{rs:List A}{lap:Nat}(hd:d.Ok)(hp:0<Tss.length)(h4:Tss.length≤4)(h:∀W:List (Nat×Nat),W.length=Tss.length→(∀p∈W,p.1≤Tss.length∧p.2≤Tss.length+1)→ny L L0 Y gl K d bo w ps Tss W rs n):rest (TW L Y) 1622 12 (gW L0 d ps bo lap Tss.length none) (GS [[.list rs]] (oP (Tss.map cK) [] gl) L s n w) K:=by
 refine ag (j:=1) (GK _ _ _ _ _ _ _ _ _ _ _ _ _ _ _ _ _ (aA (s8 (V9 h4 (by decide))) ⟨Tss.length+1,?_⟩))
 refine je (P:=λi'=>WI L L0 gl d ps bo lap Tss.length (Tss.map cK) rs w n i') (N:=Tss.length) (fi:=Fa 1622) (s:=Fb 1622 12) (p:=Fp 1622 12) (by kernel_rfl) (by kernel_rfl) (by kernel_rfl) tY (λenv S hB=>?_) (λj i' env S K' e hB f=>wY h4 j e hB f) Tss.length 0 _ _ (Nat.zero_add _) (.mk none s [] (Nat.zero_add _) (λ_ h=>(WJ h).elim) λ_=>rfl)
 exact@WI.casesOn L L0 gl d ps bo lap Tss.length (Tss.map cK) rs w n 0 (λenv S _=>rest (TW L Y) 1622 13 env S K) env S hB λm s W hl hw hm=>@Option.casesOn (Nat×Int) (λm=>(m=none→W=[])→rest (TW L Y) 1622 13 (gW L0 d ps bo lap Tss.length m) (GS [[.list rs]] (oP (Tss.map cK) (W.map cZ) gl) L s n w) K) m (λhm=>(Nat.lt_irrefl 0 (Nat.lt_of_lt_of_eq hp (hl.symm.trans (congrArg List.length (hm rfl))))).elim) (λm _=>Ff hd (h W hl hw)) hm
theorem JN(h:∀Tss W rs n,(∀Ts∈Tss,FP Ts)→0<Tss.length→Tss.length≤4→(∀par,a6 par 240 false rs (hQ Tss))→rs.length≤8→W.length=Tss.length→(∀p∈W,p.1≤Tss.length∧p.2≤Tss.length+1)→Gi (w++hQ Tss) n 0→ny L L0 Y gl K d bo (w++hQ Tss) ps Tss W rs n)
  (hd:d.Ok) (g:Gi w n 500):rest (TW L Y) 1622 9 (e9 L0 d ps bo) (GS [[.list []]] (rJ [] gl) L s n w) K:=by
 refine ag (j:=1) (MS _ _ _ _ _ _ _ _ _ _ _ _ _ _ (bL (λi hi=>?_) 1))
 have hi4:1+i≤4:=Nat.add_comm i 1▸WM hi
 refine aA (Ki (WM hi)) ⟨1+i+1,?_⟩
 refine je (P:=λi'=>BI L L0 gl d ps bo (1+i) w i') (N:=1+i) (fi:=Fa 1622) (s:=Fb 1622 9) (p:=Fp 1622 9) (by kernel_rfl) (by kernel_rfl) (by kernel_rfl) (λS=>rfl) (λenv S hB=>?_) (λj i' env S K' e hB f=>u5 hi4 j e hB f) (1+i) 0 _ _ (Nat.zero_add _) ?_
 ·exact@BI.casesOn L L0 gl d ps bo (1+i) w 0 (λenv S _=>rest (TW L Y) 1622 10 env S K) env S hB λlap s n rs Tss hl hb hr hn g hm=>
   have hp:0<Tss.length:=Nat.lt_of_lt_of_eq (Nat.add_comm i 1▸Nat.succ_pos i) hl.symm
   have h4:Tss.length≤4:=V9 (Wq hl) hi4
   @Option.casesOn Nat (λlap=>(lap=none→Tss=[])→rest (TW L Y) 1622 10 (AE L0 d ps bo lap) (GS [[.list rs]] (rJ (Tss.map cK) gl) L s n (w++hQ Tss)) K) lap (λhm=>(Nat.lt_irrefl 0 (Nat.lt_of_lt_of_eq hp (congrArg List.length (hm rfl)))).elim)
    (λlap _=>ag (j:=2) (FJ _ _ _ _ _ _ _ _ _ _ _ _ _ _ _ ((congrArg (λN=>rest (TW L Y) 1622 12 (gW L0 d ps bo lap N none) (GS [[.list rs]] (oP (Tss.map cK) [] gl) L s n (w++hQ Tss)) K) (WO (as:=Tss) cK)).mpr (FB hd hp h4 λW hl hw=>h Tss W rs n hb hp h4 hr (V9 hn (Wr 2 h4)) hl hw g)))) hm
 ·have q:=BI.mk (L:=L) (L0:=L0) (gl:=gl) (d:=d) (ps:=ps) (bo:=bo) (N:=1+i) (w0:=w) (i:=1+i) none (s+1) n [] [] (Nat.zero_add _) (λ_ h=>(WJ h).elim) (λ_=>.nil) (Nat.zero_le _) (by rw[show hQ []=[] from rfl,WQ];exact g.lo (V9 (Wr 4 hi4) (by decide))) (λ_=>rfl)
  rw[show hQ []=[] from rfl,WQ] at q
  exact q
theorem Ip(hY:∀G:jV,G.Ok→ny (L0.take 63) L0 Y gl K G.d G.pw.length G.w G.ps G.Tss G.W G.rs G.n):ae (TW (L0.take 63) Y) 1622 [.a (.fl L0)] ⟨[],gE gl⟩ K:=
 FM λd hd=>GZ λps ls s n w hp hl g0=>JN (λTss W rs n hb h0 h4 hr hrl hw hwo g=>hY ⟨d,ps,ls,w,Tss,W,rs,n⟩ ⟨hd,hp,hl,hb,h0,h4,hr,hrl,hw,hwo,g,Nat.le_of_add_le_add_right (V9 g0.len (by decide:900≤32+868))⟩) hd (g0.lo (by decide))
end
inductive Pv |nil |one(p:Nat) |ent(e:Nat)
structure GN where
 kd:Int
 pv:Pv
 nd:A
 sb:Bool
 b:Nat
 t:Nat→Nat
def hO(E:List (List Nat))(p:Pv):List Nat:=@Pv.rec (λ_=>List Nat) [] (λp=>[p]) (λe=>E.getD e []) p
inductive kP(N:List GN)(E:List (List Nat)):Nat→Prop
 |start {f:Nat} {g:GN} (h:N[f]?=some g) (hk:g.kd=1) (hp:hO E g.pv=[]):kP N E f
 |step {f p:Nat} {g:GN} (h:N[f]?=some g) (hs:g.kd=7→g.sb=false) (hp:p∈hO E g.pv) (r:kP N E p):kP N E f
inductive sU(N:List GN)(nb i:Nat)(g:GN):Prop
 |nil (h:g.pv=.nil) (hk:g.kd=0∨g.kd=1):sU N nb i g
 |ent (b:Nat) (h:g.pv=.ent b) (hk:g.kd=2∨g.kd=3) (hb:g.b=b) (hl:b<nb) (ht:g.t=id):sU N nb i g
 |one (p:Nat) (g':GN) (h:g.pv=.one p) (hp:p<i) (hg:N[p]?=some g') (hn:g'.pv≠.nil) (hb:g.b=g'.b) (hs:g.kd=7→g.sb=false) (ht:∀s,g.t s % 2=g'.t s % 2):sU N nb i g
 |sup (p:Nat) (h:g.pv=.one p) (hk:g.kd=7) (hs:g.sb=true) (ht:∀s,g.t s % 2=1) (hp:p<i):sU N nb i g
inductive Dq(nb:Nat)(ways:Nat→List Nat)(wend:Nat→Nat→Nat):Nat→Nat→Prop
 |z:Dq nb ways wend 0 0
 |s {b s to:Nat} (h:Dq nb ways wend b s) (hw:to∈ways b) (ht:to<nb):Dq nb ways wend to (wend b s)
structure H5(N:List GN)(E:List (List Nat))(nb:Nat)(ways:Nat→List Nat)(wend:Nat→Nat→Nat):Prop where
 nok:∀i g,N[i]?=some g→sU N nb i g
 ein:∀b p,p∈E.getD b []→∃g,N[p]?=some g∧((b=0∧g.pv=.nil)∨(g.pv≠.nil∧b∈ways g.b∧g.t=wend g.b))
 e0:∃p g,p∈E.getD 0 []∧N[p]?=some g∧g.pv=.nil∧g.kd=1
 eout:∀b to,b<nb→to∈ways b→to<nb→∃p g,p∈E.getD to []∧N[p]?=some g∧g.pv≠.nil∧g.b=b∧g.t=wend b
 par:∀b s,wend b s % 2=0→s % 2=0
section
variable{N:List GN}{E:List (List Nat)}{nb:Nat}{ways:Nat→List Nat}{wend:Nat→Nat→Nat}
theorem pM{g g':GN}{i:Nat}(h:N[i]?=some g)(h':N[i]?=some g'):g=g':=Wz (h.symm.trans h')
theorem Nl(G:H5 N E nb ways wend){f:Nat}(h:kP N E f):∀g,N[f]?=some g→g.pv≠.nil→∃s,Dq nb ways wend g.b s∧g.t s % 2=0:=by
 induction h with
 |start h hk hp=>
  intro g' e l
  obtain rfl:=pM h e
  cases G.nok _ _ h with
  |nil h=>exact(l h).elim
  |ent b h hk'=>rcases hk' with q |q <;> exact nomatch q.symm.trans hk
  |one p g' h=>rw[h] at hp;exact nomatch hp
  |sup p h=>rw[h] at hp;exact nomatch hp
 |@step f p g h hs hp r ih=>
  intro g' e l
  obtain rfl:=pM h e
  cases G.nok _ _ h with
  |nil h=>exact(l h).elim
  |ent b hv hk hb hl ht=>
   rw[hv] at hp
   obtain⟨g',hg,q |⟨hn,hw,q⟩⟩:=G.ein _ _ hp
   ·exact⟨0,(congrArg (λb=>Dq nb ways wend b 0) (hb.trans q.1)).mpr .z,ht▸rfl⟩
   ·obtain⟨s,h1,h2⟩:=ih _ hg hn
    exact⟨wend g'.b s,hb▸.s h1 hw hl,ht▸q▸h2⟩
  |one p' g' hv hp' hg hn hb hs ht=>
   rw[hv] at hp
   cases WD hp
   obtain⟨s,h1,h2⟩:=ih _ hg hn
   exact⟨s,hb▸h1,(ht s).trans h2⟩
  |sup p' hv hk hs'=>exact nomatch(hs hk).symm.trans hs'
theorem CB(G:H5 N E nb ways wend){b s:Nat}(hE:∀i g,N[i]?=some g→g.pv=.ent b→kP N E i)(f:Nat):∀g,N[f]?=some g→g.pv≠.nil→g.b=b→g.t s % 2=0→kP N E f:=
 Nat.strongRecOn (motive:=λf=>∀g,N[f]?=some g→g.pv≠.nil→g.b=b→g.t s % 2=0→kP N E f) f λf ih g e l hb hs=>by
  cases G.nok _ _ e with
  |nil h=>exact(l h).elim
  |ent b' hv hk hb'=>exact hE _ _ e (hv.trans (congrArg Pv.ent (hb'.symm.trans hb)))
  |one p g' hv hp hg hn hb' hs' ht=>exact .step e hs' (hv▸List.mem_singleton.mpr rfl) (ih p hp g' hg hn (hb'.symm.trans hb) ((ht s).symm.trans hs))
  |sup p hv hk hs' ht=>exact nomatch hs.symm.trans (ht s)
theorem Ie(G:H5 N E nb ways wend){b s:Nat}(h:Dq nb ways wend b s):s % 2=0→∀i g,N[i]?=some g→g.pv=.ent b→kP N E i:=by
 have st:∀b p i g,p∈E.getD b []→kP N E p→N[i]?=some g→g.pv=.ent b→kP N E i:=λb p i g hp r e hv=>by
  cases G.nok _ _ e with
  |ent b' hv' hk=>exact .step e (λk=>by rcases hk with q |q <;> exact nomatch q.symm.trans k) (hv▸hp) r
  |nil h=>exact nomatch hv.symm.trans h
  |one p g' h=>exact nomatch hv.symm.trans h
  |sup p h=>exact nomatch hv.symm.trans h
 induction h with
 |z=>
  intro _ i g e hv
  obtain⟨p,g',hp,hg,hn,hk⟩:=G.e0
  exact st 0 p i g hp (.start hg hk (hn▸rfl)) e hv
 |@s b s to h hw ht ih=>
  intro hs i g e hv
  obtain⟨p,g',hp,hg,hn,hb,q⟩:=G.eout b to (by cases h with |z=>exact Wg (Nat.zero_le _) ht |s _ _ h=>exact h) hw ht
  exact st to p i g hp (CB G (s:=s) (ih (G.par _ _ hs)) p g' hg hn hb (q▸hs)) e hv
theorem MO(G:H5 N E nb ways wend)(s:Nat)(f:Nat):∀g,N[f]?=some g→g.pv≠.nil→g.t s % 2=0→s % 2=0:=
 Nat.strongRecOn (motive:=λf=>∀g,N[f]?=some g→g.pv≠.nil→g.t s % 2=0→s % 2=0) f λf ih g e l hs=>by
  cases G.nok _ _ e with
  |nil h=>exact(l h).elim
  |ent b' hv hk hb' hl ht=>rw[ht] at hs;exact hs
  |one p g' hv hp hg hn hb' hs' ht=>exact ih p hp g' hg hn ((ht s).symm.trans hs)
  |sup p hv hk hs' ht=>exact nomatch hs.symm.trans (ht s)
theorem z7(G:H5 N E nb ways wend){f:Nat}{g:GN}(e:N[f]?=some g)(l:g.pv≠.nil):kP N E f↔∃s,Dq nb ways wend g.b s∧g.t s % 2=0:=
 ⟨λh=>Nl G h g e l,λ⟨s,h1,h2⟩=>CB G (s:=s) (Ie G h1 (MO G s f g e l h2)) f g e l rfl h2⟩
end
structure SP where
 gl:Rg 5
 L:List A
 s:Nat
 n:Int
 w:List Us
 F:Nat→Nat
 M:Nat→List Nat
 Bs:List A
 Ws:List A
 N:List GN
 E:List (List Nat)
 es:List (A×A)
def GV:A:=.fi 729 [("kinds",.g 7 0),("prevs",.g 8 0),("nodes",.g 9 0),("extras",.g 10 0),("at",.g 11 0),("ends",.fd []),("starts",.fd []),("busy",.fd []),("sets",.fl []),("hidden",.fd []),("memo",.fd []),("open",.int 0),("hits",.int 0),("epoch",.int 0)]
def lV(p:Pv):A:=@Pv.rec (λ_=>A) (.fl []) (λp=>.fl [.int (p:Nat)]) (λe=>.g 12 e) p
def mY(w:List Us)(F:Nat→Nat):List Ce:=w.map λu=>u.ce (.int (F u.i:Nat))
def oH(w:List Us)(M:Nat→List Nat):List Ce:=w.map λu=>.list ((M u.i).map λs=>.int (s:Nat))
def nA(E:List (List Nat)):List Ce:=E.map λl=>.list (l.map λp=>.int (p:Nat))
def SG(loc:List (List Ce))(P:SP):AS:=⟨loc,ac 5 1 [gC P.L P.s P.n] (ac 5 2 [.list (fU P.w)] (ac 5 3 (mY P.w P.F) (ac 5 4 (oH P.w P.M) (ac 5 5 [.list P.Bs] (ac 5 6 [.list P.Ws]
 (ac 5 7 [.list (P.N.map λg=>.int g.kd)] (ac 5 8 [.list (P.N.map λg=>lV g.pv)] (ac 5 9 [.list (P.N.map λg=>g.nd)] (ac 5 10 [.list (P.N.map λ_=>.tup [])] (ac 5 11 [.dict P.es] (ac 5 12 (nA P.E) P.gl)))))))))))⟩
def upd{α:Type}(F:Nat→α)(i:Nat)(x:α):Nat→α:=λj=>cond (Nat.beq j i) x (F j)
def dL(k:Int)(v:Nat)(es:List (A×A)):List (A×A):=bV (.int k) (.int k) (.int (v:Nat)) es
def sV(w:List Us):Prop:=∀(j:Nat) (u:Us),w[j]?=some u→u.i=j
theorem aE.idx:∀{w:List Us} {i:Nat} {lo hi:Int},aE w i lo hi→∀j u,w[j]?=some u→u.i=i+j:=λ{w}=>@List.rec Us (λw=>∀{i:Nat} {lo hi:Int},aE w i lo hi→∀j u,w[j]?=some u→u.i=i+j) (λ{_ _ _} _ j u e=>nomatch e)
 (λx r ih {i lo hi} h j=>@Nat.casesOn (λj=>∀u,(x::r)[j]?=some u→u.i=i+j) j (λu e=>Wz e▸h.1) λj u e=>(ih h.2.2.2 j u e).trans (Nat.add_right_comm i 1 j)) w
variable{loc:List (List Ce)}{P:SP}{u:Us}{now:Nat}{K:AS→Prop}{KK:KX}{k:Int}
theorem qD{f f':Us→Ce}{w:List Us}{i:Nat}(h:∀j x,w[j]?=some x→f' x=if i=j then f' x else f x){c:Ce}(hc:∀x,w[i]?=some x→f' x=c):(w.map f).set i c=w.map f':=List.ext_getElem? λj=>by
 rw[List.getElem?_set,List.getElem?_map,List.getElem?_map]
 by_cases e:i=j
 ·subst e
  rw[if_pos rfl,WO]
  cases q:w[i]? with
  |none=>rw[if_neg (Nat.not_lt.mpr (List.getElem?_eq_none_iff.mp q))];rfl
  |some x=>rw[if_pos (WK q).1,Option.map_some,hc x q]
 ·rw[if_neg e]
  cases q:w[j]? with
  |none=>rfl
  |some x=>rw[Option.map_some,Option.map_some];have:=h j x q;rw[if_neg e] at this;rw[this]
theorem mx{α:Type}{F:Nat→α}{i:Nat}{x:α}:upd F i x i=x:=by unfold upd;rw[Nat.beq_refl i];rfl
theorem nN{α:Type}{F:Nat→α}{i j:Nat}{x:α}(h:j≠i):upd F i x j=F j:=by unfold upd;rw[show Nat.beq j i=false from Bool.eq_false_iff.mpr λq=>h (Wv q)];rfl
theorem u3(hi:sV P.w)(hu:P.w[u.i]?=some u):(mY P.w P.F).set u.i (u.ce (.int (now:Nat)))=mY P.w (upd P.F u.i now):=qD (λj x hx=>by
  by_cases e:u.i=j
  ·rw[if_pos e]
  ·rw[if_neg e,hi j x hx,nN (Ne.symm e)]) λx hx=>by cases hu.symm.trans hx;rw[mx]
theorem jo(hu:P.w[u.i]?=some u):au (SG loc P) (.a (.g 3 u.i))=some (u.ce (.int (P.F u.i:Nat))):=by
 have e:(mY P.w P.F)[u.i]?=some (u.ce (.int (P.F u.i:Nat))):=by rw[mY,List.getElem?_map,hu];rfl
 exact congrArg (λo:Option Ce=>o.bind iy) e
theorem ua{S:AS}{l i:Nat}{c o:Ce}(h:(S.get l)[i]?=some o)(hl:Nat.ble l 31=true)(ho:jL o=false):fR S (.a (.g l i)) c=some (S.set l ((S.get l).set i c)):=by
 show(cont S (.g l i)).bind _=_
 rw[show cont S (.g l i)=some o by show cond (Nat.ble l 31) (S.get l)[i]? none=_;rw[hl];exact h]
 show cond (jL o) none (cond (Nat.ble l 31) _ none)=_
 rw[ho,hl];rfl
theorem xI(hi:sV P.w)(hu:P.w[u.i]?=some u)(h:K (SG loc {P with F:=upd P.F u.i now})):bv (.a (.g 3 u.i)) (.a (tx "flow")) (.a (.int (now:Nat))) (SG loc P) K:=by
 have e1:bv (.a (.g 3 u.i)) (.a (tx "flow")) (.a (.int (now:Nat))) (SG loc P) K=opt (fH (au (SG loc P) (.a (.g 3 u.i)))) λes=>opt (oB (tx "flow") (.int (now:Nat)) es) λes'=>ak es' (opt (fR (SG loc P) (.a (.g 3 u.i)) (.dict es')) K):=rfl
 rw[e1,jo hu]
 have e2:(opt (fH (some (u.ce (.int (P.F u.i:Nat))))) λes=>opt (oB (tx "flow") (.int (now:Nat)) es) λes'=>ak es' (opt (fR (SG loc P) (.a (.g 3 u.i)) (.dict es')) K))=opt (fR (SG loc P) (.a (.g 3 u.i)) (u.ce (.int (now:Nat)))) K:=by kernel_rfl
 rw[e2]
 refine aj (ua (o:=u.ce (.int (P.F u.i:Nat))) (show(mY P.w P.F)[u.i]?=_ by rw[mY,List.getElem?_map,hu];rfl) rfl rfl) ?_
 refine(congrArg K (show(SG loc P).set 3 ((mY P.w P.F).set u.i (u.ce (.int (now:Nat))))=SG loc {P with F:=upd P.F u.i now} from ?_)).mpr h
 rw[u3 hi hu]
 kernel_rfl
theorem xL(hu:P.w[u.i]?=some u)(h:KK (.a (.int (u.n+1))) (SG loc P)):ao (.a (.g 3 u.i)) (.a (tx "node")) (SG loc P) λx S=>cC x "nid" S KK:=by
 refine aj (a:=⟨tx "node",rfl⟩) rfl (aj (a:=u.who) ?_ (cast (by kernel_rfl) h))
 rw[jo hu];kernel_rfl
theorem xQ{S:AS}:cC (.a u.made) "nid" S KK=KK (.a (.int u.fin)) S:=by
 obtain⟨pl,fm,s,nm,mode,role,un⟩:=u
 exact@Uf.casesOn (λfm=>cC (.a (Us.made ⟨pl,fm,s,nm,mode,role,un⟩)) "nid" S KK=KK (.a (.int (Us.fin ⟨pl,fm,s,nm,mode,role,un⟩))) S) fm (by kernel_rfl) (by kernel_rfl) (by kernel_rfl) (by kernel_rfl)
theorem xY(hu:P.w[u.i]?=some u)(h:KK (.a (.int u.fin)) (SG loc P)):ao (.a (.g 3 u.i)) (.a (tx "made")) (SG loc P) λx S=>cC x "nid" S KK:=by
 refine aj (a:=⟨tx "made",rfl⟩) rfl (aj (a:=u.made) ?_ (xQ.mpr h))
 rw[jo hu];kernel_rfl
theorem vn(hl:P.es.length<900000)(h:K (SG loc {P with es:=dL k now P.es})):bv (.a (.g 11 0)) (.a (.int k)) (.a (.int (now:Nat))) (SG loc P) K:=
 have e:ak (dL k now P.es) (K (SG loc {P with es:=dL k now P.es})):=aA (aC (V9 (eK _) (V9 hl (by decide)))) h
 cast (by kernel_rfl) e
theorem gy{g:GN}(hl:P.N.length<900000)(h:KK (.a (.int (P.N.length:Nat))) (SG loc {P with N:=P.N++[g]})):ae {} 726 [.a GV,.a (.int g.kd),.a (lV g.pv),.a g.nd,.a (.tup [])] (SG loc P) KK:=by
 have e:∀{α:Type} {f:GN→α} {x:α},Nat.ble (P.N.map f++[x]).length 1000000=true:=λ{α f x}=>aC (by rw[WN,WO];exact V9 hl (by decide))
 have q:aw (Nat.ble (P.N.map (λg=>A.int g.kd)++[A.int g.kd]).length 1000000) (aw (Nat.ble (P.N.map (λg=>lV g.pv)++[lV g.pv]).length 1000000) (aw (Nat.ble (P.N.map (λg=>g.nd)++[g.nd]).length 1000000) (aw (Nat.ble (P.N.map (λ_=>A.tup [])++[A.tup []]).length 1000000)
   (KK (.a (.int (((P.N.map (λg=>A.int g.kd)++[A.int g.kd]).length:Nat) - 1))) (⟨loc,ac 5 7 [.list (P.N.map (λg=>A.int g.kd)++[A.int g.kd])] (ac 5 8 [.list (P.N.map (λg=>lV g.pv)++[lV g.pv])] (ac 5 9 [.list (P.N.map (λg=>g.nd)++[g.nd])] (ac 5 10 [.list (P.N.map (λ_=>A.tup [])++[A.tup []])] (SG loc P).gl)))⟩)) False) False) False) False:=by
  refine aA e (aA e (aA e (aA e ?_)))
  rw[WN,WO,show((P.N.length+[A.int g.kd].length:Nat):Int) - 1=(P.N.length:Nat) from(Int.add_sub_cancel (P.N.length:Int) 1:((P.N.length:Nat):Int)+1 - 1=_)]
  refine(congrArg (λS=>KK _ S) (show _=SG loc {P with N:=P.N++[g]} from ?_)).mpr h
  unfold SG
  rw[WS,WS,WS,WS]
  kernel_rfl
 exact cast (by kernel_rfl) q
structure LS where
 now:Nat
 t:Nat→Nat
 P:SP
def oE(s:Str):Nat:=cond (PyData.eqv (.str "x") (.str s)) 2 (cond (PyData.eqv (.str "y") (.str s)) 4 (cond (PyData.eqv (.str "z") (.str s)) 8 0))
def fw(u:Option Us):Nat:=alt u (λu=>cond u.sup 0 (oE u.name)) 0
def cj(u:Option Us)(now:Nat)(P:SP):SP:=alt u (λu=>{P with F:=upd P.F u.i now,es:=dL u.fin now (dL (u.n+1) now P.es)}) P
def cM(P:SP)(g:GN):SP:={P with N:=P.N++[g]}
def gH(b:Nat)(q:LS)(s:S1):LS:=
 have P:SP:=cj s.u q.now q.P
 oo s.w ⟨P.N.length,λx=>q.t x |||1,cM P ⟨7,.one q.now,s.t,true,b,λx=>q.t x |||1⟩⟩ ⟨q.now,q.t,P⟩ ⟨P.N.length,q.t,cM P ⟨7,.one q.now,s.t,false,b,q.t⟩⟩
  ⟨P.N.length,λx=>q.t x |||fw s.u,cM P ⟨4,.one q.now,s.t,false,b,λx=>q.t x |||fw s.u⟩⟩
def f6(b:Nat)(ss:List S1)(q:LS):LS:=@List.rec S1 (λ_=>LS→LS) id (λs _ ih q=>ih (gH b q s)) ss q
def oS(b:Nat)(t:A)(q:LS):LS:=⟨q.P.N.length,q.t,cM q.P ⟨1,.one q.now,t,false,b,q.t⟩⟩
def iW(b:Nat)(q:LS)(T:aB):LS:=A4 T (gH b q) λss t=>⟨q.now,q.t,(f6 b ss (oS b t q)).P⟩
def b9(b:Nat)(Ts:List aB)(q:LS):LS:=@List.rec aB (λ_=>LS→LS) id (λT _ ih q=>ih (iW b q T)) Ts q
def vK(T:aB):Nat:=A4 T (λ_=>2) λss _=>1+2*ss.length
def dm(Ts:List aB):Nat:=@List.rec aB (λ_=>Nat) 0 (λT _ ih=>vK T+ih) Ts
structure yh(k:Nat)(Ts:List aB)(P:SP):Prop where
 idx:sV P.w
 us:∀u∈ic Ts,P.w[u.i]?=some u
 nl:P.N.length+dm Ts<900000
 el:P.es.length+dm Ts<900000
 lv:k=0→∀T∈Ts,∃s,T=.one s
def f8(k:Nat)(xs:List X)(S:AS)(K:KX):Prop:=∃b Ts q,xs=[.a (.g 1 0),.a GV,.a (.fl (Ts.map aB.den)),.a (.int (q.now:Nat))]∧S=SG S.loc q.P∧yh k Ts q.P∧K (.a (.int ((b9 b Ts q).now:Nat))) (SG S.loc (b9 b Ts q).P)
def Io(k:Nat):ay:=@Nat.rec (λ_=>ay) (λ_ _ _=>False) (λk _=>f8 k) k
def H9(C1 C2:ay):bA:={fn:=λa=>lk a [(726,C1),(1560,C2)],sy:=[1169004]}
def AP(k:Nat):bA:=H9 (ae {} 726) (Io k)
def eB(st:A)(now:X)(m:Option (A×A)):List (Str×X):=alt m (λq=>([("g",.a (.g 1 0)),("graph",.a GV),("steps",.a st),("now",now),("step",.a q.1),("one",.a q.2)]:List (Str×X))) [("g",.a (.g 1 0)),("graph",.a GV),("steps",.a st),("now",now)]
def LA(one now:A)(S:AS)(K:AS→Prop):Prop:=bv (.a one) (.a (tx "flow")) (.a now) S λS=>ao (.a one) (.a (tx "node")) S λx S=>cC x "nid" S λk S=>bv (.a (.g 11 0)) k (.a now) S λS=>ao (.a one) (.a (tx "made")) S λx S=>cC x "nid" S λk S=>bv (.a (.g 11 0)) k (.a now) S K
def JI(C1:ay)(k:Int)(now t:A)(S:AS)(K:KX):Prop:=C1 [.a GV,.a (.int k),.a (.fl [now]),.a t,.a (.tup [])] S K
def jZ(C1:ay)(w:Wk)(st now one sd t:A)(K:KN)(S:AS):Prop:=oo w (JI C1 7 now t S λx S=>K (eB st x (some (sd,one))) S) (K (eB st (.a now) (some (sd,one))) S) (JI C1 7 now t S λx S=>K (eB st x (some (sd,one))) S) (JI C1 4 now t S λx S=>K (eB st x (some (sd,one))) S)
def WW:List Wk:=[.sup,.idle,.call,.set]
theorem ww(w:Wk):w∈WW:=@Wk.casesOn (λw=>w∈WW) w (.head _) (.tail _ (.head _)) (.tail _ (.tail _ (.head _))) (.tail _ (.tail _ (.tail _ (.head _))))
section
variable(C1 C2:ay)(K:KN)(R:KX)(st now t:A)(S:AS)(u:Us)(ss:List S1)(m:Option (A×A))
def gO(T:aB)(m:Option (A×A)):Prop:=dw (H9 C1 C2) 1560 0 K R T.den (eB st (.a now) m) S
theorem Ko:WW.map (λw=>gO C1 C2 K R st now S (.one ⟨w,none,t⟩) m)=WW.map λw=>jZ C1 w st now .none (S1.den ⟨w,none,t⟩) t K S:=@Option.casesOn (A×A) (λm=>WW.map (λw=>gO C1 C2 K R st now S (.one ⟨w,none,t⟩) m)=WW.map λw=>jZ C1 w st now .none (S1.den ⟨w,none,t⟩) t K S) m (by kernel_rfl) λq=>by kernel_rfl
theorem G4(w:Wk):gO C1 C2 K R st now S (.one ⟨w,some u,t⟩) none=LA (.g 3 u.i) now S λS=>jZ C1 w st now (.g 3 u.i) (S1.den ⟨w,some u,t⟩) t K S:=@Wk.casesOn (λw=>gO C1 C2 K R st now S (.one ⟨w,some u,t⟩) none=LA (.g 3 u.i) now S λS=>jZ C1 w st now (.g 3 u.i) (S1.den ⟨w,some u,t⟩) t K S) w (by kernel_rfl) (by kernel_rfl) (by kernel_rfl) (by kernel_rfl)
theorem DN(w:Wk)(q:A×A):gO C1 C2 K R st now S (.one ⟨w,some u,t⟩) (some q)=LA (.g 3 u.i) now S λS=>jZ C1 w st now (.g 3 u.i) (S1.den ⟨w,some u,t⟩) t K S:=@Wk.casesOn (λw=>gO C1 C2 K R st now S (.one ⟨w,some u,t⟩) (some q)=LA (.g 3 u.i) now S λS=>jZ C1 w st now (.g 3 u.i) (S1.den ⟨w,some u,t⟩) t K S) w (by kernel_rfl) (by kernel_rfl) (by kernel_rfl) (by kernel_rfl)
theorem Kf(w:Wk):gO C1 C2 K R st now S (.one ⟨w,some u,t⟩) m=LA (.g 3 u.i) now S λS=>jZ C1 w st now (.g 3 u.i) (S1.den ⟨w,some u,t⟩) t K S:=@Option.casesOn (A×A) (λm=>gO C1 C2 K R st now S (.one ⟨w,some u,t⟩) m=LA (.g 3 u.i) now S λS=>jZ C1 w st now (.g 3 u.i) (S1.den ⟨w,some u,t⟩) t K S) m (G4 C1 C2 K R st now t S u w) (DN C1 C2 K R st now t S u w)
theorem Nd:gO C1 C2 K R st now S (.arr ss t) m=JI C1 1 now t S λx S=>C2 [.a (.g 1 0),.a GV,.a (.fl (ss.map S1.den)),x] S λ_ S=>K (eB st (.a now) (some (aB.den (.arr ss t),.none))) S:=@Option.casesOn (A×A) (λm=>gO C1 C2 K R st now S (.arr ss t) m=JI C1 1 now t S λx S=>C2 [.a (.g 1 0),.a GV,.a (.fl (ss.map S1.den)),x] S λ_ S=>K (eB st (.a now) (some (aB.den (.arr ss t),.none))) S) m (by kernel_rfl) λq=>by kernel_rfl
end
structure Gw(P P':SP)(j:Nat):Prop where
 w:P'.w=P.w
 n:P'.N.length≤P.N.length+j
 e:P'.es.length≤P.es.length+j
theorem Gw.refl{P:SP}{j:Nat}:Gw P P j:=⟨rfl,Wo _ _,Wo _ _⟩
theorem Gw.trans{P P' P'':SP}{i j:Nat}(h:Gw P P' i)(h':Gw P' P'' j):Gw P P'' (i+j):=⟨h'.w.trans h.w,V9 h'.n (Nat.add_assoc _ i j▸Wl h.n j),V9 h'.e (Nat.add_assoc _ i j▸Wl h.e j)⟩
theorem Gw.add{P:SP}{g:GN}{j:Nat}:Gw P (cM P g) (j+1):=⟨rfl,by show(P.N++[g]).length≤_;rw[WN,Nat.add_comm j 1,← Nat.add_assoc];exact Wo _ _,Wo _ _⟩
theorem Gw.add2{P P':SP}{g:GN}(h:Gw P P' 2)(hn:P'.N=P.N):Gw P (cM P' g) 2:=⟨h.w,by show(P'.N++[g]).length≤_;rw[WN,hn];exact Wj (Nat.le_succ 1) _,h.e⟩
theorem NT{u:Option Us}{now:Nat}{P:SP}:Gw P (cj u now P) 2∧(cj u now P).N=P.N:=@Option.casesOn Us (λu=>Gw P (cj u now P) 2∧(cj u now P).N=P.N) u ⟨.refl,rfl⟩ λu=>⟨⟨rfl,Wo _ _,V9 (eK _) (Ww (eK _))⟩,rfl⟩
section
variable{b k:Nat}{q:LS}{s:S1}{T:aB}{ss:List S1}{t:A}{Ts:List aB}{P:SP}{loc:List (List Ce)}{K:KN}{R:KX}{st:A}{m:Option (A×A)}{u:Us}{now:Nat}{KA:AS→Prop}
theorem Kz:Gw q.P (gH b q s).P 2:=by
 have h:=@NT s.u q.now q.P
 obtain⟨w,u,t⟩:=s
 exact@Wk.casesOn (λw=>Gw q.P (gH b q ⟨w,u,t⟩).P 2) w (h.1.add2 h.2) h.1 (h.1.add2 h.2) (h.1.add2 h.2)
theorem Sc:∀{ss:List S1} {q:LS},Gw q.P (f6 b ss q).P (2*ss.length):=λ{ss}=>@List.rec S1 (λss=>∀{q:LS},Gw q.P (f6 b ss q).P (2*ss.length)) (λ{q}=>.refl) (λs r ih {q}=>(congrArg (Gw _ _) (Nat.add_comm 2 (2*r.length))).mp (Kz.trans ih)) ss
theorem Ni:Gw q.P (iW b q T).P (vK T):=@aB.casesOn (λT=>Gw q.P (iW b q T).P (vK T)) T (λs=>Kz) λss t=>(show Gw q.P (oS b t q).P 1 from Gw.add).trans Sc
theorem qq:∀{Ts:List aB} {q:LS},Gw q.P (b9 b Ts q).P (dm Ts):=λ{Ts}=>@List.rec aB (λTs=>∀{q:LS},Gw q.P (b9 b Ts q).P (dm Ts)) (λ{q}=>.refl) (λs r ih {q}=>Ni.trans ih) Ts
theorem yh.next{P':SP}(h:yh k (T::Ts) P)(g:Gw P P' (vK T)):yh k Ts P':=⟨g.w▸h.idx,λu hu=>g.w▸h.us u (WG _ hu),Wg (Wl g.n _) (Nat.add_assoc _ (vK T) _▸h.nl),Wg (Wl g.e _) (Nat.add_assoc _ (vK T) _▸h.el),λe T' h'=>h.lv e T' (.tail _ h')⟩
theorem K2(hi:sV P.w)(hu:P.w[u.i]?=some u)(hl:P.es.length+2<900000)(h:KA (SG loc (cj (some u) now P))):LA (.g 3 u.i) (.int (now:Nat)) (SG loc P) KA:=
 xI hi hu (xL (P:={P with F:=upd P.F u.i now}) hu (vn (Wg (Wo _ 2) hl) (xY (P:={P with F:=upd P.F u.i now,es:=dL (u.n+1) now P.es}) hu (vn (P:={P with F:=upd P.F u.i now,es:=dL (u.n+1) now P.es}) (Wg (eK _) (Nat.lt_of_succ_lt hl)) h))))
theorem Ba{one sd:A}(hl:P.N.length<900000)(w:Wk)(f:∀m,K (eB st (.a (.int (oo w P.N.length now P.N.length P.N.length:Nat))) m) (SG loc (oo w (cM P ⟨7,.one now,t,true,b,λx=>q.t x |||1⟩) P (cM P ⟨7,.one now,t,false,b,q.t⟩) (cM P ⟨4,.one now,t,false,b,λx=>q.t x |||fw s.u⟩)))):jZ (ae {} 726) w st (.int (now:Nat)) one sd t K (SG loc P):=
 @Wk.casesOn (λw=>(∀m,K (eB st (.a (.int (oo w P.N.length now P.N.length P.N.length:Nat))) m) (SG loc (oo w (cM P ⟨7,.one now,t,true,b,λx=>q.t x |||1⟩) P (cM P ⟨7,.one now,t,false,b,q.t⟩) (cM P ⟨4,.one now,t,false,b,λx=>q.t x |||fw s.u⟩))))→jZ (ae {} 726) w st (.int (now:Nat)) one sd t K (SG loc P)) w
  (λf=>gy (g:=⟨7,.one now,t,true,b,λx=>q.t x |||1⟩) hl (f _)) (λf=>f _) (λf=>gy (g:=⟨7,.one now,t,false,b,q.t⟩) hl (f _)) (λf=>gy (g:=⟨4,.one now,t,false,b,λx=>q.t x |||fw s.u⟩) hl (f _)) f
theorem wr:(gH b q s).now=oo s.w (cj s.u q.now q.P).N.length q.now (cj s.u q.now q.P).N.length (cj s.u q.now q.P).N.length∧(gH b q s).P=oo s.w (cM (cj s.u q.now q.P) ⟨7,.one q.now,s.t,true,b,λx=>q.t x |||1⟩) (cj s.u q.now q.P) (cM (cj s.u q.now q.P) ⟨7,.one q.now,s.t,false,b,q.t⟩) (cM (cj s.u q.now q.P) ⟨4,.one q.now,s.t,false,b,λx=>q.t x |||fw s.u⟩):=by
 obtain⟨w,u,t⟩:=s
 exact@Wk.casesOn (λw=>(gH b q ⟨w,u,t⟩).now=oo w (cj u q.now q.P).N.length q.now (cj u q.now q.P).N.length (cj u q.now q.P).N.length∧(gH b q ⟨w,u,t⟩).P=oo w (cM (cj u q.now q.P) ⟨7,.one q.now,t,true,b,λx=>q.t x |||1⟩) (cj u q.now q.P) (cM (cj u q.now q.P) ⟨7,.one q.now,t,false,b,q.t⟩) (cM (cj u q.now q.P) ⟨4,.one q.now,t,false,b,λx=>q.t x |||fw u⟩)) w ⟨rfl,rfl⟩ ⟨rfl,rfl⟩ ⟨rfl,rfl⟩ ⟨rfl,rfl⟩
theorem Ak{C2:ay}(hi:sV q.P.w)(hu:∀u,s.u=some u→q.P.w[u.i]?=some u)(hn:q.P.N.length+2<900000)(he:q.P.es.length+2<900000)(f:∀m,K (eB st (.a (.int ((gH b q s).now:Nat))) m) (SG loc (gH b q s).P)):gO (ae {} 726) C2 K R st (.int (q.now:Nat)) (SG loc q.P) (.one s) m:=by
 have e:=@wr b q s
 have hl:(cj s.u q.now q.P).N.length<900000:=(@NT s.u q.now q.P).2▸Wg (Wo _ 2) hn
 have g:=λone sd=>Ba (b:=b) (q:=q) (s:=s) (st:=st) (t:=s.t) (loc:=loc) (K:=K) (one:=one) (sd:=sd) (now:=q.now) hl s.w (e.1▸e.2▸f)
 obtain⟨w,u,t⟩:=s
 cases u with
 |none=>exact WA (Ko (ae {} 726) C2 K R st (.int (q.now:Nat)) t (SG loc q.P) m) w (ww w)▸g _ _
 |some u=>exact(Kf (ae {} 726) C2 K R st (.int (q.now:Nat)) t (SG loc q.P) u m w).mpr (K2 hi (hu u rfl) he (g _ _))
end
variable{b k:Nat}{q:LS}{s:S1}{T:aB}{ss:List S1}{t:A}{Ts:List aB}{K:KN}{R:KX}{st:A}{m:Option (A×A)}{KX':KX}
theorem xO:∀{ss:List S1} {q:LS},b9 b (ss.map aB.one) q=f6 b ss q:=λ{ss}=>@List.rec S1 (λss=>∀{q:LS},b9 b (ss.map aB.one) q=f6 b ss q) (λ{q}=>rfl) (λs r ih {q}=>ih) ss
theorem qd:∀{ss:List S1},ic (ss.map aB.one)=ss.flatMap λs=>s.u.toList:=λ{ss}=>@List.rec S1 (λss=>ic (ss.map aB.one)=ss.flatMap λs=>s.u.toList) rfl (λs r ih=>congrArg (s.u.toList++·) ih) ss
theorem lO:∀{ss:List S1},dm (ss.map aB.one)=2*ss.length:=λ{ss}=>@List.rec S1 (λss=>dm (ss.map aB.one)=2*ss.length) rfl (λs r ih=>(congrArg (2+·) ih).trans (Nat.add_comm 2 _)) ss
theorem z5(ok:yh (k+1) (.arr ss t::Ts) q.P)(f:∀m,K (eB st (.a (.int ((iW b q (.arr ss t)).now:Nat))) m) (SG loc (iW b q (.arr ss t)).P)):gO (ae {} 726) (Io (k+1)) K R st (.int (q.now:Nat)) (SG loc q.P) (.arr ss t) m:=by
 refine(Nd (ae {} 726) (Io (k+1)) K R st (.int (q.now:Nat)) t (SG loc q.P) ss m).mpr (gy (g:=⟨1,.one q.now,t,false,b,q.t⟩) (Wg (Wo _ _) ok.nl) ?_)
 have e1:(ss.map aB.one).map aB.den=ss.map S1.den:=List.map_map
 refine⟨b,ss.map aB.one,oS b t q,by rw[e1];rfl,rfl,⟨ok.idx,λu hu=>ok.us u (WH _ ((congrArg (λl=>u∈l) qd).mp hu)),?_,?_,λ_ T h=>(List.mem_map.mp h).elim λs h=>⟨s,h.2.symm⟩⟩,?_⟩
 ·rw[lO]
  refine Wg ?_ ok.nl
  show(q.P.N++[_]).length+2*ss.length≤q.P.N.length+(1+2*ss.length+dm Ts)
  rw[WN,Nat.add_assoc]
  exact Wj (Wo _ _) _
 ·rw[lO]
  refine Wg ?_ ok.el
  exact Wj (V9 (Wp _ 1) (Wo _ _)) _
 ·rw[xO]
  exact f _
theorem xU(ok:yh k (T::Ts) q.P)(f:∀m,K (eB st (.a (.int ((iW b q T).now:Nat))) m) (SG loc (iW b q T).P)):gO (ae {} 726) (Io k) K R st (.int (q.now:Nat)) (SG loc q.P) T m:=by
 cases T with
 |one s=>exact Ak ok.idx (λu hu=>ok.us u (WH _ (show u∈s.u.toList from hu▸List.mem_singleton.mpr rfl))) (Wg (Wj (Wo 2 _) _) ok.nl) (Wg (Wj (Wo 2 _) _) ok.el) f
 |arr ss t=>cases k with
  |zero=>exact(ok.lv rfl _ (.head _)).elim λs h=>nomatch h
  |succ k=>exact z5 ok f
inductive LI(loc:List (List Ce))(st:A)(k b:Nat)(Q:LS)(Ts:List aB):En→AS→Prop
 |mk (m:Option (A×A)) (q:LS) (h:b9 b Ts q=Q) (ok:yh k Ts q.P):LI loc st k b Q Ts (eB st (.a (.int (q.now:Nat))) m) (SG loc q.P)
theorem NR{C1 C2:ay}{l:List A}{x:X}{S:AS}(h:∃n,fV (H9 C1 C2) 1560 0 K R (.a (.fl l)) n 0 (eB (.fl l) x none) S):a9 (H9 C1 C2) 1560 0 1 (eB (.fl l) x none) S K R:=cast (by kernel_rfl) h
theorem yV{C1 C2:ay}{x:A}{fr:List Ce}{gl:Rg 5}(h:KX' (.a x) ⟨loc,gl⟩):rest (H9 C1 C2) 1560 1 (eB st (.a x) m) ⟨fr::loc,gl⟩ KX':=@Option.casesOn (A×A) (λm=>rest (H9 C1 C2) 1560 1 (eB st (.a x) m) ⟨fr::loc,gl⟩ KX') m (cast (by kernel_rfl) h) λq=>cast (by kernel_rfl) h
theorem A2(ok:yh k Ts q.P)(h:KX' (.a (.int ((b9 b Ts q).now:Nat))) (SG loc (b9 b Ts q).P)):ae (AP k) 1560 [.a (.g 1 0),.a GV,.a (.fl (Ts.map aB.den)),.a (.int (q.now:Nat))] (SG loc q.P) KX':=by
 refine bx (fi:=Fa 1560) (by kernel_rfl) rfl (by kernel_rfl) (env:=eB (.fl (Ts.map aB.den)) (.a (.int (q.now:Nat))) none) (by kernel_rfl) (ag (j:=1) (NR ⟨Ts.length+1,?_⟩))
 exact q7 (f:=aB.den) (P:=λTs'=>LI ([]::loc) (.fl (Ts.map aB.den)) k b (b9 b Ts q) Ts') (xs:=Ts) (fi:=Fa 1560) (s:=Fb 1560 0) (p:=Fp 1560 0) (by kernel_rfl) (by kernel_rfl) (by kernel_rfl) (λS=>rfl)
  (λenv S hI=>@LI.casesOn ([]::loc) (.fl (Ts.map aB.den)) k b (b9 b Ts q) [] (λenv S _=>rest (AP k) 1560 1 env S KX') env S hI λm q' e ok=>yV (by rw[show q'=b9 b Ts q from e];exact h))
  (λT Ts' env S K' hI f=>@LI.casesOn ([]::loc) (.fl (Ts.map aB.den)) k b (b9 b Ts q) (T::Ts') (λenv S _=>dw (AP k) 1560 0 K' _ T.den env S) env S hI λm q' e ok=>xU ok λm=>f _ _ (.mk m (iW b q' T) e (ok.next Ni)))
  Ts [] _ _ rfl (.mk none q rfl ok)
theorem Cj{xs:List X}{S:AS}(h:f8 k xs S KX'):ae (AP k) 1560 xs S KX':=by
 obtain⟨b,Ts,q,rfl,e,ok,h⟩:=h
 rw[e]
 exact A2 ok h
def sS(C1 C2 C3:ay):bA:={fn:=λa=>lk a [(726,C1),(1560,C2),(1489,C3)],sy:=[1185004]}
def l5(b:Nat):GN:=⟨cond (Nat.beq (b % 2) 0) 2 3,.ent b,.none,false,b,id⟩
def kc:GN:=⟨0,.nil,.none,false,0,id⟩
def sC(c:A):GN:=⟨1,.nil,c,false,0,id⟩
def N0(nb:Nat)(c:A):List GN:=kc::((List.range nb).map l5++[sC c])
def E0(nb:Nat):List (List Nat):=(List.range nb).map λb=>cond (Nat.beq b 0) [nb+1] []
def ke(nb:Nat):A:=.fl ((List.range nb).map λb=>.int ((b+1:Nat):Int))
abbrev Rv:=((X×X)×(X×X))×Option X
def VI(q:Rv):List (Str×X):=alt q.2 (λx=>([("place",q.1.1.1),("now",q.1.1.2),("side",q.1.2.1),("to",q.1.2.2),("asked",x)]:List (Str×X))) [("place",q.1.1.1),("now",q.1.1.2),("side",q.1.2.1),("to",q.1.2.2)]
def sL(c ents:A)(m:Option Rv):List (Str×X):=([("g",.a (.g 1 0)),("graph",.a GV),("blocks",.a (.g 5 0)),("ways",.a (.g 6 0)),("ctor",.a c),("entries",.a ents)]:List (Str×X))++alt m VI []
section
variable(C1 C2 C3:ay)(K:KN)(R:KX)(c:A)(loc:List (List Ce))(P:SP)
def LC(Bs:List A):Prop:=a9 (sS (ae {} 726) C2 C3) 1565 0 2 [("g",.a (.g 1 0)),("graph",.a GV),("blocks",.a (.g 5 0)),("ways",.a (.g 6 0)),("ctor",.a c)] (SG loc {P with Bs:=Bs,N:=[kc],E:=[],es:=[]}) K R
def Nu(Bs:List A)(nb:Nat):Prop:=K (sL c (ke nb) none) (SG loc {P with Bs:=Bs,N:=N0 nb c,E:=E0 nb,es:=[]})
theorem QL(x:A)(h:Nu K c loc P [x] 1):LC C2 C3 K R c loc P [x]:=cast (by kernel_rfl) h
theorem ST(x y:A)(h:Nu K c loc P [x,y] 2):LC C2 C3 K R c loc P [x,y]:=cast (by kernel_rfl) h
theorem Pi(x y z:A)(h:Nu K c loc P [x,y,z] 3):LC C2 C3 K R c loc P [x,y,z]:=cast (by kernel_rfl) h
theorem TY(x y z w:A)(h:Nu K c loc P [x,y,z,w] 4):LC C2 C3 K R c loc P [x,y,z,w]:=cast (by kernel_rfl) h
end
section
variable(C1 C2 C3:ay)(K:KN)(R:KX)(c ents:A)(S:AS)(j:Int)
def TV(sd kd:Int)(now:X)(a:Option X)(S:AS)(K:Option X→X→AS→Prop):Prop:=
 ao (.a (.g 6 0)) (.a (.int j)) S λv S=>ao v (.a (.int sd)) S λto S=>opt (AC (.a (.g 5 0)) (au S (.a (.g 5 0)))) λn=>dE .Lt to (.a (.int n)) S λc=>aw c
  (C3 [.a (.g 1 0),.a (.int 8),.a (tx "c"),.a (.fl [])] S λx S=>ao (.a ents) to S λe S=>ao (.a (.g 8 0)) e S λr S=>opt (dT S r "append") λm=>opt (q6 S now) λp=>C1 [.a GV,.a (.int kd),.a (.fl [p.1]),x,.a (.tup [])] p.2 λy S=>bK (sS C1 C2 C3) m r "append" [y] S λ_ S=>K (some x) to S)
  (K a to S)
def NE(a:Option X):Prop:=ao (.a (.g 5 0)) (.a (.int j)) S λbl S=>ao (.a ents) (.a (.int j)) S λe S=>C2 [.a (.g 1 0),.a GV,bl,e] S λnow S=>TV C1 C2 C3 ents j 0 5 now a S λa to S=>TV C1 C2 C3 ents j 1 6 now a S λa to S=>K (sL c ents (some (((.a (.int j),now),(.a (.int 1),to)),a))) S
theorem I0(h:NE C1 C2 C3 K c ents S j none):dw (sS C1 C2 C3) 1565 2 K R (.int j) (sL c ents none) S:=cast (by kernel_rfl) h
theorem NZ(q:(X×X)×(X×X))(h:NE C1 C2 C3 K c ents S j none):dw (sS C1 C2 C3) 1565 2 K R (.int j) (sL c ents (some (q,none))) S:=cast (by kernel_rfl) h
theorem L3(q:(X×X)×(X×X))(x:X)(h:NE C1 C2 C3 K c ents S j (some x)):dw (sS C1 C2 C3) 1565 2 K R (.int j) (sL c ents (some (q,some x))) S:=cast (by kernel_rfl) h
end
def ll(n:Int):A:=nd 8 (tx "c") [] 0 (n+1)
def IL(kd:Int)(to now b:Nat)(t:Nat→Nat)(P:SP):SP:={P with n:=P.n+1,N:=P.N++[⟨kd,.one now,ll P.n,false,b,t⟩],E:=P.E.set to (P.E.getD to []++[P.N.length])}
def bD(nb:Nat)(kd:Int)(to now b:Nat)(t:Nat→Nat)(P:SP):SP:=cond (Nat.blt to nb) (IL kd to now b t P) P
def aF(j:Nat)(Ts:List aB)(P:SP):LS:=b9 j Ts ⟨j+1,id,P⟩
def bQ(nb j:Nat)(Ts:List aB)(w:Nat×Nat)(P:SP):SP:=bD nb 6 w.2 (aF j Ts P).now j (aF j Ts P).t (bD nb 5 w.1 (aF j Ts P).now j (aF j Ts P).t (aF j Ts P).P)
structure iP(nb:Nat)(P:SP)(r:Nat):Prop where
 bl:P.Bs.length=nb
 ent:∀b,b<nb→∃g,P.N[b+1]?=some g∧g.pv=.ent b
 el:P.E.length=nb
 es:∀b,(P.E.getD b []).length+r<900
 nl:P.N.length+r<900
theorem Sx{x:Nat}(h:x<900):x<900000:=Wi h (by decide)
section
variable{C2:ay}{K:Option X→X→AS→Prop}{nb r j sd to:Nat}{kd:Int}{t:Nat→Nat}{a:Option X}{w:Nat×Nat}
theorem t6(h:KK (.a (ll P.n)) (SG loc {P with n:=P.n+1})):dX P.L [.a (.g 1 0),.a (.int 8),.a (tx "c"),.a (.fl [])] (SG loc P) KK:=
 have e:P.L=P.L∧KK (.a (ll P.n)) (SG loc {P with n:=P.n+1}):=⟨rfl,h⟩
 cast (by kernel_rfl) e
theorem da{S:AS}{x:X}{l:List A}{i:Nat}{v:A}(hx:uT x=none)(hs:uS x=none)(hl:au S x=some (.list l))(h:l[i]?=some v)(k:KK (.a v) S):ao x (.a (.int (i:Nat))) S KK:=by
 refine aj (a:=⟨.int (i:Nat),rfl⟩) rfl (aj (a:=v) ?_ k)
 show alt (uT x) _ (alt (uS x) _ (alt (ba (au S x)) _ _))=_
 rw[hx,hs,hl]
 exact h
theorem mV(h:to<nb):((List.range nb).map λb=>A.int ((b+1:Nat):Int))[to]?=some (.int ((to+1:Nat):Int)):=by rw[List.getElem?_map,List.getElem?_range h];rfl
theorem tb{S:AS}{l i:Nat}{xs:List A}(h:cont S (.g l i)=some (.list xs)):dT S (.a (.g l i)) "append"=some .list:=by
 show((cont S (.g l i)).bind iy).bind _=_
 have e:si S (.a (.g l i))=true:=by show alt (cont S (.g l i)) (λo=> !jL o) false=true;rw[h];rfl
 rw[h]
 show cond (si S (.a (.g l i))&&_) (some MR.list) none=_
 rw[e];rfl
theorem nF{T:bA}{S:AS}{l i:Nat}{xs:List A}{v:A}(hl:Nat.ble l 31=true)(h:(S.get l)[i]?=some (.list xs))(hn:xs.length<900000)(k:KK (.a .none) (S.set l ((S.get l).set i (.list (xs++[v]))))):bK T .list (.a (.g l i)) "append" [.a v] S KK:=by
 have e:cont S (.g l i)=some (.list xs):=by show cond (Nat.ble l 31) (S.get l)[i]? none=_;rw[hl];exact h
 show opt (ba ((cont S (.g l i)).bind iy)) _
 rw[e]
 exact aA (aC (by rw[WN];exact V9 hn (by decide))) (aj (ua h hl rfl) k)
theorem JG{E':List (List Nat)}{x:List Nat}(h:E'=P.E.set to x):(SG loc P).set 12 ((nA P.E).set to (.list (x.map λp=>.int (p:Nat))))=SG loc {P with E:=E'}:=by
 subst h
 rw[show(nA P.E).set to (.list (x.map λp=>.int (p:Nat)))=nA (P.E.set to x) from(List.map_set ..).symm]
 kernel_rfl
theorem pS(hw:P.Ws[j]?=some (cZ w))(hto:([A.int (w.1:Nat),.int (w.2:Nat)])[sd]?=some (.int (to:Nat)))(I:iP nb P (r+1))(f:∀a x,K a x (SG loc (bD nb kd to now b t P))):TV (ae {} 726) C2 (dX P.L) (ke nb) j sd kd (.a (.int (now:Nat))) a (SG loc P) K:=by
 refine da (l:=P.Ws) rfl rfl rfl hw ?_
 refine aj (a:=⟨.int (sd:Nat),rfl⟩) rfl (aj (a:=.int (to:Nat)) (show aM (.a (cZ w)) (.int (sd:Nat)) (au (SG loc P) (.a (cZ w)))=some (.int (to:Nat)) from hto) ?_)
 refine aj (a:=nb) (show some P.Bs.length=some nb from congrArg some I.bl) ?_
 have f':=λa x=>f a x
 unfold bD at f'
 refine(aX (b:=decide ((to:Int)<(nb:Int))) (λq=>?_) λq=>?_:aw _ _ _)
 ·have hlt:to<nb:=WM (of_decide_eq_true q)
  rw[show Nat.blt to nb=true from Wx hlt] at f'
  obtain⟨g,hg,hv⟩:=I.ent to hlt
  have hE:P.E[to]?=some (P.E.getD to []):=by rw[List.getD_eq_getElem?_getD,List.getElem?_eq_getElem (I.el▸hlt)];rfl
  have hc:(nA P.E)[to]?=some (.list ((P.E.getD to []).map λp=>.int (p:Nat))):=by rw[nA,List.getElem?_map,hE];rfl
  refine t6 (da (l:=(List.range nb).map λb=>A.int ((b+1:Nat):Int)) rfl rfl rfl (mV hlt) (da (l:=P.N.map λg=>lV g.pv) rfl rfl rfl (show(P.N.map λg=>lV g.pv)[to+1]?=some (.g 12 to) by rw[List.getElem?_map,hg];exact congrArg (λp=>some (lV p)) hv) ?_))
  refine aj (tb (l:=12) (i:=to) (show cont (SG loc {P with n:=P.n+1}) (.g 12 to)=_ from hc)) (aj (a:=(.int (now:Nat),SG loc {P with n:=P.n+1})) rfl ?_)
  refine gy (P:={P with n:=P.n+1}) (g:=⟨kd,.one now,ll P.n,false,b,t⟩) (Sx (Wg (Wo _ _) I.nl)) ?_
  refine nF (S:=SG loc {P with n:=P.n+1,N:=P.N++[⟨kd,.one now,ll P.n,false,b,t⟩]}) (l:=12) (i:=to) rfl hc (Sx (Wg (V9 (Wq (WO _)) (Wo _ _)) (I.es to))) ?_
  have e:=JG (loc:=loc) (P:={P with n:=P.n+1,N:=P.N++[⟨kd,.one now,ll P.n,false,b,t⟩]}) (to:=to) (x:=P.E.getD to []++[P.N.length]) rfl
  rw[WS] at e
  exact(congrArg (λS=>K _ _ S) e).mpr (f' _ _)
 ·have hge:¬to<nb:=λh=>of_decide_eq_false q (Int.ofNat_lt.mpr h)
  rw[show Nat.blt to nb=false from Bool.eq_false_iff.mpr λh=>hge (Wu h)] at f'
  exact f' _ _
end
structure Lk(P P':SP):Prop where
 bs:P'.Bs=P.Bs
 ws:P'.Ws=P.Ws
 e:P'.E=P.E
 l:P'.L=P.L
 m:P'.M=P.M
 gl:P'.gl=P.gl
 n:∃x,P'.N=P.N++x
theorem Lk.refl{P:SP}:Lk P P:=⟨rfl,rfl,rfl,rfl,rfl,rfl,[],(WQ _).symm⟩
theorem Lk.trans{P P' P'':SP}(h:Lk P P')(h':Lk P' P''):Lk P P'':=⟨h'.bs.trans h.bs,h'.ws.trans h.ws,h'.e.trans h.e,h'.l.trans h.l,h'.m.trans h.m,h'.gl.trans h.gl,h.n.elim λx e=>h'.n.elim λy e'=>⟨x++y,by rw[e',e,WR]⟩⟩
theorem jm{P:SP}{g:GN}:Lk P (cM P g):=⟨rfl,rfl,rfl,rfl,rfl,rfl,[g],rfl⟩
theorem NF{u:Option Us}{now:Nat}{P:SP}:Lk P (cj u now P):=@Option.casesOn Us (λu=>Lk P (cj u now P)) u .refl λu=>⟨rfl,rfl,rfl,rfl,rfl,rfl,[],(WQ _).symm⟩
section
variable{b:Nat}{q:LS}{s:S1}{T:aB}
theorem J4:Lk q.P (gH b q s).P:=by
 have h:=@NF s.u q.now q.P
 obtain⟨w,u,t⟩:=s
 exact@Wk.casesOn (λw=>Lk q.P (gH b q ⟨w,u,t⟩).P) w (h.trans jm) h (h.trans jm) (h.trans jm)
theorem MT:∀{ss:List S1} {q:LS},Lk q.P (f6 b ss q).P:=λ{ss}=>@List.rec S1 (λss=>∀{q:LS},Lk q.P (f6 b ss q).P) (λ{q}=>.refl) (λs r ih {q}=>J4.trans ih) ss
theorem TB:Lk q.P (iW b q T).P:=@aB.casesOn (λT=>Lk q.P (iW b q T).P) T (λs=>J4) λss t=>(show Lk q.P (oS b t q).P from jm).trans MT
theorem ni:∀{Ts:List aB} {q:LS},Lk q.P (b9 b Ts q).P:=λ{Ts}=>@List.rec aB (λTs=>∀{q:LS},Lk q.P (b9 b Ts q).P) (λ{q}=>.refl) (λs r ih {q}=>TB.trans ih) Ts
end
section
variable{P P':SP}{nb r r' j to now b:Nat}{kd:Int}{t:Nat→Nat}{Ts:List aB}{w:Nat×Nat}
theorem bw{N x:List GN}{i:Nat}{g:GN}(h:N[i]?=some g):(N++x)[i]?=some g:=(List.getElem?_append_left (WK h).1).trans h
theorem iP.lay(I:iP nb P (r+r'))(k:Lk P P')(hn:P'.N.length≤P.N.length+r'):iP nb P' r:=⟨k.bs▸I.bl,λb hb=>k.n.elim λx e=>(I.ent b hb).elim λg h=>⟨g,e▸bw h.1,h.2⟩,k.e▸I.el,λb=>k.e▸Wg (Wj (Wo r r') _) (I.es b),Wg (V9 (Wl hn r) (Wq (by rw[Nat.add_assoc,Nat.add_comm r' r]))) I.nl⟩
theorem xS{E:List (List Nat)}{i j:Nat}{x:List Nat}:(E.set i x).getD j []=x∨(E.set i x).getD j []=E.getD j []:=by
 rw[List.getD_eq_getElem?_getD,List.getD_eq_getElem?_getD,List.getElem?_set]
 split
 ·split
  ·exact .inl rfl
  ·rename_i h1 h2;subst h1;exact .inr (by rw[List.getElem?_eq_none (Nat.not_lt.mp h2)])
 ·exact .inr rfl
theorem iP.side(I:iP nb P (r+1)):iP nb (bD nb kd to now b t P) r:=by
 unfold bD
 cases Nat.blt to nb with
 |false=>exact I.lay (r':=1) .refl (Nat.le_succ _)
 |true=>exact⟨I.bl,λb hb=>(I.ent b hb).elim λg h=>⟨g,bw h.1,h.2⟩,(List.length_set ..).trans I.el,λb=>by
   show((P.E.set to _).getD b []).length+r<_
   rcases@xS P.E to b (P.E.getD to []++[P.N.length]) with e |e <;> rw[e]
   ·rw[WN,Nat.add_assoc,Nat.add_comm _ r];exact I.es to
   ·exact Wg (Wj (Nat.le_succ r) _) (I.es b),by
   show(P.N++[_]).length+r<_
   rw[WN,Nat.add_assoc,Nat.add_comm _ r];exact I.nl⟩
theorem jz:(bD nb kd to now b t P).Bs=P.Bs∧(bD nb kd to now b t P).Ws=P.Ws∧(bD nb kd to now b t P).L=P.L∧(bD nb kd to now b t P).w=P.w∧(bD nb kd to now b t P).es=P.es:=by
 unfold bD
 cases Nat.blt to nb <;> exact⟨rfl,rfl,rfl,rfl,rfl⟩
theorem vh{loc:List (List Ce)}{K:KN}{c:A}{a:Option X}{L:List A}(hL:P.L=L)(hb:P.Bs[j]?=some (cK Ts))(hw:P.Ws[j]?=some (cZ w))(hj:j<nb)(I:iP nb P (r+1+1+10))(ok:yh 1 Ts P)(hs:dm Ts≤10)(f:∀m,K (sL c (ke nb) m) (SG loc (bQ nb j Ts w P))):NE (ae {} 726) (f8 1) (dX L) K c (ke nb) (SG loc P) (j:Nat) a:=by
 subst hL
 have k:=@ni j Ts ⟨j+1,id,P⟩
 have g:=@qq j Ts ⟨j+1,id,P⟩
 have I1:iP nb (aF j Ts P).P (r+1+1):=I.lay k (V9 g.n (Wj hs _))
 refine da (l:=P.Bs) rfl rfl rfl hb (da (l:=(List.range nb).map λb=>A.int ((b+1:Nat):Int)) rfl rfl rfl (mV hj) ⟨j,Ts,⟨j+1,id,P⟩,rfl,rfl,ok,?_⟩)
 have k2:=@jz (aF j Ts P).P nb w.1 (aF j Ts P).now j 5 (aF j Ts P).t
 have s1:=λK f=>pS (loc:=loc) (P:=(aF j Ts P).P) (C2:=f8 1) (K:=K) (nb:=nb) (r:=r+1) (j:=j) (sd:=0) (to:=w.1) (now:=(aF j Ts P).now) (b:=j) (kd:=5) (t:=(aF j Ts P).t) (a:=a) (w:=w) (k.ws.symm▸hw) rfl I1 f
 have s2:=λK a f=>pS (loc:=loc) (P:=bD nb 5 w.1 (aF j Ts P).now j (aF j Ts P).t (aF j Ts P).P) (C2:=f8 1) (K:=K) (nb:=nb) (r:=r) (j:=j) (sd:=1) (to:=w.2) (now:=(aF j Ts P).now) (b:=j) (kd:=6) (t:=(aF j Ts P).t) (a:=a) (w:=w) (k2.2.1.symm▸k.ws.symm▸hw) rfl I1.side f
 rw[k2.2.2.1,show(aF j Ts P).P.L=P.L from k.l] at s2
 rw[show(aF j Ts P).P.L=P.L from k.l] at s1
 exact s1 _ λa x=>s2 _ a λa x=>f _
end
abbrev Zt:=List (List aB×(Nat×Nat))
def aI(nb:Nat)(Z:Zt):Nat→SP→SP:=@List.rec (List aB×(Nat×Nat)) (λ_=>Nat→SP→SP) (λ_ P=>P) (λz _ ih j P=>ih (j+1) (bQ nb j z.1 z.2 P)) Z
def zB(Z:Zt):List A:=Z.map λz=>cK z.1
def zW(Z:Zt):List A:=Z.map λz=>cZ z.2
structure AZ(Z:Zt)(P:SP):Prop where
 bs:P.Bs=zB Z
 ws:P.Ws=zW Z
 pos:0<Z.length
 le:Z.length≤4
 idx:sV P.w
 us:∀z∈Z,∀u∈ic z.1,P.w[u.i]?=some u
 sz:∀z∈Z,dm z.1≤10
def qk(c:A)(nb:Nat)(P:SP):SP:={P with N:=N0 nb c,E:=E0 nb,es:=[]}
def iQ(L:List A)(xs:List X)(S:AS)(K:KX):Prop:=∃c Z P,xs=[.a (.g 1 0),.a GV,.a (.g 5 0),.a (.g 6 0),.a c]∧S=SG S.loc {P with N:=[kc],E:=[],es:=[]}∧P.L=L∧AZ Z P∧K (.a .none) (SG S.loc (aI Z.length Z 0 (qk c Z.length P)))
def FA(L:List A):bA:=sS (ae {} 726) (f8 1) (dX L)
inductive H3(loc:List (List Ce))(L:List A)(c:A)(Z:Zt)(w:List Us)(Q:SP)(i:Nat):En→AS→Prop
 |mk (m:Option Rv) (Zd Zr:Zt) (P:SP) (hz:Z=Zd++Zr) (hl:Zr.length=i) (hq:aI Z.length Zr Zd.length P=Q) (I:iP Z.length P (12*i)) (he:P.es.length+12*i<900000) (hb:P.Bs=zB Z) (hw:P.Ws=zW Z) (hL:P.L=L) (hp:P.w=w):H3 loc L c Z w Q i (sL c (ke Z.length) m) (SG loc P)
variable{L:List A}{c:A}{Z:Zt}{w:List Us}{Q:SP}{i j:Nat}{env:En}{S:AS}
theorem QV{C1 C2 C3:ay}{ents:A}{jj:Int}(h:∀a,NE C1 C2 C3 K c ents S jj a):∀m,dw (sS C1 C2 C3) 1565 2 K R (.int jj) (sL c ents m) S:=λm=>@Option.casesOn Rv (λm=>dw (sS C1 C2 C3) 1565 2 K R (.int jj) (sL c ents m) S) m (I0 C1 C2 C3 K R c ents S jj (h none)) λq=>@Option.casesOn X (λa=>dw (sS C1 C2 C3) 1565 2 K R (.int jj) (sL c ents (some (q.1,a))) S) q.2 (NZ C1 C2 C3 K R c ents S jj q.1 (h none)) λx=>L3 C1 C2 C3 K R c ents S jj q.1 x (h (some x))
theorem wF{nb:Nat}{Ts:List aB}{ww:Nat×Nat}(hs:dm Ts≤10):(bQ nb j Ts ww P).es.length≤P.es.length+10:=by
 unfold bQ
 rw[(@jz _ nb ww.2 _ j 6 _).2.2.2.2,(@jz _ nb ww.1 _ j 5 _).2.2.2.2]
 exact V9 (@qq j Ts ⟨j+1,id,P⟩).e (Wj hs _)
theorem qy{nb:Nat}{Ts:List aB}{ww:Nat×Nat}:(bQ nb j Ts ww P).Bs=P.Bs∧(bQ nb j Ts ww P).Ws=P.Ws∧(bQ nb j Ts ww P).L=P.L∧(bQ nb j Ts ww P).w=P.w:=by
 have k:=@ni j Ts ⟨j+1,id,P⟩
 have g:=@qq j Ts ⟨j+1,id,P⟩
 have k1:=@jz (aF j Ts P).P nb ww.1 (aF j Ts P).now j 5 (aF j Ts P).t
 have k2:=@jz (bD nb 5 ww.1 (aF j Ts P).now j (aF j Ts P).t (aF j Ts P).P) nb ww.2 (aF j Ts P).now j 6 (aF j Ts P).t
 exact⟨k2.1.trans (k1.1.trans k.bs),k2.2.1.trans (k1.2.1.trans k.ws),k2.2.2.1.trans (k1.2.2.1.trans k.l),k2.2.2.2.1.trans (k1.2.2.2.1.trans g.w)⟩
theorem iP.place{nb r:Nat}{Ts:List aB}{ww:Nat×Nat}(I:iP nb P (r+1+1+10))(hs:dm Ts≤10):iP nb (bQ nb j Ts ww P) r:=((I.lay (r:=r+1+1) (@ni j Ts ⟨j+1,id,P⟩) (V9 (@qq j Ts ⟨j+1,id,P⟩).n (Wj hs _))).side).side
theorem LM{Zd Zr:Zt}{z:List aB×(Nat×Nat)}{f:List aB×(Nat×Nat)→A}:((Zd++z::Zr).map f)[Zd.length]?=some (f z):=by rw[WS,List.getElem?_append_right (Wq (WO _)),WO,Nat.sub_self];rfl
theorem yH(hi:sV w)(hu:∀z∈Z,∀u∈ic z.1,w[u.i]?=some u)(hs:∀z∈Z,dm z.1≤10)(e:j+(i+1)=Z.length)(h:H3 loc L c Z w Q (i+1) env S)(f:∀env S,H3 loc L c Z w Q i env S→K env S):dw (FA L) 1565 2 K R (.int (j:Nat)) env S:=
 @H3.casesOn loc L c Z w Q (i+1) (λenv S _=>dw (FA L) 1565 2 K R (.int (j:Nat)) env S) env S h λm Zd Zr P hz hl hq I he hb hw hL hp=>QV (λa=>by
  cases Zr with
  |nil=>exact nomatch hl
  |cons z Zr=>
   have ej:j=Zd.length:=Nat.add_right_cancel (e.trans ((congrArg List.length hz).trans (by rw[WN,hl])))
   subst ej
   have hm:z∈Z:=hz▸WG _ (.head _)
   have hlt:Zd.length<Z.length:=Wh (Nat.lt_add_of_pos_right (Nat.succ_pos i)) (Wq e)
   have ok:yh 1 z.1 P:=⟨hp▸hi,hp▸hu z hm,Sx (Wg (Wj (V9 (hs z hm) (V9 (by decide:10≤12) (Wp 12 _))) _) I.nl),Wg (Wj (V9 (hs z hm) (V9 (by decide:10≤12) (Wp 12 _))) _) he,λh=>nomatch h⟩
   have k:=qy (P:=P) (j:=Zd.length) (nb:=Z.length) (Ts:=z.1) (ww:=z.2)
   have I':iP Z.length P (12*i+1+1+10):=I
   exact vh (r:=12*i) hL (by rw[hb,hz];exact LM) (by rw[hw,hz];exact LM) hlt I' ok (hs z hm) λm=>f _ _ (.mk m (Zd++[z]) Zr _ (hz.trans (List.append_cons Zd z Zr)) (Nat.succ.inj hl) (by rw[WN];exact hq) (I'.place (hs z hm)) (Wg (V9 (Wl (wF (hs z hm)) _) (Wq (by rw[Nat.add_assoc,Nat.add_comm 10];rfl))) (Wg (Wj (Wj (by decide:10≤12) _) _) he)) (k.1.trans hb) (k.2.1.trans hw) (k.2.2.1.trans hL) (k.2.2.2.trans hp))) m
section
variable{nb:Nat}
theorem GD:(N0 nb c).length=nb+2:=by show(List.map l5 (List.range nb)++[sC c]).length+1=_;rw[WN,WO,List.length_range];rfl
theorem tC(h:i<nb):(N0 nb c)[i+1]?=some (l5 i):=by
 show(List.map l5 (List.range nb)++[sC c])[i]?=_
 rw[List.getElem?_append_left (by rw[WO,List.length_range];exact h),List.getElem?_map,List.getElem?_range h]
 rfl
theorem Cq:(N0 nb c)[nb+1]?=some (sC c):=by
 show(List.map l5 (List.range nb)++[sC c])[nb]?=_
 rw[List.getElem?_append_right (by rw[WO,List.length_range];exact Nat.le_refl _),WO,List.length_range,Nat.sub_self]
 rfl
theorem oD:(E0 nb).getD i []=cond (Nat.beq i 0&&Nat.blt i nb) [nb+1] []:=by
 rw[List.getD_eq_getElem?_getD,E0,List.getElem?_map]
 rcases Nat.lt_or_ge i nb with h |h
 ·rw[List.getElem?_range h,show Nat.blt i nb=true from Wx h,Bool.and_true];rfl
 ·rw[List.getElem?_eq_none (by rw[List.length_range];exact h),show Nat.blt i nb=false from Bool.eq_false_iff.mpr λq=>Nat.not_lt.mpr h (Wu q),Bool.and_false];rfl
theorem nM(h4:nb≤4)(hb:P.Bs.length=nb):iP nb (qk c nb P) (12*nb):=⟨hb,λb hb=>⟨l5 b,tC hb,rfl⟩,by show(E0 nb).length=nb;rw[E0,WO,List.length_range],λb=>by
 show((E0 nb).getD b []).length+12*nb<900
 rw[oD]
 refine Wg (Wm (?_:_≤1) (Wr 12 h4)) (by decide)
 cases(Nat.beq b 0&&Nat.blt b nb)
 ·exact Nat.zero_le _
 ·exact Nat.le_refl _,by
 show(N0 nb c).length+12*nb<900
 rw[GD]
 exact Wg (Wm (Wl h4 2) (Wr 12 h4)) (by decide)⟩
theorem KJ(C2 C3:ay)(hp:0<Z.length)(h4:Z.length≤4)(h:Nu K c loc P (zB Z) Z.length):LC C2 C3 K R c loc P (zB Z):=by
 match Z,hp,h4,h with
 |[x],_,_,h=>exact QL C2 C3 K R c loc P _ h
 |[x,y],_,_,h=>exact ST C2 C3 K R c loc P _ _ h
 |[x,y,z],_,_,h=>exact Pi C2 C3 K R c loc P _ _ _ h
 |[x,y,z,w],_,_,h=>exact TY C2 C3 K R c loc P _ _ _ _ h
theorem DZ{C1 C2 C3:ay}{ents:A}(hb:P.Bs.length=nb)(h:aw (f9 (.a (.int (nb:Nat)))) (∃n,fV (sS C1 C2 C3) 1565 2 K R (.a (.int (nb:Nat))) n 0 (sL c ents none) (SG loc P)) False):a9 (sS C1 C2 C3) 1565 2 1 (sL c ents none) (SG loc P) K R:=by
 subst hb
 exact cast (by kernel_rfl) h
theorem HR{C1 C2 C3:ay}{fr:List Ce}{gl:Rg 5}(h:KK (.a .none) ⟨loc,gl⟩):rest (sS C1 C2 C3) 1565 3 env ⟨fr::loc,gl⟩ KK:=cast (by kernel_rfl) h
theorem rZ(ok:AZ Z P)(hL:P.L=L)(h:KK (.a .none) (SG loc (aI Z.length Z 0 (qk c Z.length P)))):ae (FA L) 1565 [.a (.g 1 0),.a GV,.a (.g 5 0),.a (.g 6 0),.a c] (SG loc {P with N:=[kc],E:=[],es:=[]}) KK:=by
 refine bx (fi:=Fa 1565) (by kernel_rfl) rfl (by kernel_rfl) (env:=[("g",.a (.g 1 0)),("graph",.a GV),("blocks",.a (.g 5 0)),("ways",.a (.g 6 0)),("ctor",.a c)]) (by kernel_rfl) (ag (j:=2) ?_)
 have hb:P.Bs.length=Z.length:=by rw[ok.bs,zB,WO]
 have e0:∀N E es,({P with N:=N,E:=E,es:=es}:SP)={P with Bs:=zB Z,N:=N,E:=E,es:=es}:=λN E es=>by rw[← ok.bs]
 refine(congrArg (λP'=>a9 (FA L) 1565 0 2 _ (SG ([]::loc) P') _ _) (e0 _ _ _)).mpr (KJ (f8 1) (dX L) ok.pos ok.le ?_)
 show rest (FA L) 1565 2 (sL c (ke Z.length) none) (SG ([]::loc) {P with Bs:=zB Z,N:=N0 Z.length c,E:=E0 Z.length,es:=[]}) KK
 rw[← e0]
 refine ag (j:=1) (DZ (P:=qk c Z.length P) hb (aA (s8 (V9 ok.le (by decide))) ⟨Z.length+1,?_⟩))
 exact je (P:=λi=>H3 ([]::loc) L c Z P.w (aI Z.length Z 0 (qk c Z.length P)) i) (N:=Z.length) (fi:=Fa 1565) (s:=Fb 1565 2) (p:=Fp 1565 2) (by kernel_rfl) (by kernel_rfl) (by kernel_rfl) tY
  (λenv S hI=>@H3.casesOn ([]::loc) L c Z P.w (aI Z.length Z 0 (qk c Z.length P)) 0 (λenv S _=>rest (FA L) 1565 3 env S KK) env S hI λm Zd Zr P' hz hl hq _ _ _ _ _ _=>HR (by
   cases List.eq_nil_of_length_eq_zero hl
   rw[show P'=aI Z.length Z 0 (qk c Z.length P) from hq];exact h))
  (λj i env S K' e hI f=>yH ok.idx ok.us ok.sz e hI f) Z.length 0 _ _ (Nat.zero_add _)
  (.mk none [] Z _ rfl rfl rfl (nM ok.le hb) (Wg (Wj (Wr 12 ok.le) 0) (by decide)) ok.bs ok.ws hL rfl)
theorem Br{xs:List X}(h:iQ L xs S KK):ae (FA L) 1565 xs S KK:=by
 obtain⟨c,Z,P,rfl,e,hL,ok,h⟩:=h
 rw[e]
 exact rZ ok hL h
end
def yl(C:ay):bA:={fn:=λa=>lk a [(1572,C)],sy:=[1193004]}
def cA(st:A)(s:X)(m:Option (A×A)):List (Str×X):=alt m (λq=>([("steps",.a st),("state",s),("step",.a q.1),("one",.a q.2)]:List (Str×X))) [("steps",.a st),("state",s)]
def Ja:List (A×A):=[(tx "x",.int 2),(tx "y",.int 4),(tx "z",.int 8)]
def VK(st sd one:A)(x:Int)(K:KN)(S:AS):Prop:=opt (iU .BitOr x 1) λr=>K (cA st (.a (.int r)) (some (sd,one))) S
def Hw(C:ay)(one:A)(x:Int)(S:AS)(K:AS→Prop):Prop:=ao (.a one) (.a (tx "met")) S λy S=>dE .NotIn (.a (.int x)) y S λc=>aw c (ao (.a one) (.a (tx "met")) S λr S=>opt (dT S r "append") λm=>bK (yl C) m r "append" [.a (.int x)] S λ_ S=>K S) (K S)
def Vp(st sd one:A)(x:Int)(K:KN)(S:AS):Prop:=ao (.a one) (.a (tx "word")) S λv S=>lF S v (.a (tx "this")) λc=>aw c (ao (.a one) (.a (tx "name")) S λv S=>opt (uA v) λk=>opt (bH k.1 Ja) λo=>opt (uI (.a (o.getD (.int 0)))) λb=>opt (iU .BitOr x b.1) λr=>K (cA st (.a (.int r)) (some (sd,one))) S) (K (cA st (.a (.int x)) (some (sd,one))) S)
section
variable(C:ay)(K:KN)(R:KX)(st t:A)(x:Int)(S:AS)(u:Us)(ss:List S1)
def pO(T:aB)(m:Option (A×A)):Prop:=dw (yl C) 1572 0 K R T.den (cA st (.a (.int x)) m) S
def yd(w:Wk)(sd one:A)(S:AS):Prop:=oo w (VK st sd one x K S) (K (cA st (.a (.int x)) (some (sd,one))) S) (K (cA st (.a (.int x)) (some (sd,one))) S) (Vp st sd one x K S)
def W3:List Wk:=[.sup,.idle,.call]
theorem Py(m:Option (A×A)):W3.map (λw=>pO C K R st x S (.one ⟨w,none,t⟩) m)=W3.map λw=>yd K st x w (S1.den ⟨w,none,t⟩) .none S:=@Option.casesOn (A×A) (λm=>W3.map (λw=>pO C K R st x S (.one ⟨w,none,t⟩) m)=W3.map λw=>yd K st x w (S1.den ⟨w,none,t⟩) .none S) m (by kernel_rfl) λq=>by kernel_rfl
theorem JP(w:Wk):pO C K R st x S (.one ⟨w,some u,t⟩) none=Hw C (.g 3 u.i) x S λS=>yd K st x w (S1.den ⟨w,some u,t⟩) (.g 3 u.i) S:=@Wk.casesOn (λw=>pO C K R st x S (.one ⟨w,some u,t⟩) none=Hw C (.g 3 u.i) x S λS=>yd K st x w (S1.den ⟨w,some u,t⟩) (.g 3 u.i) S) w (by kernel_rfl) (by kernel_rfl) (by kernel_rfl) (by kernel_rfl)
theorem J8(w:Wk)(q:A×A):pO C K R st x S (.one ⟨w,some u,t⟩) (some q)=Hw C (.g 3 u.i) x S λS=>yd K st x w (S1.den ⟨w,some u,t⟩) (.g 3 u.i) S:=@Wk.casesOn (λw=>pO C K R st x S (.one ⟨w,some u,t⟩) (some q)=Hw C (.g 3 u.i) x S λS=>yd K st x w (S1.den ⟨w,some u,t⟩) (.g 3 u.i) S) w (by kernel_rfl) (by kernel_rfl) (by kernel_rfl) (by kernel_rfl)
theorem Id:pO C K R st x S (.arr ss t) none=C [.a (.fl (ss.map S1.den)),.a (.int x)] S λ_ S=>K (cA st (.a (.int x)) (some (aB.den (.arr ss t),.none))) S:=by kernel_rfl
theorem Jg(q:A×A):pO C K R st x S (.arr ss t) (some q)=C [.a (.fl (ss.map S1.den)),.a (.int x)] S λ_ S=>K (cA st (.a (.int x)) (some (aB.den (.arr ss t),.none))) S:=by kernel_rfl
end
def ng(M:Nat→List Nat)(i s:Nat):Nat→List Nat:=cond (decide (s∈M i)) M (upd M i (M i++[s]))
def B4(u:Option Us)(s:Nat)(M:Nat→List Nat):Nat→List Nat:=alt u (λu=>ng M u.i s) M
abbrev iI:=Nat×(Nat→List Nat)
def A9(s:S1)(x:Nat):Nat:=oo s.w (x |||1) x x (x |||fw s.u)
def l4(p:iI)(s:S1):iI:=(A9 s p.1,B4 s.u p.1 p.2)
def nW(ss:List S1)(p:iI):iI:=@List.rec S1 (λ_=>iI→iI) id (λs _ ih p=>ih (l4 p s)) ss p
def fL(p:iI)(T:aB):iI:=A4 T (l4 p) λss _=>(p.1,(nW ss p).2)
def aL(Ts:List aB)(p:iI):iI:=@List.rec aB (λ_=>iI→iI) id (λT _ ih p=>ih (fL p T)) Ts p
def setM(P:SP)(M:Nat→List Nat):SP:={P with M:=M}
theorem Vd{a b:Nat}:Builtin.bitOr (a:Int) (b:Int)=((a |||b:Nat):Int):=by
 have e:∀x:Int,Builtin.bitNot (Builtin.bitNot x)=x:=λx=>by unfold Builtin.bitNot;omega
 have h:∀n:Nat,decide (0≤Builtin.bitNot (n:Int))=false:=λn=>decide_eq_false (by unfold Builtin.bitNot;omega)
 unfold Builtin.bitOr Builtin.bitAnd
 rw[h,h]
 show Builtin.bitNot (Builtin.bitNot _)=_
 rw[e,e,e]
 rfl
theorem Pz{a b:Nat}:Builtin.bitAnd (a:Int) (b:Int)=((a&&&b:Nat):Int):=by
 unfold Builtin.bitAnd
 rw[decide_eq_true (Int.natCast_nonneg a),decide_eq_true (Int.natCast_nonneg b)]
 rfl
theorem L7:∀{l:List Nat},jH (l.map λs=>.int (s:Nat))=some (l.map λs=>PyData.int (s:Nat)):=λ{l}=>@List.rec Nat (λl=>jH (l.map λs=>.int (s:Nat))=some (l.map λs=>PyData.int (s:Nat))) rfl (λs r ih=>by
 show(some (PyData.int s)).bind (λx=>(jH (r.map λs=>.int (s:Nat))).map λr=>x::r)=_
 rw[ih];rfl) l
theorem MA{x:Nat}:∀{l:List Nat},((l.map λs=>PyData.int (s:Nat)).any λy=>PyData.eqv y (.int (x:Nat)))=decide (x∈l):=λ{l}=>@List.rec Nat (λl=>((l.map λs=>PyData.int (s:Nat)).any λy=>PyData.eqv y (.int (x:Nat)))=decide (x∈l)) (decide_eq_false (λh=>nomatch h)).symm (λs r ih=>by
 show(decide ((s:Int)=(x:Int)) ||(r.map λs=>PyData.int (s:Nat)).any _)=_
 rw[ih]
 by_cases e:x=s
 ·subst e;rw[decide_eq_true rfl,decide_eq_true (List.mem_cons_self ..)];rfl
 ·rw[decide_eq_false (p:=(s:Int)=(x:Int)) λh=>e (Int.ofNat.inj h).symm,Bool.false_or]
  exact decide_eq_decide.mpr ⟨λh=>.tail _ h,λh=>(WC h).elim (λq=>(e q).elim) id⟩) l
theorem Km{x:Nat}{l:List Nat}:BO (.int (x:Nat)) (l.map λs=>.int (s:Nat))=some (decide (x∈l)):=by
 show(jH _).bind _=_
 rw[L7]
 show cond (Nat.ble (min (PyData.depthAll _) 0) 39) (some _) none=_
 rw[Nat.min_zero,MA];rfl
variable{x:Nat}{K:AS→Prop}{C:ay}{KN':KN}{sd:A}
theorem ve(hi:sV P.w)(hu:P.w[u.i]?=some u){l:List Nat}:(oH P.w P.M).set u.i (.list (l.map λs=>.int (s:Nat)))=oH P.w (upd P.M u.i l):=qD (λj x hx=>by
  by_cases e:u.i=j
  ·rw[if_pos e]
  ·rw[if_neg e,hi j x hx,nN (Ne.symm e)]) λx hx=>by cases hu.symm.trans hx;rw[mx]
theorem iO(hu:P.w[u.i]?=some u):(oH P.w P.M)[u.i]?=some (.list ((P.M u.i).map λs=>.int (s:Nat))):=by rw[oH,List.getElem?_map,hu];rfl
theorem DU(hi:sV P.w)(hu:P.w[u.i]?=some u)(hn:(P.M u.i).length<900000)(h:K (SG loc (setM P (ng P.M u.i x)))):Hw C (.g 3 u.i) (x:Nat) (SG loc P) K:=by
 have e4:au (SG loc P) (.a (.g 4 u.i))=some (.list ((P.M u.i).map λs=>.int (s:Nat))):=congrArg (λo:Option Ce=>o.bind iy) (show((SG loc P).get 4)[u.i]?=_ from iO hu)
 have em:aM (.a (.g 3 u.i)) (tx "met") (au (SG loc P) (.a (.g 3 u.i)))=some (.g 4 u.i):=by rw[jo hu];kernel_rfl
 show ao (.a (.g 3 u.i)) (.a (tx "met")) (SG loc P) _
 refine aj (a:=⟨tx "met",rfl⟩) rfl (aj em ?_)
 show opt (EH (.int (x:Nat)) (.a (.g 4 u.i)) (au (SG loc P) (.a (.g 4 u.i)))) _
 rw[e4]
 refine aj (Km (l:=P.M u.i)) ?_
 unfold ng at h
 cases q:decide (x∈P.M u.i) with
 |true=>rw[q] at h;exact cY rfl h
 |false=>
  rw[q] at h
  refine aA rfl ?_
  show ao (.a (.g 3 u.i)) (.a (tx "met")) (SG loc P) _
  refine aj (a:=⟨tx "met",rfl⟩) rfl (aj em (aj (tb (show cont (SG loc P) (.g 4 u.i)=_ from iO hu)) (nF (l:=4) rfl (iO hu) (Wg (Wq (WO _)) hn) ?_)))
  have e:=ve hi hu (l:=P.M u.i++[x])
  rw[WS] at e
  refine(congrArg K (show(SG loc P).set 4 ((oH P.w P.M).set u.i _)=SG loc (setM P (upd P.M u.i (P.M u.i++[x]))) from ?_)).mpr h
  refine(congrArg (λl=>(SG loc P).set 4 l) e).trans ?_
  kernel_rfl
theorem qN{Kb:Bool→Prop}:lF S (.a (.str u.word)) (.a (tx "this")) Kb=Kb (cond u.sup false true):=by
 obtain⟨pl,fm,s,nm,mode,role,un⟩:=u
 exact@Bool.casesOn (λs=>lF S (.a (.str (Us.word ⟨pl,fm,s,nm,mode,role,un⟩))) (.a (tx "this")) Kb=Kb (cond s false true)) s (by kernel_rfl) (by kernel_rfl)
theorem O1{a b c:Bool}{F:Int→Prop}(h:F ((cond a 2 (cond b 4 (cond c 8 0)):Nat):Int)):opt (uI (.a ((cond a (some (A.int 2)) (cond b (some (A.int 4)) (cond c (some (A.int 8)) none))).getD (.int 0)))) λb=>F b.1:=by cases a with
 |true=>exact h
 |false=>cases b with
  |true=>exact h
  |false=>cases c <;> exact h
theorem D3{nm:Str}{F:Int→Prop}(h:F (oE nm:Nat)):opt (bH (.str nm) Ja) λo=>opt (uI (.a (o.getD (.int 0)))) λb=>F b.1:=O1 h
theorem E7(hu:P.w[u.i]?=some u)(f:∀m,KN' (cA st (.a (.int (x |||fw (some u):Nat))) m) (SG loc P)):Vp st sd (.g 3 u.i) (x:Nat) KN' (SG loc P):=by
 have f':∀m,KN' (cA st (.a (.int (x |||cond u.sup 0 (oE u.name):Nat))) m) (SG loc P):=f
 show ao (.a (.g 3 u.i)) (.a (tx "word")) (SG loc P) _
 refine aj (a:=⟨tx "word",rfl⟩) rfl (aj (a:=.str u.word) (by rw[jo hu];kernel_rfl) (qN.mpr ?_))
 show aw (cond u.sup false true) _ _
 cases q:u.sup with
 |true=>rw[q] at f';exact cY rfl ((congrArg (λn:Nat=>KN' (cA st (.a (.int (n:Nat))) _) (SG loc P)) (Nat.or_zero x)).mp (f' _))
 |false=>
  rw[q] at f'
  refine aA rfl ?_
  show ao (.a (.g 3 u.i)) (.a (tx "name")) (SG loc P) _
  refine aj (a:=⟨tx "name",rfl⟩) rfl (aj (a:=.str u.name) (by rw[jo hu];kernel_rfl) (aj (a:=⟨.str u.name,rfl⟩) rfl (D3 (F:=λb=>opt (iU .BitOr x b) _) ?_)))
  exact(congrArg (λr:Int=>KN' (cA st (.a (.int r)) _) (SG loc P)) (@Vd x (oE u.name))).mpr (f' _)
def uD(s:S1):Prop:=s.w=.set→s.u≠none
def OO(T:aB):Prop:=A4 T uD λss _=>∀s∈ss,uD s
structure jK(k:Nat)(Ts:List aB)(P:SP):Prop where
 idx:sV P.w
 us:∀u∈ic Ts,P.w[u.i]?=some u
 ml:∀i,(P.M i).length+dm Ts<900000
 lv:k=0→∀T∈Ts,∃s,T=.one s
 st:∀T∈Ts,OO T
def bG(k:Nat)(xs:List X)(S:AS)(K:KX):Prop:=∃Ts P x,xs=[.a (.fl (Ts.map aB.den)),.a (.int (x:Nat))]∧S=SG S.loc P∧jK k Ts P∧K (.a (.int ((aL Ts (x,P.M)).1:Nat))) (SG S.loc (setM P (aL Ts (x,P.M)).2))
def yg(k:Nat):ay:=@Nat.rec (λ_=>ay) (λ_ _ _=>False) (λk _=>bG k) k
def Mg(M M':Nat→List Nat)(j:Nat):Prop:=∀i,(M' i).length≤(M i).length+j
theorem Mg.trans{M M' M'':Nat→List Nat}{i j:Nat}(h:Mg M M' i)(h':Mg M' M'' j):Mg M M'' (i+j):=λn=>V9 (h' n) (Nat.add_assoc _ i j▸Wl (h n) j)
theorem PD{M:Nat→List Nat}{i s:Nat}:Mg M (ng M i s) 2:=λj=>by
 unfold ng
 cases decide (s∈M i) with
 |true=>exact Wo _ _
 |false=>
  show(upd M i (M i++[s]) j).length≤_
  by_cases e:j=i
  ·subst e;rw[mx,WN];exact Wj (Nat.le_succ 1) _
  ·rw[nN e];exact Wo _ _
variable{K:KN}{p:iI}
theorem IS:Mg p.2 (l4 p s).2 2:=@Option.casesOn Us (λu=>Mg p.2 (B4 u p.1 p.2) 2) s.u (λi=>Wo _ _) λu=>PD
theorem RY:∀{ss:List S1} {p:iI},Mg p.2 (nW ss p).2 (2*ss.length):=λ{ss}=>@List.rec S1 (λss=>∀{p:iI},Mg p.2 (nW ss p).2 (2*ss.length)) (λ{p} i=>Nat.le_refl _) (λs r ih {p}=>(congrArg (Mg _ _) (Nat.add_comm 2 (2*r.length))).mp ((IS (s:=s)).trans (ih (p:=l4 p s)))) ss
theorem Iq:Mg p.2 (fL p T).2 (vK T):=@aB.casesOn (λT=>Mg p.2 (fL p T).2 (vK T)) T (λs=>IS) λss t i=>V9 (RY (ss:=ss) (p:=p) i) (Wj (Wp _ 1) _)
theorem jK.next(h:jK k (T::Ts) P):jK k Ts (setM P (fL (x,P.M) T).2):=⟨h.idx,λu hu=>h.us u (WG _ hu),λi=>Wg (Wl (Iq (T:=T) (p:=(x,P.M)) i) _) (Nat.add_assoc _ (vK T) _▸h.ml i),λe T' h'=>h.lv e T' (.tail _ h'),λT' h'=>h.st T' (.tail _ h')⟩
theorem uu{one:A}(w:Wk)(uo:Option Us)(hw:w=.set→∃u,uo=some u∧one=.g 3 u.i∧P.w[u.i]?=some u)(f:∀m,K (cA st (.a (.int (oo w (x |||1) x x (x |||fw uo):Nat))) m) (SG loc P)):yd K st (x:Nat) w sd one (SG loc P):=
 @Wk.casesOn (λw=>(w=.set→∃u,uo=some u∧one=.g 3 u.i∧P.w[u.i]?=some u)→(∀m,K (cA st (.a (.int (oo w (x |||1) x x (x |||fw uo):Nat))) m) (SG loc P))→yd K st (x:Nat) w sd one (SG loc P)) w
  (λ_ f=>(congrArg (λr:Int=>K (cA st (.a (.int r)) _) (SG loc P)) (@Vd x 1)).mpr (f _)) (λ_ f=>f _) (λ_ f=>f _) (λhw f=>(hw rfl).elim λu h=>by obtain⟨rfl,rfl,hu⟩:=h;exact E7 hu f) hw f
theorem D7{C:ay}(hi:sV P.w)(hu:∀u,s.u=some u→P.w[u.i]?=some u)(hm:∀i,(P.M i).length<900000)(hs:uD s)(f:∀m,K (cA st (.a (.int ((l4 (x,P.M) s).1:Nat))) m) (SG loc (setM P (l4 (x,P.M) s).2))):pO C K R st (x:Nat) (SG loc P) (.one s) m:=by
 obtain⟨w,u,t⟩:=s
 cases u with
 |none=>
  have h3:w∈W3:=@Wk.casesOn (λw=>(w=.set→(none:Option Us)≠none)→w∈W3) w (λ_=>.head _) (λ_=>.tail _ (.head _)) (λ_=>.tail _ (.tail _ (.head _))) (λh=>(h rfl rfl).elim) hs
  exact WA (Py C K R st t (x:Nat) (SG loc P) m) w h3▸uu w none (λe=>(hs e rfl).elim) f
 |some u=>
  have e:pO C K R st (x:Nat) (SG loc P) (.one ⟨w,some u,t⟩) m=Hw C (.g 3 u.i) (x:Nat) (SG loc P) λS=>yd K st (x:Nat) w (S1.den ⟨w,some u,t⟩) (.g 3 u.i) S:=@Option.casesOn (A×A) (λm=>pO C K R st (x:Nat) (SG loc P) (.one ⟨w,some u,t⟩) m=Hw C (.g 3 u.i) (x:Nat) (SG loc P) λS=>yd K st (x:Nat) w (S1.den ⟨w,some u,t⟩) (.g 3 u.i) S) m (JP ..) (J8 C K R st t x (SG loc P) u w)
  exact e.mpr (DU hi (hu u rfl) (hm _) (uu (P:=setM P (ng P.M u.i x)) w (some u) (λ_=>⟨u,rfl,rfl,hu u rfl⟩) f))
theorem Bk:∀{ss:List S1} {p:iI},aL (ss.map aB.one) p=nW ss p:=λ{ss}=>@List.rec S1 (λss=>∀{p:iI},aL (ss.map aB.one) p=nW ss p) (λ{p}=>rfl) (λs r ih {p}=>ih) ss
theorem yR(ok:jK k (T::Ts) P)(f:∀m,K (cA st (.a (.int ((fL (x,P.M) T).1:Nat))) m) (SG loc (setM P (fL (x,P.M) T).2))):pO (yg k) K R st (x:Nat) (SG loc P) T m:=by
 have hm:∀i,(P.M i).length<900000:=λi=>Wg (Wo _ _) (ok.ml i)
 cases T with
 |one s=>exact D7 ok.idx (λu hu=>ok.us u (WH _ (show u∈s.u.toList from hu▸List.mem_singleton.mpr rfl))) hm (ok.st _ (.head _)) f
 |arr ss t=>cases k with
  |zero=>exact(ok.lv rfl _ (.head _)).elim λs h=>nomatch h
  |succ k=>
   have e:pO (yg (k+1)) K R st (x:Nat) (SG loc P) (.arr ss t) m=bG k [.a (.fl (ss.map S1.den)),.a (.int (x:Nat))] (SG loc P) λ_ S=>K (cA st (.a (.int (x:Nat))) (some (aB.den (.arr ss t),.none))) S:=@Option.casesOn (A×A) (λm=>pO (yg (k+1)) K R st (x:Nat) (SG loc P) (.arr ss t) m=bG k [.a (.fl (ss.map S1.den)),.a (.int (x:Nat))] (SG loc P) λ_ S=>K (cA st (.a (.int (x:Nat))) (some (aB.den (.arr ss t),.none))) S) m (Id (yg (k+1)) K R st t x (SG loc P) ss) (Jg (yg (k+1)) K R st t x (SG loc P) ss)
   have e1:(ss.map aB.one).map aB.den=ss.map S1.den:=List.map_map
   refine e.mpr ⟨ss.map aB.one,P,x,by rw[e1],rfl,⟨ok.idx,λu hu=>ok.us u (WH _ ((congrArg (λl=>u∈l) qd).mp hu)),λi=>?_,λ_ T h=>(List.mem_map.mp h).elim λs h=>⟨s,h.2.symm⟩,λT h=>(List.mem_map.mp h).elim λs h=>h.2▸ok.st _ (.head _) s h.1⟩,?_⟩
   ·rw[lO]
    exact Wg (Wj (V9 (Wp _ 1) (Wo _ _)) _) (ok.ml i)
   ·rw[Bk]
    exact f _
inductive Ov(loc:List (List Ce))(st:A)(k:Nat)(P0:SP)(Q:iI)(Ts:List aB):En→AS→Prop
 |mk (m:Option (A×A)) (p:iI) (h:aL Ts p=Q) (ok:jK k Ts (setM P0 p.2)):Ov loc st k P0 Q Ts (cA st (.a (.int (p.1:Nat))) m) (SG loc (setM P0 p.2))
theorem RQ{C:ay}{l:List A}{x:X}(h:∃n,fV (yl C) 1572 0 K R (.a (.fl l)) n 0 (cA (.fl l) x none) S):a9 (yl C) 1572 0 1 (cA (.fl l) x none) S K R:=cast (by kernel_rfl) h
theorem Hj{C:ay}{x:A}{fr:List Ce}{gl:Rg 5}(h:KX' (.a x) ⟨loc,gl⟩):rest (yl C) 1572 1 (cA st (.a x) m) ⟨fr::loc,gl⟩ KX':=@Option.casesOn (A×A) (λm=>rest (yl C) 1572 1 (cA st (.a x) m) ⟨fr::loc,gl⟩ KX') m (cast (by kernel_rfl) h) λq=>cast (by kernel_rfl) h
theorem v9(ok:jK k Ts P)(h:KX' (.a (.int ((aL Ts (x,P.M)).1:Nat))) (SG loc (setM P (aL Ts (x,P.M)).2))):ae (yl (yg k)) 1572 [.a (.fl (Ts.map aB.den)),.a (.int (x:Nat))] (SG loc P) KX':=by
 refine bx (fi:=Fa 1572) (by kernel_rfl) rfl (by kernel_rfl) (env:=cA (.fl (Ts.map aB.den)) (.a (.int (x:Nat))) none) (by kernel_rfl) (ag (j:=1) (RQ ⟨Ts.length+1,?_⟩))
 exact q7 (f:=aB.den) (P:=λTs'=>Ov ([]::loc) (.fl (Ts.map aB.den)) k P (aL Ts (x,P.M)) Ts') (xs:=Ts) (fi:=Fa 1572) (s:=Fb 1572 0) (p:=Fp 1572 0) (by kernel_rfl) (by kernel_rfl) (by kernel_rfl) (λS=>rfl)
  (λenv S hI=>@Ov.casesOn ([]::loc) (.fl (Ts.map aB.den)) k P (aL Ts (x,P.M)) [] (λenv S _=>rest (yl (yg k)) 1572 1 env S KX') env S hI λm p e ok=>Hj (by rw[show p=aL Ts (x,P.M) from e];exact h))
  (λT Ts' env S K' hI f=>@Ov.casesOn ([]::loc) (.fl (Ts.map aB.den)) k P (aL Ts (x,P.M)) (T::Ts') (λenv S _=>dw (yl (yg k)) 1572 0 K' _ T.den env S) env S hI λm p e ok=>yR (P:=setM P p.2) ok λm=>f _ _ (.mk m (fL p T) e ok.next))
  Ts [] _ _ rfl (.mk none (x,P.M) rfl ok)
theorem ut{xs:List X}(h:bG k xs S KX'):ae (yl (yg k)) 1572 xs S KX':=by
 obtain⟨Ts,P,x,rfl,e,ok,h⟩:=h
 rw[e]
 exact v9 ok h
def jM(C:ay):bA:={fn:=λa=>lk a [(1572,C)],sy:=[1207004]}
def bI(p:Nat×Nat):A:=.tup [.int p.1,.int p.2]
def sI(at_:Int)(m:Option ((X×X)×(X×X))):List (Str×X):=alt m (λq=>([("blocks",.a (.g 5 0)),("ways",.a (.g 6 0)),("met",.l 0 0),("at",.a (.int at_)),("place",q.1.1),("state",q.1.2),("after",q.2.1),("to",q.2.2)]:List (Str×X))) [("blocks",.a (.g 5 0)),("ways",.a (.g 6 0)),("met",.l 0 0),("at",.a (.int at_))]
def Aq(at_:Int)(p s:A)(m:Option (X×X)):List (Str×X):=alt m (λq=>([("blocks",.a (.g 5 0)),("ways",.a (.g 6 0)),("met",.l 0 0),("at",.a (.int at_)),("place",.a p),("state",.a s),("after",q.1),("to",q.2)]:List (Str×X))) [("blocks",.a (.g 5 0)),("ways",.a (.g 6 0)),("met",.l 0 0),("at",.a (.int at_)),("place",.a p),("state",.a s)]
def yA(at_:Int)(p s:A)(x:X)(m:Option X):List (Str×X):=alt m (λq=>([("blocks",.a (.g 5 0)),("ways",.a (.g 6 0)),("met",.l 0 0),("at",.a (.int at_)),("place",.a p),("state",.a s),("after",x),("to",q)]:List (Str×X))) [("blocks",.a (.g 5 0)),("ways",.a (.g 6 0)),("met",.l 0 0),("at",.a (.int at_)),("place",.a p),("state",.a s),("after",x)]
def TE(C:ay)(K:KX)(n:Nat)(o:Option A)(env:En)(S:AS):Prop:=opt (io 1579) λfi=>opt (nth fi.body 2) λs=>opt (F9 s) λp=>opt (nth p.2 0) λs=>opt (I9 s) λt=>opt o λv=>rQ (λ_=>.of λ_ S K=>K (.a v) S) fi.nm t.1 t.2 env S (λenv S=>bS (ws (jM C) 19 fi.nm) (p.2.drop 1) env S (wh (jM C) 1579 2 K n) (wh (jM C) 1579 2 K n) (λx S=>ret x S K)) (λ_ _=>False) (λ_ _=>False)
def Ob(C:ay)(K:KX)(n:Nat)(v:X)(env:En)(S:AS):Prop:=opt (io 1579) λfi=>opt (nth fi.body 2) λs=>opt (F9 s) λp=>opt (nth p.2 3) λs=>opt (yb s) λq=>c9 (bS (ws (jM C) 18 fi.nm) q.2) fi.nm q.1 (λenv S=>wh (jM C) 1579 2 K n env S) (λx S=>ret x S K) v 70 0 env S
section
variable(C:ay)(K:KX)(n:Nat)(at_ p s:Int)(ms:List A)(loc:List (List Ce))(gl:Rg 5)
def pd:AS:=⟨[.list ms]::loc,gl⟩
theorem QJ(h:∃n,wh (jM C) 1579 2 K n (sI 0 none) (pd [.tup [.int 0,.int 0]] loc gl)):ae (jM C) 1579 [.a (.g 5 0),.a (.g 6 0)] ⟨loc,gl⟩ K:=cast (by kernel_rfl) h
def U7(o:Option A)(m:Option ((X×X)×(X×X))):Prop:=aw (decide (at_<(ms.length:Int))) (TE C K n o (sI at_ m) (pd ms loc gl)) (K (.a .none) ⟨loc,gl⟩)
theorem C0(h:U7 C K n at_ ms loc gl (aM (.l 0 0) (.int at_) (some (.list ms))) none):wh (jM C) 1579 2 K (n+1) (sI at_ none) (pd ms loc gl):=cast (by kernel_rfl) h
theorem BW(m:(X×X)×(X×X))(h:U7 C K n at_ ms loc gl (aM (.l 0 0) (.int at_) (some (.list ms))) (some m)):wh (jM C) 1579 2 K (n+1) (sI at_ (some m)) (pd ms loc gl):=cast (by kernel_rfl) h
theorem Im(h:HH (jM C) 1579 2 1 K n (Aq at_ (.int p) (.int s) none) (pd ms loc gl)):TE C K n (some (.tup [.int p,.int s])) (sI at_ none) (pd ms loc gl):=cast (by kernel_rfl) h
theorem LN(m:(X×X)×(X×X))(h:HH (jM C) 1579 2 1 K n (Aq at_ (.int p) (.int s) (some m.2)) (pd ms loc gl)):TE C K n (some (.tup [.int p,.int s])) (sI at_ (some m)) (pd ms loc gl):=cast (by kernel_rfl) h
def TJ(mm:Option X):Prop:=ao (.a (.g 5 0)) (.a (.int p)) (pd ms loc gl) λbl S=>C [bl,.a (.int s)] S λx S=>ao (.a (.g 6 0)) (.a (.int p)) S λv S=>alt (uI v) (λ_=>False) (opt (bU S v) λ_=>Ob C K n v (yA (at_+1) (.int p) (.int s) x mm) S)
theorem LJ(h:TJ C K n at_ p s ms loc gl none):HH (jM C) 1579 2 1 K n (Aq at_ (.int p) (.int s) none) (pd ms loc gl):=cast (by kernel_rfl) h
theorem Ix(m:X×X)(h:TJ C K n at_ p s ms loc gl (some m.2)):HH (jM C) 1579 2 1 K n (Aq at_ (.int p) (.int s) (some m)) (pd ms loc gl):=cast (by kernel_rfl) h
def PN(af to:Int)(ms:List A)(next:List A→Prop):Prop:=opt (AC (.a (.g 5 0)) (au (pd ms loc gl) (.a (.g 5 0)))) λn=>aw (decide (to<(n:Int))) (opt (BO (.tup [.int to,.int af]) ms) λc=>aw (!c) (ak (ms++[.tup [.int to,.int af]]) (next (ms++[.tup [.int to,.int af]]))) (next ms)) (next ms)
def RR(af a b:Int):Prop:=PN loc gl af a ms λms=>PN loc gl af b ms λms=>wh (jM C) 1579 2 K n (sI at_ (some ((.a (.int p),.a (.int s)),(.a (.int af),.a (.int b))))) (pd ms loc gl)
theorem Jp(af a b:Int)(h:RR C K n at_ p s ms loc gl af a b):Ob C K n (.a (.tup [.int a,.int b])) (yA at_ (.int p) (.int s) (.a (.int af)) none) (pd ms loc gl):=cast (by kernel_rfl) h
theorem LK(af a b:Int)(x:X)(h:RR C K n at_ p s ms loc gl af a b):Ob C K n (.a (.tup [.int a,.int b])) (yA at_ (.int p) (.int s) (.a (.int af)) (some x)) (pd ms loc gl):=cast (by kernel_rfl) h
end
def Ou(P:SP):Rg 5:=(SG [] P).gl
def dF(nb af to:Nat)(mt:List (Nat×Nat)):List (Nat×Nat):=cond (Nat.blt to nb) (cond (decide ((to,af)∈mt)) mt (mt++[(to,af)])) mt
def fY(nb:Nat)(w:Nat×Nat)(af:Nat)(mt:List (Nat×Nat)):List (Nat×Nat):=dF nb af w.2 (dF nb af w.1 mt)
theorem KH:∀{l:List (Nat×Nat)},jH (l.map bI)=some (l.map λp=>PyData.tuple [.int p.1,.int p.2]):=λ{l}=>@List.rec (Nat×Nat) (λl=>jH (l.map bI)=some (l.map λp=>PyData.tuple [.int p.1,.int p.2])) rfl (λs r ih=>by
 show(some (PyData.tuple [.int s.1,.int s.2])).bind (λx=>(jH (r.map bI)).map λr=>x::r)=_
 rw[ih];rfl) l
theorem NU{p q:Nat×Nat}:PyData.eqv (.tuple [.int p.1,.int p.2]) (.tuple [.int q.1,.int q.2])=decide (q=p):=by
 show(decide ((p.1:Int)=q.1)&&(decide ((p.2:Int)=q.2)&&true))=_
 rw[Bool.and_true,← Bool.decide_and]
 exact decide_eq_decide.mpr ⟨λh=>Prod.ext (Int.ofNat.inj h.1).symm (Int.ofNat.inj h.2).symm,λh=>h▸⟨rfl,rfl⟩⟩
theorem IF{q:Nat×Nat}:∀{l:List (Nat×Nat)},((l.map λp=>PyData.tuple [.int p.1,.int p.2]).any λy=>PyData.eqv y (.tuple [.int q.1,.int q.2]))=decide (q∈l):=λ{l}=>@List.rec (Nat×Nat) (λl=>((l.map λp=>PyData.tuple [.int p.1,.int p.2]).any λy=>PyData.eqv y (.tuple [.int q.1,.int q.2]))=decide (q∈l)) (decide_eq_false (λh=>nomatch h)).symm (λs r ih=>by
 show(PyData.eqv (.tuple [.int s.1,.int s.2]) (.tuple [.int q.1,.int q.2]) ||(r.map λp=>PyData.tuple [.int p.1,.int p.2]).any _)=_
 rw[ih,NU,← Bool.decide_or]
 exact decide_eq_decide.mpr List.mem_cons.symm) l
theorem Kd{q:Nat×Nat}{l:List (Nat×Nat)}:BO (bI q) (l.map bI)=some (decide (q∈l)):=by
 show(jH _).bind _=_
 rw[KH]
 show cond (Nat.ble (min (PyData.depthAll _) (PyData.depth (.tuple [.int q.1,.int q.2]))) 39) (some _) none=_
 have e:Nat.ble (min (PyData.depthAll (l.map λp=>PyData.tuple [.int p.1,.int p.2])) (PyData.depth (.tuple [.int q.1,.int q.2]))) 39=true:=aC (V9 (Nat.min_le_right _ _) (Wu (by kernel_rfl)))
 rw[e]
 exact congrArg some IF
section
variable{K:KX}{n at_ s nb:Nat}{mt:List (Nat×Nat)}{w:Nat×Nat}{next:List A→Prop}{af to:Nat}
theorem th{α:Type}{o:Option α}{f:α→Prop}{g:Prop}(h:o=none)(p:g):alt o f g:=h▸p
theorem vA(hb:P.Bs.length=nb)(hl:mt.length<900000)(h:next ((dF nb af to mt).map bI)):PN loc (Ou P) (af:Nat) (to:Nat) (mt.map bI) next:=by
 refine aj (a:=nb) (show some P.Bs.length=some nb from congrArg some hb) ?_
 unfold dF at h
 refine(aX (b:=decide ((to:Int)<(nb:Int))) (λq=>?_) λq=>?_:aw _ _ _)
 ·rw[show Nat.blt to nb=true from Wx (WM (of_decide_eq_true q))] at h
  refine aj (Kd (q:=(to,af))) ?_
  cases q2:decide ((to,af)∈mt) with
  |true=>rw[q2] at h;exact cY rfl h
  |false=>
   rw[q2] at h
   have h:next ((mt++[(to,af)]).map bI):=h
   rw[WS] at h
   exact aA rfl (aA (aC (by rw[WN,WO];exact V9 hl (by decide))) h)
 ·rw[show Nat.blt to nb=false from Bool.eq_false_iff.mpr λh=>of_decide_eq_false q (Int.ofNat_lt.mpr (Wu h))] at h
  exact h
theorem wj:(dF nb af to mt).length≤mt.length+1:=by
 unfold dF
 cases Nat.blt to nb with
 |false=>exact Nat.le_succ _
 |true=>cases decide ((to,af)∈mt) with
  |true=>exact Nat.le_succ _
  |false=>exact Wq WN
theorem ug{mm:Option X}(hb:P.Bs[b]?=some (cK Ts))(hw:P.Ws[b]?=some (cZ w))(hn:P.Bs.length=nb)(ok:jK 1 Ts P)(hl:mt.length+1<900000)
  (f:∀m,wh (jM (bG 1)) 1579 2 K n (sI ((at_:Int)+1) (some m)) (SG ([.list ((fY nb w (aL Ts (s,P.M)).1 mt).map bI)]::loc) (setM P (aL Ts (s,P.M)).2))):TJ (bG 1) K n at_ (b:Nat) (s:Nat) (mt.map bI) loc (Ou P) mm:=by
 refine da (l:=P.Bs) rfl rfl rfl hb ⟨Ts,P,s,rfl,rfl,ok,da (l:=P.Ws) rfl rfl rfl hw ?_⟩
 have q:RR (bG 1) K n ((at_:Int)+1) (b:Nat) (s:Nat) (mt.map bI) loc (Ou (setM P (aL Ts (s,P.M)).2)) ((aL Ts (s,P.M)).1:Nat) (w.1:Nat) (w.2:Nat):=vA (P:=setM P (aL Ts (s,P.M)).2) hn (Nat.lt_of_succ_lt hl) (vA (P:=setM P (aL Ts (s,P.M)).2) hn (Wg wj hl) (f _))
 refine th (show uI (.a (cZ w))=none from rfl) ?_
 exact aj (a:=[A.int (w.1:Nat),A.int (w.2:Nat)]) rfl (@Option.casesOn X (λmm=>Ob (bG 1) K n (.a (cZ w)) (yA ((at_:Int)+1) (.int (b:Nat)) (.int (s:Nat)) (.a (.int ((aL Ts (s,P.M)).1:Nat))) mm) (SG ([.list (mt.map bI)]::loc) (setM P (aL Ts (s,P.M)).2))) mm (Jp _ _ _ _ _ _ _ _ _ _ _ _ q) λx=>LK _ _ _ _ _ _ _ _ _ _ _ _ x q)
theorem A0(hg:mt[at_]?=some (b,s))(hb:P.Bs[b]?=some (cK Ts))(hw:P.Ws[b]?=some (cZ w))(hn:P.Bs.length=nb)(ok:jK 1 Ts P)(hl:mt.length+1<900000)
  (f:∀m,wh (jM (bG 1)) 1579 2 K n (sI ((at_:Int)+1) (some m)) (SG ([.list ((fY nb w (aL Ts (s,P.M)).1 mt).map bI)]::loc) (setM P (aL Ts (s,P.M)).2))) (m:Option ((X×X)×(X×X))):wh (jM (bG 1)) 1579 2 K (n+1) (sI (at_:Nat) m) (SG ([.list (mt.map bI)]::loc) P):=by
 have hi:aM (.l 0 0) (.int (at_:Nat)) (some (.list (mt.map bI)))=some (.tup [.int (b:Nat),.int (s:Nat)]):=by
  show(mt.map bI)[at_]?=_
  rw[List.getElem?_map,hg];rfl
 have hlt:decide ((at_:Int)<((mt.map bI).length:Int))=true:=decide_eq_true (Int.ofNat_lt.mpr (by rw[WO];exact(WK hg).1))
 cases m with
 |none=>
  refine C0 _ _ _ _ _ _ _ (aA hlt ?_)
  rw[hi]
  exact Im _ _ _ _ _ _ _ _ _ (LJ _ _ _ _ _ _ _ _ _ (ug hb hw hn ok hl f))
 |some m=>
  refine BW _ _ _ _ _ _ _ m (aA hlt ?_)
  rw[hi]
  exact LN _ _ _ _ _ _ _ _ _ m (Ix _ _ _ _ _ _ _ _ _ m.2 (ug hb hw hn ok hl f))
theorem Af(hg:mt.length≤at_)(h:K (.a .none) (SG loc P))(m:Option ((X×X)×(X×X))):wh (jM (bG 1)) 1579 2 K (n+1) (sI (at_:Nat) m) (SG ([.list (mt.map bI)]::loc) P):=by
 have hlt:decide ((at_:Int)<((mt.map bI).length:Int))=false:=decide_eq_false λh=>Nat.not_lt.mpr hg (WM (by rw[WO] at h;exact h))
 cases m with
 |none=>exact C0 _ _ _ _ _ _ _ (cY hlt h)
 |some m=>exact BW _ _ _ _ _ _ _ m (cY hlt h)
end
def xb(x:Nat)(T:aB):Nat:=A4 T (λs=>A9 s x) λ_ _=>x
def gI(Ts:List aB)(x:Nat):Nat:=@List.rec aB (λ_=>Nat→Nat) id (λT _ ih x=>ih (xb x T)) Ts x
abbrev Ut:=List (Us×(Nat→Nat))
def CT(s:S1)(t:Nat→Nat):Ut:=s.u.toList.map λu=>(u,t)
def yk(ss:List S1)(t:Nat→Nat):Ut:=@List.rec S1 (λ_=>(Nat→Nat)→Ut) (λ_=>[]) (λs _ ih t=>CT s t++ih λx=>A9 s (t x)) ss t
def CZ(T:aB)(t:Nat→Nat):Ut:=A4 T (λs=>CT s t) λss _=>yk ss t
def fx(Ts:List aB)(t:Nat→Nat):Ut:=@List.rec aB (λ_=>(Nat→Nat)→Ut) (λ_=>[]) (λT _ ih t=>CZ T t++ih λx=>xb (t x) T) Ts t
def sZ(U:Ut)(x i s:Nat):Prop:=∃q∈U,q.1.i=i∧q.2 x=s
section
variable{p:iI}{s:S1}{T:aB}{M:Nat→List Nat}{x i y n:Nat}{t:Nat→Nat}{U V:Ut}
theorem qj:sZ (U++V) x i y↔sZ U x i y∨sZ V x i y:=⟨λ⟨q,h,r⟩=>(WF h).elim (λh=>.inl ⟨q,h,r⟩) λh=>.inr ⟨q,h,r⟩,λh=>h.elim (λ⟨q,h,r⟩=>⟨q,WH _ h,r⟩) λ⟨q,h,r⟩=>⟨q,WG _ h,r⟩⟩
theorem kJ:¬sZ [] x i y:=λ⟨q,h,_⟩=>WJ h
theorem xu{j:Nat}:y∈ng M i x j↔y∈M j∨(i=j∧x=y):=by
 unfold ng
 cases q:decide (x∈M i) with
 |true=>exact⟨.inl,λh=>h.elim id λh=>h.1▸h.2▸of_decide_eq_true q⟩
 |false=>
  show y∈upd M i (M i++[x]) j↔_
  by_cases e:j=i
  ·subst e;rw[mx,List.mem_append,List.mem_singleton];exact⟨λh=>h.elim .inl λh=>.inr ⟨rfl,h.symm⟩,λh=>h.elim .inl λh=>.inr h.2.symm⟩
  ·rw[nN e];exact⟨.inl,λh=>h.elim id λh=>(e h.1.symm).elim⟩
theorem ME:(fL p T).1=xb p.1 T:=@aB.casesOn (λT=>(fL p T).1=xb p.1 T) T (λs=>rfl) λss t=>rfl
theorem L4:∀{Ts:List aB} {p:iI},(aL Ts p).1=gI Ts p.1:=λ{Ts}=>@List.rec aB (λTs=>∀{p:iI},(aL Ts p).1=gI Ts p.1) (λ{p}=>rfl) (λT r ih {p}=>(ih (p:=fL p T)).trans (congrArg (gI r) ME)) Ts
theorem C5:y∈(l4 (t x,M) s).2 i↔y∈M i∨sZ (CT s t) x i y:=by
 obtain⟨w,u,c⟩:=s
 cases u with
 |none=>exact⟨.inl,λh=>h.elim id λh=>(kJ h).elim⟩
 |some u=>exact xu.trans ⟨λh=>h.imp id λh=>⟨(u,t),.head _,h⟩,λh=>h.imp id λ⟨q,hq,h⟩=>by cases WD hq;exact h⟩
theorem MD:∀{ss:List S1} {t:Nat→Nat} {M:Nat→List Nat},y∈(nW ss (t x,M)).2 i↔y∈M i∨sZ (yk ss t) x i y:=λ{ss}=>@List.rec S1 (λss=>∀{t:Nat→Nat} {M:Nat→List Nat},y∈(nW ss (t x,M)).2 i↔y∈M i∨sZ (yk ss t) x i y) (λ{t M}=>⟨.inl,λh=>h.elim id λh=>(kJ h).elim⟩)
 (λs r ih {t M}=>((ih (t:=λx=>A9 s (t x)) (M:=(l4 (t x,M) s).2)).trans (or_congr C5 Iff.rfl)).trans (or_assoc.trans (or_congr Iff.rfl qj.symm))) ss
theorem IQ:y∈(fL (t x,M) T).2 i↔y∈M i∨sZ (CZ T t) x i y:=@aB.casesOn (λT=>y∈(fL (t x,M) T).2 i↔y∈M i∨sZ (CZ T t) x i y) T (λs=>C5) λss c=>MD
theorem El:∀{Ts:List aB} {t:Nat→Nat} {M:Nat→List Nat},y∈(aL Ts (t x,M)).2 i↔y∈M i∨sZ (fx Ts t) x i y:=λ{Ts}=>@List.rec aB (λTs=>∀{t:Nat→Nat} {M:Nat→List Nat},y∈(aL Ts (t x,M)).2 i↔y∈M i∨sZ (fx Ts t) x i y) (λ{t M}=>⟨.inl,λh=>h.elim id λh=>(kJ h).elim⟩)
 (λT r ih {t M}=>by
  have e:aL (T::r) (t x,M)=aL r (xb (t x) T,(fL (t x,M) T).2):=congrArg (aL r) (Prod.ext ME rfl)
  rw[e]
  exact((ih (t:=λx=>xb (t x) T) (M:=(fL (t x,M) T).2)).trans (or_congr IQ Iff.rfl)).trans (or_assoc.trans (or_congr Iff.rfl qj.symm))) Ts
theorem Bv{c:Bool}{a b:Nat}(h:a<16)(h':b<16):cond c a b<16:=@Bool.casesOn (λc=>cond c a b<16) c h' h
theorem Gm{u:Option Us}:fw u<16:=@Option.casesOn Us (λu=>fw u<16) u (by decide) λu=>Bv (by decide) (Bv (by decide) (Bv (by decide) (Bv (by decide) (by decide))))
theorem N9{a b:Nat}(h:a<16)(h':b<16):a |||b<16:=Nat.or_lt_two_pow (n:=4) h h'
theorem Hv(h:x<16):A9 s x<16:=by
 obtain⟨w,u,c⟩:=s
 exact@Wk.casesOn (λw=>A9 ⟨w,u,c⟩ x<16) w (N9 h (by decide)) h h (N9 h Gm)
theorem Fw(h:x<16):xb x T<16:=@aB.casesOn (λT=>xb x T<16) T (λs=>Hv h) λss t=>h
theorem yu:∀{Ts:List aB} {x:Nat},x<16→gI Ts x<16:=λ{Ts}=>@List.rec aB (λTs=>∀{x:Nat},x<16→gI Ts x<16) (λ{x} h=>h) (λT r ih {x} h=>ih (Fw h)) Ts
end
theorem BG{α:Type}{P P':α→Bool}(h:∀x,P' x=true→P x=true):∀{l:List α},(l.filter P').length≤(l.filter P).length:=λ{l}=>@List.rec α (λl=>(l.filter P').length≤(l.filter P).length) (Nat.le_refl _) (λa r ih=>by
 rw[List.filter_cons,List.filter_cons]
 cases q:P' a with
 |true=>rw[h a q];exact Ww ih
 |false=>cases P a with
  |true=>exact Nat.le_succ_of_le ih
  |false=>exact ih) l
theorem AD{α:Type}{P P':α→Bool}(h:∀x,P' x=true→P x=true){q:α}(h1:P q=true)(h2:P' q=false):∀{l:List α},q∈l→(l.filter P').length+1≤(l.filter P).length:=λ{l}=>@List.rec α (λl=>q∈l→(l.filter P').length+1≤(l.filter P).length) (λh=>(WJ h).elim) (λa r ih hq=>by
 rw[List.filter_cons,List.filter_cons]
 rcases WC hq with e |hq
 ·rw[← e,h1,h2];exact Ww (BG h)
 ·cases q':P' a with
  |true=>rw[h a q'];exact Ww (ih hq)
  |false=>cases P a with
   |true=>exact Nat.le_succ_of_le (ih hq)
   |false=>exact ih hq) l
def K0:List (Nat×Nat):=(List.range 64).map λn=>(n / 16,n % 16)
theorem zq{p:Nat×Nat}(h1:p.1<4)(h2:p.2<16):p∈K0:=List.mem_map.mpr ⟨p.1*16+p.2,WE (by omega),Prod.ext (by show(p.1*16+p.2) / 16=p.1;omega) (by show(p.1*16+p.2) % 16=p.2;omega)⟩
def BH(mt:List (Nat×Nat)):Nat:=(K0.filter λp=> !decide (p∈mt)).length
section
variable{nb af to c:Nat}{mt:List (Nat×Nat)}{p:Nat×Nat}
theorem fa:∃x,dF nb af to mt=mt++x:=by
 unfold dF
 cases Nat.blt to nb with
 |false=>exact⟨[],(WQ _).symm⟩
 |true=>cases decide ((to,af)∈mt) with
  |true=>exact⟨[],(WQ _).symm⟩
  |false=>exact⟨_,rfl⟩
theorem mf(h:p∈dF nb af to mt):p∈mt∨(p=(to,af)∧to<nb):=by
 unfold dF at h
 cases q:Nat.blt to nb with
 |false=>rw[q] at h;exact .inl h
 |true=>
  rw[q] at h
  cases q2:decide ((to,af)∈mt) with
  |true=>rw[q2] at h;exact .inl h
  |false=>rw[q2] at h;exact(WF h).imp id λh=>⟨WD h,Wu q⟩
theorem qm(h:to<nb):(to,af)∈dF nb af to mt:=by
 unfold dF
 rw[show Nat.blt to nb=true from Wx h]
 cases q2:decide ((to,af)∈mt) with
 |true=>exact of_decide_eq_true q2
 |false=>exact WG _ (.head _)
theorem qA(hn:nb≤4)(ha:af<16)(h:mt.length+BH mt≤c):(dF nb af to mt).length+BH (dF nb af to mt)≤c:=by
 unfold dF
 cases q:Nat.blt to nb with
 |false=>exact h
 |true=>cases q2:decide ((to,af)∈mt) with
  |true=>exact h
  |false=>
   show(mt++[(to,af)]).length+BH (mt++[(to,af)])≤c
   rw[WN,Nat.add_assoc,show[(to,af)].length=1 from rfl,Nat.add_comm 1]
   refine V9 (Wj (AD (q:=(to,af)) (λx hx=>?_) ?_ ?_ (zq (Wh (Wu q) hn) ha)) _) h
   ·exact(Bool.not_eq_true' _).mpr (decide_eq_false λhm=>of_decide_eq_false ((Bool.not_eq_true' _).mp hx) (WH _ hm))
   ·rw[q2];rfl
   ·rw[decide_eq_true (WG _ (.head _):(to,af)∈mt++[(to,af)])];rfl
end
def zT(Z:Zt)(b:Nat):List aB:=alt Z[b]? (λz=>z.1) []
def ey(Z:Zt)(b:Nat):List Nat:=alt Z[b]? (λz=>[z.2.1,z.2.2]) []
def aO(Z:Zt)(b s:Nat):Nat:=gI (zT Z b) s
def rM(Z:Zt):Nat→Nat→Prop:=Dq Z.length (ey Z) (aO Z)
def zZ(Z:Zt)(b x i s:Nat):Prop:=sZ (fx (zT Z b) id) x i s
structure CG(Z:Zt)(k:Nat)(mt:List (Nat×Nat))(M:Nat→List Nat):Prop where
 pos:(0,0)∈mt
 sub:∀p∈mt,rM Z p.1 p.2
 lo:∀p∈mt,p.1<Z.length∧p.2<16
 sz:mt.length+BH mt≤65
 cl:∀j b s,j<k→mt[j]?=some (b,s)→∀to∈ey Z b,to<Z.length→(to,aO Z b s)∈mt
 met:∀i s,s∈M i↔∃j b s0,j<k∧mt[j]?=some (b,s0)∧zZ Z b s0 i s
 ml:∀i,(M i).length≤10*k
theorem CG.next{Z:Zt}{k b s:Nat}{mt:List (Nat×Nat)}{M:Nat→List Nat}{Ts:List aB}{w:Nat×Nat}(I:CG Z k mt M)(h4:Z.length≤4)(hg:mt[k]?=some (b,s))(hz:Z[b]?=some (Ts,w))(hs:dm Ts≤10)(hm:Mg M (aL Ts (s,M)).2 (dm Ts)):CG Z (k+1) (fY Z.length w (aL Ts (s,M)).1 mt) (aL Ts (s,M)).2:=by
 have eT:zT Z b=Ts:=by unfold zT;rw[hz];rfl
 have eW:ey Z b=[w.1,w.2]:=by unfold ey;rw[hz];rfl
 have eE:(aL Ts (s,M)).1=aO Z b s:=by rw[L4,aO,eT]
 have hin:(b,s)∈mt:=List.mem_of_getElem? hg
 have hL:=I.lo _ hin
 have h16:aO Z b s<16:=yu hL.2
 rw[eE]
 have new:∀to,to∈ey Z b→to<Z.length→rM Z to (aO Z b s):=λto h1 h2=>.s (I.sub _ hin) h1 h2
 obtain⟨x1,e1⟩:=@fa Z.length (aO Z b s) w.1 mt
 obtain⟨x2,e2⟩:=@fa Z.length (aO Z b s) w.2 (dF Z.length (aO Z b s) w.1 mt)
 have pre:fY Z.length w (aO Z b s) mt=mt++(x1++x2):=e2.trans (by rw[e1,WR])
 have old:∀p,p∈mt→p∈fY Z.length w (aO Z b s) mt:=λp h=>pre▸WH _ h
 have mem:∀p,p∈fY Z.length w (aO Z b s) mt→p∈mt∨(p.2=aO Z b s∧p.1∈ey Z b∧p.1<Z.length):=λp h=>(mf h).elim (λh=>(mf h).imp id λh=>by rw[h.1,eW];exact⟨rfl,.head _,h.2⟩) λh=>.inr (by rw[h.1,eW];exact⟨rfl,.tail _ (.head _),h.2⟩)
 have get:∀j,j<k+1→(fY Z.length w (aO Z b s) mt)[j]?=mt[j]?:=λj hj=>by rw[pre];exact List.getElem?_append_left (Wh hj (WK hg).1)
 refine⟨old _ I.pos,λp h=>(mem p h).elim (I.sub p) λh=>h.1▸new _ h.2.1 h.2.2,λp h=>(mem p h).elim (I.lo p) λh=>⟨h.2.2,h.1▸h16⟩,qA h4 h16 (qA h4 h16 I.sz),λj b' s' hj hg' to ht hlt=>?_,λi y=>?_,λi=>V9 (hm i) (Wm (I.ml i) hs)⟩
 ·rw[get j hj] at hg'
  rcases Nat.lt_succ_iff_lt_or_eq.mp hj with hj |rfl
  ·exact old _ (I.cl j b' s' hj hg' to ht hlt)
  ·cases hg.symm.trans hg'
   rw[eW] at ht
   rcases WC ht with rfl |ht
   ·obtain⟨x,e⟩:=@fa Z.length (aO Z b s) w.2 (dF Z.length (aO Z b s) w.1 mt)
    exact(show(w.1,aO Z b s)∈dF Z.length (aO Z b s) w.2 (dF Z.length (aO Z b s) w.1 mt) from e▸WH _ (qm hlt))
   ·cases WD ht
    exact qm hlt
 ·have h:=@El s i y Ts id M
  refine h.trans ⟨λh=>h.elim (λh=>((I.met i y).mp h).elim λj ⟨b',s0,hj,hg',hh⟩=>⟨j,b',s0,Nat.lt_succ_of_lt hj,(get j (Nat.lt_succ_of_lt hj)).trans hg',hh⟩) λh=>⟨k,b,s,Nat.lt_succ_self k,(get k (Nat.lt_succ_self k)).trans hg,by unfold zZ;rw[eT];exact h⟩,λ⟨j,b',s0,hj,hg',hh⟩=>?_⟩
  rw[get j hj] at hg'
  rcases Nat.lt_succ_iff_lt_or_eq.mp hj with hj |rfl
  ·exact .inl ((I.met i y).mpr ⟨j,b',s0,hj,hg',hh⟩)
  ·cases hg.symm.trans hg'
   unfold zZ at hh;rw[eT] at hh;exact .inr hh
structure IU(Z:Zt)(P:SP):Prop where
 rd:AZ Z P
 st:∀z∈Z,∀T∈z.1,OO T
def nK(Z:Zt)(M:Nat→List Nat):Prop:=∀i s,s∈M i↔∃b s0,rM Z b s0∧zZ Z b s0 i s
def ql(xs:List X)(S:AS)(K:KX):Prop:=∃Z P,xs=[.a (.g 5 0),.a (.g 6 0)]∧S=SG S.loc (setM P λ_=>[])∧IU Z P∧∀M,nK Z M→(∀i,(M i).length≤700)→K (.a .none) (SG S.loc (setM P M))
variable{mt:List (Nat×Nat)}{M:Nat→List Nat}{K:KX}
theorem Gq(I:CG Z mt.length mt M){b s:Nat}(h:rM Z b s):(b,s)∈mt:=by
 induction h with
 |z=>exact I.pos
 |s hr hw ht ih=>exact(List.mem_iff_getElem?.mp ih).elim λj hj=>I.cl j _ _ (WK hj).1 hj _ hw ht
theorem ML:∀{Ts:List aB} {p:iI},Mg p.2 (aL Ts p).2 (dm Ts):=λ{Ts}=>@List.rec aB (λTs=>∀{p:iI},Mg p.2 (aL Ts p).2 (dm Ts)) (λ{p} i=>Nat.le_refl _) (λT r ih {p}=>(Iq (T:=T)).trans (ih (p:=fL p T))) Ts
theorem DL(I:CG Z mt.length mt M):nK Z M:=λi s=>(I.met i s).trans ⟨λ⟨j,b,s0,_,hg,h⟩=>⟨b,s0,I.sub _ (List.mem_of_getElem? hg),h⟩,λ⟨b,s0,hr,h⟩=>(List.mem_iff_getElem?.mp (Gq I hr)).elim λj hj=>⟨j,b,s0,(WK hj).1,hj,h⟩⟩
theorem PC(hp:0<Z.length):CG Z 0 [(0,0)] λ_=>[]:=⟨.head _,λp h=>WD h▸.z,λp h=>WD h▸⟨hp,by decide⟩,by decide+kernel,λj b s h=>(Nat.not_lt_zero _ h).elim,λi s=>⟨λh=>(WJ h).elim,λ⟨j,b,s0,h,_⟩=>(Nat.not_lt_zero _ h).elim⟩,λi=>Nat.le_refl _⟩
theorem zget?{α:Type}{f:List aB×(Nat×Nat)→α}{b:Nat}{z:List aB×(Nat×Nat)}(h:Z[b]?=some z):(Z.map f)[b]?=some (f z):=by rw[List.getElem?_map,h];rfl
theorem sw{nb af:Nat}{w:Nat×Nat}:mt.length≤(fY nb w af mt).length:=(@fa nb af w.1 mt).elim λx1 e1=>(@fa nb af w.2 (dF nb af w.1 mt)).elim λx2 e2=>by
 unfold fY
 rw[e2,e1,WN,WN,Nat.add_assoc]
 exact Wo _ _
theorem Az(ok:IU Z P)(h:∀M,nK Z M→(∀i,(M i).length≤700)→K (.a .none) (SG loc (setM P M)))(n:Nat):∀k mt M m,n+k=66→k≤mt.length→CG Z k mt M→wh (jM (bG 1)) 1579 2 K n (sI (k:Nat) m) (SG ([.list (mt.map bI)]::loc) (setM P M)):=
 @Nat.rec (λn=>∀k mt M m,n+k=66→k≤mt.length→CG Z k mt M→wh (jM (bG 1)) 1579 2 K n (sI (k:Nat) m) (SG ([.list (mt.map bI)]::loc) (setM P M)))
 (λk mt M m e hk I=>(Nat.not_le.mpr (Nat.lt_succ_self 65) (V9 (Wq (e.symm.trans (Nat.zero_add k))) (V9 hk (V9 (Wo _ _) I.sz)))).elim)
 (λn ih k mt M m e hk I=>by
  have hmt:mt.length≤65:=V9 (Wo _ _) I.sz
  rcases Nat.lt_or_eq_of_le hk with hlt |rfl
  ·have hg:mt[k]?=some mt[k]:=List.getElem?_eq_getElem hlt
   have hin:=I.lo _ (List.mem_of_getElem? hg)
   have hz:Z[mt[k].1]?=some Z[mt[k].1]:=List.getElem?_eq_getElem hin.1
   have hzm:=List.mem_of_getElem? hz
   have wo:jK 1 Z[mt[k].1].1 (setM P M):=⟨ok.rd.idx,ok.rd.us _ hzm,λi=>Wg (Wm (V9 (I.ml i) (Wr 10 (V9 hk hmt))) (ok.rd.sz _ hzm)) (by decide),(λq=>nomatch q),ok.st _ hzm⟩
   have st:=I.next (Ts:=Z[mt[k].1].1) (w:=Z[mt[k].1].2) ok.rd.le hg hz (ok.rd.sz _ hzm) (ML (p:=(mt[k].2,M)))
   exact A0 (P:=setM P M) (nb:=Z.length) hg (by rw[show(setM P M).Bs=zB Z from ok.rd.bs];exact zget? hz) (by rw[show(setM P M).Ws=zW Z from ok.rd.ws];exact zget? hz) (by rw[show(setM P M).Bs=zB Z from ok.rd.bs,zB,WO]) wo (Wg (Ww hmt) (by decide)) (λm=>ih (k+1) _ _ (some m) ((Nat.add_right_comm n k 1).trans e) (V9 hlt sw) st) m
  ·exact Af (Nat.le_refl _) (h M (DL I) λi=>V9 (I.ml i) (V9 (Wr 10 hmt) (by decide))) m) n
theorem J7{xs:List X}{S:AS}(h:ql xs S K):ae (jM (bG 1)) 1579 xs S K:=by
 obtain⟨Z,P,rfl,e,ok,h⟩:=h
 rw[e]
 exact QJ _ _ _ _ ⟨66,Az ok h 66 0 [(0,0)] _ none rfl (Nat.zero_le _) (PC ok.rd.pos)⟩
abbrev De:=Us×((Nat→Nat)×Nat)
def Nw(P:SP)(now b:Nat)(t:Nat→Nat):Prop:=∃g,P.N[now]?=some g∧g.pv≠.nil∧g.b=b∧g.t=t
structure Ld(P:SP)(d:De):Prop where
 nw:Nw P (P.F d.1.i) d.2.2 d.2.1
 a:cH (.int (d.1.n+1)) P.es=some (.int (P.F d.1.i:Nat))
 f:cH (.int d.1.fin) P.es=some (.int (P.F d.1.i:Nat))
def Ik(es:List (A×A)):Prop:=∀p∈es,∃m:Int,p.1=.int m
structure GJ(nb:Nat)(P:SP)(D:List De)(i:Nat)(lo:Int):Prop where
 nok:∀(j:Nat) (g:GN),P.N[j]?=some g→sU P.N nb j g
 sup:∀(j:Nat) (g:GN),P.N[j]?=some g→g.kd=7→gg g.nd g.sb
 ik:Ik P.es
 us:∀d∈D,d.1.i<i∧d.1.n+1≤lo∧d.1.fin≤lo∧Ld P d
section
variable{nb p:Nat}{lo k k':Int}{D:List De}{N x:List GN}{g:GN}{t:Nat→Nat}{es:List (A×A)}{v:Nat}
theorem c8:u.n+1≤u.fin:=by
 obtain⟨pl,fm,s,nm,mode,role,un⟩:=u
 exact@Uf.casesOn (λfm=>un+1≤Us.fin ⟨pl,fm,s,nm,mode,role,un⟩) fm le1 le2 le2 (Int.le_refl _)
theorem gm(h:Ik es):cH (.int k) (dL k' v es)=cond (decide (k=k')) (some (.int (v:Nat))) (cH (.int k) es):=@List.rec (A×A) (λes=>Ik es→cH (.int k) (dL k' v es)=cond (decide (k=k')) (some (.int (v:Nat))) (cH (.int k) es)) (λ_=>by
  show cond (decide (k'=k)) _ none=_
  rw[show decide (k'=k)=decide (k=k') from decide_eq_decide.mpr ⟨Eq.symm,Eq.symm⟩];rfl) (λq r ih h=>by
  obtain⟨m,e⟩:=h q (.head _)
  obtain⟨q1,q2⟩:=q
  subst e
  have ih:=ih λp hp=>h p (.tail _ hp)
  show cH (.int k) (cond (decide (m=k')) ((A.int m,.int (v:Nat))::r) ((A.int m,q2)::dL k' v r))=cond _ _ (cond (decide (m=k)) (some q2) (cH (.int k) r))
  by_cases e:m=k'
  ·subst e
   rw[decide_eq_true rfl]
   show cond (decide (m=k)) (some (A.int (v:Nat))) (cH (.int k) r)=_
   by_cases e2:m=k
   ·rw[decide_eq_true e2,decide_eq_true e2.symm];rfl
   ·rw[decide_eq_false e2,decide_eq_false (Ne.symm e2)];rfl
  ·rw[decide_eq_false e]
   show cond (decide (m=k)) (some q2) (cH (.int k) (dL k' v r))=_
   rw[ih]
   by_cases e2:m=k
   ·rw[decide_eq_true e2,decide_eq_false (λq=>e (e2.trans q))];rfl
   ·rw[decide_eq_false e2];rfl) es h
theorem iV:∀{es:List (A×A)},Ik es→Ik (dL k v es):=λ{es}=>@List.rec (A×A) (λes=>Ik es→Ik (dL k v es)) (λ_ p hp=>⟨k,congrArg Prod.fst (WD hp)⟩) (λq r ih h=>by
 show Ik (cond (am (.int k) q.1) ((q.1,.int (v:Nat))::r) (q::dL k v r))
 cases am (.int k) q.1 with
 |true=>exact λp hp=>(WC hp).elim (λe=>e▸h q (.head _)) λhp=>h p (.tail _ hp)
 |false=>exact λp hp=>(WC hp).elim (λe=>e▸h q (.head _)) λhp=>ih (λp hp=>h p (.tail _ hp)) p hp) es
theorem sU.mono(h:sU N nb i g):sU (N++x) nb i g:=by
 cases h with
 |nil h hk=>exact .nil h hk
 |ent b h hk hb hl ht=>exact .ent b h hk hb hl ht
 |one p g' h hp hg hn hb hs ht=>exact .one p g' h hp (bw hg) hn hb hs ht
 |sup p h hk hs ht hp=>exact .sup p h hk hs ht hp
theorem rg{g':GN}(h:(N++[g'])[i]?=some g):N[i]?=some g∨(i=N.length∧g=g'):=by
 rcases Nat.lt_or_ge i N.length with hl |hl
 ·rw[List.getElem?_append_left hl] at h;exact .inl h
 ·rw[List.getElem?_append_right hl] at h
  have:=List.mem_of_getElem? h
  have hi:i - N.length<1:=(WK h).1
  exact .inr ⟨Nat.le_antisymm (Nat.le_of_sub_eq_zero (Nat.lt_one_iff.mp hi)) hl,WD this⟩
theorem Nw.mono(h:Nw P now b t)(g:GN):Nw (cM P g) now b t:=h.elim λx h=>⟨x,bw h.1,h.2⟩
theorem GJ.add(L:GJ nb P D i lo)(hg:sU P.N nb P.N.length g)(hs:g.kd=7→gg g.nd g.sb):GJ nb (cM P g) D i lo:=⟨λj x h=>(rg h).elim (λh=>(L.nok j x h).mono) λh=>by rw[h.1,h.2];exact hg.mono,
 λj x h hk=>(rg h).elim (λh=>L.sup j x h hk) λh=>by rw[h.2] at hk ⊢;exact hs hk,L.ik,λd hd=>⟨(L.us d hd).1,(L.us d hd).2.1,(L.us d hd).2.2.1,⟨(L.us d hd).2.2.2.nw.mono g,(L.us d hd).2.2.2.a,(L.us d hd).2.2.2.f⟩⟩⟩
theorem GJ.use(L:GJ nb P D i lo)(hn:Nw P now b t)(hi:u.i=i)(hl:lo≤u.n):GJ nb (cj (some u) now P) (D++[(u,t,b)]) (i+1) u.fin:=⟨L.nok,L.sup,iV (iV L.ik),λd hd=>by
 have fs:upd P.F u.i now u.i=now:=mx
 rcases WF hd with hd |hd
 ·obtain⟨h1,h2,h3,h4⟩:=L.us d hd
  have fo:upd P.F u.i now d.1.i=P.F d.1.i:=nN (Nat.ne_of_lt (hi▸h1))
  have lt:∀k:Int,k≤lo→k≠u.n+1∧k≠u.fin:=λk hk=>⟨Int.ne_of_lt (Int.lt_add_one_iff.mpr (Wy hk hl)),Int.ne_of_lt (Int.lt_of_lt_of_le (Int.lt_add_one_iff.mpr (Wy hk hl)) c8)⟩
  have fe:∀k:Int,k≤lo→cH (.int k) (cj (some u) now P).es=cH (.int k) P.es:=λk hk=>by
   show cH (.int k) (dL u.fin now (dL (u.n+1) now P.es))=_
   rw[gm (iV L.ik),decide_eq_false (lt k hk).2,gm L.ik,decide_eq_false (lt k hk).1];rfl
  exact⟨Nat.lt_succ_of_lt h1,Wy (Wy h2 (Wy hl le1)) c8,Wy (Wy h3 (Wy hl le1)) c8,⟨by show Nw _ (upd P.F u.i now d.1.i) _ _;rw[fo];exact h4.nw,by show _=some (A.int (upd P.F u.i now d.1.i:Nat));rw[fo,fe _ h2];exact h4.a,by show _=some (A.int (upd P.F u.i now d.1.i:Nat));rw[fo,fe _ h3];exact h4.f⟩⟩
 ·cases WD hd
  refine⟨hi▸Nat.lt_succ_self _,c8,Int.le_refl _,⟨by show Nw _ (upd P.F u.i now u.i) _ _;rw[fs];exact hn,?_,?_⟩⟩
  ·show cH (.int (u.n+1)) (dL u.fin now (dL (u.n+1) now P.es))=some (A.int (upd P.F u.i now u.i:Nat))
   rw[fs,gm (iV L.ik),gm L.ik,decide_eq_true rfl]
   cases decide (u.n+1=u.fin) <;> rfl
  ·show cH (.int u.fin) (dL u.fin now (dL (u.n+1) now P.es))=some (A.int (upd P.F u.i now u.i:Nat))
   rw[fs,gm (iV L.ik),decide_eq_true rfl];rfl⟩
end
def dU(b:Nat)(U:Ut):List De:=U.map λz=>(z.1,(z.2,b))
def Lc(nb:Nat)(P:SP)(D:List De)(r:List Us)(hi:Int):Prop:=∃i lo,GJ nb P D i lo∧aE r i lo hi
structure LR(nb b:Nat)(q:LS)(t:Nat→Nat)(D:List De)(r:List Us)(hi:Int):Prop where
 lay:Lc nb q.P D r hi
 nw:Nw q.P q.now b t
 t:q.t=t
section
variable{nb b:Nat}{q:LS}{s:S1}{T:aB}{D:List De}{r:List Us}{hi:Int}{bb:Bool}{t:Nat→Nat}{P P':SP}{now:Nat}{g:GN}{u:Option Us}
theorem Nw.pre(h:Nw P now b t)(k:Lk P P'):Nw P' now b t:=h.elim λg h=>k.n.elim λx e=>⟨g,e▸bw h.1,h.2⟩
theorem Nw.last(hp:g.pv≠.nil):Nw (cM P g) P.N.length g.b g.t:=⟨g,by show(P.N++[g])[P.N.length]?=_;rw[List.getElem?_append_right (Nat.le_refl _),Nat.sub_self];rfl,hp,rfl,rfl⟩
theorem EO(L:Lc nb P D (u.toList++r) hi)(hn:Nw P now b t):Lc nb (cj u now P) (D++dU b (u.toList.map λu=>(u,t))) r hi:=by
 cases u with
 |none=>exact(WQ D).symm▸L
 |some u=>exact L.elim λi L=>L.elim λlo L=>⟨i+1,u.fin,L.1.use hn L.2.1 L.2.2.2.1,L.2.2.2.2⟩
theorem Lc.add(L:Lc nb P D r hi)(hg:sU P.N nb P.N.length g)(hs:g.kd=7→gg g.nd g.sb):Lc nb (cM P g) D r hi:=L.elim λi L=>L.elim λlo L=>⟨i,lo,L.1.add hg hs,L.2⟩
theorem pW{a m:Nat}(h:m % 2=0):(a |||m) % 2=a % 2:=by
 have:=Nat.or_mod_two_pow (a:=a) (b:=m) (n:=1)
 rw[Nat.pow_one,h,Nat.or_zero] at this
 exact this
theorem vZ{a:Nat}:(a |||1) % 2=1:=by
 have:=Nat.or_mod_two_pow (a:=a) (b:=1) (n:=1)
 rw[Nat.pow_one] at this
 rw[this]
 rcases Nat.mod_two_eq_zero_or_one a with h |h <;> rw[h] <;> rfl
theorem wA{u:Option Us}:fw u % 2=0:=by
 have cl:∀{c:Bool} {a b:Nat},a % 2=0→b % 2=0→cond c a b % 2=0:=λ{c a b} h h'=>@Bool.casesOn (λc=>cond c a b % 2=0) c h' h
 exact@Option.casesOn Us (λu=>fw u % 2=0) u rfl λu=>cl rfl (cl rfl (cl rfl (cl rfl rfl)))
theorem lQ(hn:Nw P now b t){k:Int}{x:A}{c:Bool}{t':Nat→Nat}(hs:k=7→c=false)(ht:∀s,t' s % 2=t s % 2):sU P.N nb P.N.length ⟨k,.one now,x,c,b,t'⟩:=hn.elim λg h=>.one now g rfl (WK h.1).1 h.1 h.2.1 h.2.2.1.symm hs λs=>(ht s).trans (h.2.2.2▸rfl)
theorem mh(R:LR nb b q t D (s.u.toList++r) hi)(hs:Sp bb s):LR nb b (gH b q s) (λx=>A9 s (t x)) (D++dU b (CT s t)) r hi:=by
 obtain⟨now,t',P⟩:=q
 obtain⟨L,hn,rfl⟩:=R
 have L1:=EO L hn
 have hn1:=hn.pre (@NF s.u now P)
 obtain⟨w,u,c⟩:=s
 cases w with
 |sup=>exact⟨L1.add (.sup now rfl rfl rfl (λs=>vZ) (hn1.elim λg h=>(WK h.1).1)) λ_=>hs.sup rfl,.last (g:=⟨7,.one now,c,true,b,λx=>t' x |||1⟩) (λh=>nomatch h),rfl⟩
 |idle=>exact⟨L1,hn1,rfl⟩
 |call=>exact⟨L1.add (lQ hn1 (λ_=>rfl) λ_=>rfl) λ_=>hs.call rfl,.last (g:=⟨7,.one now,c,false,b,t'⟩) (λh=>nomatch h),rfl⟩
 |set=>exact⟨L1.add (lQ hn1 (λh=>nomatch h) λs=>pW wA) (λh=>nomatch h),.last (g:=⟨4,.one now,c,false,b,λx=>t' x |||fw u⟩) (λh=>nomatch h),rfl⟩
theorem wd:∀{ss:List S1} {q:LS} {t:Nat→Nat} {D:List De},LR nb b q t D ((ss.flatMap λs=>s.u.toList)++r) hi→(∀s∈ss,Sp bb s)→Lc nb (f6 b ss q).P (D++dU b (yk ss t)) r hi:=λ{ss}=>@List.rec S1 (λss=>∀{q:LS} {t:Nat→Nat} {D:List De},LR nb b q t D ((ss.flatMap λs=>s.u.toList)++r) hi→(∀s∈ss,Sp bb s)→Lc nb (f6 b ss q).P (D++dU b (yk ss t)) r hi)
 (λ{q t D} R _=>(WQ D).symm▸R.lay)
 (λs ss ih {q t D} R hs=>by
  have R':LR nb b q t D (s.u.toList++((ss.flatMap λs=>s.u.toList)++r)) hi:=WR ..▸R
  have h:=ih (mh R' (hs s (.head _))) λs h=>hs s (.tail _ h)
  rw[WR] at h
  have e:dU b (yk (s::ss) t)=dU b (CT s t)++dU b (yk ss λx=>A9 s (t x)):=WS
  rw[e]
  exact h) ss
theorem vX(R:LR nb b q t D (T.us++r) hi)(hT:bh bb T):LR nb b (iW b q T) (λx=>xb (t x) T) (D++dU b (CZ T t)) r hi:=by
 cases hT with
 |one h=>exact mh R h
 |@arr ss c h hs hl=>
  obtain⟨now,t',P⟩:=q
  obtain⟨L,hn,rfl⟩:=R
  have L1:LR nb b (oS b c ⟨now,t',P⟩) t' D ((ss.flatMap λs=>s.u.toList)++r) hi:=⟨L.add (lQ hn (λh=>nomatch h) λ_=>rfl) (λh=>nomatch h),.last (g:=⟨1,.one now,c,false,b,t'⟩) (λh=>nomatch h),rfl⟩
  exact⟨wd L1 h,hn.pre ((show Lk P (oS b c ⟨now,t',P⟩).P from jm).trans (@MT b ss (oS b c ⟨now,t',P⟩))),rfl⟩
theorem rU:∀{Ts:List aB} {q:LS} {t:Nat→Nat} {D:List De},LR nb b q t D (ic Ts++r) hi→(∀T∈Ts,bh bb T)→LR nb b (b9 b Ts q) (λx=>gI Ts (t x)) (D++dU b (fx Ts t)) r hi:=λ{Ts}=>@List.rec aB (λTs=>∀{q:LS} {t:Nat→Nat} {D:List De},LR nb b q t D (ic Ts++r) hi→(∀T∈Ts,bh bb T)→LR nb b (b9 b Ts q) (λx=>gI Ts (t x)) (D++dU b (fx Ts t)) r hi)
 (λ{q t D} R _=>(WQ D).symm▸R)
 (λT Ts ih {q t D} R hs=>by
  have R':LR nb b q t D (T.us++(ic Ts++r)) hi:=WR ..▸R
  have h:=ih (vX R' (hs T (.head _))) λs h=>hs s (.tail _ h)
  rw[WR] at h
  have e:dU b (fx (T::Ts) t)=dU b (CZ T t)++dU b (fx Ts λx=>xb (t x) T):=WS
  rw[e]
  exact h) Ts
end
def sY(Z:Zt):List Us:=Z.flatMap λz=>ic z.1
def oj(Z:Zt)(P:SP)(b to:Nat):Prop:=∃p g,p∈P.E.getD to []∧P.N[p]?=some g∧g.pv≠.nil∧g.b=b∧g.t=aO Z b
structure Gv(Z:Zt)(P:SP)(D:List De)(r:List Us)(hi:Int):Prop where
 lc:Lc Z.length P D r hi
 ent:∀b,b<Z.length→Nw P (b+1) b id
 st:∃g,P.N[Z.length+1]?=some g∧g.pv=.nil∧g.kd=1
 el:P.E.length=Z.length
 ein:∀b p,p∈P.E.getD b []→∃g,P.N[p]?=some g∧((b=0∧g.pv=.nil)∨(g.pv≠.nil∧b∈ey Z g.b∧g.t=aO Z g.b))
 e0:Z.length+1∈P.E.getD 0 []
variable{P':SP}{D D':List De}{r r':List Us}{hi:Int}{to:Nat}{kd:Int}{E:List (List Nat)}{y:Nat}
theorem iD:y∈(E.set i (E.getD i []++[x])).getD b []↔y∈E.getD b []∨(y=x∧b=i∧i<E.length):=by
 rw[List.getD_eq_getElem?_getD,List.getElem?_set]
 by_cases e:i=b
 ·subst e
  rw[if_pos rfl]
  by_cases h:i<E.length
  ·rw[if_pos h]
   show y∈E.getD i []++[x]↔_
   rw[List.mem_append,List.mem_singleton]
   exact⟨λq=>q.imp id λq=>⟨q,rfl,h⟩,λq=>q.imp id λq=>q.1⟩
  ·rw[if_neg h,List.getD_eq_getElem?_getD,List.getElem?_eq_none (Nat.not_lt.mp h)]
   exact⟨.inl,λq=>q.elim id λq=>(h q.2.2).elim⟩
 ·rw[if_neg e,← List.getD_eq_getElem?_getD]
  exact⟨.inl,λq=>q.elim id λq=>(e q.2.1.symm).elim⟩
theorem Gv.lay(G:Gv Z P D r hi)(k:Lk P P')(l:Lc Z.length P' D' r' hi):Gv Z P' D' r' hi:=⟨l,λb hb=>(G.ent b hb).pre k,k.n.elim λx e=>G.st.elim λg h=>⟨g,e▸bw h.1,h.2⟩,k.e▸G.el,λb p hp=>k.n.elim λx e=>(G.ein b p (k.e▸hp)).elim λg h=>⟨g,e▸bw h.1,h.2⟩,k.e▸G.e0⟩
theorem oj.pre(h:oj Z P b to)(k:Lk P P'):oj Z P' b to:=k.n.elim λx e=>h.elim λp h=>h.elim λg h=>⟨p,g,k.e▸h.1,e▸bw h.2.1,h.2.2⟩
theorem J0{nb:Nat}{n:Int}{E':List (List Nat)}(L:Lc nb P D r hi):Lc nb {P with n:=n,E:=E'} D r hi:=L.elim λi L=>L.elim λlo L=>⟨i,lo,⟨L.1.nok,L.1.sup,L.1.ik,λd hd=>have q:=L.1.us d hd;⟨q.1,q.2.1,q.2.2.1,⟨q.2.2.2.nw,q.2.2.2.a,q.2.2.2.f⟩⟩⟩,L.2⟩
theorem Gv.side(G:Gv Z P D r hi)(hn:Nw P now j (aO Z j))(hto:to∈ey Z j)(hk:kd≠7):Gv Z (bD Z.length kd to now j (aO Z j) P) D r hi∧Nw (bD Z.length kd to now j (aO Z j) P) now j (aO Z j)∧(to<Z.length→oj Z (bD Z.length kd to now j (aO Z j) P) j to)∧∀b to',oj Z P b to'→oj Z (bD Z.length kd to now j (aO Z j) P) b to':=by
 unfold bD
 cases q:Nat.blt to Z.length with
 |false=>exact⟨G,hn,(λh=>nomatch(show Nat.blt to Z.length=true from Wx h).symm.trans q),λ_ _ h=>h⟩
 |true=>
  have hlt:to<P.E.length:=G.el▸Wu q
  have L:=G.lc.add (g:=⟨kd,.one now,ll P.n,false,j,aO Z j⟩) (lQ hn (λ_=>rfl) λ_=>rfl) (λh=>(hk h).elim)
  have gn:(P.N++[(⟨kd,.one now,ll P.n,false,j,aO Z j⟩:GN)])[P.N.length]?=some ⟨kd,.one now,ll P.n,false,j,aO Z j⟩:=by rw[List.getElem?_append_right (Nat.le_refl _),Nat.sub_self];rfl
  refine⟨⟨J0 L,λb hb=>(G.ent b hb).mono _,G.st.elim λg h=>⟨g,bw h.1,h.2⟩,(List.length_set ..).trans G.el,λb p hp=>?_,iD.mpr (.inl G.e0)⟩,hn.mono _,λ_=>⟨P.N.length,_,iD.mpr (.inr ⟨rfl,rfl,hlt⟩),gn,(λh=>nomatch h),rfl,rfl⟩,λb to' h=>h.elim λp h=>h.elim λg h=>⟨p,g,iD.mpr (.inl h.1),bw h.2.1,h.2.2⟩⟩
  rcases iD.mp hp with hp |⟨rfl,rfl,_⟩
  ·exact(G.ein b p hp).elim λg h=>⟨g,bw h.1,h.2⟩
  ·exact⟨_,gn,.inr ⟨(λh=>nomatch h),hto,rfl⟩⟩
theorem G8:∀{Ts:List aB} {x:Nat},gI Ts x % 2=0→x % 2=0:=λ{Ts}=>@List.rec aB (λTs=>∀{x:Nat},gI Ts x % 2=0→x % 2=0) (λ{x} h=>h) (λT r ih {x} h=>by
 have h:=ih h
 cases T with
 |arr ss t=>exact h
 |one s=>
  obtain⟨w,u,c⟩:=s
  cases w with
  |sup=>exact nomatch(@vZ x).symm.trans h
  |set=>exact(pW wA).symm.trans h
  |_=>exact h) Ts
theorem vY{c:A}(hl:aE r i 0 hi)(hp:0<Z.length)(h4:Z.length≤4):Gv Z (qk c Z.length P) [] r hi:=by
 have gi:∀j g,(N0 Z.length c)[j]?=some g→g=kc∨(∃b,b<Z.length∧g=l5 b)∨g=sC c:=λj g h=>by
  rcases WC (List.mem_of_getElem? h) with h |h
  ·exact .inl h
  ·exact .inr ((WF h).imp (λh=>(List.mem_map.mp h).elim λb h=>⟨b,List.mem_range.mp h.1,h.2.symm⟩) WD)
 refine⟨⟨i,0,⟨λj g h=>?_,λj g h hk=>?_,λp h=>(WJ h).elim,λd h=>(WJ h).elim⟩,hl⟩,λb hb=>⟨l5 b,tC hb,(λh=>nomatch h),rfl,rfl⟩,⟨_,Cq,rfl,rfl⟩,by show(E0 Z.length).length=_;rw[E0,WO,List.length_range],λb p hp=>?_,?_⟩
 ·rcases gi j g h with rfl |⟨b,hb,rfl⟩ |rfl
  ·exact .nil rfl (.inl rfl)
  ·exact .ent b rfl (by show cond _ 2 3=(2:Int)∨cond _ 2 3=(3:Int);cases Nat.beq (b % 2) 0;exact .inr rfl;exact .inl rfl) rfl hb rfl
  ·exact .nil rfl (.inr rfl)
 ·rcases gi j g h with rfl |⟨b,hb,rfl⟩ |rfl
  ·exact nomatch hk
  ·revert hk;show cond _ 2 3=(7:Int)→_;cases Nat.beq (b % 2) 0 <;> exact λh=>nomatch h
  ·exact nomatch hk
 ·have hp:p∈(E0 Z.length).getD b []:=hp
  rw[oD] at hp
  cases q:(Nat.beq b 0&&Nat.blt b Z.length) with
  |false=>rw[q] at hp;exact(WJ hp).elim
  |true=>
   rw[q] at hp
   cases WD hp
   exact⟨_,Cq,.inl ⟨Wv (WB q).1,rfl⟩⟩
 ·show Z.length+1∈(E0 Z.length).getD 0 []
  rw[oD,show Nat.blt 0 Z.length=true from Wx hp]
  exact .head _
structure Dn(Z:Zt)(j:Nat)(P:SP)(D:List De):Prop where
 us:∀b,b<j→∀q∈fx (zT Z b) id,(q.1,(q.2,b))∈D
 out:∀b,b<j→∀to∈ey Z b,to<Z.length→oj Z P b to
structure kK(Z:Zt)(Q:SP):Prop where
 g:H5 Q.N Q.E Z.length (ey Z) (aO Z)
 sup:∀(j:Nat) (g:GN),Q.N[j]?=some g→g.kd=7→gg g.nd g.sb
 ld:∀b,b<Z.length→∀q∈fx (zT Z b) id,Ld Q (q.1,(q.2,b))
 el:Q.E.length=Z.length
variable{z:List aB×(Nat×Nat)}
theorem sK(hz:Z[j]?=some z)(hs:∀T∈z.1,bh false T)(G:Gv Z P D (ic z.1++r) hi)(dn:Dn Z j P D):∃D',Gv Z (bQ Z.length j z.1 z.2 P) D' r hi∧Dn Z (j+1) (bQ Z.length j z.1 z.2 P) D':=by
 have eT:zT Z j=z.1:=by unfold zT;rw[hz];rfl
 have eW:ey Z j=[z.2.1,z.2.2]:=by unfold ey;rw[hz];rfl
 have hj:j<Z.length:=(WK hz).1
 have R:=rU (q:=⟨j+1,id,P⟩) (t:=id) (Ts:=z.1) (b:=j) ⟨G.lc,G.ent j hj,rfl⟩ hs
 have eE:(λx=>gI z.1 (id x))=aO Z j:=funext λx=>by show gI z.1 x=gI (zT Z j) x;rw[eT]
 have k:=@ni j z.1 ⟨j+1,id,P⟩
 have et:(aF j z.1 P).t=aO Z j:=R.t.trans eE
 have G1:Gv Z (aF j z.1 P).P (D++dU j (fx z.1 id)) r hi:=G.lay k R.lay
 have n1:Nw (aF j z.1 P).P (aF j z.1 P).now j (aO Z j):=eE▸R.nw
 obtain⟨G2,n2,o2,p2⟩:=G1.side (kd:=5) n1 (to:=z.2.1) (eW▸.head _) (by decide)
 obtain⟨G3,n3,o3,p3⟩:=G2.side (kd:=6) n2 (to:=z.2.2) (eW▸.tail _ (.head _)) (by decide)
 unfold bQ
 rw[et]
 refine⟨_,G3,λb hb q hq=>?_,λb hb to ht hlt=>?_⟩
 ·rcases Nat.lt_succ_iff_lt_or_eq.mp hb with hb |rfl
  ·exact WH _ (dn.us b hb q hq)
  ·rw[eT] at hq
   exact WG _ (List.mem_map.mpr ⟨q,hq,rfl⟩)
 ·rcases Nat.lt_succ_iff_lt_or_eq.mp hb with hb |rfl
  ·exact p3 _ _ (p2 _ _ ((dn.out b hb to ht hlt).pre k))
  ·rw[eW] at ht
   rcases WC ht with rfl |ht
   ·exact p3 _ _ (o2 hlt)
   ·cases WD ht
    exact o3 hlt
theorem rX(hs:∀z∈Z,∀T∈z.1,bh false T):∀(Zr Zd:Zt) (P:SP) (D:List De),Z=Zd++Zr→Gv Z P D (sY Zr) hi→Dn Z Zd.length P D→∃D',Gv Z (aI Z.length Zr Zd.length P) D' [] hi∧Dn Z Z.length (aI Z.length Zr Zd.length P) D':=λZr=>
 @List.rec (List aB×(Nat×Nat)) (λZr=>∀(Zd:Zt) (P:SP) (D:List De),Z=Zd++Zr→Gv Z P D (sY Zr) hi→Dn Z Zd.length P D→∃D',Gv Z (aI Z.length Zr Zd.length P) D' [] hi∧Dn Z Z.length (aI Z.length Zr Zd.length P) D')
 (λZd P D e G dn=>⟨D,G,(congrArg List.length (e.trans (WQ Zd)))▸dn⟩)
 (λz Zr ih Zd P D e G dn=>by
  have hz:Z[Zd.length]?=some z:=by rw[e,List.getElem?_append_right (Nat.le_refl _),Nat.sub_self];rfl
  obtain⟨D',G',dn'⟩:=sK hz (hs z (List.mem_of_getElem? hz)) G dn
  have q:=ih (Zd++[z]) (bQ Z.length Zd.length z.1 z.2 P) D' (e.trans (List.append_cons Zd z Zr)) G' (by rw[WN];exact dn')
  rw[WN] at q
  exact q) Zr
theorem Ng{c:A}{i:Nat}(hp:0<Z.length)(h4:Z.length≤4)(hs:∀z∈Z,∀T∈z.1,bh false T)(hc:aE (sY Z) i 0 hi):kK Z (aI Z.length Z 0 (qk c Z.length P)):=by
 obtain⟨D,G,dn⟩:=rX hs Z [] (qk c Z.length P) [] rfl (vY hc hp h4) ⟨λb h=>(Nat.not_lt_zero _ h).elim,λb h=>(Nat.not_lt_zero _ h).elim⟩
 have G:Gv Z (aI Z.length Z 0 (qk c Z.length P)) D [] hi:=G
 obtain⟨i',lo,L,_⟩:=G.lc
 exact⟨⟨L.nok,G.ein,G.st.elim λg h=>⟨_,g,G.e0,h⟩,λb to hb ht hlt=>(dn.out b hb to ht hlt),λb s h=>G8 h⟩,L.sup,λb hb q hq=>(L.us _ (dn.us b hb q hq)).2.2.2,G.el⟩
def nU(C:ay):bA:={fn:=λa=>lk a [(880,C)],sy:=[692004]}
def rR(f:A)(m:Option A):List (Str×X):=alt m (λq=>([("graph",.a GV),("flow",.a f),("seen",.l 0 0),("waiting",.l 0 1),("number",.a q)]:List (Str×X))) [("graph",.a GV),("flow",.a f),("seen",.l 0 0),("waiting",.l 0 1)]
def Dv(es:List (A×A))(W:List A)(loc:List (List Ce))(gl:Rg 5):AS:=⟨[.dict es,.list W]::loc,gl⟩
def S6(C:ay)(K:KX)(n:Nat)(o:Option (List A×A))(env:En)(es:List (A×A))(loc:List (List Ce))(gl:Rg 5):Prop:=opt (io 913) λfi=>opt (nth fi.body 2) λs=>opt (F9 s) λp=>opt (nth p.2 0) λs=>opt (I9 s) λt=>opt o λv=>
 rQ (λ_=>.of λ_ _ K=>K (.a v.2) (Dv es v.1 loc gl)) fi.nm t.1 t.2 env (Dv es v.1 loc gl) (λenv S=>bS (ws (nU C) 19 fi.nm) (p.2.drop 1) env S (wh (nU C) 913 2 K n) (wh (nU C) 913 2 K n) (λx S=>ret x S K)) (λ_ _=>False) (λ_ _=>False)
section
variable(C:ay)(K:KX)(n:Nat)(f y:A)(k:Int)(es:List (A×A))(W:List A)(loc:List (List Ce))(gl:Rg 5)
theorem P8(h:∃n,wh (nU C) 913 2 K n (rR f none) (Dv [] [f] loc gl)):ae (nU C) 913 [.a GV,.a f] ⟨loc,gl⟩ K:=cast (by kernel_rfl) h
def Vi(o:Option (List A×A))(m:Option A):Prop:=aw (aq W) (S6 C K n o (rR f m) es loc gl) (K (.a (.bool false)) ⟨loc,gl⟩)
theorem Ch(h:Vi C K n f es W loc gl (cf W) none):wh (nU C) 913 2 K (n+1) (rR f none) (Dv es W loc gl):=cast (by kernel_rfl) h
theorem Do(h:Vi C K n f es W loc gl (cf W) (some y)):wh (nU C) 913 2 K (n+1) (rR f (some y)) (Dv es W loc gl):=cast (by kernel_rfl) h
def Oi:Prop:=HH (nU C) 913 2 1 K n (rR f (some (.int k))) (Dv es W loc gl)
theorem Jt(h:Oi C K n f k es W loc gl):S6 C K n (some (W,.int k)) (rR f none) es loc gl:=cast (by kernel_rfl) h
theorem IW(h:Oi C K n f k es W loc gl):S6 C K n (some (W,.int k)) (rR f (some y)) es loc gl:=cast (by kernel_rfl) h
def VM(es:List (A×A))(W:List A):Prop:=wh (nU C) 913 2 K n (rR f (some (.int k))) (Dv es W loc gl)
def RX(S:AS):Prop:=opt (dT S (.l 0 1) "extend") λmm=>ao (.a (.g 8 0)) (.a (.int k)) S λr S=>bK (nU C) mm (.l 0 1) "extend" [r] S λ_ S=>wh (nU C) 913 2 K n (rR f (some (.int k))) S
def R9(S:AS):Prop:=ao (.a (.g 7 0)) (.a (.int k)) S λx S=>lF S x (.a (.int 7)) λc=>aw c (ao (.a (.g 9 0)) (.a (.int k)) S λx S=>C [x] S λy S=>sX y S (wh (nU C) 913 2 K n (rR f (some (.int k))) S) (RX C K n f k S)) (RX C K n f k S)
def S8(S:AS):Prop:=ao (.a (.g 7 0)) (.a (.int k)) S λx S=>lF S x (.a (.int 1)) λc=>aw c (ao (.a (.g 8 0)) (.a (.int k)) S λr S=>sX r S (R9 C K n f k S) (ret (.a (.bool true)) S K)) (R9 C K n f k S)
theorem O0(h:aw (cH (.int k) es).isSome (VM C K n f k loc gl es W) (ak (bV (.int k) (.int k) (.int 1) es) (S8 C K n f k (Dv (bV (.int k) (.int k) (.int 1) es) W loc gl)))):Oi C K n f k es W loc gl:=cast (by kernel_rfl) h
end
def jS:ay:=ae (tab [(69,ae {} 69)]) 880
def kv(x:Nat):A×A:=(.int (x:Nat),.int 1)
def iv(x:Nat):A:=.int (x:Nat)
def wt(P:SP)(x:Nat):Nat:=alt P.N[x]? (λg=>(hO P.E g.pv).length) 0
def cs(P:SP)(sn:List Nat)(l:List Nat):Nat:=@List.rec Nat (λ_=>Nat) 0 (λx _ ih=>cond (decide (x∈sn)) 0 (wt P x)+ih) l
structure oa(P:SP):Prop where
 rd:∀(x:Nat) (g:GN),P.N[x]?=some g→∀p∈hO P.E g.pv,p<P.N.length
 en:∀(x:Nat) (g:GN) (e:Nat),P.N[x]?=some g→g.pv=.ent e→e<P.E.length
 sup:∀(x:Nat) (g:GN),P.N[x]?=some g→g.kd=7→gg g.nd g.sb
 tot:cs P [] (List.range P.N.length)≤850000
structure EI(P:SP)(f:Nat)(sn W:List Nat):Prop where
 up:∀x,x∈sn∨x∈W→kP P.N P.E x→kP P.N P.E f
 rng:∀x∈W,x<P.N.length
 cl:∀x∈sn,∀g,P.N[x]?=some g→¬(g.kd=1∧hO P.E g.pv=[])∧((g.kd=7∧g.sb=true)∨∀p∈hO P.E g.pv,p∈sn∨p∈W)
 tf:f∈sn∨f∈W
 cost:W.length+cs P sn (List.range P.N.length)≤850001
variable{f n c:Nat}{sn W l:List Nat}{g:GN}{l':List (List Ce)}{Kb:Bool→Prop}{Q Q':Prop}
theorem Nj:cs P (sn++[y]) l≤cs P sn l:=@List.rec Nat (λl=>cs P (sn++[y]) l≤cs P sn l) (Nat.le_refl _) (λx r ih=>Wm (by
 cases q:decide (x∈sn) with
 |true=>rw[decide_eq_true (WH [y] (of_decide_eq_true q))];exact Nat.le_refl _
 |false=>cases decide (x∈sn++[y]);exact Nat.le_refl _;exact Nat.zero_le _) ih) l
theorem Db(h:y∉sn):∀{l:List Nat},y∈l→cs P (sn++[y]) l+wt P y≤cs P sn l:=λ{l}=>@List.rec Nat (λl=>y∈l→cs P (sn++[y]) l+wt P y≤cs P sn l) (λh=>(WJ h).elim) (λx r ih hy=>by
 show cond (decide (x∈sn++[y])) 0 (wt P x)+cs P (sn++[y]) r+wt P y≤cond (decide (x∈sn)) 0 (wt P x)+cs P sn r
 by_cases e:x=y
 ·subst e
  rw[decide_eq_true (WG sn (List.mem_singleton.mpr rfl)),decide_eq_false h]
  show 0+cs P (sn++[x]) r+wt P x≤wt P x+cs P sn r
  rw[Nat.zero_add,Nat.add_comm]
  exact Wj Nj _
 ·have hm:decide (x∈sn++[y])=decide (x∈sn):=decide_eq_decide.mpr ⟨λh=>(WF h).elim id λh=>(e (WD h)).elim,WH _⟩
  rw[hm,Nat.add_assoc]
  exact Wj (ih ((WC hy).elim (λq=>(e q.symm).elim) id)) _) l
theorem DE:(cH (.int (y:Nat)) (sn.map kv)).isSome=decide (y∈sn):=@List.rec Nat (λsn=>(cH (.int (y:Nat)) (sn.map kv)).isSome=decide (y∈sn)) (decide_eq_false (λh=>nomatch h)).symm (λx r ih=>by
 show(cond (decide ((x:Int)=(y:Int))) (some (A.int 1)) (cH (.int (y:Nat)) (r.map kv))).isSome=_
 by_cases e:x=y
 ·subst e;rw[decide_eq_true rfl,decide_eq_true (List.mem_cons_self ..)];rfl
 ·rw[decide_eq_false (p:=(x:Int)=(y:Int)) λh=>e (Int.ofNat.inj h)]
  exact ih.trans (decide_eq_decide.mpr ⟨λh=>.tail _ h,λh=>(WC h).elim (λq=>(e q.symm).elim) id⟩)) sn
theorem Fx:y∉sn→bV (.int (y:Nat)) (.int (y:Nat)) (.int 1) (sn.map kv)=(sn++[y]).map kv:=@List.rec Nat (λsn=>y∉sn→bV (.int (y:Nat)) (.int (y:Nat)) (.int 1) (sn.map kv)=(sn++[y]).map kv) (λ_=>rfl) (λx r ih h=>by
 show cond (decide ((x:Int)=(y:Int))) _ (kv x::bV (.int (y:Nat)) (.int (y:Nat)) (.int 1) (r.map kv))=_
 rw[decide_eq_false (p:=(x:Int)=(y:Int)) λe=>h (Int.ofNat.inj e▸List.mem_cons_self ..)]
 exact congrArg (kv x::·) (ih λh'=>h (.tail _ h'))) sn
theorem qn(hg:P.N[k]?=some g)(G:oa P):au (SG l' P) (.a (lV g.pv))=some (.list ((hO P.E g.pv).map iv)):=by
 cases e:g.pv with
 |nil=>rfl
 |one p=>rfl
 |ent e'=>
  have hl:=G.en k g e' hg e
  have q:(nA P.E)[e']?=some (.list ((P.E.getD e' []).map iv)):=by rw[nA,List.getElem?_map,List.getD_eq_getElem?_getD,List.getElem?_eq_getElem hl];rfl
  exact congrArg (λo:Option Ce=>o.bind iy) q
theorem FU:uT (.a (lV g.pv))=none∧uS (.a (lV g.pv))=none:=by cases g.pv <;> exact⟨rfl,rfl⟩
theorem mM{a b:Int}:lF S (.a (.int a)) (.a (.int b)) Kb=Kb (decide (a=b)):=by kernel_rfl
theorem xF{KK:KX}(hg:P.N[k]?=some g)(h:KK (.a (.int g.kd)) (SG l' P)):ao (.a (.g 7 0)) (.a (.int (k:Nat))) (SG l' P) KK:=da (l:=P.N.map λg=>.int g.kd) rfl rfl rfl (by rw[List.getElem?_map,hg];rfl) h
theorem uU{KK:KX}(hg:P.N[k]?=some g)(h:KK (.a (lV g.pv)) (SG l' P)):ao (.a (.g 8 0)) (.a (.int (k:Nat))) (SG l' P) KK:=da (l:=P.N.map λg=>lV g.pv) rfl rfl rfl (by rw[List.getElem?_map,hg];rfl) h
theorem Hb{KK:KX}(hg:P.N[k]?=some g)(h:KK (.a g.nd) (SG l' P)):ao (.a (.g 9 0)) (.a (.int (k:Nat))) (SG l' P) KK:=da (l:=P.N.map λg=>g.nd) rfl rfl rfl (by rw[List.getElem?_map,hg];rfl) h
theorem EU{fA:A}(hg:P.N[k]?=some g)(G:oa P)(hl:(W++hO P.E g.pv).length≤900000)(h:wh (nU jS) 913 2 K n (rR fA (some (iv k))) (SG ([.dict (sn.map kv),.list ((W++hO P.E g.pv).map iv)]::loc) P)):RX jS K n fA (k:Nat) (SG ([.dict (sn.map kv),.list (W.map iv)]::loc) P):=by
 refine aj (a:=MR.list) (by kernel_rfl) (uU hg ?_)
 rw[WS] at h
 have e:opt (tK (.a (lV g.pv)) (au (SG ([.dict (sn.map kv),.list (W.map iv)]::loc) P) (.a (lV g.pv)))) λm=>ak (W.map iv++m) (wh (nU jS) 913 2 K n (rR fA (some (iv k))) (SG ([.dict (sn.map kv),.list (W.map iv++m)]::loc) P)):=by
  rw[qn hg G]
  refine aj (a:=(hO P.E g.pv).map iv) (by show alt (uT _) _ _=_;rw[FU.1];rfl) (aA (aC ?_) h)
  rw[← WS,WO]
  exact V9 hl (by decide)
 exact cast (by kernel_rfl) e
def od(sn W:List Nat)(loc:List (List Ce))(P:SP):AS:=SG ([.dict (sn.map kv),.list (W.map iv)]::loc) P
def jx(K:KX)(n:Nat)(fA:A)(loc:List (List Ce))(P:SP)(sn W:List Nat)(m:Option A):Prop:=wh (nU jS) 913 2 K n (rR fA m) (od sn W loc P)
variable{fA:A}
theorem vx(hg:P.N[y]?=some g)(G:oa P)(hl:(W++hO P.E g.pv).length≤900000)(h1:g.kd=7→g.sb=true→jx K n fA loc P sn W (some (iv y)))(h2:(g.kd=7→g.sb=false)→jx K n fA loc P sn (W++hO P.E g.pv) (some (iv y))):R9 jS K n fA (y:Nat) (od sn W loc P):=by
 have hv:=λq=>EU (sn:=sn) (K:=K) (n:=n) (loc:=loc) (fA:=fA) hg G hl (h2 q)
 refine xF hg (mM.mpr (aX (λq=>Hb hg (G.sup y g hg (of_decide_eq_true q) _ _ ?_)) λq=>hv λe=>(of_decide_eq_false q e).elim))
 have q:=of_decide_eq_true q
 show aw g.sb _ _
 exact aX (λe=>h1 q e) λe=>hv λ_=>e
theorem Eg(hg:P.N[y]?=some g)(G:oa P)(hl:(W++hO P.E g.pv).length≤900000)(h0:g.kd=1→hO P.E g.pv=[]→K (.a (.bool true)) (SG loc P))(h1:¬(g.kd=1∧hO P.E g.pv=[])→g.kd=7→g.sb=true→jx K n fA loc P sn W (some (iv y)))
  (h2:¬(g.kd=1∧hO P.E g.pv=[])→(g.kd=7→g.sb=false)→jx K n fA loc P sn (W++hO P.E g.pv) (some (iv y))):S8 jS K n fA (y:Nat) (od sn W loc P):=by
 refine xF hg (mM.mpr (aX (λq=>uU hg ?_) λq=>vx hg G hl (h1 λe=>of_decide_eq_false q e.1) (h2 λe=>of_decide_eq_false q e.1)))
 have q:=of_decide_eq_true q
 show opt (Fc (.a (lV g.pv)) (au (od sn W loc P) (.a (lV g.pv)))) λb=>aw b _ _
 unfold od
 rw[qn hg G]
 show aw (aq ((hO P.E g.pv).map iv)) _ _
 cases e:hO P.E g.pv with
 |nil=>exact h0 q e
 |cons a r=>
  have ne:¬(g.kd=1∧hO P.E g.pv=[]):=λh=>nomatch e.symm.trans h.2
  exact aA rfl (vx hg G hl (h1 ne) (h2 ne))
theorem Ed(hg:P.N[y]?=some g)(G:oa P)(hs:sn.length<900000)(h3:y∈sn→jx K n fA loc P sn W (some (iv y)))(h:y∉sn→S8 jS K n fA (y:Nat) (od (sn++[y]) W loc P))(m:Option A):jx K (n+1) fA loc P sn (W++[y]) m:=by
 have hb:Oi jS K n fA (y:Nat) (sn.map kv) (W.map iv) loc (Ou P):=by
  refine O0 _ _ _ _ _ _ _ _ _ ?_
  rw[DE]
  refine aX (λq=>h3 (of_decide_eq_true q)) λq=>?_
  have hn:=of_decide_eq_false q
  rw[Fx hn]
  exact aA (aC (by rw[WO,WN];exact V9 hs (by decide))) (h hn)
 have e:(W++[y]).map iv=W.map iv++[iv y]:=WS
 unfold jx od
 rw[e]
 cases m with
 |none=>
  refine Ch _ _ _ _ _ _ _ _ (aA dQ ?_)
  rw[d0]
  exact Jt _ _ _ _ _ _ _ _ _ hb
 |some m=>
  refine Do _ _ _ _ _ _ _ _ _ (aA dQ ?_)
  rw[d0]
  exact IW _ _ _ _ _ _ _ _ _ _ hb
theorem Ei(h:K (.a (.bool false)) (SG loc P))(m:Option A):jx K (n+1) fA loc P sn [] m:=by
 unfold jx
 cases m with
 |none=>exact Ch _ _ _ _ _ _ _ _ (cY rfl h)
 |some m=>exact Do _ _ _ _ _ _ _ _ _ (cY rfl h)
theorem My(I:EI P f sn [])(h:kP P.N P.E f):False:=by
 have q:∀x,kP P.N P.E x→x∈sn→False:=λx h=>by
  induction h with
  |start hg hk hp=>exact λhx=>(I.cl _ hx _ hg).1 ⟨hk,hp⟩
  |step hg hs hp r ih=>exact λhx=>(I.cl _ hx _ hg).2.elim (λe=>nomatch(hs e.1).symm.trans e.2) λe=>(e _ hp).elim ih λh=>nomatch h
 exact q f h (I.tf.elim id λh=>nomatch h)
theorem HM(I:EI P f sn (W++[y]))(hy:y∈sn):EI P f sn W:=by
 have mv:∀{x},x∈sn∨x∈W++[y]→x∈sn∨x∈W:=λh=>h.elim .inl λh=>(WF h).elim .inr λh=>.inl (WD h▸hy)
 exact⟨λx h=>I.up x (h.imp id (WH _)),λx h=>I.rng x (WH _ h),λx hx g hg=>⟨(I.cl x hx g hg).1,(I.cl x hx g hg).2.imp id λq p hp=>mv (q p hp)⟩,mv I.tf,V9 (Wl (by rw[WN];exact Wo _ _) _) I.cost⟩
theorem xx(I:EI P f sn (W++[y]))(G:oa P)(hy:y∉sn)(hg:P.N[y]?=some g)(h0:¬(g.kd=1∧hO P.E g.pv=[])){V:List Nat}(hV:(g.kd=7∧g.sb=true∧V=[])∨((g.kd=7→g.sb=false)∧V=hO P.E g.pv)):EI P f (sn++[y]) (W++V)∧(W++V).length+cs P (sn++[y]) (List.range P.N.length)+1≤(W++[y]).length+cs P sn (List.range P.N.length):=by
 have hr:=I.rng y (WG _ (.head _))
 have vs:∀p∈V,p∈hO P.E g.pv:=λp hp=>hV.elim (λh=>(WJ (h.2.2▸hp)).elim) λh=>h.2▸hp
 have mv:∀{x},x∈sn∨x∈W++[y]→x∈sn++[y]∨x∈W++V:=λh=>h.elim (λh=>.inl (WH _ h)) λh=>(WF h).elim (λh=>.inr (WH _ h)) λh=>.inl (WG _ h)
 have hc:(W++V).length+cs P (sn++[y]) (List.range P.N.length)+1≤(W++[y]).length+cs P sn (List.range P.N.length):=by
  have c1:=Db (P:=P) hy (WE hr)
  have w1:V.length≤wt P y:=by
   unfold wt;rw[hg]
   exact hV.elim (λh=>h.2.2▸Nat.zero_le _) λh=>h.2▸Nat.le_refl _
  rw[WN,WN]
  show W.length+V.length+_+1≤W.length+1+_
  omega
 refine⟨⟨λx h r=>?_,λx h=>(WF h).elim (λh=>I.rng x (WH _ h)) λh=>G.rd y g hg x (vs x h),λx hx g' hg'=>?_,mv I.tf,V9 (V9 (Nat.le_succ _) hc) I.cost⟩,hc⟩
 ·rcases h with h |h
  ·exact(WF h).elim (λh=>I.up x (.inl h) r) λh=>I.up x (.inr (WG _ h)) r
  ·rcases WF h with h |h
   ·exact I.up x (.inr (WH _ h)) r
   ·have hs:g.kd=7→g.sb=false:=hV.elim (λq=>(WJ (q.2.2▸h)).elim) λq=>q.1
    exact I.up y (.inr (WG _ (.head _))) (.step hg hs (vs x h) r)
 ·rcases WF hx with hx |hx
  ·exact⟨(I.cl x hx g' hg').1,(I.cl x hx g' hg').2.imp id λq p hp=>mv (q p hp)⟩
  ·cases WD hx
   cases hg.symm.trans hg'
   exact⟨h0,hV.elim (λq=>.inl ⟨q.1,q.2.1⟩) λq=>.inr λp hp=>.inr (WG _ (q.2.symm▸hp))⟩
theorem zO(G:oa P)(h:∀b:Bool,(b=true↔kP P.N P.E f)→K (.a (.bool b)) (SG loc P))(n:Nat):∀sn W m,EI P f sn W→sn.length+(W.length+cs P sn (List.range P.N.length))≤850001→W.length+cs P sn (List.range P.N.length)<n→jx K n fA loc P sn W m:=
 @Nat.rec (λn=>∀sn W m,EI P f sn W→sn.length+(W.length+cs P sn (List.range P.N.length))≤850001→W.length+cs P sn (List.range P.N.length)<n→jx K n fA loc P sn W m) (λ_ _ _ _ _ h=>(Nat.not_lt_zero _ h).elim)
 (λn ih sn W m I hs hn=>by
  rcases List.eq_nil_or_concat W with rfl |⟨W,y,rfl⟩
  ·exact Ei (h false ⟨λh=>(nomatch h),λh=>(My I h).elim⟩) m
  ·rw[List.concat_eq_append] at *
   have hr:=I.rng y (WG _ (.head _))
   have hg:P.N[y]?=some P.N[y]:=List.getElem?_eq_getElem hr
   have bd:∀{V:List Nat},(W++V).length+cs P (sn++[y]) (List.range P.N.length)+1≤(W++[y]).length+cs P sn (List.range P.N.length)→(sn++[y]).length+((W++V).length+cs P (sn++[y]) (List.range P.N.length))≤850001:=λ{V} q=>by
    rw[List.length_append (as:=sn)]
    show sn.length+1+_≤_
    rw[Nat.add_assoc,Nat.add_comm 1]
    exact V9 (Wj q _) hs
   refine Ed hg G (Wg (V9 (Wo _ _) hs) (by decide)) (λhy=>ih sn W _ (HM I hy) ?_ ?_) (λhy=>?_) m
   ·refine V9 (Wj (Wl ?_ _) _) hs
    rw[WN];exact Wo _ _
   ·refine Wh ?_ (Nat.le_of_lt_succ hn)
    rw[WN]
    exact Nat.add_lt_add_right (Nat.lt_succ_self _) _
   ·have e2:=λh0 hV=>xx (V:=hO P.E P.N[y].pv) I G hy hg h0 (.inr ⟨hV,rfl⟩)
    refine Eg hg G ?_ (λhk hp=>h true ⟨λ_=>I.up y (.inr (WG _ (.head _))) (.start hg hk hp),λ_=>rfl⟩) (λh0 hk hsb=>?_) λh0 hV=>ih _ _ _ (e2 h0 hV).1 (bd (e2 h0 hV).2) (Wh (e2 h0 hV).2 (Nat.le_of_lt_succ hn))
    ·have c1:=Db (P:=P) hy (WE hr)
     have w1:(hO P.E P.N[y].pv).length=wt P y:=by unfold wt;rw[hg];rfl
     rw[WN,w1]
     have:=I.cost
     rw[WN] at this
     have:W.length+1+cs P sn (List.range P.N.length)≤850001:=this
     omega
    ·have q:=xx (V:=[]) I G hy hg h0 (.inl ⟨hk,hsb,rfl⟩)
     rw[WQ] at q
     have b':=bd (V:=[]) (by rw[WQ];exact q.2)
     rw[WQ] at b'
     exact ih _ _ _ q.1 b' (Wh q.2 (Nat.le_of_lt_succ hn))) n
def kM(xs:List X)(S:AS)(K:KX):Prop:=∃P f,xs=[.a GV,.a (.int (f:Nat))]∧S=SG S.loc P∧oa P∧f<P.N.length∧∀b:Bool,(b=true↔kP P.N P.E f)→K (.a (.bool b)) S
theorem Ao{xs:List X}{S:AS}(h:kM xs S K):ae (nU jS) 913 xs S K:=by
 obtain⟨P,f,rfl,e,G,hf,h⟩:=h
 rw[e] at h ⊢
 refine P8 _ _ _ _ _ ⟨_,zO (fA:=iv f) G h _ [] [f] none ⟨λx hx r=>?_,λx hx=>WD hx▸hf,λx hx=>(WJ hx).elim,.inr (.head _),?_⟩ ?_ (Nat.lt_succ_self _)⟩
 ·exact hx.elim (λh=>(WJ h).elim) λh=>WD h▸r
 ·exact V9 (Wj G.tot 1) (by decide)
 ·exact V9 (Wq (Nat.zero_add _)) (V9 (Wj G.tot 1) (by decide))
def NA(q:UQ):En:=[("cx",.a q.cx),("root",.a q.root),("sid",.a (.int 0)),("out",.l 0 0),("stack",.l 0 1)]
section
variable{q:UQ}{n:Nat}{x y z:A}{out X:List A}{loc:List (List Ce)}{gl:Rg 5}{cx t:A}{K:KX}{v:List Us}{k:Nat}
theorem R4(h:UL q (n+1) .none .none .none [] [.tup [x,y,z]]):UB q n x y z [] []:=
 have e:UG q n true (some ([],.tup [x,y,z])) (uE q .none .none .none) [] [.tup [x,y,z]]:=cast (by kernel_rfl) h
 cast (by kernel_rfl) e
theorem OW(h:UB q n x y z [] []):wh TU 894 2 q.K (n+1) (NA q) (lY q [] [.tup [x,y,z]]):=
 have e:UG q n true (some ([],.tup [x,y,z])) (NA q) [] [.tup [x,y,z]]:=cast (by kernel_rfl) h
 cast (by kernel_rfl) e
theorem Pu(h:US q [] [.tup [x,y,z]]):∃n,wh TU 894 2 q.K n (NA q) (lY q [] [.tup [x,y,z]]):=Exists.elim h λN h=>@Nat.casesOn (λN=>(∀a b c,UL q N a b c [] [.tup [x,y,z]])→∃n,wh TU 894 2 q.K n (NA q) (lY q [] [.tup [x,y,z]])) N (λh=>(show False from h .none .none .none).elim) (λN h=>⟨N+1,OW (R4 (h .none .none .none))⟩) h
theorem TX(h:∃n,wh TU 894 2 K n (NA ⟨loc,gl,cx,t,K⟩) (lY ⟨loc,gl,cx,t,K⟩ [] [.tup [t,.none,.int 0]])):ae TU 894 [.a cx,.a t,.a (.int 0)] ⟨loc,gl⟩ K:=cast (by kernel_rfl) h
theorem O9(h:q.K (.a (.fl out)) ⟨q.loc,q.gl⟩):UL q 1 x y z out []:=cast (by kernel_rfl) h
theorem tc(h:Sem k false t v)(hk:k≤1000)(hv:v.length≤1000)(f:K (.a (.fl (v.map Us.out))) ⟨loc,gl⟩):ae TU 894 [.a cx,.a t,.a (.int 0)] ⟨loc,gl⟩ K:=
 TX (@Pu ⟨loc,gl,cx,t,K⟩ t .none (.int 0) (h.run .none (λ_ _ _ _ _=>.top) ⟨loc,gl,cx,t,K⟩ [] [] (V9 (Wq (Nat.zero_add k)) (V9 hk (by decide))) (V9 (Wq (Nat.zero_add _)) (V9 hv (by decide))) ⟨1,λx y z=>O9 f⟩))
end
def cz(xs:List X)(S:AS)(K:KX):Prop:=∃cx t v k,xs=[.a cx,.a t,.a (.int 0)]∧Sem k false t v∧k≤1000∧v.length≤1000∧K (.a (.fl (v.map Us.out))) S
theorem Hl{xs:List X}{S:AS}{K:KX}(h:cz xs S K):ae TU 894 xs S K:=by
 obtain⟨cx,t,v,k,rfl,h,hk,hv,f⟩:=h
 exact tc h hk hv f
def R2(gl:Rg 5):Rg 5:=ac 5 7 [] (ac 5 8 [] (ac 5 9 [] (ac 5 10 [] (ac 5 11 [] (ac 5 12 [] gl)))))
def Y1(L:List A)(Y:List (Nat×ay)):List (Nat×ay):=(729,cT (tab [(719,ae {} 719)]) 729)::(1565,iQ L)::(1579,ql)::Y
def Dj(L0:List A)(d:Dr)(ps rs:List A)(bo lap N:Nat)(m:Nat×Int)(n:Int):List (Str×X):=OB L0 d ps rs bo lap N m n++([("graph",.a GV)]:List (Str×X))
def F0(gl:Rg 5)(L:List A)(s:Nat)(n:Int)(w:List Us)(Bs Ws:List A):SP:=⟨gl,L,s,n,w,λ_=>0,λ_=>[],Bs,Ws,[kc],[],[]⟩
section
variable(L L0:List A)(Y:List (Nat×ay))(gl:Rg 5)(K:KN)(R:KX)(d:Dr)(bo lap N s:Nat)(w:List Us)(Bs rs ps Ws:List A)(m:Nat×Int)(n nn:Int)(S:AS)
theorem EP(h:K (Dj L0 d ps rs bo lap N m n) (SG [[.fz (.fl rs),.fz GV]] (F0 gl L s nn w Bs Ws))):a9 (TW L (Y1 L Y)) 1622 17 1 (OB L0 d ps rs bo lap N m n) (GS [[.fz (.fl rs)]] (oP Bs Ws (R2 gl)) L s nn w) K R:=cast (by kernel_rfl) h
theorem Ep(h:iQ L [.a (.g 1 0),.a GV,.a (.g 5 0),.a (.g 6 0),.a (d9 ps rs n)] S λ_ S=>ql [.a (.g 5 0),.a (.g 6 0)] S λ_ S=>K (Dj L0 d ps rs bo lap N m n) S):a9 (TW L (Y1 L Y)) 1622 18 2 (Dj L0 d ps rs bo lap N m n) S K R:=cast (by kernel_rfl) h
end
section
variable{a b:List Us}{i:Nat}{lo lo' hi:Int}{P:SP}{Z:Zt}{c:A}{Ts:List aB}{T:aB}{j:Nat}
theorem aE.lower(q:lo≤lo')(h:aE b i lo' hi):aE b i lo hi:=by
 cases b with
 |nil=>exact Wy q h
 |cons u r=>exact⟨h.1,h.2.1,Wy q h.2.2.1,h.2.2.2⟩
theorem aE.right:∀{a:List Us} {i:Nat} {lo:Int},aE (a++b) i lo hi→aE b (i+a.length) lo hi:=λ{a}=>@List.rec Us (λa=>∀{i:Nat} {lo:Int},aE (a++b) i lo hi→aE b (i+a.length) lo hi) (λ{i lo} h=>h)
 (λu r ih {i lo} h=>(Nat.add_right_comm i 1 r.length:i+1+r.length=i+(r.length+1))▸(ih h.2.2.2).lower (Wy h.2.2.1 (Wy le1 c8))) a
theorem o0(h:bh false T):vK T≤5:=@bh.casesOn (λ_ T _=>vK T≤5) false T h (λ_=>(by decide:2≤5)) λ_ _ hl=>Wj (Wr 2 hl) 1
theorem EB(h:FP Ts):dm Ts≤10:=@kR.casesOn (λTs _ _=>dm Ts≤10) Ts _ h (λh=>V9 (Wl (o0 h) 0) (by decide)) λh h'=>Wm (o0 h) (Wl (o0 h') 0)
theorem vW(h:FP Ts):∀T∈Ts,bh false T:=@kR.casesOn (λTs _ _=>∀T∈Ts,bh false T) Ts _ h (λh T hT=>WD hT▸h) λh h' T hT=>(WC hT).elim (λe=>e▸h) λhT=>WD hT▸h'
theorem NX{bb:Bool}(h:bh bb T):OO T:=@bh.casesOn (λ_ T _=>OO T) bb T h (λh=>h.set) λh _ _ s hs=>(h s hs).set
theorem rV{nb:Nat}:∀{Zr:Zt} {j:Nat} {P:SP},(∀z∈Zr,dm z.1≤10)→iP nb P (12*Zr.length)→iP nb (aI nb Zr j P) 0:=λ{Zr}=>@List.rec (List aB×(Nat×Nat)) (λZr=>∀{j:Nat} {P:SP},(∀z∈Zr,dm z.1≤10)→iP nb P (12*Zr.length)→iP nb (aI nb Zr j P) 0) (λ{j P} _ h=>h)
 (λz Zr ih {j P} hs h=>ih (λz hz=>hs z (.tail _ hz)) ((show iP nb P (12*Zr.length+1+1+10) from h).place (hs z (.head _)))) Zr
theorem AO:∀{Zr:Zt} {nb j:Nat} {P:SP},(aI nb Zr j P).Bs=P.Bs∧(aI nb Zr j P).Ws=P.Ws∧(aI nb Zr j P).L=P.L∧(aI nb Zr j P).w=P.w:=λ{Zr}=>@List.rec (List aB×(Nat×Nat)) (λZr=>∀{nb j:Nat} {P:SP},(aI nb Zr j P).Bs=P.Bs∧(aI nb Zr j P).Ws=P.Ws∧(aI nb Zr j P).L=P.L∧(aI nb Zr j P).w=P.w) (λ{nb j P}=>⟨rfl,rfl,rfl,rfl⟩)
 (λz Zr ih {nb j P}=>have k:=qy (P:=P) (j:=j) (nb:=nb) (Ts:=z.1) (ww:=z.2);have q:=ih (nb:=nb) (j:=j+1) (P:=bQ nb j z.1 z.2 P);⟨q.1.trans k.1,q.2.1.trans k.2.1,q.2.2.1.trans k.2.2.1,q.2.2.2.trans k.2.2.2⟩) Zr
theorem Gu{B:Nat}(h:∀x,wt P x≤B):∀{l:List Nat},cs P [] l≤l.length*B:=λ{l}=>@List.rec Nat (λl=>cs P [] l≤l.length*B) (Nat.zero_le _) (λx r ih=>by
 show cond (decide (x∈([]:List Nat))) 0 (wt P x)+cs P [] r≤(r.length+1)*B
 rw[decide_eq_false (λh=>WJ h),Nat.succ_mul,Nat.add_comm (r.length*B)]
 exact Wm (h x) ih) l
theorem LT(h:kK Z P)(I:iP Z.length P 0):oa P:=by
 have nb:P.N.length≤899:=Nat.le_of_lt_succ I.nl
 have pl:∀(x:Nat) (g:GN),P.N[x]?=some g→∀p∈hO P.E g.pv,p<P.N.length:=λx g hg p hp=>by
  have hx:=(WK hg).1
  cases h.g.nok x g hg with
  |nil e=>rw[e] at hp;exact(WJ hp).elim
  |ent b e=>rw[e] at hp;exact(h.g.ein b p hp).elim λg' h'=>(WK h'.1).1
  |one p' g' e hp'=>rw[e] at hp;exact WD hp▸Wi hp' hx
  |sup p' e hk hs ht hp'=>rw[e] at hp;exact WD hp▸Wi hp' hx
 refine⟨pl,λx g e hg hv=>?_,h.sup,?_⟩
 ·cases h.g.nok x g hg with
  |nil q=>exact nomatch q.symm.trans hv
  |ent b q hk hb hl=>cases q.symm.trans hv;exact h.el▸hl
  |one p' g' q=>exact nomatch q.symm.trans hv
  |sup p' q=>exact nomatch q.symm.trans hv
 ·refine V9 (Gu (B:=899) (λx=>?_)) (V9 (Nat.mul_le_mul_right 899 (by rw[List.length_range];exact nb)) (by decide))
  unfold wt
  cases P.N[x]? with
  |none=>exact Nat.zero_le _
  |some g=>
   show(hO P.E g.pv).length≤899
   cases g.pv with
   |nil=>exact Nat.zero_le _
   |one p=>exact(by decide:1≤899)
   |ent e=>exact Nat.le_of_lt_succ (I.es e)
end
def gz(G:jV):Zt:=G.Tss.zip G.W
structure Ph(G:jV)(P:SP):Prop where
 w:P.w=G.w
 gr:kK (gz G) P
 met:nK (gz G) P.M
 ml:∀i,(P.M i).length≤700
 se:oa P
section
variable{G:jV}{P Q:SP}{M:Nat→List Nat}{Z:Zt}{c:A}{gl:Rg 5}
theorem s9(h:G.Ok):(gz G).length=G.Tss.length:=by rw[gz,List.length_zip,h.wl,Nat.min_self]
theorem EG(h:G.Ok):(gz G).map Prod.fst=G.Tss:=List.map_fst_zip (Wq h.wl.symm)
theorem Q4(h:G.Ok):(gz G).map Prod.snd=G.W:=List.map_snd_zip (Wq h.wl)
theorem UA(h:G.Ok):zB (gz G)=G.Tss.map cK:=by rw[← EG h,List.map_map];rfl
theorem Q3(h:G.Ok):zW (gz G)=G.W.map cZ:=by rw[← Q4 h,List.map_map];rfl
theorem N4(h:G.Ok):sY (gz G)=hQ G.Tss:=by rw[← EG h,hQ,List.flatMap_map];rfl
theorem p5(h:G.Ok){z:List aB×(Nat×Nat)}(hz:z∈gz G):z.1∈G.Tss:=EG h▸List.mem_map.mpr ⟨z,hz,rfl⟩
theorem CY(h:G.Ok):sV G.w:=λj u e=>(h.gi.asc.idx j u e).trans (Nat.zero_add j)
theorem qZ(h:G.Ok){u:Us}(hu:u∈G.w):G.w[u.i]?=some u:=(List.mem_iff_getElem?.mp hu).elim λj e=>(CY h j u e).symm▸e
theorem CV(h:G.Ok)(hb:P.Bs=G.Tss.map cK)(hw:P.Ws=G.W.map cZ)(hu:P.w=G.w):AZ (gz G) P:=⟨hb.trans (UA h).symm,hw.trans (Q3 h).symm,s9 h▸h.pos,s9 h▸h.le,hu▸CY h,λz hz u q=>hu▸qZ h (WG _ (List.mem_flatMap.mpr ⟨z.1,p5 h hz,q⟩)),λz hz=>EB (h.blk _ (p5 h hz))⟩
theorem zG:∀{Zr:Zt} {nb j:Nat} {P:SP},(aI nb Zr j P).M=P.M∧(aI nb Zr j P).gl=P.gl:=λ{Zr}=>@List.rec (List aB×(Nat×Nat)) (λZr=>∀{nb j:Nat} {P:SP},(aI nb Zr j P).M=P.M∧(aI nb Zr j P).gl=P.gl) (λ{nb j P}=>⟨rfl,rfl⟩)
 (λz Zr ih {nb j P}=>by
  have k:=@ni j z.1 ⟨j+1,id,P⟩
  have s:∀{kd:Int} {to now b:Nat} {t:Nat→Nat} {P:SP},(bD nb kd to now b t P).M=P.M∧(bD nb kd to now b t P).gl=P.gl:=by
   intro kd to now b t P
   unfold bD
   cases Nat.blt to nb <;> exact⟨rfl,rfl⟩
  have q:=ih (nb:=nb) (j:=j+1) (P:=bQ nb j z.1 z.2 P)
  exact⟨q.1.trans (s.1.trans (s.1.trans k.m)),q.2.trans (s.2.trans (s.2.trans k.gl))⟩) Zr
theorem kK.setM(h:kK Z Q):kK Z (setM Q M):=⟨h.g,h.sup,λb hb q hq=>⟨(h.ld b hb q hq).nw,(h.ld b hb q hq).a,(h.ld b hb q hq).f⟩,h.el⟩
theorem iP.setM{nb r:Nat}(I:iP nb Q r):iP nb (setM Q M) r:=⟨I.bl,I.ent,I.el,I.es,I.nl⟩
theorem FK{L L0:List A}{Y:List (Nat×ay)}{K:KX}(hG:G.Ok)(h:∀m lap P,Ph G P→P.gl=gl→P.L=L→rest (TW L (Y1 L Y)) 1622 20 (Dj L0 G.d G.ps G.rs G.pw.length lap G.Tss.length m G.n) (SG [[.fz (.fl G.rs),.fz GV]] P) K):
  ny L L0 (Y1 L Y) (R2 gl) K G.d G.pw.length G.w G.ps G.Tss G.W G.rs G.n:=λs m lap=>by
 refine ag (j:=1) (EP _ _ _ _ _ _ _ _ _ _ _ _ _ _ _ _ _ _ _ (ag (j:=2) (Ep _ _ _ _ _ _ _ _ _ _ _ _ _ _ ?_)))
 have ok:=CV (P:=F0 gl L s (iA G.d G.n+1+1+1) G.w (G.Tss.map cK) (G.W.map cZ)) hG rfl rfl rfl
 refine⟨d9 G.ps G.rs G.n,gz G,F0 gl L s (iA G.d G.n+1+1+1) G.w (G.Tss.map cK) (G.W.map cZ),rfl,rfl,rfl,ok,?_⟩
 have k:=@AO (gz G) (gz G).length 0 (qk (d9 G.ps G.rs G.n) (gz G).length (F0 gl L s (iA G.d G.n+1+1+1) G.w (G.Tss.map cK) (G.W.map cZ)))
 have k':=@zG (gz G) (gz G).length 0 (qk (d9 G.ps G.rs G.n) (gz G).length (F0 gl L s (iA G.d G.n+1+1+1) G.w (G.Tss.map cK) (G.W.map cZ)))
 have gr:=Ng (Z:=gz G) (P:=F0 gl L s (iA G.d G.n+1+1+1) G.w (G.Tss.map cK) (G.W.map cZ)) (c:=d9 G.ps G.rs G.n) ok.pos ok.le (λz hz=>vW (hG.blk _ (p5 hG hz))) (N4 hG▸aE.right hG.gi.asc)
 have I:=rV (j:=0) ok.sz (nM (c:=d9 G.ps G.rs G.n) ok.le ((congrArg List.length ok.bs).trans (WO _)))
 generalize aI (gz G).length (gz G) 0 (qk (d9 G.ps G.rs G.n) (gz G).length (F0 gl L s (iA G.d G.n+1+1+1) G.w (G.Tss.map cK) (G.W.map cZ)))=Q at *
 have eM:setM Q (λ_=>[])=Q:=by
  obtain⟨g1,g2,g3,g4,g5,g6,g7,g8,g9,g10,g11,g12⟩:=Q
  cases(show g7=λ_=>[] from k'.1)
  rfl
 refine⟨gz G,Q,rfl,by rw[eM];rfl,⟨CV hG k.1 k.2.1 k.2.2.2,λz hz T hT=>NX (vW (hG.blk _ (p5 hG hz)) T hT)⟩,λM hM hl=>h m lap (setM Q M) ⟨k.2.2.2,gr.setM,hM,hl,LT gr.setM I.setM⟩ k'.2 k.2.2.1⟩
end
structure CP where
 tr:List A
 ti:List (A×A)
 dc:List A
 dd:List Ce
 dg:List A
 nt:List A
 mr:List (A×A)
 gv:List (A×A)
 sy:List A
 r2:List Ce
 r3:List Ce
 r4:List Ce
 r5:List Ce
def v7(gl:Rg 5):Rg 5:=ac 5 13 [] (ac 5 14 [] (ac 5 15 [] (ac 5 16 [] (ac 5 17 [] (ac 5 18 [] (ac 5 19 [] (ac 5 20 [] (ac 5 21 [] (ac 5 22 [] (ac 5 23 [] (ac 5 24 [] (ac 5 25 [] gl))))))))))))
def SN(C:CP)(gl:Rg 5):Rg 5:=ac 5 13 [.list C.tr] (ac 5 14 [.dict C.ti] (ac 5 15 [.list C.dc] (ac 5 16 C.dd (ac 5 17 [.list [],.list C.dg] (ac 5 18 [.list C.nt] (ac 5 19 [.dict C.mr] (ac 5 20 [.dict C.gv] (ac 5 21 [.list C.sy] (ac 5 22 C.r2 (ac 5 23 C.r3 (ac 5 24 C.r4 (ac 5 25 C.r5 gl))))))))))))
def SC(loc:List (List Ce))(P:SP)(C:CP)(gl:Rg 5):AS:=SG loc {P with gl:=SN C gl}
def H4(l:List String):List (Str×A):=l.map λs=>(Str.ofString s,.fd [])
def QQ(l:List String):List (Str×A):=l.map λs=>(Str.ofString s,.fl [])
def yW(l:List (Str×A)):List (Str×A):=l
def d7:A:=.fi 310 (yW [("rows",.g 13 0),("index",.g 14 0),("decls",.g 15 0)]++QQ ["bounds","defaults","names"]++H4 ["origins","renamed"]++yW [("shaping",.int 0),("putting",.int 0)])
def Ia(i:Nat):A:=.fi 209 [("rows",.g 17 i),("file",tx "")]
def ON:A:=.fi 776 (yW [("symbols",.g 21 0)]++QQ ["scopes"]++H4 ["of_node","use","decl"]++yW [("diags",Ia 0)])
def HL:A:=.fi 1014 [("tab",d7),("deep",.int 0),("most_rounds",.int 200),("most_deep",.int 40),("lib",.none)]
def O8:A:=.fi 251 [("rows",.g 18 0)]
def EX(node:A):A:=.fi 755 [("sid",.int 1),("name",tx "C"),("what",.int 6),("nodes",.fl [node]),("home",.int 0),("written",.int 0),("scope",.int 0),("tag",.int 0)]
def bm:A:=.fi 1446 (yW [("tab",d7),("host",HL),("bound",ON),("graph",GV),("namer",.none),("diags",Ia 1),("notes",O8)]++H4 ["exprs","stmts","sorts","types","declared","busy","called","consts","sigs","bound_decls"]++QQ ["inside","rets","chains","trail","later","late"]
 ++H4 ["targets","globals","loops","roots","inits","paired","got_by","under","drawn","lent","dropped"]++yW [("marks",.g 19 0)]++H4 ["owners","this_of","func_at","selves_of","rounds","callees","heads","banged","told_names","guesses"]++yW [("ready",.int 0)]++H4 ["const_enums","preset"]
 ++yW [("asker",.none),("stops",.none),("judge",.fi 1159 [("given",.fd [])]),("guard",.fi 1047 []),("roads",.fi 1075 [("given",.g 20 0)]),("patterns",.fi 1194 []),("giver",.fi 1215 []),("funcs",.fi 1264 []),("places",.fi 1243 []),("deep",.int 0)])
def jN(s:String):A:=.tup [.int 1,tx s]
def eQ:List A:=[jN "any",jN "unknown",jN "never",jN "void",jN "undefined",jN "null",jN "string",jN "number",.tup [.int 2,.int 0,.int 0],.tup [.int 2,.int 1,.int 0],jN "object",.tup [.int 8,.tup [],.tup [],.tup [],.tup [],.tup [],.int 0],.tup [.int 6,.tup [.int 8,.int 9]],jN "error",.tup [.int 2,.int 0,.int 1],.tup [.int 2,.int 1,.int 1]]
def aP(n:Nat)(l:List A):List (A×A):=@List.rec A (λ_=>Nat→List (A×A)) (λ_=>[]) (λa _ ih n=>(a,.int (n:Nat))::ih (n+1)) l n
def Yc:List (Nat×ay):=[(310,cT (tab [(293,ae (tab [(307,ae {} 307)]) 293)]) 310),(209,cT (tab [(194,ae {} 194)]) 209),(776,cT (tab [(773,ae {} 773)]) 776),(755,cT (tab [(752,ae {} 752)]) 755),(1014,cT (tab [(473,ae {} 473)]) 1014),(251,cT (tab [(227,ae {} 227)]) 251),
 (1446,cT (tab [(1282,ae (tab [(1159,cT (tab [(1093,ae {} 1093)]) 1159),(1047,cT {} 1047),(1075,cT (tab [(1065,ae {} 1065)]) 1075),(1194,cT {} 1194),(1215,cT {} 1215),(1264,cT {} 1264),(1243,cT {} 1243)]) 1282)]) 1446),(382,ae (tab [(331,cT (tab [(328,ae {} 328)]) 331)]) 382)]
def Ig(L0:List A)(d:Dr)(ps rs:List A)(bo lap N:Nat)(m:Nat×Int)(n:Int):List (Str×X):=Dj L0 d ps rs bo lap N m n++([("tab",.a d7),("bound",.a ON),("cx",.a bm)]:List (Str×X))
def Bb(rs:List A)(node:A):List (List Ce):=[[.fz (.fl rs),.fz GV,.fz d7,.fz (Ia 0),.fz ON,.fz (EX node),.fz HL,.fz (Ia 1),.fz O8,.fz bm]]
def Oc(node:A):CP:=⟨eQ,aP 0 eQ,[.none],[],[],[],[],[],[.none,EX node],[],[],[],[]⟩
section
variable(L L0:List A)(Y:List (Nat×ay))(gl:Rg 5)(K:KN)(R:KX)(d:Dr)(bo lap N:Nat)(rs ps:List A)(m:Nat×Int)(n:Int)(P:SP)
theorem Hy(h:K (Ig L0 d ps rs bo lap N m n) (SC (Bb rs (be d ps rs n)) P (Oc (be d ps rs n)) gl)):a9 (TW L (Y1 L (Yc++Y))) 1622 20 4 (Dj L0 d ps rs bo lap N m n) (SG [[.fz (.fl rs),.fz GV]] {P with gl:=v7 gl}) K R:=cast (by kernel_rfl) h
end
def lZ(did:Int)(nm:String)(ext:Int)(ms:List A)(nid body:Int):Ce:=.inst 331 (yW [("did",.int did),("kind",.int 1),("name",tx nm),("params",.tup []),("body",.int body),("bases",.tup []),("static",.int (-1)),("extends_class",.int ext),("abstract",.bool false),("members",.fl ms),("variances",.fl []),("busy",.int 0),("at",.int 0),("file",tx ""),("nid",.int nid)])
def rW(p:Nat):List A:=.tup [tx "k",.int 1]::cond (Nat.beq p 0) [] [.tup [tx "x",.int (cond (Nat.beq p 1) 1 4)]]
def EK(p:Nat):List (A×A):=(tx "k",.tup [tx "field",.bool false,.bool false])::cond (Nat.beq p 0) [] [(tx "x",.tup [cond (Nat.beq p 1) (tx "field") (tx "method"),.bool false,.bool false])]
def oX(rs:List A)(node:A)(ext:Bool)(p:Nat):List (List Ce):=[[.fz (.fl rs),.fz GV,.fz d7,.fz (Ia 0),.fz ON,.fz (EX node),.fz HL,.fz (Ia 1),.fz O8,.fz bm]++cond ext [.dict [],.dict (EK p)] [.dict []]]
def FR(L0:List A)(d:Dr)(ps rs:List A)(bo lap N:Nat)(m:Nat×Int)(n:Int)(ext:Bool):List (Str×X):=Ig L0 d ps rs bo lap N m n++([("base",.a (.g 16 0)),("decl",.a (.g 16 1)),("old",.l 0 (cond ext 11 10))]:List (Str×X))
def B1(node:A)(nid:Int)(ext:Bool)(p:Nat):CP:=⟨eQ,aP 0 eQ,[.none,.g 16 0,.g 16 1],[lZ 1 "B" 0 (rW p) 0 (-1),lZ 2 "C" (cond ext 1 0) [] nid (-1)],[],[],[],[],[.none,EX node],[],[],[],[]⟩
section
variable(L L0:List A)(Y:List (Nat×ay))(gl:Rg 5)(K:KN)(R:KX)(way a b c:Nat)(bo lap N:Nat)(rs ps:List A)(m:Nat×Int)(n:Int)(P:SP)
def VL(p:Nat):Prop:=a9 (TW L (Y1 L (Yc++Y))) 1622 24 6 (Ig L0 ⟨way,p,a,b,c⟩ ps rs bo lap N m n) (SC (Bb rs (be ⟨way,p,a,b,c⟩ ps rs n)) P (Oc (be ⟨way,p,a,b,c⟩ ps rs n)) gl) K R
def U2(p:Nat)(ext:Bool):Prop:=K (FR L0 ⟨way,p,a,b,c⟩ ps rs bo lap N m n ext) (SC (oX rs (be ⟨way,p,a,b,c⟩ ps rs n) ext p) P (B1 (be ⟨way,p,a,b,c⟩ ps rs n) (iA ⟨way,p,a,b,c⟩ n+1+1+1) ext p) gl)
theorem y2:(List.range 3).map (λp=>VL L L0 Y gl K R way a b c bo lap N rs ps m n P p)=(List.range 3).map λp=>aw (decide ((way:Int)>3)) (U2 L0 gl K way a b c bo lap N rs ps m n P p true) (U2 L0 gl K way a b c bo lap N rs ps m n P p false):=by kernel_rfl
theorem GE(d:Dr)(hd:d.Ok)(h:∀ext:Bool,(ext=true↔3<d.way)→K (FR L0 d ps rs bo lap N m n ext) (SC (oX rs (be d ps rs n) ext d.plain) P (B1 (be d ps rs n) (iA d n+1+1+1) ext d.plain) gl)):a9 (TW L (Y1 L (Yc++Y))) 1622 24 6 (Ig L0 d ps rs bo lap N m n) (SC (Bb rs (be d ps rs n)) P (Oc (be d ps rs n)) gl) K R:=by
 obtain⟨way,p,a,b,c⟩:=d
 exact(WA (y2 L L0 Y gl K R way a b c bo lap N rs ps m n P) p (WE hd.plain)).mpr (aX (λq=>h true ⟨λ_=>WM (of_decide_eq_true q),λ_=>rfl⟩) λq=>h false ⟨λh=>(nomatch h),λh=>(of_decide_eq_false q (Int.ofNat_lt.mpr h)).elim⟩)
end
def aZ(i:Nat):A:=.tup [cond (Nat.ble i 8) (tx "field") (cond (Nat.beq i 9) (tx "method") (tx "access")),.bool (Nat.beq i 8),.bool (Nat.ble i 1)]
def bT(i:Nat):Int:=cond (Nat.beq i 2) 16 (cond (Nat.beq i 3) 0 7)
def eg(nm:String)(i:Nat):A:=.tup [tx nm,.int (bT i),.int (cond (Nat.beq i 4) 1 0),.int 0]
def dN:A:=.tup [.int 6,.tup [.int 4,.int 7]]
def OG(h:Bool):List A:=eQ++cond h [dN] []
def Yd:List (Nat×ay):=Yc++[(1598,ae {} 1598),(307,ae {} 307),(359,ae (tab [(307,ae {} 307),(347,ae {} 347)]) 359)]
def e32(L0:List A)(d:Dr)(ps rs:List A)(bo lap N:Nat)(m:Nat×Int)(n:Int)(ext:Bool)(q:Option A)(k:Option A):List (Str×X):=FR L0 d ps rs bo lap N m n ext++([("own",.l 0 (cond ext 12 11)),("props",.l 0 (cond ext 13 12))]:List (Str×X))++alt q (λq=>([("sort",.a q)]:List (Str×X))++alt k (λk=>([("kind",.a k)]:List (Str×X))) []) []
def cX(rs:List A)(node:A)(ext:Bool)(p:Nat)(own:List (A×A))(pr:List A):List (List Ce):=(oX rs node ext p).map λfr=>fr++[.dict own,.list pr]
def s7(node:A)(nid:Int)(ext:Bool)(p:Nat)(h:Bool):CP:={B1 node nid ext p with tr:=OG h,ti:=aP 0 (OG h)}
section
variable(L L0:List A)(Y:List (Nat×ay))(gl:Rg 5)(K:KN)(R:KX)(way p a b c:Nat)(bo lap N:Nat)(rs ps:List A)(m:Nat×Int)(n:Int)(P:SP)(node:A)(nid:Int)(pr:List A)
def Ol(d:Dr)(ext:Bool)(j:Nat)(q:A)(k:Option A)(own:List (A×A))(pr:List A)(h:Bool):Prop:=K (e32 L0 d ps rs bo lap N (j,m.2) n ext (some q) k) (SC (cX rs node ext p own pr) P (s7 node nid ext p h) gl)
def w8(d:Dr)(ext:Bool)(j i:Nat)(nm:String)(k:Option A)(own:List (A×A))(h:Bool):Prop:=cond (Nat.beq i 7) (Ol L0 gl K p bo lap N rs ps m n P node nid d ext j (.int i) k own pr h)
 (aw (Nat.ble (own++[(tx nm,aZ i)]).length 1000000) (aw (Nat.ble (pr++[eg nm i]).length 1000000) (Ol L0 gl K p bo lap N rs ps m n P node nid d ext j (.int i) (some (.int (bT i))) (own++[(tx nm,aZ i)]) (pr++[eg nm i]) (h ||Nat.beq i 2)) False) False)
theorem BC:BB.map (λext=>(List.range 11).map λi=>dw (TW L (Y1 L (Yd++Y))) 1622 32 K R (.int 0) (e32 L0 ⟨way,p,i,b,c⟩ ps rs bo lap N m n ext none none) (SC (cX rs node ext p [] pr) P (s7 node nid ext p false) gl))=BB.map λext=>(List.range 11).map λi=>w8 L0 gl K p bo lap N rs ps m n P node nid pr ⟨way,p,i,b,c⟩ ext 0 i "x" none [] false:=by kernel_rfl
end
section
variable(L L0:List A)(Y:List (Nat×ay))(gl:Rg 5)(K:KN)(R:KX)(way p a b c:Nat)(bo lap N:Nat)(rs ps:List A)(m:Nat×Int)(n:Int)(P:SP)(node:A)(nid:Int)(pr:List A)(q0 v0 v1 k0:A)
def sa(d:Nat→Dr)(j:Nat)(own:List (A×A))(k:Option A):List (List (List Prop)):=BB.map λh=>BB.map λext=>(List.range 11).map λi=>dw (TW L (Y1 L (Yd++Y))) 1622 32 K R (.int (j:Nat)) (e32 L0 (d i) ps rs bo lap N m n ext (some q0) k) (SC (cX rs node ext p own pr) P (s7 node nid ext p h) gl)
def rT(d:Nat→Dr)(j:Nat)(nm:String)(own:List (A×A))(k:Option A):List (List (List Prop)):=BB.map λh=>BB.map λext=>(List.range 11).map λi=>w8 L0 gl K p bo lap N rs ps m n P node nid pr (d i) ext j i nm k own h
theorem u8:sa L L0 Y gl K R p bo lap N rs ps m n P node nid pr q0 (λi=>⟨way,p,a,i,c⟩) 1 [] none=rT L0 gl K p bo lap N rs ps m n P node nid pr (λi=>⟨way,p,a,i,c⟩) 1 "y" [] none:=by kernel_rfl
theorem uH:sa L L0 Y gl K R p bo lap N rs ps m n P node nid pr q0 (λi=>⟨way,p,a,i,c⟩) 1 [(tx "x",v0)] (some k0)=rT L0 gl K p bo lap N rs ps m n P node nid pr (λi=>⟨way,p,a,i,c⟩) 1 "y" [(tx "x",v0)] (some k0):=by kernel_rfl
theorem vP:sa L L0 Y gl K R p bo lap N rs ps m n P node nid pr q0 (λi=>⟨way,p,a,b,i⟩) 2 [] none=rT L0 gl K p bo lap N rs ps m n P node nid pr (λi=>⟨way,p,a,b,i⟩) 2 "z" [] none:=by kernel_rfl
theorem uY:sa L L0 Y gl K R p bo lap N rs ps m n P node nid pr q0 (λi=>⟨way,p,a,b,i⟩) 2 [(tx "x",v0)] (some k0)=rT L0 gl K p bo lap N rs ps m n P node nid pr (λi=>⟨way,p,a,b,i⟩) 2 "z" [(tx "x",v0)] (some k0):=by kernel_rfl
theorem wz:sa L L0 Y gl K R p bo lap N rs ps m n P node nid pr q0 (λi=>⟨way,p,a,b,i⟩) 2 [(tx "y",v1)] (some k0)=rT L0 gl K p bo lap N rs ps m n P node nid pr (λi=>⟨way,p,a,b,i⟩) 2 "z" [(tx "y",v1)] (some k0):=by kernel_rfl
theorem uZ:sa L L0 Y gl K R p bo lap N rs ps m n P node nid pr q0 (λi=>⟨way,p,a,b,i⟩) 2 [(tx "x",v0),(tx "y",v1)] (some k0)=rT L0 gl K p bo lap N rs ps m n P node nid pr (λi=>⟨way,p,a,b,i⟩) 2 "z" [(tx "x",v0),(tx "y",v1)] (some k0):=by kernel_rfl
end
def jQ(pr:List A):A:=.tup [.int 8,.tup pr,.tup [],.tup [],.tup [],.tup [],.int 0]
def N7(h:Bool)(pr:List A):List A:=OG h++cond (aq pr) [jQ pr] []
def wa(h:Bool)(pr:List A):Int:=cond (aq pr) (cond h 17 16) 11
def GX(node:A)(nid:Int)(ext:Bool)(p:Nat)(h:Bool)(pr:List A):CP:={B1 node nid ext p with tr:=N7 h pr,ti:=aP 0 (N7 h pr),dd:=[lZ 1 "B" 0 (rW p) 0 (-1),lZ 2 "C" (cond ext 1 0) [] nid (wa h pr)]}
def G5(nm:String)(k f:Int):A:=.tup [tx nm,.int k,.int f,.int 0]
def H0(a b c:Bool)(k1 f1 k2 f2 k3 f3:Int):List A:=cond a [G5 "x" k1 f1] []++(cond b [G5 "y" k2 f2] []++cond c [G5 "z" k3 f3] [])
section
variable(L L0:List A)(Y:List (Nat×ay))(gl:Rg 5)(K:KN)(R:KX)(d:Dr)(p:Nat)(bo lap N:Nat)(rs ps:List A)(m:Nat×Int)(n:Int)(P:SP)(node:A)(nid:Int)(own:List (A×A))(q0 k0:A)(k1 f1 k2 f2 k3 f3:Int)
theorem GR:BB.map (λh=>BB.map λext=>BB.map λa=>BB.map λb=>BB.map λc=>a9 (TW L (Y1 L (Yd++Y))) 1622 33 1 (e32 L0 d ps rs bo lap N m n ext (some q0) (cond (a ||(b ||c)) (some k0) none)) (SC (cX rs node ext p own (H0 a b c k1 f1 k2 f2 k3 f3)) P (s7 node nid ext p h) gl) K R)=
  BB.map λh=>BB.map λext=>BB.map λa=>BB.map λb=>BB.map λc=>K (e32 L0 d ps rs bo lap N m n ext (some q0) (cond (a ||(b ||c)) (some k0) none)) (SC (cX rs node ext p own (H0 a b c k1 f1 k2 f2 k3 f3)) P (GX node nid ext p h (H0 a b c k1 f1 k2 f2 k3 f3)) gl):=by kernel_rfl
end
def hv(i:Nat):Bool:= !Nat.beq i 7
def iX(d:Dr):List (A×A):=cond (hv d.a) [(tx "x",aZ d.a)] []++(cond (hv d.b) [(tx "y",aZ d.b)] []++cond (hv d.c) [(tx "z",aZ d.c)] [])
def dI(i:Nat):Int:=cond (Nat.beq i 4) 1 0
def dj(d:Dr):List A:=H0 (hv d.a) (hv d.b) (hv d.c) (bT d.a) (dI d.a) (bT d.b) (dI d.b) (bT d.c) (dI d.c)
def hF(d:Dr):Bool:=Nat.beq d.a 2 ||Nat.beq d.b 2 ||Nat.beq d.c 2
section
variable{L0:List A}{Y:List (Nat×ay)}{gl:Rg 5}{K:KN}{p:Nat}{bo lap N:Nat}{rs ps:List A}{m:Nat×Int}{n:Int}{node:A}{nid:Int}{pr:List A}{d:Dr}{ext h:Bool}{nm:String}{k:Option A}{own:List (A×A)}
theorem Ny(ho:own.length<10)(hp:pr.length<10)(q:cond (Nat.beq i 7) (Ol L0 gl K p bo lap N rs ps m n P node nid d ext j (.int i) k own pr h) (Ol L0 gl K p bo lap N rs ps m n P node nid d ext j (.int i) (some (.int (bT i))) (own++[(tx nm,aZ i)]) (pr++[eg nm i]) (h ||Nat.beq i 2))):w8 L0 gl K p bo lap N rs ps m n P node nid pr d ext j i nm k own h:=by
 unfold w8
 revert q
 cases Nat.beq i 7 with
 |true=>exact id
 |false=>exact λq=>aA (aC (by rw[WN];exact V9 (Ww (Nat.le_of_lt ho)) (by decide))) (aA (aC (by rw[WN];exact V9 (Ww (Nat.le_of_lt hp)) (by decide))) q)
theorem Fh(q:K (e32 L0 d ps rs bo lap N m n ext none none) (SC (cX rs node ext p [] []) P (s7 node nid ext p false) gl)):a9 (TW L (Y1 L (Yd++Y))) 1622 30 2 (FR L0 d ps rs bo lap N m n ext) (SC (oX rs node ext p) P (B1 node nid ext p) gl) K R:=@Bool.casesOn (λext=>K (e32 L0 d ps rs bo lap N m n ext none none) (SC (cX rs node ext p [] []) P (s7 node nid ext p false) gl)→a9 (TW L (Y1 L (Yd++Y))) 1622 30 2 (FR L0 d ps rs bo lap N m n ext) (SC (oX rs node ext p) P (B1 node nid ext p) gl) K R) ext (λq=>cast (by kernel_rfl) q) (λq=>cast (by kernel_rfl) q) q
theorem A1{S:AS}(q:∃n',fV (TW L (Y1 L (Yd++Y))) 1622 32 K R (.a (.int (3:Nat))) n' 0 (e32 L0 d ps rs bo lap N m n ext none none) S):a9 (TW L (Y1 L (Yd++Y))) 1622 32 1 (e32 L0 d ps rs bo lap N m n ext none none) S K R:=cast (by kernel_rfl) q
theorem jF{f:Nat}{env:En}{S:AS}(e:dw (TW L (Y1 L (Yd++Y))) 1622 32 (fV (TW L (Y1 L (Yd++Y))) 1622 32 K R (.a (.int (3:Nat))) f (j+1)) R (.int (j:Nat)) env S=w8 L0 gl (fV (TW L (Y1 L (Yd++Y))) 1622 32 K R (.a (.int (3:Nat))) f (j+1)) p bo lap N rs ps m n P node nid pr d ext j i nm k own h)(hj:j<3)(ho:own.length<10)(hp:pr.length<10)
  (q1:Nat.beq i 7=true→fV (TW L (Y1 L (Yd++Y))) 1622 32 K R (.a (.int (3:Nat))) f (j+1) (e32 L0 d ps rs bo lap N (j,m.2) n ext (some (.int i)) k) (SC (cX rs node ext p own pr) P (s7 node nid ext p h) gl))
  (q2:Nat.beq i 7=false→fV (TW L (Y1 L (Yd++Y))) 1622 32 K R (.a (.int (3:Nat))) f (j+1) (e32 L0 d ps rs bo lap N (j,m.2) n ext (some (.int i)) (some (.int (bT i)))) (SC (cX rs node ext p (own++[(tx nm,aZ i)]) (pr++[eg nm i])) P (s7 node nid ext p (h ||Nat.beq i 2)) gl)):
  fV (TW L (Y1 L (Yd++Y))) 1622 32 K R (.a (.int (3:Nat))) (f+1) j env S:=by
 refine e7 (l:=cB 3 0) rfl (Cb hj) (cast e.symm (Ny ho hp ?_))
 cases q:Nat.beq i 7 with
 |true=>exact q1 q
 |false=>exact q2 q
theorem eR{env:En}{S:AS}(h:K env S):fV (TW L (Y1 L (Yd++Y))) 1622 32 K R (.a (.int (3:Nat))) 1 3 env S:=gB (fi:=Fa 1622) (s:=Fb 1622 32) (p:=Fp 1622 32) (l:=cB 3 0) (by kernel_rfl) (by kernel_rfl) (by kernel_rfl) rfl (Co (Nat.le_refl 3)) h
end
def OH(L0:List A)(d:Dr)(ps rs:List A)(bo lap N:Nat)(m:Nat×Int)(n:Int)(ext:Bool)(k0:A):List (Str×X):=e32 L0 d ps rs bo lap N (2,m.2) n ext (some (.int d.c)) (cond (hv d.a ||(hv d.b ||hv d.c)) (some k0) none)
section
variable{L0:List A}{Y:List (Nat×ay)}{gl:Rg 5}{Kn:KN}{bo lap N:Nat}{rs ps:List A}{m:Nat×Int}{n:Int}{node:A}{nid:Int}{d:Dr}{ext:Bool}{way p a:Nat}
theorem pq{i:Nat}(h:Nat.beq i 7=true):i=7:=Wv h
theorem pg{i:Nat}(h:Nat.beq i 7=false):hv i=true:=congrArg not h
def Kp(L0:List A)(d:Dr)(ps rs:List A)(bo lap N:Nat)(m:Nat×Int)(n:Int)(ext:Bool)(node:A)(nid:Int)(P:SP)(gl:Rg 5)(K:KN)(u v w:Bool)(h:Bool)(k:Option A):Prop:=K (e32 L0 d ps rs bo lap N (2,m.2) n ext (some (.int d.c)) k) (SC (cX rs node ext d.plain (cond u [(tx "x",aZ d.a)] []++(cond v [(tx "y",aZ d.b)] []++cond w [(tx "z",aZ d.c)] [])) (cond u [eg "x" d.a] []++(cond v [eg "y" d.b] []++cond w [eg "z" d.c] []))) P (s7 node nid ext d.plain h) gl)
def Cs(d:Dr)(P:Option A→Prop)(u v w:Bool):Prop:=cond w (P (some (.int (bT d.c)))) (cond v (P (some (.int (bT d.b)))) (cond u (P (some (.int (bT d.a)))) (P none)))
theorem zb(ha:a<11)(hb:b<11)(hc:c<11)(h:Cs ⟨way,p,a,b,c⟩ (Kp L0 ⟨way,p,a,b,c⟩ ps rs bo lap N m n ext node nid P gl Kn (hv a) (hv b) (hv c) (hF ⟨way,p,a,b,c⟩)) (hv a) (hv b) (hv c)):
  fV (TW L (Y1 L (Yd++Y))) 1622 32 Kn R (.a (.int (3:Nat))) 4 0 (e32 L0 ⟨way,p,a,b,c⟩ ps rs bo lap N m n ext none none) (SC (cX rs node ext p [] []) P (s7 node nid ext p false) gl):=by
 refine jF (own:=[]) (pr:=[]) (cr (BC ..) (bb ext) (WE ha)) (by decide) (by decide) (by decide) (λq=>?_) λq=>?_
 ·cases pq q
  refine jF (own:=[]) (pr:=[]) (cr (WA (u8 ..) _ (bb _)) (bb ext) (WE hb)) (by decide) (by decide) (by decide) (λq=>?_) λq=>?_
  ·cases pq q
   refine jF (own:=[]) (pr:=[]) (cr (WA (vP ..) _ (bb _)) (bb ext) (WE hc)) (by decide) (by decide) (by decide) (λq=>?_) λq=>?_
   ·cases pq q
    exact eR h
   ·rw[pg q] at h
    exact eR h
  ·rw[pg q] at h
   refine jF (own:=[(tx "y",aZ b)]) (pr:=[eg "y" b]) (cr (WA (wz ..) _ (bb _)) (bb ext) (WE hc)) (by decide) (by exact Wu rfl) (by exact Wu rfl) (λq=>?_) λq=>?_
   ·cases pq q
    exact eR (Eq.mp (congrArg (λh=>Cs ⟨way,p,7,b,7⟩ (Kp L0 ⟨way,p,7,b,7⟩ ps rs bo lap N m n ext node nid P gl Kn false true false h) false true false) (Bool.or_false (Nat.beq b 2))) h)
   ·rw[pg q] at h
    exact eR h
 ·rw[pg q] at h
  refine jF (own:=[(tx "x",aZ a)]) (pr:=[eg "x" a]) (cr (WA (uH ..) _ (bb _)) (bb ext) (WE hb)) (by decide) (by exact Wu rfl) (by exact Wu rfl) (λq=>?_) λq=>?_
  ·cases pq q
   refine jF (own:=[(tx "x",aZ a)]) (pr:=[eg "x" a]) (cr (WA (uY ..) _ (bb _)) (bb ext) (WE hc)) (by decide) (by exact Wu rfl) (by exact Wu rfl) (λq=>?_) λq=>?_
   ·cases pq q
    exact eR (Eq.mp (congrArg (λh=>Cs ⟨way,p,a,7,7⟩ (Kp L0 ⟨way,p,a,7,7⟩ ps rs bo lap N m n ext node nid P gl Kn true false false h) true false false) ((Bool.or_false (Nat.beq a 2 ||false)).trans (Bool.or_false (Nat.beq a 2)))) h)
   ·rw[pg q] at h
    exact eR (Eq.mp (congrArg (λh=>Cs ⟨way,p,a,7,c⟩ (Kp L0 ⟨way,p,a,7,c⟩ ps rs bo lap N m n ext node nid P gl Kn true false true h) true false true) (congrArg (λx=>x ||Nat.beq c 2) (Bool.or_false (Nat.beq a 2)))) h)
  ·rw[pg q] at h
   refine jF (own:=[(tx "x",aZ a),(tx "y",aZ b)]) (pr:=[eg "x" a,eg "y" b]) (cr (WA (uZ ..) _ (bb _)) (bb ext) (WE hc)) (by decide) (by exact Wu rfl) (by exact Wu rfl) (λq=>?_) λq=>?_
   ·cases pq q
    exact eR (Eq.mp (congrArg (λh=>Cs ⟨way,p,a,b,7⟩ (Kp L0 ⟨way,p,a,b,7⟩ ps rs bo lap N m n ext node nid P gl Kn true true false h) true true false) (Bool.or_false (Nat.beq a 2 ||Nat.beq b 2))) h)
   ·rw[pg q] at h
    exact eR h
theorem Cs.mk{P:Option A→Prop}{u v w:Bool}(h:∀k0,P (cond (u ||(v ||w)) (some k0) none)):Cs d P u v w:=by
 cases w
 ·cases v
  ·cases u
   ·exact h .none
   ·exact h _
  ·cases u <;> exact h _
 ·cases v <;> cases u <;> exact h _
theorem Bn{K:KN}{k0:A}(h:K (OH L0 d ps rs bo lap N m n ext k0) (SC (cX rs node ext p (iX d) (dj d)) P (GX node nid ext p (hF d) (dj d)) gl)):a9 (TW L (Y1 L (Yd++Y))) 1622 33 1 (OH L0 d ps rs bo lap N m n ext k0) (SC (cX rs node ext p (iX d) (dj d)) P (s7 node nid ext p (hF d)) gl) K R:=
 (cr (cr (WA (GR L L0 Y gl K R d p bo lap N rs ps (2,m.2) n P node nid (iX d) (.int d.c) k0 (bT d.a) (dI d.a) (bT d.b) (dI d.b) (bT d.c) (dI d.c)) _ (bb (hF d))) (bb ext) (bb (hv d.a))) (bb (hv d.b)) (bb (hv d.c))).mpr h
theorem Ft(hd:d.Ok)(h:∀k0,rest (TW L (Y1 L (Yd++Y))) 1622 34 (OH L0 d ps rs bo lap N m n ext k0) (SC (cX rs node ext d.plain (iX d) (dj d)) P (GX node nid ext d.plain (hF d) (dj d)) gl) K):
  rest (TW L (Y1 L (Yd++Y))) 1622 30 (FR L0 d ps rs bo lap N m n ext) (SC (oX rs node ext d.plain) P (B1 node nid ext d.plain) gl) K:=by
 obtain⟨way,p,a,b,c⟩:=d
 exact ag (j:=2) (Fh (ag (j:=1) (A1 ⟨4,zb hd.a hd.b hd.c (Cs.mk λk0=>ag (j:=1) (Bn (h k0)))⟩)))
end
structure Dg where
 num:Int
 pos:Int
 arg:Option Str
structure ai where
 d:Dr
 ps:List A
 rs:List A
 n:Int
 ext:Bool
 P:SP
 gl:Rg 5
 gv:List (A×A)
 r2:List Ce
 r3:List Ce
 r4:List Ce
 r5:List Ce
structure bg where
 r:Bool
 v:Bool
 mc:Bool
 mb:Bool
 dg:List Dg
 nt:List Int
def Dg.args(D:Dg):A:=.tup (D.arg.toList.map A.str)
def Dg.den(D:Dg):A:=.fi 175 [("number",.int D.num),("at",.int D.pos),("args",D.args),("file",tx "")]
def Dg.row(D:Dg):A:=.tup [.int D.num,.int D.pos,D.args]
def aT(p:Int):A:=.tup [.int 12,.int p]
def c4(i:Nat):Int:=cond (Nat.ble i 4) 1 (cond (Nat.beq i 7) 17 (cond (Nat.ble i 8) 33 (cond (Nat.beq i 9) 4 2)))
def ox(nm:String)(m:Int):A:=.tup [tx nm,.int m]
def Df(m1 m2 m3:Int):List A:=[ox "constructor" 64,ox "x" m1,ox "y" m2,ox "z" m3]
def LF(m:Int):Bool:= !PyData.eqv (.int (Builtin.bitAnd m 16)) (.int 0)
def wD(nm:String)(m:Int):A×A:=(.tup [tx nm,.bool (LF m)],.int m)
def pp(m1 m2 m3:Int):List (A×A):=[wD "x" m1,wD "y" m2,wD "z" m3]
def xk(p:Nat):List (A×A):=(.tup [tx "k",.bool false],.int 1)::cond (Nat.beq p 0) [] [(.tup [tx "x",.bool false],.int (cond (Nat.beq p 1) 1 4))]
def T0(p:Nat):Int:=cond (Nat.beq p 0) 1 2
def V6(m1 m2 m3:Int)(p:Nat)(mc mb:Bool):List (A×A):=cond mc [(.int 2,.fl (Df m1 m2 m3)),(.tup [.int 2,.int 4],.fd (pp m1 m2 m3))] []++cond mb [(.tup [.int 1,.int (T0 p)],.fd (xk p))] []
def d4:A:=.tup [.int 9,.int 2,.tup []]
def JB(h:Bool)(pr:List A)(r v:Bool):List A:=N7 h pr++(cond r [d4] []++cond v [dN] [])
def ai.nid(w:ai):Int:=iA w.d w.n+1+1+1
def ai.node(w:ai):A:=be w.d w.ps w.rs w.n
def ai.mr(w:ai)(V:bg):List (A×A):=V6 (c4 w.d.a) (c4 w.d.b) (c4 w.d.c) w.d.plain V.mc V.mb
def ai.tr(w:ai)(V:bg):List A:=JB (hF w.d) (dj w.d) V.r V.v
def ai.dd(w:ai):List Ce:=[lZ 1 "B" 0 (rW w.d.plain) 0 (-1),lZ 2 "C" (cond w.ext 1 0) [] w.nid (wa (hF w.d) (dj w.d))]
def ai.cp(w:ai)(V:bg):CP:=⟨w.tr V,aP 0 (w.tr V),[.none,.g 16 0,.g 16 1],w.dd,V.dg.map Dg.den,V.nt.map aT,w.mr V,w.gv,[.none,EX w.node],w.r2,w.r3,w.r4,w.r5⟩
def SJ(w:ai)(loc:List (List Ce))(V:bg):AS:=SC loc w.P (w.cp V) w.gl
structure ii(w:ai):Prop where
 d:w.d.Ok
 ext:w.ext=true↔3<w.d.way
 n:0≤w.n
 ps:∃ls v,li w.ps ls v
 psl:w.ps.length≤2
structure dv(w:ai)(V:bg):Prop where
 v:V.v=true→V.r=true∧hF w.d=false
 mb:V.mb=true→V.mc=true
structure jI(w:ai)(V V':bg):Prop where
 dg:V'.dg=V.dg
 nt:V'.nt=V.nt
 ok:dv w V'
variable{w:ai}{V V':bg}{n:Int}
theorem kY:n<j3 i n:=by
 have cl:∀{c:Bool} {a b:Int},n<a→n<b→n<cond c a b:=λ{c a b} h h'=>@Bool.casesOn (λc=>n<cond c a b) c h' h
 have l1:n<n+1:=Int.lt_add_one_iff.mpr (Int.le_refl n)
 have l2:n<n+1+1:=Int.lt_add_one_iff.mpr le1
 have l3:n<n+1+1+1:=Int.lt_add_one_iff.mpr le2
 exact cl (cl l2 (cl (Int.lt_trans l3 (Int.lt_add_one_iff.mpr le1)) l1)) l3
theorem wm:n≤nJ i n:=by
 have cl:∀{c:Bool} {a b:Int},n≤a→n≤b→n≤cond c a b:=λ{c a b} h h'=>@Bool.casesOn (λc=>n≤cond c a b) c h' h
 exact cl (Int.le_refl n) (cl (Wy le2 le1) (cl le2 le1))
theorem ii.nid(h:ii w):0<w.nid:=Int.lt_add_one_iff.mpr (Wy (Wy (Wy (Wy (Wy (Wy h.n le1) le2) (Int.le_of_lt kY)) (Int.le_of_lt kY)) (Int.le_of_lt kY)) (Wy wm le2))
theorem jI.refl(h:dv w V):jI w V V:=⟨rfl,rfl,h⟩
theorem jI.trans{V2:bg}(h:jI w V V')(h':jI w V' V2):jI w V V2:=⟨h'.dg.trans h.dg,h'.nt.trans h.nt,h'.ok⟩
def xl(w:ai)(xs:List X)(S:AS)(K:KX):Prop:=∃V i,xs=[.a bm,.a (.int (cond i 2 1))]∧S=SJ w S.loc V∧K (.a (cond i w.node .none)) S
theorem Lz:ae {} 787 [.a bm,.a (.int 2)] (SJ w loc V) K=aw (PyData.eqv (.int w.nid) (.int w.nid)) (K (.a w.node) (SJ w loc V)) (K (.a .none) (SJ w loc V)):=by kernel_rfl
theorem Jc:ae {} 787 [.a bm,.a (.int 1)] (SJ w loc V) K=aw (PyData.eqv (.int w.nid) (.int 0)) (K (.a w.node) (SJ w loc V)) (K (.a .none) (SJ w loc V)):=by kernel_rfl
theorem Nv{xs:List X}{S:AS}(ok:ii w)(h:xl w xs S K):ae {} 787 xs S K:=by
 obtain⟨V,i,rfl,e,h⟩:=h
 rw[e] at h ⊢
 cases i with
 |true=>exact cast Lz.symm (aA (decide_eq_true rfl) h)
 |false=>exact cast Jc.symm (cY (decide_eq_false (Ne.symm (Int.ne_of_lt ok.nid))) h)
def TH(xs:List X):Option {a:A // xs=[.a a]}:=(dM xs).bind λx=>(uA x.1).map λa=>⟨a.1,x.2.trans (congrArg (λx=>[x]) a.2)⟩
def An(P:List X→Prop)(v:A):ay:=λxs S K=>P xs∧K (.a v) S
def jR:Nat×ay:=(62,ae {} 62)
def zL(c:Nat)(a:A)(ks:List A)(fl n:Int):A:=cond (Nat.beq c 0) (nd 62 a ks fl n) (nd 27 a ks (cond (Nat.beq c 1) 32 64) n)
def OL(i:Nat):Nat:=cond (Nat.ble i 8) 0 (cond (Nat.beq i 9) 1 2)
def Jk(i:Nat)(n:Int):List A:=cond (Nat.ble i 8) [.none,M1 i n] [.none,bP [] (n+1+1),.none,nd 59 (tx "") [] 0 (n+1)]
theorem oJ{i:Nat}{a:A}{n:Int}:bq i a n=zL (OL i) a (Jk i n) (JZ i) (j3 i n):=by
 unfold bq OL Jk j3
 cases Nat.ble i 8 with
 |true=>rfl
 |false=>cases Nat.beq i 9 <;> rfl
theorem oz{i:Nat}:OL i<3:=by
 unfold OL
 cases Nat.ble i 8 with
 |true=>exact(by decide:0<3)
 |false=>cases Nat.beq i 9;exact(by decide:2<3);exact(by decide:1<3)
def h9(hd l0 t1 t2 t3 ct:A)(i j:Int):A:=nd 61 (tx "C") [.none,hd,.none,l0,bP [t1,t2,t3,ct] i] 0 j
section
variable(hd l0 pl bd:A)(n1 n2 n3 nc i j:Int)(a1 a2 a3:A)(k1 k2 k3:List A)(f1 f2 f3:Int)(S:AS)(K:KX)
def lX:A:=nd 27 (tx "") [.none,pl,.none,bd] 256 nc
theorem UD:(List.range 3).map (λc1=>(List.range 3).map λc2=>(List.range 3).map λc3=>ae (tab [jR]) 792 [.a (h9 hd l0 (zL c1 a1 k1 f1 n1) (zL c2 a2 k2 f2 n2) (zL c3 a3 k3 f3 n3) (lX pl bd nc) i j)] S K)=
  (List.range 3).map λc1=>(List.range 3).map λc2=>(List.range 3).map λc3=>K (.a (.fl [lX pl bd nc])) S:=by kernel_rfl
end
def xt(a:A):Option Str:=(rt (xD a)).bind λq=>(br "a" q.2).bind λv=>(vS v).map λs=>s.1
def sG(m1 m2 m3:Int)(s:Str):Int:=cond (seq s "x") m1 (cond (seq s "y") m2 (cond (seq s "z") m3 0))
def QF(ok:A→Prop)(m1 m2 m3:Int):ay:=λxs S K=>opt (TH xs) λa=>ok a.1∧opt (xt a.1) λs=>K (.a (.int (sG m1 m2 m3 s))) S
def OC(m:Int)(nm:String)(r:List A)(f:List A→Prop):Prop:=aw (!PyData.eqv (.int m) (.int 0)) (f (r++[ox nm m])) (f r)
section
variable(P1 P2:List X→Prop)(ok:A→Prop)(hd l0 pl bd:A)(n1 n2 n3 nc i j:Int)(k1 k2 k3 c1 c2 c3:Int)(ks1 ks2 ks3:List A)(f1 f2 f3 m1 m2 m3:Int)(S:AS)(K:KX)
def Er(nm:String)(k:Int)(ks:List A)(f n:Int):A:=nd k (tx nm) ks f n
def VG:bA:=tab [jR,(792,An P1 (.fl [lX pl bd nc])),(823,An P2 (.fl [])),(806,QF ok m1 m2 m3)]
def tP:A:=h9 hd l0 (Er "x" k1 ks1 f1 n1) (Er "y" k2 ks2 f2 n2) (Er "z" k3 ks3 f3 n3) (lX pl bd nc) i j
theorem QU:ae (VG P1 P2 ok pl bd nc m1 m2 m3) 830 [.a (tP hd l0 pl bd n1 n2 n3 nc i j k1 k2 k3 ks1 ks2 ks3 f1 f2 f3)] S K=(P1 [.a (tP hd l0 pl bd n1 n2 n3 nc i j k1 k2 k3 ks1 ks2 ks3 f1 f2 f3)]∧(P2 [.a (tP hd l0 pl bd n1 n2 n3 nc i j k1 k2 k3 ks1 ks2 ks3 f1 f2 f3)]∧
 (ok (Er "x" k1 ks1 f1 n1)∧OC m1 "x" [ox "constructor" 64] λr=>ok (Er "y" k2 ks2 f2 n2)∧OC m2 "y" r λr=>ok (Er "z" k3 ks3 f3 n3)∧OC m3 "z" r λr=>ok (lX pl bd nc)∧K (.a (.fl r)) S))):=by kernel_rfl
end
section
variable(S:AS)(K:KX)(nm:A)(n:Int)(pl bd:A)(nc:Int)
def OK:bA:=tab [jR,(799,ae (tab [jR]) 799)]
theorem R7:(List.range 11).map (λi=>ae OK 806 [.a (bq i nm n)] S K)=(List.range 11).map λi=>K (.a (.int (c4 i))) S:=by kernel_rfl
theorem O6:ae OK 806 [.a (lX pl bd nc)] S K=K (.a (.int 0)) S:=by kernel_rfl
end
def ai.ctor(w:ai):A:=d9 w.ps w.rs w.n
section
variable(P P3:List X→Prop)(node p p' bd pl:A)(i nc k n m m':Int)(ks:List A)(a:A)(f:Int)(S:AS)(K:KX)
def IO(k:Int)(a:A)(ks:List A)(f m:Int)(i:A)(n:Int):A:=nd 28 (tx "") [nd k a ks f m,.none,i] 0 n
theorem QA{x:A}:ae (tab [jR]) 811 [.a (IO k a ks f m x n)] S K=aw (PyData.eqv (.int k) (.int 8)) (K (.a (.bool false)) S) (K (.a (.bool (PyData.eqv (.int k) (.int 8)))) S):=by kernel_rfl
theorem OX:ae (tab [(792,An P (.fl [lX pl (nd k a ks f n) nc]))]) 818 [.a node] S K=(P [.a node]∧K (.a (lX pl (nd k a ks f n) nc)) S):=by kernel_rfl
def OI(ps:List A):bA:=tab [(818,An P3 (lX (bP ps i) bd nc)),(811,An P (.bool false))]
theorem T2:ae (OI P P3 bd i nc []) 823 [.a node] S K=(P3 [.a node]∧K (.a (.fl [])) S):=by kernel_rfl
theorem Sz:ae (OI P P3 bd i nc [p]) 823 [.a node] S K=(P3 [.a node]∧(P [.a p]∧K (.a (.fl [])) S)):=by kernel_rfl
theorem P4:ae (OI P P3 bd i nc [p,p']) 823 [.a node] S K=(P3 [.a node]∧(P [.a p]∧(P [.a p']∧K (.a (.fl [])) S))):=by kernel_rfl
end
def lW(w:ai)(xs:List X):Prop:=xs=[.a w.node]
def zR(w:ai):ay:=An (lW w) (.fl [w.ctor])
def JL(w:ai):ay:=An (lW w) w.ctor
def Ot(w:ai)(xs:List X):Prop:=∃p∈w.ps,xs=[.a p]
def KQ(w:ai):ay:=An (Ot w) (.bool false)
def JT(w:ai):ay:=An (lW w) (.fl [])
def ai.rows(w:ai):List A:=Df (c4 w.d.a) (c4 w.d.b) (c4 w.d.c)
def IX(w:ai):ay:=An (lW w) (.fl w.rows)
def Gd(w:ai)(a:A):Prop:=((∃n,a=bq w.d.a (tx "x") n)∨(∃n,a=bq w.d.b (tx "y") n)∨(∃n,a=bq w.d.c (tx "z") n))∨a=w.ctor
def Jd(w:ai):ay:=QF (Gd w) (c4 w.d.a) (c4 w.d.b) (c4 w.d.c)
section
variable{w:ai}{xs:List X}{S:AS}{K:KX}
theorem jr{i:Nat}{nm:String}{n:Int}:∃k ks f m,bq i (tx nm) n=Er nm k ks f m:=by
 unfold bq
 cases Nat.ble i 8 with
 |true=>exact⟨_,_,_,_,rfl⟩
 |false=>exact⟨_,_,_,_,rfl⟩
theorem om:w.node=h9 (iS w.d.way (ub w.d w.n)) (bP [] (iA w.d w.n+1)) (bq w.d.a (tx "x") (w.n+1+1+1)) (bq w.d.b (tx "y") (ou w.d w.n)) (bq w.d.c (tx "z") (og w.d w.n)) w.ctor (iA w.d w.n+1+1) (iA w.d w.n+1+1+1):=rfl
theorem OZ(h:zR w xs S K):ae (tab [jR]) 792 xs S K:=by
 obtain⟨rfl,h⟩:=h
 rw[om,oJ,oJ,oJ]
 exact(cr (WA (UD (iS w.d.way (ub w.d w.n)) (bP [] (iA w.d w.n+1)) (bP w.ps (w.n+1)) (nd 59 (tx "") w.rs 0 (w.n+1+1)) _ _ _ (w.n+1+1+1) (iA w.d w.n+1+1) (iA w.d w.n+1+1+1) _ _ _ _ _ _ _ _ _ S K) _ (WE oz)) (WE oz) (WE oz)).mpr h
theorem Q1(h:JL w xs S K):ae (tab [(792,zR w)]) 818 xs S K:=by
 obtain⟨rfl,h⟩:=h
 exact(OX (lW w) w.node (bP w.ps (w.n+1)) (w.n+1+1+1) 59 (w.n+1+1) w.rs (tx "") 0 S K).mpr ⟨rfl,h⟩
theorem OY(ok:ii w)(h:KQ w xs S K):ae (tab [jR]) 811 xs S K:=by
 obtain⟨⟨p,hp,rfl⟩,h⟩:=h
 obtain⟨ls,v,hps⟩:=ok.ps
 have e:∃k a ks f m x n,p=IO k a ks f m x n:=by
  clear h ok
  generalize w.ps=ps at *
  induction hps with
  |nil=>exact(WJ hp).elim
  |cons hq _ ih=>
   rcases WC hp with rfl |hp
   ·cases hq with
    |mk hpat=>cases hpat.nd;exact⟨_,_,_,_,_,_,_,rfl⟩
   ·exact ih hp
 obtain⟨k,a,ks,f,m,x,n,rfl⟩:=e
 exact(QA k n m ks a f S K).mpr (aX (λ_=>h) λq=>q.symm▸h)
theorem TT(hl:w.ps.length≤2)(h:JT w xs S K):ae (tab [(818,JL w),(811,KQ w)]) 823 xs S K:=by
 obtain⟨rfl,h⟩:=h
 show ae (OI (Ot w) (lW w) (nd 59 (tx "") w.rs 0 (w.n+1+1)) (w.n+1) (w.n+1+1+1) w.ps) 823 [.a w.node] S K
 have hm:∀p∈w.ps,Ot w [.a p]:=λp hp=>⟨p,hp,rfl⟩
 have hn:lW w [.a w.node]:=rfl
 generalize w.node=node at *
 generalize lW w=P3 at *
 generalize Ot w=P at *
 match w.ps,hl,hm with
 |[],_,hm=>exact(T2 P P3 node _ _ _ S K).mpr ⟨hn,h⟩
 |[p],_,hm=>exact(Sz P P3 node p _ _ _ S K).mpr ⟨hn,hm p (.head _),h⟩
 |[p,p'],_,hm=>exact(P4 P P3 node p p' _ _ _ S K).mpr ⟨hn,hm p (.head _),hm p' (.tail _ (.head _)),h⟩
 |_::_::_::_,hl,_=>exact(Nat.not_succ_le_zero _ (Nat.le_of_succ_le_succ (Nat.le_of_succ_le_succ hl))).elim
theorem Fn(hd:w.d.Ok){i:Nat}(hi:i<11){nm:String}{n:Int}{s:Str}(e:xt (bq i (tx nm) n)=some s)(hb:sG (c4 w.d.a) (c4 w.d.b) (c4 w.d.c) (Str.ofString nm)=c4 i)(h:opt (xt (bq i (tx nm) n)) λs=>K (.a (.int (sG (c4 w.d.a) (c4 w.d.b) (c4 w.d.c) s))) S):ae OK 806 [.a (bq i (tx nm) n)] S K:=by
 refine(WA (R7 S K (tx nm) n) i (WE hi)).mpr ?_
 have q:xt (bq i (tx nm) n)=some (Str.ofString nm):=(@jr i nm n).elim λk h=>h.elim λks h=>h.elim λf h=>h.elim λm h=>by rw[h];rfl
 rw[q] at h
 have h:K (.a (.int (sG (c4 w.d.a) (c4 w.d.b) (c4 w.d.c) (Str.ofString nm)))) S:=h
 rw[hb] at h
 exact h
theorem EM{i:Nat}{nm:String}{n:Int}:xt (bq i (tx nm) n)=some (Str.ofString nm):=(@jr i nm n).elim λk h=>h.elim λks h=>h.elim λf h=>h.elim λm h=>by rw[h];rfl
theorem R6(hd:w.d.Ok)(h:Jd w xs S K):ae OK 806 xs S K:=aa h λa _ h=>by
 rw[a.2]
 obtain⟨hq,h⟩:=h
 rcases hq with(⟨n,e⟩ |⟨n,e⟩ |⟨n,e⟩) |e
 ·rw[e] at h ⊢;exact Fn hd hd.a EM (by kernel_rfl) h
 ·rw[e] at h ⊢;exact Fn hd hd.b EM (by kernel_rfl) h
 ·rw[e] at h ⊢;exact Fn hd hd.c EM (by kernel_rfl) h
 ·rw[e] at h ⊢
  have h:opt (some (Str.ofString "")) λs=>K (.a (.int (sG (c4 w.d.a) (c4 w.d.b) (c4 w.d.c) s))) S:=h
  exact(O6 S K _ _ _).mpr (cast (by kernel_rfl) h)
theorem yy{i:Nat}:PyData.eqv (.int (c4 i)) (.int 0)=false:=by
 unfold c4
 cases Nat.ble i 4 with
 |true=>rfl
 |false=>cases Nat.beq i 7 with
  |true=>rfl
  |false=>cases Nat.ble i 8 with
   |true=>rfl
   |false=>cases Nat.beq i 9 <;> rfl
theorem pF{i:Nat}{nm:String}{r:List A}{f:List A→Prop}(h:f (r++[ox nm (c4 i)])):OC (c4 i) nm r f:=aA (by rw[yy];rfl) h
theorem PT(h:IX w xs S K):ae (tab [jR,(792,zR w),(823,JT w),(806,Jd w)]) 830 xs S K:=by
 obtain⟨rfl,h⟩:=h
 have k1:Gd w (bq w.d.a (tx "x") (w.n+1+1+1)):=.inl (.inl ⟨_,rfl⟩)
 have k2:Gd w (bq w.d.b (tx "y") (ou w.d w.n)):=.inl (.inr (.inl ⟨_,rfl⟩))
 have k3:Gd w (bq w.d.c (tx "z") (og w.d w.n)):=.inl (.inr (.inr ⟨_,rfl⟩))
 have k4:Gd w w.ctor:=.inr rfl
 have hn:lW w [.a w.node]:=rfl
 have e:=@om w
 have e4:w.ctor=lX (bP w.ps (w.n+1)) (nd 59 (tx "") w.rs 0 (w.n+1+1)) (w.n+1+1+1):=rfl
 show ae (tab [jR,(792,An (lW w) (.fl [w.ctor])),(823,An (lW w) (.fl [])),(806,QF (Gd w) (c4 w.d.a) (c4 w.d.b) (c4 w.d.c))]) 830 [.a w.node] S K
 generalize w.node=node at *
 generalize lW w=P at *
 generalize Gd w=ok at *
 generalize w.ctor=ct at *
 obtain⟨q1,s1,f1,m1,e1⟩:=@jr w.d.a "x" (w.n+1+1+1)
 obtain⟨q2,s2,f2,m2,e2⟩:=@jr w.d.b "y" (ou w.d w.n)
 obtain⟨q3,s3,f3,m3,e3⟩:=@jr w.d.c "z" (og w.d w.n)
 rw[e1] at k1
 rw[e2] at k2
 rw[e3] at k3
 rw[e1,e2,e3] at e
 subst e4 e
 exact(QU P P ok _ _ _ _ m1 m2 m3 _ _ _ q1 q2 q3 s1 s2 s3 f1 f2 f3 _ _ _ S K).mpr ⟨hn,hn,k1,pF ⟨k2,pF ⟨k3,pF ⟨k4,h⟩⟩⟩⟩
end
def Fv(P:List X→AS→Prop)(v:A):ay:=λxs S K=>P xs S∧K (.a v) S
def K5(P:List X→AS→Prop)(Pm:List X→Prop)(nd rows:A):bA:=tab [(837,ae (tab [(787,Fv P nd),(830,An Pm rows)]) 837)]
def Of(m:Int)(nm:String)(es:List (A×A))(f:List (A×A)→Prop):Prop:=aw (decide (m<64)) (f (es++[wD nm m])) (f es)
def bg.fm(V:bg)(i:Bool):bg:={V with mc:=true,mb:=cond i V.mb true}
def ai.frs(w:ai)(i:Bool):List (A×A):=cond i (pp (c4 w.d.a) (c4 w.d.b) (c4 w.d.c)) (xk w.d.plain)
section
variable(P:List X→AS→Prop)(Pm:List X→Prop)(w:ai)(r v:Bool)(dg:List Dg)(nt:List Int)(loc:List (List Ce))(K:KX)
theorem UE:ae (K5 P Pm w.node (.fl w.rows)) 844 [.a bm,.a (.int 2)] (SJ w loc ⟨r,v,false,false,dg,nt⟩) K=(P [.a bm,.a (.int 2)] (SJ w ([]::[]::loc) ⟨r,v,false,false,dg,nt⟩)∧(Pm [.a w.node]∧
 Of (c4 w.d.a) "x" [] λes=>Of (c4 w.d.b) "y" es λes=>Of (c4 w.d.c) "z" es λes=>K (.a (.fd es)) (SC loc w.P {w.cp ⟨r,v,false,false,dg,nt⟩ with mr:=[(.int 2,.fl w.rows),(.tup [.int 2,.int 4],.fd es)]} w.gl))):=by kernel_rfl
theorem PS(nd rw:A):BB.map (λmb=>ae (K5 P Pm nd rw) 844 [.a bm,.a (.int 2)] (SJ w loc ⟨r,v,true,mb,dg,nt⟩) K)=BB.map λmb=>K (.a (.fd (w.frs true))) (SJ w loc ⟨r,v,true,mb,dg,nt⟩):=by kernel_rfl
end
section
variable(P:List X→AS→Prop)(Pm:List X→Prop)(r v:Bool)(dg:List Dg)(nt:List Int)(loc:List (List Ce))(K:KX)(way a b c:Nat)(ps rs:List A)(n:Int)(ext:Bool)(Q:SP)(gl:Rg 5)(gv:List (A×A))(r2 r3 r4 r5:List Ce)(rw:A)
def yf(p:Nat):ai:=⟨⟨way,p,a,b,c⟩,ps,rs,n,ext,Q,gl,gv,r2,r3,r4,r5⟩
theorem Q2:(List.range 3).map (λp=>ae (K5 P Pm .none rw) 844 [.a bm,.a (.int 1)] (SJ (yf way a b c ps rs n ext Q gl gv r2 r3 r4 r5 p) loc ⟨r,v,true,false,dg,nt⟩) K)=
 (List.range 3).map λp=>(P [.a bm,.a (.int 1)] (SJ (yf way a b c ps rs n ext Q gl gv r2 r3 r4 r5 p) ([]::[]::loc) ⟨r,v,true,false,dg,nt⟩)∧K (.a (.fd (xk p))) (SJ (yf way a b c ps rs n ext Q gl gv r2 r3 r4 r5 p) loc ⟨r,v,true,true,dg,nt⟩)):=by kernel_rfl
theorem QE:(List.range 3).map (λp=>ae (K5 P Pm .none rw) 844 [.a bm,.a (.int 1)] (SJ (yf way a b c ps rs n ext Q gl gv r2 r3 r4 r5 p) loc ⟨r,v,true,true,dg,nt⟩) K)=
 (List.range 3).map λp=>(P [.a bm,.a (.int 1)] (SJ (yf way a b c ps rs n ext Q gl gv r2 r3 r4 r5 p) ([]::[]::loc) ⟨r,v,true,true,dg,nt⟩)∧K (.a (.fd (xk p))) (SJ (yf way a b c ps rs n ext Q gl gv r2 r3 r4 r5 p) loc ⟨r,v,true,true,dg,nt⟩)):=by kernel_rfl
end
def t5(w:ai)(xs:List X)(S:AS)(K:KX):Prop:=∃V i,xs=[.a bm,.a (.int (cond i 2 1))]∧S=SJ w S.loc V∧dv w V∧(i=false→V.mc=true)∧K (.a (.fd (w.frs i))) (SJ w S.loc (V.fm i))
def lB(w:ai)(i:Bool)(xs:List X)(S:AS):Prop:=∃V,xs=[.a bm,.a (.int (cond i 2 1))]∧S=SJ w S.loc V
variable{xs:List X}{i:Bool}
theorem FN{i:Nat}:decide (c4 i<64)=true:=by
 unfold c4
 cases Nat.ble i 4 with
 |true=>rfl
 |false=>cases Nat.beq i 7 with
  |true=>rfl
  |false=>cases Nat.ble i 8 with
   |true=>rfl
   |false=>cases Nat.beq i 9 <;> rfl
theorem pB{i:Nat}{nm:String}{r:List (A×A)}{f:List (A×A)→Prop}(h:f (r++[wD nm (c4 i)])):Of (c4 i) nm r f:=aA FN h
theorem Tt(ok:ii w)(h:t5 w xs S K):∃i,ae (K5 (lB w i) (lW w) (cond i w.node .none) (.fl w.rows)) 844 xs S K:=by
 obtain⟨V,i,rfl,e,vo,hi,h⟩:=h
 obtain⟨r,v,mc,mb,dg,nt⟩:=V
 rw[e]
 generalize S.loc=loc at *
 refine⟨i,?_⟩
 cases i with
 |true=>cases mc with
  |true=>exact(WA (PS (lB w true) (lW w) w r v dg nt loc K w.node (.fl w.rows)) mb (bb mb)).mpr h
  |false=>cases mb with
   |true=>exact nomatch vo.mb rfl
   |false=>exact(UE (lB w true) (lW w) w r v dg nt loc K).mpr ⟨⟨_,rfl,rfl⟩,rfl,pB (pB (pB h))⟩
 |false=>
  cases(show mc=true from hi rfl)
  obtain⟨⟨way,p,a,b,c⟩,ps,rs,n,ext,Q,gl,gv,r2,r3,r4,r5⟩:=w
  have hp:=WE ok.d.plain
  cases mb with
  |true=>exact(WA (QE (lB (yf way a b c ps rs n ext Q gl gv r2 r3 r4 r5 p) false) (lW (yf way a b c ps rs n ext Q gl gv r2 r3 r4 r5 p)) r v dg nt loc K way a b c ps rs n ext Q gl gv r2 r3 r4 r5 _) p hp).mpr ⟨⟨_,rfl,rfl⟩,h⟩
  |false=>exact(WA (Q2 (lB (yf way a b c ps rs n ext Q gl gv r2 r3 r4 r5 p) false) (lW (yf way a b c ps rs n ext Q gl gv r2 r3 r4 r5 p)) r v dg nt loc K way a b c ps rs n ext Q gl gv r2 r3 r4 r5 _) p hp).mpr ⟨⟨_,rfl,rfl⟩,h⟩
def mS(i:Nat):Int:=cond (Nat.beq i 7) 0 (c4 i)
def ai.mC(w:ai)(nm:Str):Int:=sG (mS w.d.a) (mS w.d.b) (mS w.d.c) nm
def mB(p:Nat)(nm:Str):Int:=cond (seq nm "k") 1 (cond (seq nm "x") (cond (Nat.beq p 0) 0 (cond (Nat.beq p 1) 1 4)) 0)
def ai.fM(w:ai)(nm:Str):Int:=cond (decide (w.mC nm=0)) (cond w.ext (mB w.d.plain nm) 0) (w.mC nm)
def u4(nm:A):A:=.tup [nm,.bool false]
def kW(nm:Str)(es:List (A×A)):Option A:=(bH (u4 (.str nm)) es).map λo=>o.getD (.int 0)
section
variable(m1 m2 m3:Int)
theorem RJ:(List.range 11).map (λi=>kW "x" (pp (c4 i) m2 m3))=(List.range 11).map λi=>some (A.int (mS i)):=by kernel_rfl
theorem Tz:(List.range 11).map (λi=>kW "y" (pp m1 (c4 i) m3))=(List.range 11).map λi=>some (A.int (mS i)):=by kernel_rfl
theorem Q8:(List.range 11).map (λi=>kW "z" (pp m1 m2 (c4 i)))=(List.range 11).map λi=>some (A.int (mS i)):=by kernel_rfl
theorem Ih:kW "k" (pp m1 m2 m3)=some (.int 0)∧kW "q" (pp m1 m2 m3)=some (.int 0):=⟨by kernel_rfl,by kernel_rfl⟩
theorem S9:(List.range 3).map (λp=>aR.map λnm=>kW nm (xk p))=(List.range 3).map λp=>aR.map λnm=>some (A.int (mB p nm)):=by kernel_rfl
end
variable{nm:Str}
theorem C9(hd:w.d.Ok)(h:nm∈aR):kW nm (w.frs true)=some (.int (w.mC nm)):=by
 rcases WC h with rfl |h
 ·exact(WA (RJ _ _) _ (WE hd.a)).trans (by kernel_rfl)
 rcases WC h with rfl |h
 ·exact(WA (Tz _ _) _ (WE hd.b)).trans (by kernel_rfl)
 rcases WC h with rfl |h
 ·exact(WA (Q8 _ _) _ (WE hd.c)).trans (by kernel_rfl)
 rcases WC h with rfl |h
 ·exact(Ih _ _ _).1.trans (by kernel_rfl)
 cases WD h
 exact(Ih _ _ _).2.trans (by kernel_rfl)
theorem IE(hd:w.d.Ok)(h:nm∈aR):kW nm (w.frs false)=some (.int (mB w.d.plain nm)):=cr S9 (WE hd.plain) h
def yF(xs:List X):Option Bool:=(jO xs).bind λp=>(uI p.1.2).map λi=>PyData.eqv (.int i.1) (.int 2)
def P5(nm:A)(es:List (A×A))(S:AS)(f:A→Prop)(g:Prop):Prop:=opt (bH (u4 nm) es) λo=>lF S (.a (o.getD (.int 0))) (.a (.int 0)) λc=>aw (!c) (f (o.getD (.int 0))) g
def On(P:Bool→List X→AS→Prop)(w:ai)(V1 V2:bg)(e1 e2:List (A×A)):ay:=λxs S K=>opt (yF xs) λi=>P i xs S∧cond i (K (.a (.fd e1)) (SJ w S.loc V1)) (K (.a (.fd e2)) (SJ w S.loc V2))
section
variable(P:Bool→List X→AS→Prop)(V V1 V2:bg)(loc:List (List Ce))(K:KX)(d:Dr)(ps rs:List A)(n:Int)(Q:SP)(gl:Rg 5)(gv:List (A×A))(r2 r3 r4 r5:List Ce)(nm:A)(e1 e2:List (A×A))
def F8(ext:Bool):ai:=⟨d,ps,rs,n,ext,Q,gl,gv,r2,r3,r4,r5⟩
def VN(w:ai):Prop:=P true [.a bm,.a (.int 2)] (SJ w ([]::loc) V)∧P5 nm e1 (SJ w ([]::loc) V1) (λm=>K (.a (.tup [.int 2,m])) (SJ w loc V1)) (cond w.ext
 (P false [.a bm,.a (.int 1)] (SJ w ([]::loc) V1)∧P5 nm e2 (SJ w ([]::loc) V2) (λm=>K (.a (.tup [.int 1,m])) (SJ w loc V2)) (K (.a (.tup [.int 0,.int 0])) (SJ w loc V2)))
 (K (.a (.tup [.int 0,.int 0])) (SJ w loc V1)))
theorem Pl:BB.map (λext=>ae (tab [(851,ae {} 851),(844,On P (F8 d ps rs n Q gl gv r2 r3 r4 r5 ext) V1 V2 e1 e2)]) 858 [.a bm,.a (.int 2),.a nm,.a (.bool false)] (SJ (F8 d ps rs n Q gl gv r2 r3 r4 r5 ext) loc V) K)=
 BB.map λext=>VN P V V1 V2 loc K nm e1 e2 (F8 d ps rs n Q gl gv r2 r3 r4 r5 ext):=by kernel_rfl
end
def lC(w:ai)(xs:List X)(S:AS)(K:KX):Prop:=∃V nm,xs=[.a bm,.a (.int 2),.a (.str nm),.a (.bool false)]∧S=SJ w S.loc V∧dv w V∧nm∈aR∧∀V' o,jI w V V'→K (.a (.tup [.int o,.int (w.fM nm)])) (SJ w S.loc V')
def rY(w:ai)(V V1:bg)(i:Bool)(xs:List X)(S:AS):Prop:=xs=[.a bm,.a (.int (cond i 2 1))]∧S=SJ w S.loc (cond i V V1)
theorem dv.fm(h:dv w V):dv w (V.fm i):=⟨h.v,λ_=>rfl⟩
theorem jI.fm(h:dv w V):jI w V (V.fm i):=⟨rfl,rfl,h.fm⟩
theorem tR{es:List (A×A)}{m:Int}{f:A→Prop}{g:Prop}(e:kW nm es=some (.int m))(h1:m≠0→f (.int m))(h2:m=0→g):P5 (.str nm) es S f g:=aH e λo e e2=>by
 refine aj e ?_
 rw[show o.getD (.int 0)=.int m from e2]
 exact mM.mpr (aX (λq=>h1 (of_decide_eq_false ((Bool.not_eq_true' _).mp q))) λq=>h2 (of_decide_eq_true ((Bool.not_eq_false' _).mp q)))
theorem v8(ok:ii w)(vo:dv w V)(hm:i=false→V.mc=true){V1 V2:bg}(e:cond i V1 V2=V.fm i)(V0 V00:bg)(e0:cond i V0 V00=V){xs:List X}{S:AS}{K:KX}(h:On (rY w V0 V00) w V1 V2 (w.frs true) (w.frs false) xs S K)(hi:yF xs=some i):t5 w xs S K:=aa h λj ej h=>by
 cases ej.symm.trans hi
 obtain⟨⟨rfl,h2⟩,h3⟩:=h
 rw[e0] at h2
 refine⟨V,i,rfl,h2,vo,hm,?_⟩
 cases i with
 |true=>rw[← e];exact h3
 |false=>rw[← e];exact h3
theorem Fj(ok:ii w)(h:lC w xs S K):∃V,dv w V∧ae (tab [(851,ae {} 851),(844,On (rY w V (V.fm true)) w (V.fm true) ((V.fm true).fm false) (w.frs true) (w.frs false))]) 858 xs S K:=by
 obtain⟨V,nm,rfl,e,vo,hn,h⟩:=h
 refine⟨V,vo,?_⟩
 rw[e]
 have g1:=C9 ok.d hn
 have g2:=IE ok.d hn
 have hf:w.fM nm=cond (decide (w.mC nm=0)) (cond w.ext (mB w.d.plain nm) 0) (w.mC nm):=rfl
 have P1:∀l,rY w V (V.fm true) true [.a bm,.a (.int 2)] (SJ w l V):=λl=>⟨rfl,rfl⟩
 have P2:∀l,rY w V (V.fm true) false [.a bm,.a (.int 1)] (SJ w l (V.fm true)):=λl=>⟨rfl,rfl⟩
 have s1:jI w V (V.fm true):=.fm vo
 have s2:jI w V ((V.fm true).fm false):=s1.trans (.fm s1.ok)
 generalize S.loc=loc at *
 generalize w.frs true=es1 at *
 generalize w.frs false=es2 at *
 generalize V.fm true=V1 at *
 generalize V1.fm false=V2 at *
 generalize w.mC nm=mc at *
 generalize mB w.d.plain nm=mb at *
 rw[hf] at h
 generalize rY w V V1=P at *
 obtain⟨d,ps,rs,n,ext,Q,gl,gv,r2,r3,r4,r5⟩:=w
 refine(WA (Pl P V V1 V2 loc K d ps rs n Q gl gv r2 r3 r4 r5 (.str nm) es1 es2) ext (bb ext)).mpr ⟨P1 _,tR g1 (λq=>?_) λq=>?_⟩
 ·rw[decide_eq_false q] at h;exact h _ _ s1
 ·rw[decide_eq_true q] at h
  cases ext with
  |true=>
   refine⟨P2 _,tR g2 (λq=>h _ _ s2) λq=>?_⟩
   have h:=h V2 0 s2
   rw[show cond true mb 0=mb from rfl,show cond true mb mc=mb from rfl,q] at h
   exact h
  |false=>exact h _ 0 s1
def bE:List Int:=[0,1,2,4,33]
def cU(m:Int):Bool:=decide (m=1) ||decide (m=33)
def Ib(nm:A):List (Str×X):=[("cx",.a bm),("did",.a (.int 2)),("name",.a nm),("static",.a (.bool false))]
def za(nm:A)(y:X):List (Str×X):=Ib nm++([("mark",y)]:List (Str×X))
section
variable(C:ay)(nm:A)(S:AS)(K:KN)(R:KX)(KK:KX)(loc:List (List Ce))(gl:Rg 5)(es:List (A×A))(T:bA)
theorem Q7:a9 (tab [(858,C)]) 941 0 1 (Ib nm) S K R=C [.a bm,.a (.int 2),.a nm,.a (.bool false)] S λx S=>ao x (.a (.int 1)) S λy S=>K (za nm y) S:=by kernel_rfl
theorem Tm:bE.map (λm=>rest T 941 1 (za nm (.a (.int m))) ⟨[]::loc,gl⟩ KK)=bE.map λm=>KK (.a (.bool (cU m))) ⟨loc,gl⟩:=by kernel_rfl
theorem UV:a9 (tab [(844,C)]) 934 0 1 (Ib nm) S K R=C [.a bm,.a (.int 2)] S λx S=>opt (dT S x "get") λmm=>bK (tab [(844,C)]) mm x "get" [.a (u4 nm),.a (.int 0)] S λy S=>K (za nm y) S:=by kernel_rfl
theorem Sk:(opt (dT S (.a (.fd es)) "get") λmm=>bK T mm (.a (.fd es)) "get" [.a (u4 nm),.a (.int 0)] S KK)=opt (bH (u4 nm) es) λo=>KK (.a (o.getD (.int 0))) S:=by kernel_rfl
theorem SE:bE.map (λm=>rest T 934 1 (za nm (.a (.int m))) ⟨[]::loc,gl⟩ KK)=bE.map λm=>KK (.a (.int (cond (cU m) m 0))) ⟨loc,gl⟩:=by kernel_rfl
end
def ai.own(w:ai)(nm:Str):Int:=cond (cU (w.mC nm)) (w.mC nm) 0
def zt(w:ai)(v:Str→A)(xs:List X)(S:AS)(K:KX):Prop:=∃V nm,xs=[.a bm,.a (.int 2),.a (.str nm),.a (.bool false)]∧S=SJ w S.loc V∧dv w V∧nm∈aR∧∀V',jI w V V'→K (.a (v nm)) (SJ w S.loc V')
def B2(w:ai):ay:=zt w λnm=>.bool (cU (w.fM nm))
def Dd(w:ai):ay:=zt w λnm=>.int (w.own nm)
variable{i:Nat}
theorem uC(h:i<11):mS i∈bE:=WL (show((List.range 11).all λi=>decide (mS i∈bE))=true by kernel_rfl) i (WE h) |> of_decide_eq_true
theorem gx{c:Bool}{a b:Int}(h:a∈bE)(h':b∈bE):cond c a b∈bE:=@Bool.casesOn (λc=>cond c a b∈bE) c h' h
theorem wu(hd:w.d.Ok):w.mC nm∈bE:=gx (uC hd.a) (gx (uC hd.b) (gx (uC hd.c) (by decide)))
theorem MV:mB i nm∈bE:=gx (by decide) (gx (gx (by decide) (gx (by decide) (by decide))) (by decide))
theorem Ct(hd:w.d.Ok):w.fM nm∈bE:=gx (gx MV (by decide)) (wu hd)
theorem jP{V:bg}(h:S=SJ w S.loc V):push S=SJ w ([]::S.loc) V:=(congrArg push h:push S=push (SJ w S.loc V))
theorem I4(ok:ii w)(h:B2 w xs S K):ae (tab [(858,lC w)]) 941 xs S K:=by
 obtain⟨V,nm,rfl,e,vo,hn,h⟩:=h
 refine bx (fi:=Fa 941) (by kernel_rfl) rfl (by kernel_rfl) (env:=Ib (.str nm)) (by kernel_rfl) (ag (j:=1) ((Q7 ..).mpr ⟨V,nm,rfl,jP e,vo,hn,λV' o st=>?_⟩))
 exact(WA (Tm (.str nm) K S.loc (SJ w S.loc V').gl _) _ (Ct ok.d)).mpr (h V' st)
theorem MQ(ok:ii w)(h:Dd w xs S K):ae (tab [(844,t5 w)]) 934 xs S K:=by
 obtain⟨V,nm,rfl,e,vo,hn,h⟩:=h
 refine bx (fi:=Fa 934) (by kernel_rfl) rfl (by kernel_rfl) (env:=Ib (.str nm)) (by kernel_rfl) (ag (j:=1) ((UV ..).mpr ⟨V,true,rfl,jP e,vo,(λh=>nomatch h),(Sk ..).mpr ?_⟩))
 refine aH (C9 ok.d hn) λo e e2=>aj e ?_
 rw[show o.getD (.int 0)=.int (w.mC nm) from e2]
 exact(WA (SE (.str nm) K S.loc (SJ w S.loc (V.fm true)).gl _) _ (wu ok.d)).mpr (h _ (.fm vo))
def A8(C:ay):bA:=tab [(787,C),jR,(69,ae {} 69)]
def x7(nm node:A)(m:Option A):List (Str×X):=Ib nm++alt m (λk=>([("node",.a node),("kid",.a k)]:List (Str×X))) [("node",.a node)]
def Ka(nm' nm:Str)(i:Nat)(K:Prop)(R:Bool→Prop):Prop:=cond (seq nm' nm&&Nat.beq i 8) (R true) (cond (seq nm' nm&&Nat.beq i 5) (R false) K)
def gD:List String:=["x","y","z"]
section
variable(C:ay)(S:AS)(K:KN)(R:KX)(KK:KX)(loc:List (List Ce))(gl:Rg 5)(P:List X→AS→Prop)(node hd l0 t1 t2 t3 ct pl bd:A)(i j n nc:Int)(nm:A)(m:Option A)
theorem O7:ae (A8 (Fv P (h9 hd l0 t1 t2 t3 ct i j))) 969 [.a bm,.a (.int 2),.a nm,.a (.bool false)] S KK=(P [.a bm,.a (.int 2)] (push S)∧fV (A8 (Fv P (h9 hd l0 t1 t2 t3 ct i j))) 969 2 (λenv S=>rest (A8 (Fv P (h9 hd l0 t1 t2 t3 ct i j))) 969 3 env S KK) (λx S=>ret x S KK) (.a (.fl [t1,t2,t3,ct])) 70 0 (x7 nm (h9 hd l0 t1 t2 t3 ct i j) none) (push S)):=by kernel_rfl
theorem ND:aR.map (λnm=>gD.map λnm'=>(List.range 11).map λi=>dw (A8 C) 969 2 K R (bq i (tx nm') n) (x7 (.str nm) node none) S)=aR.map λnm=>gD.map λnm'=>(List.range 11).map λi=>Ka (Str.ofString nm') nm i (K (x7 (.str nm) node (some (bq i (tx nm') n))) S) λb=>R (.a (.bool b)) S:=by kernel_rfl
theorem IC(q:A):aR.map (λnm=>gD.map λnm'=>(List.range 11).map λi=>dw (A8 C) 969 2 K R (bq i (tx nm') n) (x7 (.str nm) node (some q)) S)=aR.map λnm=>gD.map λnm'=>(List.range 11).map λi=>Ka (Str.ofString nm') nm i (K (x7 (.str nm) node (some (bq i (tx nm') n))) S) λb=>R (.a (.bool b)) S:=by kernel_rfl
theorem RV(q:A):dw (A8 C) 969 2 K R (lX pl bd nc) (x7 nm node (some q)) S=K (x7 nm node (some (lX pl bd nc))) S:=by kernel_rfl
theorem PU(q:A):rest (A8 C) 969 3 (x7 nm node (some q)) ⟨[]::loc,gl⟩ KK=KK (.a (.bool false)) ⟨loc,gl⟩:=by kernel_rfl
end
def ai.arr(w:ai)(nm:Str):Bool:=cond (seq "x" nm&&Nat.beq w.d.a 8) true (cond (seq "y" nm&&Nat.beq w.d.b 8) true (seq "z" nm&&Nat.beq w.d.c 8))
def BZ(w:ai):ay:=zt w λnm=>.bool (w.arr nm)
variable{nm':Str}
theorem oC{P:Prop}{R:Bool→Prop}{b:Bool}(h1:cond (seq nm' nm&&Nat.beq i 8) true b=true→(seq nm' nm&&Nat.beq i 8)=true→R true)(h2:(seq nm' nm&&Nat.beq i 5)=true→R false)(h3:(seq nm' nm&&Nat.beq i 8)=false→P):Ka nm' nm i P R:=by
 unfold Ka
 cases q:(seq nm' nm&&Nat.beq i 8) with
 |true=>exact h1 (by rw[q];rfl) q
 |false=>cases q2:(seq nm' nm&&Nat.beq i 5) with
  |true=>exact h2 q2
  |false=>exact h3 q
theorem zg{nm:Str}(h:nm∈aR):(seq "x" nm=true→seq "y" nm=false∧seq "z" nm=false)∧(seq "y" nm=true→seq "x" nm=false∧seq "z" nm=false)∧(seq "z" nm=true→seq "x" nm=false∧seq "y" nm=false):=
 WL (show(aR.all λnm=>decide ((seq "x" nm=true→seq "y" nm=false∧seq "z" nm=false)∧(seq "y" nm=true→seq "x" nm=false∧seq "z" nm=false)∧(seq "z" nm=true→seq "x" nm=false∧seq "y" nm=false)))=true by kernel_rfl) nm h |> of_decide_eq_true
theorem TQ{i:Nat}{b:Bool}(h:(b&&Nat.beq i 5)=true):b=true∧Nat.beq i 8=false:=by
 have h:=WB h
 cases Wv h.2
 exact⟨h.1,rfl⟩
theorem Jq(ok:ii w)(h:BZ w xs S K):∃V,dv w V∧ae (A8 (Fv (lB w true) w.node)) 969 xs S K:=by
 obtain⟨V,nm,rfl,e,vo,hn,h⟩:=h
 refine⟨V,vo,?_⟩
 have h:K (.a (.bool (w.arr nm))) (SJ w S.loc V):=h V (.refl vo)
 rw[← e] at h
 have hP:lB w true [.a bm,.a (.int 2)] (push S):=⟨V,rfl,jP e⟩
 have hx:=zg hn
 rw[om]
 refine(O7 ..).mpr ⟨hP,?_⟩
 generalize lB w true=P at *
 have st:∀{l:List (List Ce)},S=⟨S.loc,S.gl⟩:=rfl
 have t0:∀{C:ay} {node:A} {n:Int} {Kn:KN} {R:KX} {S:AS} {i:Nat} {s:String} {m:Option A},i<11→s∈gD→Ka (Str.ofString s) nm i (Kn (x7 (.str nm) node (some (bq i (tx s) n))) S) (λb=>R (.a (.bool b)) S)→dw (A8 C) 969 2 Kn R (bq i (tx s) n) (x7 (.str nm) node m) S:=λ{C node n Kn R S i s m} hi hs q=>by
  cases m with
  |none=>exact(cr (WA (ND C S Kn R node n) nm hn) hs (WE hi)).mpr q
  |some m=>exact(cr (WA (IC C S Kn R node n m) nm hn) hs (WE hi)).mpr q
 have e4:w.ctor=lX (bP w.ps (w.n+1)) (nd 59 (tx "") w.rs 0 (w.n+1+1)) (w.n+1+1+1):=rfl
 have hv:w.arr nm=cond (seq "x" nm&&Nat.beq w.d.a 8) true (cond (seq "y" nm&&Nat.beq w.d.b 8) true (seq "z" nm&&Nat.beq w.d.c 8)):=rfl
 generalize h9 _ _ _ _ _ _ _ _=node at *
 generalize w.arr nm=v at *
 have ls:∀S',bU S' (.a (.fl [bq w.d.a (tx "x") (w.n+1+1+1),bq w.d.b (tx "y") (ou w.d w.n),bq w.d.c (tx "z") (og w.d w.n),w.ctor]))=some [bq w.d.a (tx "x") (w.n+1+1+1),bq w.d.b (tx "y") (ou w.d w.n),bq w.d.c (tx "z") (og w.d w.n),w.ctor]:=λS'=>rfl
 have fin:∀b,b=v→ret (.a (.bool b)) (push S) K:=λb eb=>eb▸h
 refine e7 (ls _) rfl (t0 ok.d.a (.head _) (oC (b:=false) (λ_ q=>fin _ (by rw[hv,q];rfl)) (λq=>fin _ ?_) λq1=>?_))
 ·have q:=TQ q
  rw[hv,q.2,(hx.1 q.1).1,(hx.1 q.1).2,Bool.and_false];rfl
 refine e7 (ls _) rfl (t0 ok.d.b (.tail _ (.head _)) (oC (b:=false) (λ_ q=>fin _ (by rw[hv,q1,q];rfl)) (λq=>fin _ ?_) λq2=>?_))
 ·have q:=TQ q
  rw[hv,q1,q.2,(hx.2.1 q.1).2,Bool.and_false];rfl
 refine e7 (ls _) rfl (t0 ok.d.c (.tail _ (.tail _ (.head _))) (oC (b:=false) (λ_ q=>fin _ (by rw[hv,q1,q2];exact q.symm)) (λq=>fin _ ?_) λq3=>?_))
 ·have q:=TQ q
  rw[hv,q1,q2,q.2,Bool.and_false];rfl
 refine e7 (ls _) rfl ?_
 rw[e4]
 refine(RV ..).mpr (gB (fi:=Fa 969) (s:=Fb 969 2) (p:=Fp 969 2) (by kernel_rfl) (by kernel_rfl) (by kernel_rfl) (ls _) rfl ?_)
 refine(PU (Fv P node) K S.loc S.gl node _ _).mpr ?_
 have ev:v=false:=by rw[hv,q1,q2];exact q3
 rw[ev] at h
 exact h
def cS(w:ai)(V:bg):Rg 5:=(SJ w [] V).gl
def yj(C:CP)(tr:List A)(ti:List (A×A)):CP:={C with tr:=tr,ti:=ti}
variable{d:PyData}{l l2:List A}{a k v:A}{n:Nat}
theorem rk:∀{l:List A} {n:Nat},aP n (l++l2)=aP n l++aP (n+l.length) l2:=λ{l}=>@List.rec A (λl=>∀{n:Nat},aP n (l++l2)=aP n l++aP (n+l.length) l2) (λ{n}=>rfl) (λa r ih {n}=>congrArg ((a,A.int (n:Nat))::·) (ih.trans (congrArg (λm=>aP (n+1) r++aP m l2) (Nat.add_right_comm n 1 r.length)))) l
theorem qE(h:∀x∈l,am d x=false){es:List (A×A)}:cH d (aP n l++es)=cH d es:=(@List.rec A (λl=>∀n,(∀x∈l,am d x=false)→cH d (aP n l++es)=cH d es) (λn _=>rfl) (λa r ih n h=>by
 show cond (am d a) _ (cH d (aP (n+1) r++es))=_
 rw[h a (.head _)]
 exact ih (n+1) λx hx=>h x (.tail _ hx)) l) n h
theorem yo(h:∀x∈l,am d x=false):bV d k v (aP n l)=aP n l++[(k,v)]:=(@List.rec A (λl=>∀n,(∀x∈l,am d x=false)→bV d k v (aP n l)=aP n l++[(k,v)]) (λn _=>rfl) (λa r ih n h=>by
 show cond (am d a) _ ((a,A.int (n:Nat))::bV d k v (aP (n+1) r))=_
 rw[h a (.head _)]
 exact congrArg ((a,A.int (n:Nat))::·) (ih (n+1) λx hx=>h x (.tail _ hx))) l) n h
def pK:PyData:=.tuple [.int 9,.int 2,.tuple []]
def rF:PyData:=.tuple [.int 6,.tuple [.int 4,.int 7]]
theorem Cg{pr:List A}{d:PyData}{r:List PyData}{i:Int}(e:d=.tuple (.int i::r))(h:decide ((8:Int)=i)=false):am d (jQ pr)=false:=by
 have q:py (jQ pr)=((jH [.tup pr,.tup [],.tup [],.tup [],.tup [],.int 0]).map λl=>PyData.int 8::l).map .tuple:=by
  show Option.map _ (Option.bind _ _)=_
  rfl
 unfold am
 rw[q,e]
 cases jH [.tup pr,.tup [],.tup [],.tup [],.tup [],.int 0] with
 |none=>rfl
 |some l=>
  show(decide ((8:Int)=i)&&_)=false
  rw[h];rfl
theorem LV:(eQ.all λa=> !am pK a&& !am rF a)=true:=by kernel_rfl
theorem vq{a:A}(h:a∈eQ):am pK a=false∧am rF a=false:=have q:=WB (WL LV a h);⟨(Bool.not_eq_true' _).mp q.1,(Bool.not_eq_true' _).mp q.2⟩
theorem mZ:am pK dN=false∧am rF d4=false∧am pK d4=true∧am rF dN=true:=⟨by kernel_rfl,by kernel_rfl,by kernel_rfl,by kernel_rfl⟩
section
variable(loc:List (List Ce))(P:SP)(C:CP)(gl:Rg 5)(tr:List A)(ti:List (A×A))(row:A)(K:KX)
def oW(d:PyData):Prop:=aw (cH d ti).isSome (opt (cH d ti) λv=>K (.a v) (SC loc P (yj C tr ti) gl)) (ak (tr++[row]) (ak (bV d row (.int (tr.length:Nat)) ti) (K (.a (.int (tr.length:Nat))) (SC loc P (yj C (tr++[row]) (bV d row (.int (tr.length:Nat)) ti)) gl))))
theorem IG:ae {} 307 [.a d7,.a d4] (SC loc P (yj C tr ti) gl) K=oW loc P C gl tr ti d4 K pK:=by kernel_rfl
theorem JX:ae {} 307 [.a d7,.a dN] (SC loc P (yj C tr ti) gl) K=oW loc P C gl tr ti dN K rF:=by kernel_rfl
end
def EL(j:Bool):A:=cond j d4 dN
def bg.put(w:ai)(V:bg)(j:Bool):bg:=cond j {V with r:=true} {V with v:=V.v || !hF w.d}
def ai.at(w:ai)(j:Bool):Int:=cond j (cond (hF w.d) 18 17) (cond (hF w.d) 16 18)
def ib(w:ai)(xs:List X)(S:AS)(K:KX):Prop:=∃V j,xs=[.a d7,.a (EL j)]∧S=SJ w S.loc V∧dv w V∧aq (dj w.d)=true∧(j=false→V.r=true)∧K (.a (.int (w.at j))) (SJ w S.loc (V.put w j))
variable{C:CP}{gl:Rg 5}{row:A}
theorem lL(h:∀x∈l,am d x=false)(ha:am d row=true)(hk:K (.a (.int (l.length:Nat))) (SC loc P (yj C (l++row::l2) (aP 0 (l++row::l2))) gl)):oW loc P C gl (l++row::l2) (aP 0 (l++row::l2)) row K d:=by
 have e:cH d (aP 0 (l++row::l2))=some (.int (l.length:Nat)):=by
  rw[rk,qE h]
  show cond (am d row) (some (A.int ((0+l.length:Nat)))) _=_
  rw[ha,Nat.zero_add];rfl
 unfold oW
 rw[e]
 exact aA rfl hk
theorem mW(h:∀x∈l,am d x=false)(hl:l.length<1000)(hk:K (.a (.int (l.length:Nat))) (SC loc P (yj C (l++[row]) (aP 0 (l++[row]))) gl)):oW loc P C gl l (aP 0 l) row K d:=by
 have e:cH d (aP 0 l)=none:=(congrArg (cH d) (WQ _)).symm.trans (qE (es:=[]) h)
 have ez:aP 0 (l++[row])=aP 0 l++[(row,.int (l.length:Nat))]:=rk.trans (congrArg (λn:Nat=>aP 0 l++[(row,A.int (n:Nat))]) (Nat.zero_add _))
 have el:∀{n:Nat},(aP n l).length=l.length:=λ{n}=>(@List.rec A (λl=>∀n,(aP n l).length=l.length) (λ_=>rfl) (λa r ih n=>congrArg (·+1) (ih (n+1))) l) n
 unfold oW
 rw[e,yo h,← ez]
 refine cY rfl (aA (aC ?_) (aA (aC ?_) hk))
 ·rw[WN];exact V9 hl (by decide)
 ·rw[ez,WN,el];exact V9 hl (by decide)
def pG(h:Bool)(pr:List A):List A:=OG h++[jQ pr]
theorem BN(hp:aq (dj w.d)=true):w.tr V=pG (hF w.d) (dj w.d)++(cond V.r [d4] []++cond V.v [dN] []):=by unfold ai.tr JB N7 pG;rw[hp];rfl
theorem CH{h:Bool}{pr:List A}:∀x∈pG h pr,am pK x=false:=λx hx=>by
 rcases WF hx with hx |hx
 ·rcases WF hx with hx |hx
  ·exact(vq hx).1
  ·cases h with
   |true=>cases WD hx;exact mZ.1
   |false=>exact(WJ hx).elim
 ·cases WD hx
  exact Cg rfl rfl
theorem BR{pr:List A}:∀x∈pG false pr++[d4],am rF x=false:=λx hx=>by
 rcases WF hx with hx |hx
 ·rcases WF hx with hx |hx
  ·rcases WF hx with hx |hx
   ·exact(vq hx).2
   ·exact(WJ hx).elim
  ·cases WD hx
   exact Cg rfl rfl
 ·cases WD hx
  exact mZ.2.1
theorem zj{P:SP}{C:CP}{gl:Rg 5}{pr:List A}{h r v:Bool}(j:Bool)(hv:v=true→r=true∧h=false)(hr:j=false→r=true)
  (q:K (.a (.int (cond j (cond h 18 17) (cond h 16 18)))) (SC loc P (yj C (pG h pr++(cond (cond j true r) [d4] []++cond (cond j v (v || !h)) [dN] [])) (aP 0 (pG h pr++(cond (cond j true r) [d4] []++cond (cond j v (v || !h)) [dN] [])))) gl)):
  ae {} 307 [.a d7,.a (EL j)] (SC loc P (yj C (pG h pr++(cond r [d4] []++cond v [dN] [])) (aP 0 (pG h pr++(cond r [d4] []++cond v [dN] [])))) gl) K:=by
 cases j with
 |true=>
  refine(IG loc P C gl _ _ K).mpr ?_
  have el:(pG h pr).length=cond h 18 17:=by cases h <;> rfl
  cases r with
  |true=>exact lL CH mZ.2.2.1 (by rw[el];cases h <;> exact q)
  |false=>cases v with
   |true=>exact nomatch(hv rfl).1
   |false=>
    show oW loc P C gl (pG h pr++[]) (aP 0 (pG h pr++[])) d4 K pK
    rw[WQ]
    exact mW CH (by rw[el];cases h <;> decide) (by rw[el];cases h <;> exact q)
 |false=>
  refine(JX loc P C gl _ _ K).mpr ?_
  cases(hr rfl)
  cases h with
  |true=>cases v with
   |true=>exact nomatch(hv rfl).2
   |false=>exact lL (l:=eQ) (l2:=jQ pr::d4::[]) (λx hx=>(vq hx).2) mZ.2.2.2 q
  |false=>cases v with
   |true=>exact lL (l:=pG false pr++[d4]) (l2:=[]) BR mZ.2.2.2 q
   |false=>exact mW (l:=pG false pr++[d4]) BR (Wu rfl) q
theorem JM(h:ib w xs S K):ae {} 307 xs S K:=by
 obtain⟨V,j,rfl,e,vo,hp,hr,h⟩:=h
 rw[e]
 have h:K (.a (.int (w.at j))) (SC S.loc w.P (yj (w.cp V) (w.tr (V.put w j)) (aP 0 (w.tr (V.put w j)))) w.gl):=by cases j <;> exact h
 show ae {} 307 [.a d7,.a (EL j)] (SC S.loc w.P (yj (w.cp V) (w.tr V) (aP 0 (w.tr V))) w.gl) K
 rw[BN hp] at h ⊢
 refine zj j vo.v hr ?_
 cases j <;> exact h
section
variable(C:ay)(w:ai)(V:bg)(loc:List (List Ce))(K:KX)
theorem Pr:ae (tab [(342,ae (tab [(307,C)]) 342)]) 738 [.a d7,.a (.int 2)] (SJ w loc V) K=C [.a d7,.a d4] (SJ w ([]::[]::loc) V) λx S=>ret x S λx S=>ret x S K:=by kernel_rfl
end
def td(w:ai)(xs:List X)(S:AS)(K:KX):Prop:=∃V,xs=[.a d7,.a (.int 2)]∧S=SJ w S.loc V∧dv w V∧aq (dj w.d)=true∧K (.a (.int (w.at true))) (SJ w S.loc (V.put w true))
theorem K7(h:td w xs S K):ae (tab [(342,ae (tab [(307,ib w)]) 342)]) 738 xs S K:=by
 obtain⟨V,rfl,e,vo,hp,h⟩:=h
 rw[e]
 exact(Pr (ib w) w V S.loc K).mpr ⟨V,true,rfl,rfl,vo,hp,(λh=>nomatch h),h⟩
def VW(nm:String)(a b c:Bool)(k1 f1 k2 f2 k3 f3:Int):A:=cond (seq nm "x") (cond a (G5 "x" k1 f1) .none) (cond (seq nm "y") (cond b (G5 "y" k2 f2) .none) (cond c (G5 "z" k3 f3) .none))
section
variable(S:AS)(K:KX)(k1 f1 k2 f2 k3 f3:Int)
theorem SS:gD.map (λnm=>BB.map λa=>BB.map λb=>BB.map λc=>ae {} 634 [.a (jQ (H0 a b c k1 f1 k2 f2 k3 f3)),.a (tx nm)] S K)=gD.map λnm=>BB.map λa=>BB.map λb=>BB.map λc=>K (.a (VW nm a b c k1 f1 k2 f2 k3 f3)) S:=by kernel_rfl
end
def jU(d:Dr)(nm:Str):Nat:=cond (seq "x" nm) d.a (cond (seq "y" nm) d.b (cond (seq "z" nm) d.c 11))
def rS(w:ai)(xs:List X)(S:AS)(K:KX):Prop:=∃nm∈gD,xs=[.a (jQ (dj w.d)),.a (tx nm)]∧hv (jU w.d (Str.ofString nm))=true∧K (.a (G5 nm (bT (jU w.d (Str.ofString nm))) (dI (jU w.d (Str.ofString nm))))) S
theorem P6(h:rS w xs S K):ae {} 634 xs S K:=by
 obtain⟨nm,hn,rfl,hh,h⟩:=h
 have e:=cr (cr (SS S K (bT w.d.a) (dI w.d.a) (bT w.d.b) (dI w.d.b) (bT w.d.c) (dI w.d.c)) hn (bb (hv w.d.a))) (bb (hv w.d.b)) (bb (hv w.d.c))
 refine e.mpr ?_
 rcases WC hn with rfl |hn
 ·have hh:hv w.d.a=true:=hh
  rw[hh];exact h
 rcases WC hn with rfl |hn
 ·have hh:hv w.d.b=true:=hh
  rw[hh];exact h
 cases WD hn
 have hh:hv w.d.c=true:=hh
 rw[hh];exact h
def UT(P:List X→Rg 5→Prop)(v:A)(g:Rg 5):ay:=λxs S K=>P xs S.gl∧K (.a v) ⟨S.loc,g⟩
def oh:Nat×ay:=(480,ae {} 480)
def p6:Nat×ay:=(1004,ae (tab [(613,ae {} 613)]) 1004)
def Ej:Nat×ay:=(452,ae (tab [oh,p6]) 452)
def BQ:Nat×ay:=(1011,ae (tab [(459,ae {} 459)]) 1011)
def EA(Cf:ay):Nat×ay:=(660,ae (tab [oh,BQ,(634,Cf)]) 660)
def LY:Nat×ay:=(417,ae (tab [(403,ae {} 403),(396,ae {} 396)]) 417)
def AF(Cp:ay):Nat×ay:=(429,ae (tab [(389,ae {} 389),(424,ae {} 424),(410,ae {} 410),LY,(307,Cp)]) 429)
def FZ(Cp:ay):Nat×ay:=(693,ae (tab [(667,ae (tab [(436,ae (tab [AF Cp]) 436)]) 667)]) 693)
def UO(Cp Cf:ay):bA:=tab [oh,p6,Ej,EA Cf,FZ Cp,(445,ae {} 445),AF Cp]
def Lq:List (Bool×Bool×Nat):=[(true,false,0),(true,false,1),(true,false,2),(true,false,3),(false,false,0),(false,false,2),(false,false,3),(false,true,0),(false,true,2),(false,true,3)]
def Oq(q:Nat):Int:=cond (Nat.beq q 1) 16 (cond (Nat.beq q 2) 0 7)
def OJ(q:Nat):Int:=cond (Nat.beq q 3) 1 0
section
variable(P:SP)(C:CP)(gl:Rg 5)(pr:List A)(ti ti2:List (A×A))(D1:Ce)(e nid:Int)(loc:List (List Ce))(K:KX)(nm:A)(Pf:List X→Prop)(Pp:List X→Rg 5→Prop)
def VH(h v:Bool)(ti:List (A×A)):CP:={C with tr:=pG h pr++(d4::cond v [dN] []),ti:=ti,dc:=[.none,.g 16 0,.g 16 1],dd:=[D1,lZ 2 "C" e [] nid (cond h 17 16)]}
def nQ(h v:Bool)(ti:List (A×A)):Rg 5:=(SC [] P (VH C pr D1 e nid h v ti) gl).gl
def FY(x:Bool×Bool×Nat):Prop:=Pf [.a (jQ pr),.a nm]∧cond (Nat.beq x.2.2 0) (K (.a (.int 7)) ⟨loc,nQ P C gl pr D1 e nid x.1 x.2.1 ti⟩) (cond (Nat.beq x.2.2 2) (K (.a (.int 0)) ⟨loc,nQ P C gl pr D1 e nid x.1 x.2.1 ti⟩)
 (Pp [.a d7,.a dN] (nQ P C gl pr D1 e nid x.1 x.2.1 ti)∧cond (Nat.beq x.2.2 1) (K (.a (.int 16)) ⟨loc,nQ P C gl pr D1 e nid x.1 (x.2.1 || !x.1) ti2⟩) (Pp [.a d7,.a dN] (nQ P C gl pr D1 e nid x.1 (x.2.1 || !x.1) ti2)∧K (.a (.int (cond x.1 16 18))) ⟨loc,nQ P C gl pr D1 e nid x.1 (x.2.1 || !x.1) ti2⟩)))
theorem Kr:Lq.map (λx=>ae (UO (UT Pp (.int (cond x.1 16 18)) (nQ P C gl pr D1 e nid x.1 (x.2.1 || !x.1) ti2)) (An Pf (.tup [nm,.int (Oq x.2.2),.int (OJ x.2.2),.int 0]))) 698 [.a HL,.a (.int (cond x.1 18 17)),.a nm] ⟨loc,nQ P C gl pr D1 e nid x.1 x.2.1 ti⟩ K)=Lq.map (FY P C gl pr ti ti2 D1 e nid loc K nm Pf Pp):=by kernel_rfl
end
def fD(C C':ay):Prop:=∀xs S K,C xs S K→C' xs S K
structure H2(w:ai)(V:bg)(t:Int)(b:Bool):Prop where
 pr:aq (dj w.d)=true
 r:V.r=true
 ty:(t=7∧b=true)∨((t=0∨(hF w.d=true∧t=16)∨(hF w.d=false∧V.v=true∧t=18))∧b=false)
def pP(d:Dr)(s:String):Bool:=Nat.ble (jU d (Str.ofString s)) 1
def tH(w:ai)(xs:List X)(S:AS)(K:KX):Prop:=∃V s,xs=[.a HL,.a (.int (w.at true)),.a (tx s)]∧S=SJ w S.loc V∧dv w V∧V.r=true∧s∈gD∧jU w.d (Str.ofString s)≤4∧∀V' t,jI w V V'→H2 w V' t (pP w.d s)→K (.a (.int t)) (SJ w S.loc V')
section
variable{w:ai}{xs:List X}{S:AS}{K:KX}{V V':bg}{s:String}{loc:List (List Ce)}
theorem CQ(hs:s∈gD)(h:hv (jU w.d (Str.ofString s))=true):aq (dj w.d)=true:=by
 have ap:∀{a b:List A},aq b=true→aq (a++b)=true:=λ{a b} h=>@List.casesOn A (λa=>aq (a++b)=true) a h λ_ _=>rfl
 have ap':∀{a b:List A},aq a=true→aq (a++b)=true:=λ{a b} h=>@List.casesOn A (λa=>aq a=true→aq (a++b)=true) a (λh=>nomatch h) (λ_ _ _=>rfl) h
 unfold dj H0
 rcases WC hs with rfl |hs
 ·have hh:hv w.d.a=true:=h
  rw[hh];rfl
 rcases WC hs with rfl |hs
 ·have hh:hv w.d.b=true:=h
  rw[hh];exact ap (ap' rfl)
 cases WD hs
 have hh:hv w.d.c=true:=h
 rw[hh];exact ap (ap rfl)
theorem mR(hp:aq (dj w.d)=true)(hr:V.r=true):cS w V=nQ w.P (w.cp V) w.gl (dj w.d) (lZ 1 "B" 0 (rW w.d.plain) 0 (-1)) (cond w.ext 1 0) w.nid (hF w.d) V.v (aP 0 (w.tr V)):=by
 have e1:w.tr V=pG (hF w.d) (dj w.d)++(d4::cond V.v [dN] []):=by rw[BN hp,hr];rfl
 have e2:w.dd=[lZ 1 "B" 0 (rW w.d.plain) 0 (-1),lZ 2 "C" (cond w.ext 1 0) [] w.nid (cond (hF w.d) 17 16)]:=by unfold ai.dd wa;rw[hp];rfl
 exact congrArg (λC=>(SC [] w.P C w.gl).gl) (rj (λtr dd=>(⟨tr,aP 0 (w.tr V),[.none,.g 16 0,.g 16 1],dd,V.dg.map Dg.den,V.nt.map aT,w.mr V,w.gv,[.none,EX w.node],w.r2,w.r3,w.r4,w.r5⟩:CP)) e1 e2)
theorem mO(h:S.gl=cS w V):S=SJ w S.loc V:=congrArg (AS.mk S.loc) h
def Ic(w:ai)(V2:bg)(xs:List X)(g:Rg 5):Prop:=xs=[.a d7,.a dN]∧∃V',dv w V'∧V'.r=true∧g=cS w V'∧V'.put w false=V2
theorem zF(hp:aq (dj w.d)=true){V2:bg}:fD (UT (Ic w V2) (.int (w.at false)) (cS w V2)) (ib w):=λxs S K h=>by
 obtain⟨⟨rfl,V',vo,hr,hg,h2⟩,h⟩:=h
 exact⟨V',false,rfl,mO hg,vo,hp,λ_=>hr,h2▸h⟩
def tl(w:ai)(s:String)(xs:List X):Prop:=xs=[.a (jQ (dj w.d)),.a (tx s)]
theorem Ah(hs:s∈gD)(hh:hv (jU w.d (Str.ofString s))=true){k f:Int}(ek:k=bT (jU w.d (Str.ofString s)))(ef:f=dI (jU w.d (Str.ofString s))):fD (An (tl w s) (.tup [tx s,.int k,.int f,.int 0])) (rS w):=λxs S K h=>by
 subst ek ef
 exact⟨s,hs,h.1,hh,h.2⟩
theorem n5{i:Nat}(h:i≤4):i=0∨i=1∨i=2∨i=3∨i=4:=by omega
theorem SM(hs:s∈gD)(h:jU w.d (Str.ofString s)=2):hF w.d=true:=by
 unfold hF
 rcases WC hs with rfl |hs
 ·have hh:w.d.a=2:=h
  rw[hh];rfl
 rcases WC hs with rfl |hs
 ·have hh:w.d.b=2:=h
  rw[hh,show Nat.beq 2 2=true from rfl,Bool.or_true];rfl
 cases WD hs
 have hh:w.d.c=2:=h
 rw[hh,show Nat.beq 2 2=true from rfl,Bool.or_true]
theorem MC{h v:Bool}{q:Nat}(hv:v=true→h=false)(hq:q=0∨q=2∨q=3∨(q=1∧h=true)):(h,v,q)∈Lq:=by
 have q':=(show(BB.all λh=>BB.all λv=>[0,1,2,3].all λq=>decide ((v=true→h=false)→(q=0∨q=2∨q=3∨(q=1∧h=true))→(h,v,q)∈Lq))=true by kernel_rfl)
 have hm:q∈[0,1,2,3]:=by rcases hq with rfl |rfl |rfl |⟨rfl,_⟩ <;> decide
 exact of_decide_eq_true (WL (WL (WL q' h (bb h)) v (bb v)) q hm) hv hq
theorem y3:(V.put w false).put w false=V.put w false:=by
 unfold bg.put
 show({V with v:=(V.v || !hF w.d) || !hF w.d}:bg)={V with v:=V.v || !hF w.d}
 rw[Bool.or_assoc,Bool.or_self]
theorem dv.put(h:dv w V)(hr:V.r=true):dv w (V.put w false):=⟨λq=>⟨hr,by
 have q:(V.v || !hF w.d)=true:=q
 cases e:hF w.d with
 |false=>rfl
 |true=>rw[e] at q;exact absurd ((Bool.or_eq_true_iff.mp q).elim (λq=>(h.v q).2) λq=>nomatch q) (by rw[e];decide)⟩,h.mb⟩
end
variable{s:String}
theorem RM(h:tH w xs S K):∃Cp Cf,fD Cp (ib w)∧fD Cf (rS w)∧ae (UO Cp Cf) 698 xs S K:=by
 obtain⟨V,s,rfl,e,vo,hr,hs,hi,h⟩:=h
 have hh:hv (jU w.d (Str.ofString s))=true:=by
  rcases n5 hi with q |q |q |q |q <;> rw[q] <;> rfl
 have hp:=CQ hs hh
 have I5:jI w V V:=.refl vo
 have vo2:=vo.put hr
 have st2:jI w V (V.put w false):=⟨rfl,rfl,vo2⟩
 have iu:fD (UT (Ic w (V.put w false)) (.int (w.at false)) (cS w (V.put w false))) (ib w):=zF hp
 have P1:Ic w (V.put w false) [.a d7,.a dN] (cS w V):=⟨rfl,V,vo,hr,rfl,rfl⟩
 have P2:Ic w (V.put w false) [.a d7,.a dN] (cS w (V.put w false)):=⟨rfl,_,vo2,hr,rfl,y3⟩
 have P3:tl w s [.a (jQ (dj w.d)),.a (tx s)]:=rfl
 have tn:∀{t b},pP w.d s=b→((t=7∧b=true)∨(t=0∧b=false))→H2 w V t (pP w.d s):=λ{t b} eb q=>eb▸⟨hp,hr,q.imp id λq=>⟨.inl q.1,q.2⟩⟩
 have tu:pP w.d s=false→H2 w (V.put w false) (cond (hF w.d) 16 18) (pP w.d s):=λeb=>(congrArg (H2 w (V.put w false) (cond (hF w.d) 16 18)) eb).mpr ⟨hp,hr,.inr ⟨.inr (by
  show(hF w.d=true∧_)∨(hF w.d=false∧(V.v || !hF w.d)=true∧_)
  cases hF w.d with
  |true=>exact .inl ⟨rfl,rfl⟩
  |false=>exact .inr ⟨rfl,Bool.or_true _,rfl⟩),rfl⟩⟩
 have lk2:∀{i},jU w.d (Str.ofString s)=i→pP w.d s=Nat.ble i 1:=λ{i} q=>by unfold pP;rw[q]
 have ff:∀q,Oq q=bT (jU w.d (Str.ofString s))→OJ q=dI (jU w.d (Str.ofString s))→fD (An (tl w s) (.tup [tx s,.int (Oq q),.int (OJ q),.int 0])) (rS w):=λq=>Ah hs hh
 have h2:=@SM w s hs
 have hvo:V.v=true→hF w.d=false:=λq=>(vo.v q).2
 have main:∀q,(q=0∨q=2∨q=3∨(q=1∧hF w.d=true))→Oq q=bT (jU w.d (Str.ofString s))→OJ q=dI (jU w.d (Str.ofString s))→FY w.P (w.cp V) w.gl (dj w.d) (aP 0 (w.tr V)) (aP 0 (w.tr (V.put w false))) (lZ 1 "B" 0 (rW w.d.plain) 0 (-1)) (cond w.ext 1 0) w.nid S.loc K (tx s) (tl w s) (Ic w (V.put w false)) (hF w.d,V.v,q)→∃Cp Cf,fD Cp (ib w)∧fD Cf (rS w)∧ae (UO Cp Cf) 698 [.a HL,.a (.int (w.at true)),.a (tx s)] S K:=λq hq ek ef hh=>by
  refine⟨_,_,iu,ff q ek ef,?_⟩
  have hh:=(WA (Kr w.P (w.cp V) w.gl (dj w.d) (aP 0 (w.tr V)) (aP 0 (w.tr (V.put w false))) (lZ 1 "B" 0 (rW w.d.plain) 0 (-1)) (cond w.ext 1 0) w.nid S.loc K (tx s) (tl w s) (Ic w (V.put w false))) _ (MC hvo hq)).mpr hh
  have eg1:S=⟨S.loc,nQ w.P (w.cp V) w.gl (dj w.d) (lZ 1 "B" 0 (rW w.d.plain) 0 (-1)) (cond w.ext 1 0) w.nid (hF w.d) V.v (aP 0 (w.tr V))⟩:=e.trans (congrArg (AS.mk S.loc) (mR hp hr))
  have eg2:cS w (V.put w false)=nQ w.P (w.cp V) w.gl (dj w.d) (lZ 1 "B" 0 (rW w.d.plain) 0 (-1)) (cond w.ext 1 0) w.nid (hF w.d) (V.v || !hF w.d) (aP 0 (w.tr (V.put w false))):=mR (V:=V.put w false) hp hr
  rw[eg1,eg2]
  exact hh
 have eg1:nQ w.P (w.cp V) w.gl (dj w.d) (lZ 1 "B" 0 (rW w.d.plain) 0 (-1)) (cond w.ext 1 0) w.nid (hF w.d) V.v (aP 0 (w.tr V))=cS w V:=(mR hp hr).symm
 have eg2:nQ w.P (w.cp V) w.gl (dj w.d) (lZ 1 "B" 0 (rW w.d.plain) 0 (-1)) (cond w.ext 1 0) w.nid (hF w.d) (V.v || !hF w.d) (aP 0 (w.tr (V.put w false)))=cS w (V.put w false):=(mR (V:=V.put w false) hp hr).symm
 unfold FY at main
 simp only[eg1,eg2] at main
 rcases n5 hi with q |q |q |q |q
 ·exact main 0 (.inl rfl) (by rw[q];rfl) (by rw[q];rfl) ⟨P3,h V 7 I5 (tn (lk2 q) (.inl ⟨rfl,rfl⟩))⟩
 ·exact main 0 (.inl rfl) (by rw[q];rfl) (by rw[q];rfl) ⟨P3,h V 7 I5 (tn (lk2 q) (.inl ⟨rfl,rfl⟩))⟩
 ·have t2:=tu (lk2 q)
  rw[h2 q] at t2
  exact main 1 (.inr (.inr (.inr ⟨rfl,h2 q⟩))) (by rw[q];rfl) (by rw[q];rfl) ⟨P3,P1,h _ 16 st2 t2⟩
 ·exact main 2 (.inr (.inl rfl)) (by rw[q];rfl) (by rw[q];rfl) ⟨P3,h V 0 I5 (tn (lk2 q) (.inr ⟨rfl,rfl⟩))⟩
 ·exact main 3 (.inr (.inr (.inl rfl))) (by rw[q];rfl) (by rw[q];rfl) ⟨P3,P1,P2,h _ _ st2 (tu (lk2 q))⟩
def kZ(w:ai)(xs:List X)(S:AS)(K:KX):Prop:=∃V s,xs=[.a bm,.a (.int 2),.a (tx s)]∧S=SJ w S.loc V∧dv w V∧s∈gD∧jU w.d (Str.ofString s)≤4∧∀V' t,jI w V V'→H2 w V' t (pP w.d s)→K (.a (.int t)) (SJ w S.loc V')
section
variable(C1 C2:ay)(S:AS)(K:KX)(nm:A)
theorem UU:ae (tab [(738,C1),(698,C2)]) 920 [.a bm,.a (.int 2),.a nm] S K=C1 [.a d7,.a (.int 2)] (push S) λx S=>C2 [.a HL,x,.a nm] S λx S=>ret x S K:=by kernel_rfl
end
section
variable(P:SP)(C:CP)(gl:Rg 5)(pr:List A)(ti:List (A×A))(D1:Ce)(e nid:Int)(loc:List (List Ce))(K:KX)
def R5:List (Bool×Bool×Int):=[(true,false,7),(false,false,7),(false,true,7),(true,false,0),(false,false,0),(false,true,0),(true,false,16),(false,true,18)]
theorem UW:R5.map (λx=>ae (tab [oh,(389,ae {} 389)]) 927 [.a bm,.a (.int x.2.2)] ⟨loc,nQ P C gl pr D1 e nid x.1 x.2.1 ti⟩ K)=R5.map λx=>K (.a (.bool (decide (x.2.2=7)))) ⟨loc,nQ P C gl pr D1 e nid x.1 x.2.1 ti⟩:=by kernel_rfl
end
def lD(w:ai)(xs:List X)(S:AS)(K:KX):Prop:=∃V t b,xs=[.a bm,.a (.int t)]∧S=SJ w S.loc V∧dv w V∧H2 w V t b∧K (.a (.bool b)) S
theorem Tn(h:kZ w xs S K):ae (tab [(738,td w),(698,tH w)]) 920 xs S K:=by
 obtain⟨V,s,rfl,e,vo,hs,hi,h⟩:=h
 have hh:hv (jU w.d (Str.ofString s))=true:=by
  rcases n5 hi with q |q |q |q |q <;> rw[q] <;> rfl
 have hp:=CQ hs hh
 have vr:dv w (V.put w true):=⟨λq=>⟨rfl,(vo.v q).2⟩,vo.mb⟩
 exact(UU ..).mpr ⟨V,rfl,jP e,vo,hp,⟨V.put w true,s,rfl,rfl,vr,rfl,hs,hi,λV' t st ty=>h V' t ((show jI w V (V.put w true) from⟨rfl,rfl,vr⟩).trans st) ty⟩⟩
theorem To(h:lD w xs S K):ae (tab [oh,(389,ae {} 389)]) 927 xs S K:=by
 obtain⟨V,t,b,rfl,e,vo,ty,h⟩:=h
 have hm:(hF w.d,V.v,t)∈R5∧decide (t=7)=b:=by
  have hv:=vo.v
  rcases ty.ty with⟨rfl,rfl⟩ |⟨rfl |⟨q,rfl⟩ |⟨q,q2,rfl⟩,rfl⟩
  ·refine⟨?_,rfl⟩
   cases q:hF w.d <;> cases q2:V.v
   ·decide
   ·decide
   ·decide
   ·exact nomatch(hv q2).2.symm.trans q
  ·refine⟨?_,rfl⟩
   cases q:hF w.d <;> cases q2:V.v
   ·decide
   ·decide
   ·decide
   ·exact nomatch(hv q2).2.symm.trans q
  ·refine⟨?_,rfl⟩
   cases q2:V.v
   ·rw[q];decide
   ·exact nomatch(hv q2).2.symm.trans q
  ·rw[q,q2];exact⟨by decide,rfl⟩
 have eg1:S=⟨S.loc,nQ w.P (w.cp V) w.gl (dj w.d) (lZ 1 "B" 0 (rW w.d.plain) 0 (-1)) (cond w.ext 1 0) w.nid (hF w.d) V.v (aP 0 (w.tr V))⟩:=e.trans (congrArg (AS.mk S.loc) (mR ty.pr ty.r))
 rw[eg1] at h ⊢
 refine(WA (UW w.P (w.cp V) w.gl (dj w.d) (aP 0 (w.tr V)) (lZ 1 "B" 0 (rW w.d.plain) 0 (-1)) (cond w.ext 1 0) w.nid S.loc K) _ hm.1).mpr ?_
 rw[← hm.2] at h
 exact h
variable{T:bA}{a k:Nat}{K:KN}{x:X}
theorem e8{fi:Fs}{s:Stmt}{p:Expr×List Stmt}{β:Type}{f:β→A}(e1:io a=some fi)(e2:nth fi.body k=some s)(e3:yb s=some p){P:List β→KN}{xs:List β}(hs:∀ys env S,P ys env S→bU S x=some (xs.map f))(hk:∀env S,P [] env S→K env S)
  (hb:∀y ys env S K',P (y::ys) env S→(∀env S,P ys env S→K' env S)→dw T a k K' R (f y) env S):∀ys zs env S,xs=zs++ys→P ys env S→fV T a k K R x (ys.length+1) zs.length env S:=λys=>
 @List.rec β (λys=>∀zs env S,xs=zs++ys→P ys env S→fV T a k K R x (ys.length+1) zs.length env S)
  (λzs env S e h=>gB e1 e2 e3 (hs _ _ _ h) (by rw[e,WQ];exact List.getElem?_eq_none (by rw[WO];exact Nat.le_refl _)) (hk env S h))
  (λy ys ih zs env S e h=>e7 (hs _ _ _ h) (show(xs.map f)[zs.length]?=some (f y) by rw[e,WS,List.getElem?_append_right (by rw[WO];exact Nat.le_refl _),WO,Nat.sub_self];rfl) (hb y ys env S _ h λenv S h=>(show fV T a k K R x (ys.length+1) (zs.length+1) env S from(List.length_append (as:=zs) (bs:=[y]))▸ih (zs++[y]) env S (e.trans (List.append_cons zs y ys)) h))) ys
def Ec:bA:={fn:=λa=>lk a [(201,ae (tab [(175,cT (tab [(165,ae {} 165)]) 175)]) 201)],sy:=[963008]}
def xJ(num pos:Int)(args:A)(m:Option A):List (Str×X):=([("self",.a bm),("number",.a (.int num)),("at",.a (.int pos)),("args",.a args)]:List (Str×X))++alt m (λq=>([("diag",.a q)]:List (Str×X))) []
def dq(o:Option Str):A:=.tup (o.toList.map A.str)
def kQ(num pos:Int)(o:A):A:=.fi 175 [("number",.int num),("at",.int pos),("args",o),("file",tx "")]
section
variable(w:ai)(V:bg)(loc:List (List Ce))(S:AS)(K:KN)(KK R:KX)(k n num pos num' pos':Int)(a args q args':A)(ks:List A)(f:Int)(C:ay)(l:List A)
theorem Q9:ae (tab [(234,ae {} 234)]) 1366 [.a bm,.a (.int 12),.a (nd k a ks f n)] (SJ w loc V) KK=ak (V.nt.map aT++[aT (4*n+3)]) (KK (.a .none) (SC loc w.P {w.cp V with nt:=V.nt.map aT++[aT (4*n+3)]} w.gl)):=by kernel_rfl
theorem O2:ae (tab [(1352,C)]) 1345 [.a bm,.a (.int num),.a (nd k a ks f n),.a args] S KK=C [.a bm,.a (.int num),.a (.int (4*n+3)),.a args] (push S) λ_ S=>ret (.a .none) S KK:=by kernel_rfl
theorem PR(h:∃n,fV Ec 1352 0 K R (.a (.g 17 1)) n 0 (xJ num pos args none) (SJ w loc V)):a9 Ec 1352 0 1 (xJ num pos args none) (SJ w loc V) K R:=cast (by kernel_rfl) h
def VQ:Prop:=aw (PyData.eqv (.int num') (.int num)) (aw (PyData.eqv (.int pos') (.int pos)) (lF S (.a args') (.a args) λc=>aw c (R (.a .none) S) (K (xJ num pos args (some (kQ num' pos' args'))) S)) (K (xJ num pos args (some (kQ num' pos' args'))) S)) (K (xJ num pos args (some (kQ num' pos' args'))) S)
theorem QI:[none,some q].map (λm=>dw Ec 1352 0 K R (kQ num' pos' args') (xJ num pos args m) S)=[none,some q].map λ_=>VQ S K R num pos num' pos' args args':=by kernel_rfl
theorem Px:[none,some q].map (λm=>rest Ec 1352 1 (xJ num pos args m) (SJ w ([]::loc) V) KK)=[none,some q].map λ_=>ak (V.dg.map Dg.den++[kQ num pos args]) (KK (.a .none) (SC loc w.P {w.cp V with dg:=V.dg.map Dg.den++[kQ num pos args]} w.gl)):=by kernel_rfl
end
def bg.note(V:bg)(p:Int):bg:={V with nt:=V.nt++[p]}
def bg.tell(V:bg)(D:Dg):bg:={V with dg:=V.dg++[D]}
def cb(w:ai)(xs:List X)(S:AS)(K:KX):Prop:=∃V k a ks f n,xs=[.a bm,.a (.int 12),.a (nd k a ks f n)]∧S=SJ w S.loc V∧V.nt.length<900000∧K (.a .none) (SJ w S.loc (V.note (4*n+3)))
def pA(w:ai)(xs:List X)(S:AS)(K:KX):Prop:=∃V num pos arg,xs=[.a bm,.a (.int num),.a (.int pos),.a (dq arg)]∧S=SJ w S.loc V∧V.dg.length<900000∧(∀D∈V.dg,D.pos≠pos)∧K (.a .none) (SJ w S.loc (V.tell ⟨num,pos,arg⟩))
def bX(w:ai)(xs:List X)(S:AS)(K:KX):Prop:=∃V num k a ks f n arg,xs=[.a bm,.a (.int num),.a (nd k a ks f n),.a (dq arg)]∧S=SJ w S.loc V∧V.dg.length<900000∧(∀D∈V.dg,D.pos≠4*n+3)∧K (.a .none) (SJ w S.loc (V.tell ⟨num,4*n+3,arg⟩))
variable{K:KX}
theorem F6(h:cb w xs S K):ae (tab [(234,ae {} 234)]) 1366 xs S K:=by
 obtain⟨V,k,a,ks,f,n,rfl,e,hl,h⟩:=h
 rw[e]
 refine(Q9 w V S.loc K k n a ks f).mpr (aA (aC (by rw[WN,WO];exact V9 hl (by decide))) ?_)
 have q:(V.nt++[4*n+3]).map aT=V.nt.map aT++[aT (4*n+3)]:=WS
 have h:K (.a .none) (SC S.loc w.P {w.cp V with nt:=(V.nt++[4*n+3]).map aT} w.gl):=h
 rw[q] at h
 exact h
inductive Vj(w:ai)(V:bg)(loc:List (List Ce))(num pos:Int)(args:A)(ys:List Dg):En→AS→Prop
 |mk (m:Option A) (h:∀D∈ys,D.pos≠pos):Vj w V loc num pos args ys (xJ num pos args m) (SJ w loc V)
theorem Ir{P Q:Option A→Prop}(h:∀q,[none,some q].map P=[none,some q].map Q)(m:Option A):P m=Q m:=by
 cases m with
 |none=>exact WA (h .none) _ (.head _)
 |some q=>exact WA (h q) _ (.tail _ (.head _))
theorem DS(h:pA w xs S K):ae Ec 1352 xs S K:=by
 obtain⟨V,num,pos,arg,rfl,e,hl,hf,h⟩:=h
 rw[e]
 refine bx (fi:=Fa 1352) (by kernel_rfl) rfl (by kernel_rfl) (env:=xJ num pos (dq arg) none) (by kernel_rfl) (ag (j:=1) (PR w V ([]::S.loc) _ _ num pos (dq arg) ⟨V.dg.length+1,?_⟩))
 refine e8 (f:=Dg.den) (P:=Vj w V ([]::S.loc) num pos (dq arg)) (xs:=V.dg) (fi:=Fa 1352) (s:=Fb 1352 0) (p:=Fp 1352 0) (by kernel_rfl) (by kernel_rfl) (by kernel_rfl) (λys env S' hI=>?_) (λenv S' hI=>?_) (λD ys env S' K' hI f=>?_) V.dg [] _ _ rfl (.mk none hf)
 ·cases hI;rfl
 ·cases hI with
  |mk m _=>
   refine(Ir (P:=λm=>rest Ec 1352 1 (xJ num pos (dq arg) m) (SJ w ([]::S.loc) V) K) (λq=>Px w V S.loc K num pos (dq arg) q) m).mpr (aA (aC (by rw[WN,WO];exact V9 hl (by decide))) ?_)
   have q:(V.dg++[(⟨num,pos,arg⟩:Dg)]).map Dg.den=V.dg.map Dg.den++[kQ num pos (dq arg)]:=WS
   have h:K (.a .none) (SC S.loc w.P {w.cp V with dg:=(V.dg++[(⟨num,pos,arg⟩:Dg)]).map Dg.den} w.gl):=h
   rw[q] at h
   exact h
 ·cases hI with
  |mk m hd=>
   refine(Ir (P:=λm=>dw Ec 1352 0 K' _ (kQ D.num D.pos D.args) (xJ num pos (dq arg) m) (SJ w ([]::S.loc) V)) (λq=>QI (SJ w ([]::S.loc) V) K' _ num pos D.num D.pos (dq arg) q D.args) m).mpr ?_
   have g:=f _ _ (.mk (some (kQ D.num D.pos D.args)) λD h=>hd D (.tail _ h))
   exact aX (λ_=>cY (decide_eq_false (hd D (.head _))) g) λ_=>g
theorem AU(h:bX w xs S K):ae (tab [(1352,pA w)]) 1345 xs S K:=by
 obtain⟨V,num,k,a,ks,f,n,arg,rfl,e,hl,hf,h⟩:=h
 exact(O2 ..).mpr ⟨V,num,_,arg,rfl,jP e,hl,hf,h⟩
def ai.bs(w:ai):Bool:=Nat.blt 2 w.d.way
section
variable(Cn Cf C:ay)(S:AS)(K:KX)(KK:KN)(R:KX)(a h:A)(n r i j:Int)(l0 l1 nm:A)
def NW:bA:=tab [(1366,Cn),(1345,Cf)]
theorem TS:BB.map (λsup=>BB.map λb=>BB.map λbased=>ae (NW Cn Cf) 990 [.a bm,.a (.bool based),.a (.tup [nd (cond sup 10 9) a [] 0 n,h,.int r,uM b])] S K)=
 BB.map λsup=>BB.map λb=>BB.map λbased=>cond b (Cn [.a bm,.a (.int 12),.a (nd (cond sup 10 9) a [] 0 n)] (push S) λx S=>ret (.a .none) S K) (cond sup (cond based (Cf [.a bm,.a (.int 2336),.a (nd (cond sup 10 9) a [] 0 n),.a (dq none)] (push S) λx S=>ret (.a .none) S K) (K (.a .none) S)) (Cf [.a bm,.a (.int 2333),.a (nd (cond sup 10 9) a [] 0 n),.a (dq none)] (push S) λx S=>ret (.a .none) S K)):=by kernel_rfl
theorem SR:(List.range 6).map (λq=>ae (tab [(69,ae {} 69)]) 948 [.a (nd 61 nm [.none,iS q n,.none,l0,l1] 0 j)] S K)=(List.range 6).map λq=>K (.a (.bool (Nat.blt 2 q))) S:=by kernel_rfl
theorem O3{pl:Nat}{s:Str}{mode role un:Int}{sup:Bool}:BB.map (λsup=>oN.map λf=>ae (tab [(76,ae (tab [(69,ae {} 69)]) 76)]) 83 [.a (Us.hold ⟨pl,f,sup,s,mode,role,un⟩)] S K)=BB.map λsup=>oN.map λf=>K (.a (lU f (.str s) (.str s) .none .none)) S:=by kernel_rfl
end
def dB(w:ai):ay:=An (lW w) (.bool w.bs)
def Us.nmA(u:Us):A:=lU u.fm (.str u.nm) (.str u.nm) .none .none
def Hr(xs:List X)(S:AS)(K:KX):Prop:=∃u:Us,u.fm≠.bare∧xs=[.a u.hold]∧K (.a u.nmA) S
def pD(bs:Bool)(u:Us):List Dg:=cond (decide (u.mode=0)) (cond u.sup (cond bs [⟨2336,4*(u.n+1)+3,none⟩] []) [⟨2333,4*(u.n+1)+3,none⟩]) []
def pN(u:Us):List Int:=cond (decide (u.mode=0)) [] [4*(u.n+1)+3]
def bg.say(V:bg)(D:List Dg)(N:List Int):bg:={V with dg:=V.dg++D,nt:=V.nt++N}
def iq(w:ai)(xs:List X)(S:AS)(K:KX):Prop:=∃V u,xs=[.a bm,.a (.bool w.bs),.a u.out]∧S=SJ w S.loc V∧Md u.mode∧V.dg.length<900000∧V.nt.length<900000∧(∀D∈V.dg,D.pos≠4*(u.n+1)+3)∧K (.a .none) (SJ w S.loc (V.say (pD w.bs u) (pN u)))
theorem IR(hd:w.d.Ok)(h:dB w xs S K):ae (tab [(69,ae {} 69)]) 948 xs S K:=by
 obtain⟨rfl,h⟩:=h
 exact(WA (SR S K (ub w.d w.n) (iA w.d w.n+1+1+1) (bP [] (iA w.d w.n+1)) (bP (tO w.d w.n++[d9 w.ps w.rs w.n]) (iA w.d w.n+1+1)) (tx "C")) w.d.way (WE hd.way)).mpr h
theorem QG(h:Hr xs S K):ae (tab [(76,ae (tab [(69,ae {} 69)]) 76)]) 83 xs S K:=by
 obtain⟨u,hf,rfl,h⟩:=h
 obtain⟨pl,fm,s,nm,mode,role,un⟩:=u
 exact(cr (@O3 S K pl nm mode role un s) (bb s) (o8 hf)).mpr h
theorem E6{p:Int}:V.note p=V.say [] [p]:=by unfold bg.note bg.say;rw[WQ]
theorem xh{D:Dg}:V.tell D=V.say [D] []:=by unfold bg.tell bg.say;rw[WQ]
theorem Hd:V.say [] []=V:=by unfold bg.say;rw[WQ,WQ]
theorem PO(h:iq w xs S K):ae (NW (cb w) (bX w)) 990 xs S K:=by
 obtain⟨V,u,rfl,e,⟨b,hb⟩,hl,hn,hf,h⟩:=h
 obtain⟨pl,fm,s,nm,mode,role,un⟩:=u
 cases(show mode=cond b 1 0 from hb)
 refine(cr (WA (TS (cb w) (bX w) S K (tx "") (Us.hold ⟨pl,fm,s,nm,cond b 1 0,role,un⟩) (un+1) (lU fm role role role 0)) s (bb s)) (bb b) (bb w.bs)).mpr ?_
 cases b with
 |true=>
  have h:K (.a .none) (SJ w S.loc (V.say [] [4*(un+1)+3])):=h
  rw[← E6] at h
  exact⟨V,_,_,_,_,_,rfl,jP e,hn,h⟩
 |false=>cases s with
  |true=>
   have h:K (.a .none) (SJ w S.loc (V.say (cond w.bs [⟨2336,4*(un+1)+3,none⟩] []) [])):=h
   generalize w.bs=bs at *
   cases bs with
   |true=>
    have h:K (.a .none) (SJ w S.loc (V.say [⟨2336,4*(un+1)+3,none⟩] [])):=h
    rw[← xh] at h
    exact⟨V,_,_,_,_,_,_,none,rfl,jP e,hl,hf,h⟩
   |false=>
    have h:K (.a .none) (SJ w S.loc (V.say [] [])):=h
    rw[Hd,← e] at h
    exact h
  |false=>
   have h:K (.a .none) (SJ w S.loc (V.say [⟨2333,4*(un+1)+3,none⟩] [])):=h
   rw[← xh] at h
   exact⟨V,_,_,_,_,_,_,none,rfl,jP e,hl,hf,h⟩
def I6(C1 C2 Cn Cf:ay):bA:=tab [(920,C1),(927,C2),(1366,Cn),(1072,ae {} 1072),(1345,Cf)]
def Om(h nm:A):List (Str×X):=[("cx",.a bm),("holder",.a h),("did",.a (.int 2)),("name",.a nm)]
def M3(h nm:A)(x:X):List (Str×X):=Om h nm++([("declared",x)]:List (Str×X))
def yD(h nm:A)(x y:X):List (Str×X):=Om h nm++([("declared",x),("flow",y)]:List (Str×X))
section
variable(C1 C2 Cn Cf:ay)(w:ai)(V:bg)(loc:List (List Ce))(S:AS)(K:KN)(R KK:KX)(h nm:A)(x y:X)(k:Int)(a:A)(ks:List A)(f n F:Int)
theorem Pg:a9 (I6 C1 C2 Cn Cf) 976 0 1 (Om h nm) S K R=C1 [.a bm,.a (.int 2),.a nm] S λx S=>K (M3 h nm x) S:=by kernel_rfl
theorem Tl:a9 (I6 C1 C2 Cn Cf) 976 1 1 (M3 (nd k a ks f n) nm x) (SJ w loc V) K R=K (yD (nd k a ks f n) nm x (.a ((cH (.int n) w.P.es).getD (.int 0)))) (SJ w loc V):=by kernel_rfl
theorem TN:a9 (I6 C1 C2 Cn Cf) 976 2 1 (yD h nm x y) S K R=C2 [.a bm,x] S λz S=>sX z S (K (yD h nm x y) S) (R (.a .none) S):=by kernel_rfl
theorem R1:gD.map (λs=>rest (I6 C1 C2 Cn Cf) 976 3 (yD h (tx s) x (.a (.int F))) (SJ w ([]::loc) V) KK)=gD.map λs=>sX (.a ((cH (.tuple [.int F,.str (Str.ofString s)]) w.gv).getD (.bool true))) (SJ w ([]::loc) V) (Cf [.a bm,.a (.int 2565),.a h,.a (dq (some (Str.ofString s)))] (SJ w ([]::loc) V) λ_ S=>ret (.a .none) S KK) (KK (.a .none) (SJ w loc V)):=by kernel_rfl
end
def eD(b:Bool)(u:Us)(s:String):List Dg:=cond b [⟨2565,4*u.fin+3,some (Str.ofString s)⟩] []
structure VD(w:ai)(V:bg)(u:Us)(s:String)(F:Int)(b:Bool):Prop where
 ok:dv w V
 fm:u.fm≠.bare
 sx:s∈gD
 i:jU w.d (Str.ofString s)≤4
 fl:cH (.int u.fin) w.P.es=some (.int F)
 gv:cH (.tuple [.int F,.str (Str.ofString s)]) w.gv=some (.bool b)
 dl:V.dg.length<900000
 df:∀D∈V.dg,D.pos≠4*u.fin+3
def o1(w:ai)(xs:List X)(S:AS)(K:KX):Prop:=∃V u s F b,xs=[.a bm,.a u.hold,.a (.int 2),.a (tx s)]∧S=SJ w S.loc V∧VD w V u s F b∧∀V',dv w V'→V'.dg=V.dg++eD (pP w.d s&&b) u s→V'.nt=V.nt→K (.a .none) (SJ w S.loc V')
theorem qp{u:Us}(h:u.fm≠.bare):∃k a ks f,u.hold=nd k a ks f u.fin:=by
 obtain⟨pl,fm,s,nm,mode,role,un⟩:=u
 cases fm with
 |bare=>exact(h rfl).elim
 |_=>exact⟨_,_,_,_,rfl⟩
theorem QX(h:o1 w xs S K):ae (I6 (kZ w) (lD w) (cb w) (bX w)) 976 xs S K:=by
 obtain⟨V,u,s,F,b,rfl,e,p,h⟩:=h
 obtain⟨k,a,ks,f,eh⟩:=qp p.fm
 rw[eh]
 refine bx (fi:=Fa 976) (by kernel_rfl) rfl (by kernel_rfl) (env:=Om (nd k a ks f u.fin) (tx s)) (by kernel_rfl) (ag (j:=1) ((Pg ..).mpr ⟨V,s,rfl,jP e,p.ok,p.sx,p.i,λV1 t st ty=>ag (j:=1) ((Tl _ _ _ _ w V1 ([]::S.loc) _ _ _ _ k a ks f u.fin).mpr ?_)⟩))
 rw[p.fl]
 refine ag (j:=1) ((TN ..).mpr ⟨V1,t,pP w.d s,rfl,rfl,st.ok,ty,?_⟩)
 show aw (pP w.d s) _ _
 have h0:(pP w.d s&&b)=false→K (.a .none) (SJ w S.loc V1):=λq=>h V1 st.ok (by rw[st.dg,q];exact(WQ _).symm) st.nt
 refine aX (λq=>(WA (R1 (kZ w) (lD w) (cb w) (bX w) w V1 S.loc K (nd k a ks f u.fin) (.a (.int t)) F) s p.sx).mpr ?_) λq=>h0 (by rw[q];rfl)
 rw[p.gv]
 show aw b _ _
 refine aX (λq2=>⟨V1,2565,k,a,ks,f,u.fin,some (Str.ofString s),rfl,rfl,?_,λD hD=>p.df D (st.dg▸hD),?_⟩) λq2=>h0 (by rw[q2,Bool.and_false])
 ·rw[st.dg];exact p.dl
 ·exact h _ ⟨st.ok.v,st.ok.mb⟩ (by rw[q,q2,← st.dg];rfl) st.nt
def qt(w:ai)(g:Rg 5)(f:bg→Prop):Prop:=∃V,dv w V∧g=cS w V∧∀V',jI w V V'→f V'
def QN(w:ai)(P:List X→Prop)(v:A):ay:=λxs S K=>P xs∧qt w S.gl λV=>K (.a v) ⟨S.loc,cS w V⟩
def RW(w:ai)(P:List X→Prop)(v:Int→A):ay:=λxs S K=>P xs∧qt w S.gl λV=>∀o:Int,K (.a (v o)) ⟨S.loc,cS w V⟩
def BV:List Uf:=[.mem,.text,.idx,.bare]
def Us.thr(u:Us):A:=.int (lU u.fm u.role u.role u.role 0)
def lg(pl:Nat)(s:Str)(role un:Int)(f:Uf)(sup b:Bool):Us:=⟨pl,f,sup,s,cond b 1 0,role,un⟩
section
variable(w:ai)(V:bg)(loc:List (List Ce))(S:AS)(K:KX)(Kn:KN)(R:KX)(pl:Nat)(s:Str)(role un:Int)(Pm Pf Pe:List X→Prop)(Cn Cf C:ay)
def V8(f:Uf)(sup b:Bool):Prop:=lU f (Pm [.a (lg pl s role un f sup b).hold]∧cond (sup ||b) (K (.a (.bool false)) S) (Pf [.a bm,.a (.int 2),.a (.str s),.a (.bool false)]∧qt w S.gl λV=>Int→K (.a (.bool false)) ⟨S.loc,cS w V⟩)) (Pm [.a (lg pl s role un f sup b).hold]∧K (.a (.bool false)) S) (Pm [.a (lg pl s role un f sup b).hold]∧K (.a (.bool false)) S) (K (.a (.bool false)) S)
theorem SF:bE.map (λm=>BV.map λf=>BB.map λsup=>BB.map λb=>ae (tab [(83,An Pm (lU f (.str s) (.str s) .none .none)),(858,RW w Pf λo=>.tup [.int o,.int m])]) 955 [.a bm,.a (.int 2),.a (lg pl s role un f sup b).out] S K)=bE.map λm=>BV.map λf=>BB.map λsup=>BB.map λb=>V8 w S K pl s role un Pm Pf f sup b:=by kernel_rfl
end
def Hi(w:ai)(xs:List X)(S:AS)(K:KX):Prop:=∃(V:bg) (u:Us),xs=[.a bm,.a (.int 2),.a u.out]∧S=SJ w S.loc V∧dv w V∧u.Ok∧∀V',jI w V V'→K (.a (.bool false)) (SJ w S.loc V')
variable{P:List X→Prop}{v:Str→A}
theorem kt{f:bg→Prop}(vo:dv w V)(h:∀V',jI w V V'→f V'):qt w (cS w V) f:=⟨V,vo,rfl,h⟩
def eF(nm:Str)(xs:List X):Prop:=xs=[.a bm,.a (.int 2),.a (.str nm),.a (.bool false)]
theorem tv(hn:nm∈aR):fD (QN w (eF nm) (v nm)) (zt w v):=λxs S K h=>h.2.elim λV q=>⟨V,nm,h.1,mO q.2.1,q.1,hn,q.2.2⟩
theorem z0(hn:nm∈aR):fD (RW w (eF nm) λo=>.tup [.int o,.int (w.fM nm)]) (lC w):=λxs S K h=>h.2.elim λV q=>⟨V,nm,h.1,mO q.2.1,q.1,hn,λV' o st=>q.2.2 V' st o⟩
def Ea(u:Us)(xs:List X):Prop:=u.fm≠.bare∧xs=[.a u.hold]
theorem Cy:fD (An (Ea u) u.nmA) Hr:=λxs S K h=>⟨u,h.1.1,h.1.2,h.2⟩
theorem oi{f:Uf}:f∈BV:=@Uf.casesOn (λf=>f∈BV) f (.head _) (.tail _ (.head _)) (.tail _ (.tail _ (.head _))) (.tail _ (.tail _ (.tail _ (.head _))))
theorem TZ(ok:ii w)(h:Hi w xs S K):∃u,u.nm∈aR∧ae (tab [(83,An (Ea u) u.nmA),(858,RW w (eF u.nm) λo=>.tup [.int o,.int (w.fM u.nm)])]) 955 xs S K:=by
 obtain⟨V,u,rfl,e,vo,uo,h⟩:=h
 refine⟨u,uo.nm,?_⟩
 obtain⟨pl,fm,sup,s,mode,role,un⟩:=u
 obtain⟨b,hb⟩:=uo.md
 cases(show mode=cond b 1 0 from hb)
 have hf:=Ct (w:=w) (nm:=s) ok.d
 have h0:=h V (.refl vo)
 rw[← e] at h0
 have hq:∀P:List X→Prop,qt w S.gl λV=>Int→K (.a (.bool false)) ⟨S.loc,cS w V⟩:=λ_=>(congrArg (λg=>qt w g λV=>Int→K (.a (.bool false)) ⟨S.loc,cS w V⟩) (show S.gl=cS w V by rw[e];rfl)).mpr (kt vo λV' st _=>h V' st)
 refine(cr (WA (WA (SF w S K pl s role un (Ea ⟨pl,fm,sup,s,cond b 1 0,role,un⟩) (eF s)) _ hf) fm oi) (bb sup) (bb b)).mpr ?_
 cases fm with
 |mem=>exact⟨⟨(λh=>nomatch h),rfl⟩,qF h0 ⟨rfl,hq (eF s)⟩⟩
 |text=>exact⟨⟨(λh=>nomatch h),rfl⟩,h0⟩
 |idx=>exact⟨⟨(λh=>nomatch h),rfl⟩,h0⟩
 |bare=>exact h0
def JV(e ab mn pf ar ow er lu fk nt ft:ay):bA:=tab [(913,e),(955,ab),(83,mn),(941,pf),(969,ar),(934,ow),(976,er),(927,lu),(920,fk),(1366,nt),(1345,ft)]
def Ss(based:Bool)(u:Us):List (Str×X):=[("cx",.a bm),("based",.a (.bool based)),("did",.a (.int 2)),("use",.a u.out)]
def sB(based:Bool)(u:Us):List (Str×X):=Ss based u++([("node",.a u.who),("holder",.a u.hold),("role",.a u.thr),("nested",.a (.int u.mode)),("graph",.a GV)]:List (Str×X))
def jX(based:Bool)(u:Us):List (Str×X):=sB based u++([("name",.a u.nmA)]:List (Str×X))
def J5(P:List X→Rg 5→Prop)(v:A):ay:=λxs S K=>P xs S.gl∧K (.a v) S
def HP:List Uf:=[.mem,.text]
def Bx(s:Str):List X:=[.a bm,.a (.int 2),.a (.str s),.a (.bool false)]
def ki(u:Us):List X:=[.a bm,.a (.int 12),.a u.who]
section
variable(w:ai)(V:bg)(loc:List (List Ce))(gl:Rg 5)(S:AS)(KK:KX)(K:KN)(R:KX)(pl:Nat)(s:Str)(role un:Int)(P Pm Pa:List X→Prop)(Pe:List X→Rg 5→Prop)(based:Bool)(e ab mn pf ar ow er lu fk nt ft:ay)
theorem Sj:BB.map (λbased=>BB.map λev=>BB.map λsup=>BV.map λf=>BB.map λb=>a9 (JV (J5 Pe (.bool ev)) ab mn pf ar ow er lu fk nt ft) 962 0 3 (Ss based (lg pl s role un f sup b)) (SJ w loc V) K R)=
 BB.map λbased=>BB.map λev=>BB.map λsup=>BV.map λf=>BB.map λb=>cond based (Pe [.a GV,.a ((cH (.int (un+1)) w.P.es).getD (.int 0))] (cS w V)∧cond ev (cond b (nt (ki (lg pl s role un f sup b)) (SJ w loc V) λ_ S=>R (.a .none) S) (ft [.a bm,.a (.int 17009),.a (lg pl s role un f sup b).who,.a (dq none)] (SJ w loc V) λ_ S=>R (.a .none) S)) (K (sB based (lg pl s role un f sup b)) (SJ w loc V))) (K (sB based (lg pl s role un f sup b)) (SJ w loc V)):=by kernel_rfl
def sA(u:Us)(nt:ay)(R:KX)(g:Rg 5)(l:List (List Ce)):Prop:=nt (ki u) ⟨l,g⟩ λ_ S=>R (.a .none) S
def RC(u:Us)(f:Uf)(sup pl:Bool):Prop:=Pa [.a bm,.a (.int 2),.a u.out]∧qt w S.gl λV1=>lU f (Pm [.a u.hold]∧cond sup (sA u nt R (cS w V1) S.loc) (P (Bx s)∧qt w (cS w V1) λV2=>cond pl (K (jX based u) ⟨S.loc,cS w V2⟩) (sA u nt R (cS w V2) S.loc))) (Pm [.a u.hold]∧cond sup (sA u nt R (cS w V1) S.loc) (P (Bx s)∧qt w (cS w V1) λV2=>cond pl (K (jX based u) ⟨S.loc,cS w V2⟩) (sA u nt R (cS w V2) S.loc)))
 (Pm [.a u.hold]∧sA u nt R (cS w V1) S.loc) (sA u nt R (cS w V1) S.loc)
theorem QO:BB.map (λpf=>BB.map λsup=>BV.map λf=>BB.map λb=>a9 (JV e (QN w Pa (.bool false)) (An Pm (lU f (.str s) (.str s) .none .none)) (QN w P (.bool pf)) ar ow er lu fk nt ft) 962 3 3 (sB based (lg pl s role un f sup b)) S K R)=
 BB.map λpf=>BB.map λsup=>BV.map λf=>BB.map λb=>RC w S K R s P Pm Pa based nt (lg pl s role un f sup b) f sup pf:=by kernel_rfl
theorem TD:BB.map (λar=>HP.map λf=>BB.map λb=>a9 (JV e ab mn pf (QN w P (.bool ar)) ow er lu fk nt ft) 962 6 1 (jX based (lg pl s role un f false b)) S K R)=
 BB.map λar=>HP.map λf=>BB.map λb=>aw (PyData.eqv (.int role) (.int 2)) (P (Bx s)∧qt w S.gl λV1=>cond ar (K (jX based (lg pl s role un f false b)) ⟨S.loc,cS w V1⟩) (nt (ki (lg pl s role un f false b)) ⟨S.loc,cS w V1⟩ λ_ S=>K (jX based (lg pl s role un f false b)) S)) (K (jX based (lg pl s role un f false b)) S):=by kernel_rfl
def AB:List Int:=[0,1,33]
theorem PK:AB.map (λo=>HP.map λf=>BB.map λb=>rest (JV e ab mn pf ar (QN w P (.int o)) er lu fk nt ft) 962 7 (jX based (lg pl s role un f false b)) ⟨[]::loc,gl⟩ KK)=
 AB.map λo=>HP.map λf=>BB.map λb=>P (Bx s)∧qt w gl λV1=>cond (decide (o=1)) (aw (PyData.eqv (.int role) (.int 1)) (KK (.a .none) ⟨loc,cS w V1⟩) (cond b (fk [.a bm,.a (.int 2),.a (.str s)] ⟨[]::loc,cS w V1⟩ λt S=>lu [.a bm,t] S λy S=>sX y S (nt (ki (lg pl s role un f false b)) S λ_ S=>ret (.a .none) S KK) (ret (.a .none) S KK))
  (er [.a bm,.a (lg pl s role un f false b).hold,.a (.int 2),.a (.str s)] ⟨[]::loc,cS w V1⟩ λ_ S=>ret (.a .none) S KK))) (KK (.a .none) ⟨loc,cS w V1⟩):=by kernel_rfl
end
def ai.ev(w:ai)(u:Us):Bool:=(w.P.M u.i).any λs=>Nat.beq (s % 2) 0
def ai.uns(w:ai)(u:Us)(nm:Str):Bool:=(w.P.M u.i).any λs=>Nat.beq (s&&&oE nm) 0
def Us.pos(u:Us):Int:=4*(u.n+1)+3
structure OD(w:ai)(u:Us):Prop where
 ok:u.Ok
 ar:cH (.int (u.n+1)) w.P.es=some (.int (w.P.F u.i:Nat))
 fr:cH (.int u.fin) w.P.es=some (.int (w.P.F u.i:Nat))
 lt:w.P.F u.i<w.P.N.length
 ear:w.ev u=true↔kP w.P.N w.P.E (w.P.F u.i)
 gv:∀s∈gD,cH (.tuple [.int (w.P.F u.i:Nat),.str (Str.ofString s)]) w.gv=some (.bool (w.uns u (Str.ofString s)))
def ai.lk(w:ai)(nm:Str):Bool:=Nat.ble (jU w.d nm) 1
def ai.fld(w:ai)(u:Us):Bool:=lU u.fm true true false false&&(!u.sup&&cU (w.fM u.nm))
def ai.q1(w:ai)(u:Us):Bool:=decide (w.own u.nm=1)&& !decide (u.role=1)
def cD(w:ai)(u:Us):List Dg:=cond (w.bs&&w.ev u) (cond (decide (u.mode=0)) [⟨17009,u.pos,none⟩] []) (cond (w.fld u) (cond (w.q1 u&&(decide (u.mode=0)&&(w.lk u.nm&&w.uns u u.nm))) [⟨2565,4*u.fin+3,some u.nm⟩] []) [])
def cN(w:ai)(u:Us):List Int:=cond (w.bs&&w.ev u) (cond (decide (u.mode=0)) [] [u.pos]) (cond (w.fld u) (cond (decide (u.role=2)&& !w.arr u.nm) [u.pos] []++cond (w.q1 u&&(!decide (u.mode=0)&&w.lk u.nm)) [u.pos] []) [u.pos])
structure Oy(w:ai)(V:bg)(u:Us):Prop where
 ok:dv w V
 uk:OD w u
 se:oa w.P
 dl:V.dg.length<800000
 nl:V.nt.length<800000
 f1:∀D∈V.dg,D.pos≠u.pos
 f2:∀D∈V.dg,D.pos≠4*u.fin+3
def gU(w:ai)(xs:List X)(S:AS)(K:KX):Prop:=∃(V:bg) (u:Us),xs=[.a bm,.a (.bool w.bs),.a (.int 2),.a u.out]∧S=SJ w S.loc V∧Oy w V u∧∀V',dv w V'→V'.dg=V.dg++cD w u→V'.nt=V.nt++cN w u→K (.a .none) (SJ w S.loc V')
def MM(w:ai)(u:Us)(xs:List X)(g:Rg 5):Prop:=xs=[.a GV,.a (.int (w.P.F u.i:Nat))]∧∃V,g=cS w V
def uc(u:Us)(xs:List X):Prop:=xs=[.a bm,.a (.int 2),.a u.out]
def Tu(w:ai)(u:Us):bA:=JV (J5 (MM w u) (.bool (w.ev u))) (QN w (uc u) (.bool false)) (An (Ea u) u.nmA) (QN w (eF u.nm) (.bool (cU (w.fM u.nm)))) (QN w (eF u.nm) (.bool (w.arr u.nm))) (QN w (eF u.nm) (.int (w.own u.nm))) (o1 w) (lD w) (kZ w) (cb w) (bX w)
theorem dK{c:Bool}{P Q:Prop}(h:c=true→P)(h':c=false→Q):cond c P Q:=@Bool.casesOn (λb=>c=b→cond b P Q) c (λe=>h' e) (λe=>h e) rfl
theorem He(hd:w.d.Ok):w.own nm∈AB:=of_decide_eq_true (WL (show(bE.all λm=>decide (cond (cU m) m 0∈AB))=true by kernel_rfl) _ (wu hd))
theorem B7(hd:w.d.Ok)(hn:nm∈aR)(h:w.own nm=1):∃s∈gD,nm=Str.ofString s∧jU w.d (Str.ofString s)≤4:=by
 have q:∀i,i<11→cond (cU (mS i)) (mS i) 0=1→i≤4:=λi hi=>of_decide_eq_true (WL (show((List.range 11).all λi=>decide (cond (cU (mS i)) (mS i) 0=1→i≤4))=true by kernel_rfl) i (WE hi))
 rcases WC hn with rfl |hn
 ·exact⟨"x",.head _,rfl,q _ hd.a h⟩
 rcases WC hn with rfl |hn
 ·exact⟨"y",.tail _ (.head _),rfl,q _ hd.b h⟩
 rcases WC hn with rfl |hn
 ·exact⟨"z",.tail _ (.tail _ (.head _)),rfl,q _ hd.c h⟩
 rcases WC hn with rfl |hn
 ·exact nomatch(show(0:Int)=1 from h)
 cases WD hn
 exact nomatch(show(0:Int)=1 from h)
theorem KY(uk:OD w u)(se:oa w.P):fD (J5 (MM w u) (.bool (w.ev u))) kM:=λxs S K h=>by
 obtain⟨⟨rfl,V,hg⟩,h⟩:=h
 refine⟨{w.P with gl:=SN (w.cp V) w.gl},w.P.F u.i,rfl,mO hg,⟨se.rd,se.en,se.sup,se.tot⟩,uk.lt,λb hb=>?_⟩
 have eb:b=w.ev u:=Bool.eq_iff_iff.mpr (hb.trans uk.ear.symm)
 rw[eb];exact h
theorem F4(uo:u.Ok):fD (QN w (uc u) (.bool false)) (Hi w):=λxs S K h=>h.2.elim λV q=>⟨V,u,h.1,mO q.2.1,q.1,uo,q.2.2⟩
theorem iH(hl:V.nt.length<900000)(h:K (.a .none) ⟨loc,cS w (V.note u.pos)⟩):cb w (ki u) ⟨loc,cS w V⟩ K:=⟨V,_,_,_,_,_,rfl,rfl,hl,h⟩
theorem P9(ok:ii w)(p:Oy w V u)(hm:u.fm∈HP)(hs:u.sup=false)(vo:dv w V')(hd:V'.dg=V.dg){N:List Int}(hn:V'.nt=V.nt++N)(hN:N.length≤1)(based:Bool)
  (h:∀V2,dv w V2→V2.dg=V.dg++cond (w.q1 u&&(decide (u.mode=0)&&(w.lk u.nm&&w.uns u u.nm))) [⟨2565,4*u.fin+3,some u.nm⟩] []→V2.nt=V.nt++(N++cond (w.q1 u&&(!decide (u.mode=0)&&w.lk u.nm)) [u.pos] [])→K (.a .none) (SJ w loc V2)):
  rest (Tu w u) 962 7 (jX based u) ⟨[]::loc,cS w V'⟩ K:=by
 have uo:=p.uk.ok
 have gvu:=p.uk.gv
 have fru:=p.uk.fr
 have hf2:=p.f2
 have hdl:=p.dl
 obtain⟨pl,fm,sup,s,mode,role,un⟩:=u
 obtain⟨b,hb⟩:=uo.md
 cases(show mode=cond b 1 0 from hb)
 cases(show sup=false from hs)
 have oN:fm≠.bare:=λq=>by
  have q:fm=.bare:=q
  have hm:fm∈HP:=hm
  rw[q] at hm
  exact(WC hm).elim (λh=>nomatch h) λh=>nomatch WD h
 have hnl:∀V3:bg,V3.nt=V.nt++N→V3.nt.length<900000:=λV3 e=>by rw[e,WN];exact Wh (Nat.add_lt_add_of_lt_of_le p.nl hN) (by decide)
 refine(cr (WA (PK w loc (cS w V') K pl s role un (eF s) based _ _ _ _ _ (o1 w) (lD w) (kZ w) (cb w) (bX w)) _ (He (nm:=s) ok.d)) hm (bb b)).mpr ⟨rfl,kt vo λV4 st=>?_⟩
 have e4d:V4.dg=V.dg:=st.dg.trans hd
 have e4n:V4.nt=V.nt++N:=st.nt.trans hn
 have no:∀V5,dv w V5→V5.dg=V.dg→V5.nt=V.nt++N→(w.q1 ⟨pl,fm,false,s,cond b 1 0,role,un⟩=false∨w.lk s=false∨(b=false∧w.uns ⟨pl,fm,false,s,cond b 1 0,role,un⟩ s=false))→K (.a .none) (SJ w loc V5):=λV5 v5 d5 n5 q=>by
  have e1:(w.q1 ⟨pl,fm,false,s,cond b 1 0,role,un⟩&&(decide ((cond b 1 0:Int)=0)&&(w.lk s&&w.uns ⟨pl,fm,false,s,cond b 1 0,role,un⟩ s)))=false:=by
   rcases q with q |q |⟨_,q⟩ <;> rw[q]
   ·rfl
   ·rw[Bool.false_and,Bool.and_false,Bool.and_false]
   ·rw[Bool.and_false,Bool.and_false,Bool.and_false]
  have e2:(w.q1 ⟨pl,fm,false,s,cond b 1 0,role,un⟩&&(!decide ((cond b 1 0:Int)=0)&&w.lk s))=false:=by
   rcases q with q |q |⟨q,_⟩ <;> rw[q]
   ·rfl
   ·rw[Bool.and_false,Bool.and_false]
   ·exact Bool.and_false _
  refine h V5 v5 ?_ ?_
  ·rw[d5];exact(WQ _).symm.trans (congrArg (V.dg++·) (congrArg (λc=>cond c _ []) e1).symm)
  ·rw[n5];exact congrArg (V.nt++·) ((WQ N).symm.trans (congrArg (N++·) (congrArg (λc=>cond c _ []) e2).symm))
 refine dK (λho=>?_) λho=>no V4 st.ok e4d e4n (.inl (by unfold ai.q1;rw[show decide (w.own s=1)=false from ho];rfl))
 refine aX (λhr=>no V4 st.ok e4d e4n (.inl (by unfold ai.q1;rw[show decide (role=1)=true from hr];exact Bool.and_false _))) λhr=>?_
 have q1:w.q1 ⟨pl,fm,false,s,cond b 1 0,role,un⟩=true:=by unfold ai.q1;rw[show decide (w.own s=1)=true from ho,show decide (role=1)=false from hr];rfl
 obtain⟨s',hs',rfl,hi⟩:=B7 (nm:=s) ok.d uo.nm (of_decide_eq_true ho)
 cases b with
 |true=>
  refine⟨V4,s',rfl,rfl,st.ok,hs',hi,λV5 t st5 ty=>⟨V5,t,pP w.d s',rfl,rfl,st5.ok,ty,?_⟩⟩
  have e5d:=st5.dg.trans e4d
  have e5n:=st5.nt.trans e4n
  show aw (pP w.d s') _ _
  refine aX (λhl=>iH (u:=⟨pl,fm,false,Str.ofString s',cond true 1 0,role,un⟩) (hnl V5 e5n) ?_) λhl=>no V5 st5.ok e5d e5n (.inr (.inl hl))
  refine h (V5.note (Us.pos ⟨pl,fm,false,Str.ofString s',cond true 1 0,role,un⟩)) ⟨st5.ok.v,st5.ok.mb⟩ ?_ ?_
  ·show V5.dg=_
   rw[e5d,q1];exact(WQ _).symm
  ·show V5.nt++_=_
   rw[e5n,q1,show w.lk (Str.ofString s')=true from hl,WR];rfl
 |false=>
  refine⟨V4,_,s',_,_,rfl,rfl,⟨st.ok,oN,hs',hi,fru,gvu s' hs',by rw[e4d];exact Wi hdl (by decide),λD hD=>hf2 D (e4d▸hD)⟩,λV5 v5 d5 n5=>?_⟩
  refine h V5 v5 ?_ ?_
  ·rw[d5,e4d,q1];rfl
  ·rw[n5,e4n,q1];exact congrArg (V.nt++·) (WQ N).symm
theorem TI(ok:ii w)(p:Oy w V u)(hE:(w.bs&&w.ev u)=false)(h:∀V',dv w V'→V'.dg=V.dg++cD w u→V'.nt=V.nt++cN w u→K (.a .none) (SJ w loc V')):rest (Tu w u) 962 3 (sB w.bs u) (SJ w ([]::loc) V) K:=by
 have uo:=p.uk.ok
 have hD:cD w u=cond (w.fld u) (cond (w.q1 u&&(decide (u.mode=0)&&(w.lk u.nm&&w.uns u u.nm))) [⟨2565,4*u.fin+3,some u.nm⟩] []) []:=by unfold cD;rw[hE];rfl
 have hN:cN w u=cond (w.fld u) (cond (decide (u.role=2)&& !w.arr u.nm) [u.pos] []++cond (w.q1 u&&(!decide (u.mode=0)&&w.lk u.nm)) [u.pos] []) [u.pos]:=by unfold cN;rw[hE];rfl
 rw[hD,hN] at h
 have no:∀V1,jI w V V1→w.fld u=false→cb w (ki u) ⟨[]::loc,cS w V1⟩ λ_ S=>ret (.a .none) S K:=λV1 st q=>iH (by rw[st.nt];exact Wi p.nl (by decide)) (by
  rw[q] at h
  exact h (V1.note u.pos) ⟨st.ok.v,st.ok.mb⟩ (by show V1.dg=_;rw[st.dg];exact(WQ _).symm) (by show V1.nt++_=_;rw[st.nt];rfl))
 have go:∀V2,jI w V V2→w.fld u=true→u.fm∈HP→u.sup=false→rest (Tu w u) 962 6 (jX w.bs u) ⟨[]::loc,cS w V2⟩ K:=λV2 st q hf hs=>by
  rw[q] at h
  obtain⟨pl,fm,sup,s,mode,role,un⟩:=u
  obtain⟨b,hb⟩:=uo.md
  cases(show mode=cond b 1 0 from hb)
  cases(show sup=false from hs)
  have st7:∀V3,dv w V3→V3.dg=V.dg→∀N,N=cond (decide (role=2)&& !w.arr s) [Us.pos ⟨pl,fm,false,s,cond b 1 0,role,un⟩] []→V3.nt=V.nt++N→rest (Tu w ⟨pl,fm,false,s,cond b 1 0,role,un⟩) 962 7 (jX w.bs ⟨pl,fm,false,s,cond b 1 0,role,un⟩) ⟨[]::loc,cS w V3⟩ K:=λV3 vo d3 N eN n3=>P9 ok p hf rfl vo d3 n3 (by rw[eN];cases decide (role=2)&& !w.arr s;exact Nat.zero_le _;exact Nat.le_refl _) _ λV' v' d' n'=>h V' v' d' (by rw[n',eN];rfl)
  refine ag (j:=1) ((cr (WA (TD w ⟨[]::loc,cS w V2⟩ _ _ pl s role un (eF s) w.bs (J5 (MM w ⟨pl,fm,false,s,cond b 1 0,role,un⟩) (.bool (w.ev ⟨pl,fm,false,s,cond b 1 0,role,un⟩))) (QN w (uc ⟨pl,fm,false,s,cond b 1 0,role,un⟩) (.bool false)) (An (Ea ⟨pl,fm,false,s,cond b 1 0,role,un⟩) (Us.nmA ⟨pl,fm,false,s,cond b 1 0,role,un⟩)) (QN w (eF s) (.bool (cU (w.fM s)))) (QN w (eF s) (.int (w.own s))) (o1 w) (lD w) (kZ w) (cb w) (bX w)) _ (bb (w.arr s))) hf (bb b)).mpr ?_)
  refine aX (λhr=>⟨rfl,kt st.ok λV3 st3=>dK (λha=>?_) λha=>?_⟩) λhr=>?_
  ·exact st7 V3 st3.ok (st3.dg.trans st.dg) [] (by rw[ha];exact(congrArg (λc=>cond c _ []) (Bool.and_false _)).symm) (by rw[st3.nt,st.nt];exact(WQ _).symm)
  ·refine iH (u:=⟨pl,fm,false,s,cond b 1 0,role,un⟩) (by rw[st3.nt,st.nt];exact Wi p.nl (by decide)) ?_
   exact st7 (V3.note _) ⟨st3.ok.v,st3.ok.mb⟩ (st3.dg.trans st.dg) _ rfl (by show V3.nt++_=_;rw[st3.nt,st.nt,ha,show decide (role=2)=true from hr];rfl)
  ·exact st7 V2 st.ok st.dg [] (by rw[show decide (role=2)=false from hr];rfl) (by rw[st.nt];exact(WQ _).symm)
 obtain⟨pl,fm,sup,s,mode,role,un⟩:=u
 obtain⟨b,hb⟩:=uo.md
 cases(show mode=cond b 1 0 from hb)
 refine ag (j:=3) ((cr (cr (QO w (SJ w ([]::loc) V) _ _ pl s role un (eF s) (Ea ⟨pl,fm,sup,s,cond b 1 0,role,un⟩) (uc ⟨pl,fm,sup,s,cond b 1 0,role,un⟩) w.bs (J5 (MM w ⟨pl,fm,sup,s,cond b 1 0,role,un⟩) (.bool (w.ev ⟨pl,fm,sup,s,cond b 1 0,role,un⟩))) (QN w (eF s) (.bool (w.arr s))) (QN w (eF s) (.int (w.own s))) (o1 w) (lD w) (kZ w) (cb w) (bX w)) (bb (cU (w.fM s))) (bb sup)) oi (bb b)).mpr ⟨rfl,kt p.ok λV1 st=>?_⟩)
 have fl:∀f,w.fld ⟨pl,f,sup,s,cond b 1 0,role,un⟩=(lU f true true false false&&(!sup&&cU (w.fM s))):=λf=>rfl
 cases fm with
 |idx=>exact⟨⟨(λh=>nomatch h),rfl⟩,no V1 st rfl⟩
 |bare=>exact no V1 st rfl
 |mem=>
  refine⟨⟨(λh=>nomatch h),rfl⟩,dK (λq=>no V1 st (by rw[fl,q];rfl)) λq=>⟨rfl,kt st.ok λV2 st2=>dK (λq2=>?_) λq2=>no V2 (st.trans st2) (by rw[fl,q,q2];rfl)⟩⟩
  exact go V2 (st.trans st2) (by rw[fl,q,q2];rfl) (.head _) q
 |text=>
  refine⟨⟨(λh=>nomatch h),rfl⟩,dK (λq=>no V1 st (by rw[fl,q];rfl)) λq=>⟨rfl,kt st.ok λV2 st2=>dK (λq2=>?_) λq2=>no V2 (st.trans st2) (by rw[fl,q,q2];rfl)⟩⟩
  exact go V2 (st.trans st2) (by rw[fl,q,q2];rfl) (.tail _ (.head _)) q
theorem QP(ok:ii w)(h:gU w xs S K):∃u,OD w u∧oa w.P∧ae (Tu w u) 962 xs S K:=by
 obtain⟨V,u,rfl,e,p,h⟩:=h
 refine⟨u,p.uk,p.se,?_⟩
 rw[e]
 refine bx (fi:=Fa 962) (by kernel_rfl) rfl (by kernel_rfl) (env:=Ss w.bs u) (by kernel_rfl) (ag (j:=3) ?_)
 have uo:=p.uk.ok
 have har:=p.uk.ar
 have hb3:(w.bs&&w.ev u)=false→rest (Tu w u) 962 3 (sB w.bs u) (SJ w ([]::S.loc) V) K:=λq=>TI ok p q h
 have hE:w.bs=true→w.ev u=true→cD w u=cond (decide (u.mode=0)) [⟨17009,u.pos,none⟩] []∧cN w u=cond (decide (u.mode=0)) [] [u.pos]:=λq1 q2=>by unfold cD cN;rw[q1,q2];exact⟨rfl,rfl⟩
 have hf1:=p.f1
 have hdl:=p.dl
 have hnl:=p.nl
 have vo:=p.ok
 obtain⟨pl,fm,sup,s,mode,role,un⟩:=u
 obtain⟨b,hb⟩:=uo.md
 cases(show mode=cond b 1 0 from hb)
 refine(cr (WA (cr (Sj w V ([]::S.loc) _ _ pl s role un (MM w ⟨pl,fm,sup,s,cond b 1 0,role,un⟩) (QN w (uc ⟨pl,fm,sup,s,cond b 1 0,role,un⟩) (.bool false)) (An (Ea ⟨pl,fm,sup,s,cond b 1 0,role,un⟩) (Us.nmA ⟨pl,fm,sup,s,cond b 1 0,role,un⟩)) (QN w (eF s) (.bool (cU (w.fM s)))) (QN w (eF s) (.bool (w.arr s))) (QN w (eF s) (.int (w.own s))) (o1 w) (lD w) (kZ w) (cb w) (bX w)) (bb w.bs) (bb (w.ev ⟨pl,fm,sup,s,cond b 1 0,role,un⟩))) _ (bb sup)) oi (bb b)).mpr (dK (λq1=>⟨?_,dK (λq2=>?_) λq2=>hb3 (by rw[q2];exact Bool.and_false _)⟩) λq1=>hb3 (by rw[q1];rfl))
 ·rw[show cH (.int (un+1)) w.P.es=_ from har];exact⟨rfl,V,rfl⟩
 ·obtain⟨d1,n1⟩:=hE q1 q2
  rw[d1,n1] at h
  cases b with
  |true=>exact iH (K:=λ_ S=>ret (.a .none) S K) (loc:=[]::S.loc) (u:=⟨pl,fm,sup,s,cond true 1 0,role,un⟩) (Wi hnl (by decide)) (h _ ⟨vo.v,vo.mb⟩ (WQ _).symm rfl)
  |false=>exact⟨V,17009,_,_,_,_,_,none,rfl,rfl,Wi hdl (by decide),hf1,h (V.tell ⟨17009,Us.pos ⟨pl,fm,sup,s,cond false 1 0,role,un⟩,none⟩) ⟨vo.v,vo.mb⟩ rfl (WQ _).symm⟩
variable{b:SW}{nm:Nm}{t:Expr}{K:KN}{v:A}
theorem jq{β:Type}{f:β→A}{P:List β→KN}{xs:List β}(hs:∀ys env S,P ys env S→bU S x=some (xs.map f))(hk:∀env S,P [] env S→K env S)
  (hb:∀y ys env S K',P (y::ys) env S→(∀env S,P ys env S→K' env S)→fI nm t (f y) env λenv=>b env S K' K' R):∀ys zs env S,xs=zs++ys→P ys env S→c9 b nm t K R x (ys.length+1) zs.length env S:=λys=>
 @List.rec β (λys=>∀zs env S,xs=zs++ys→P ys env S→c9 b nm t K R x (ys.length+1) zs.length env S)
  (λzs env S e h=>aj (hs _ _ _ h) (by
   show@Option.rec A (λ_=>Prop) (K env S) _ (xs.map f)[zs.length]?
   rw[e,WQ,List.getElem?_eq_none (by rw[WO];exact Nat.le_refl _)]
   exact hk env S h))
  (λy ys ih zs env S e h=>aj (hs _ _ _ h) (by
   show@Option.rec A (λ_=>Prop) (K env S) _ (xs.map f)[zs.length]?
   rw[show(xs.map f)[zs.length]?=some (f y) by rw[e,WS,List.getElem?_append_right (by rw[WO];exact Nat.le_refl _),WO,Nat.sub_self];rfl]
   exact hb y ys env S _ h λenv S h=>(show c9 b nm t K R x (ys.length+1) (zs.length+1) env S from(List.length_append (as:=zs) (bs:=[y]))▸ih (zs++[y]) env S (e.trans (List.append_cons zs y ys)) h))) ys
def JJ(l:List Stmt)(k:Nat):Expr×List Stmt:=((nth l k).bind yb).getD (.Name "" ⟨0,0,0,0⟩,[])
def xZ:Expr×List Stmt:=JJ (Fp 983 0).2 0
def By:Expr×List Stmt:=JJ xZ.2 0
def rc(Ci Cu Cp Cx Cc:ay):bA:={fn:=λa=>lk a [(906,Ci),(894,Cu),(990,Cp),(948,Cx),(962,Cc)],sy:=[773004,774008,775012,777004]}
def fl2(T:bA)(K:KN)(R:KX)(x:X)(n j:Nat):KN:=c9 (bS (ws T 18 (Fa 983).nm) xZ.2) (Fa 983).nm xZ.1 K R x n j
def Vs(T:bA)(K:KN)(R:KX)(x:X)(n j:Nat):KN:=c9 (bS (ws T 17 (Fa 983).nm) By.2) (Fa 983).nm By.1 K R x n j
def U8(T:bA)(K:KN)(R:KX)(v:A):KN:=λenv S=>fI (Fa 983).nm xZ.1 v env λenv=>bS (ws T 18 (Fa 983).nm) xZ.2 env S K K R
def Vr(T:bA)(K:KN)(R:KX)(v:A):KN:=λenv S=>fI (Fa 983).nm By.1 v env λenv=>bS (ws T 17 (Fa 983).nm) By.2 env S K K R
def MB(node ctor:A):List (Str×X):=[("cx",.a bm),("node",.a node),("ctor",.a ctor),("did",.a (.int 2))]
def sF(node ctor:A)(m:Nat)(p i u:A):List (Str×X):=MB node ctor++List.take m ([("param",.a p),("init",.a i),("use",.a u)]:List (Str×X))
def HW(node ctor:A)(m:Nat)(p i u:A):List (Str×X):=MB node ctor++(List.take m ([("param",.a p),("init",.a i)]:List (Str×X))++([("use",.a u)]:List (Str×X)))
def KF(x:X)(S:AS)(P:Prop):Prop:=alt (uI x) (λ_=>False) (opt (bU S x) λ_=>P)
section
variable(Ci Cu Cp Cx Cc:ay)(K:KN)(R KK:KX)(S:AS)(node ctor p i u p' i' u' pl bd:A)(nc n:Int)(ps:List A)(loc:List (List Ce))(gl:Rg 5)(x:X)
theorem Sw:a9 (rc Ci Cu Cp Cx Cc) 983 0 1 (MB node (lX (bP ps n) bd nc)) S K R=∃n',fV (rc Ci Cu Cp Cx Cc) 983 0 K R (.a (.fl ps)) n' 0 (MB node (lX (bP ps n) bd nc)) S:=by kernel_rfl
theorem So:(List.range 4).map (λm=>dw (rc Ci Cu Cp Cx Cc) 983 0 K R p' (sF node ctor m p i u) S)=(List.range 4).map λm=>Ci [.a p'] S λx S=>KF x S (∃n',fl2 (rc Ci Cu Cp Cx Cc) K R x n' 0 (sF node ctor (cond (Nat.beq m 0) 1 m) p' i u) S):=by kernel_rfl
theorem QB:[1,2,3].map (λm=>U8 (rc Ci Cu Cp Cx Cc) K R i' (sF node ctor m p i u) S)=[1,2,3].map λm=>Cu [.a bm,.a i',.a (.int 0)] S λx S=>KF x S (∃n',Vs (rc Ci Cu Cp Cx Cc) K R x n' 0 (sF node ctor (cond (Nat.beq m 1) 2 m) p i' u) S):=by kernel_rfl
theorem OS:[2,3].map (λm=>Vr (rc Ci Cu Cp Cx Cc) K R u' (sF node ctor m p i u) S)=[2,3].map λ_=>Cx [.a node] S λx S=>Cp [.a bm,x,.a u'] S λ_ S=>K (sF node ctor 3 p i u') S:=by kernel_rfl
theorem SQ:(List.range 4).map (λm=>a9 (rc Ci Cu Cp Cx Cc) 983 1 1 (sF node (lX pl bd nc) m p i u) S K R)=(List.range 4).map λm=>Cu [.a bm,.a bd,.a (.int 0)] S λx S=>KF x S (∃n',fV (rc Ci Cu Cp Cx Cc) 983 1 K R x n' 0 (sF node (lX pl bd nc) m p i u) S):=by kernel_rfl
theorem Tx:(List.range 4).map (λm=>dw (rc Ci Cu Cp Cx Cc) 983 1 K R u' (sF node ctor m p i u) S)=(List.range 4).map λm=>Cx [.a node] S λx S=>Cc [.a bm,x,.a (.int 2),.a u'] S λ_ S=>K (HW node ctor (cond (Nat.beq m 3) 2 m) p i u') S:=by kernel_rfl
theorem Pn:(List.range 3).map (λm=>dw (rc Ci Cu Cp Cx Cc) 983 1 K R u' (HW node ctor m p i u) S)=(List.range 3).map λm=>Cx [.a node] S λx S=>Cc [.a bm,x,.a (.int 2),.a u'] S λ_ S=>K (HW node ctor m p i u') S:=by kernel_rfl
theorem SO:(List.range 4).map (λm=>rest (rc Ci Cu Cp Cx Cc) 983 2 (sF node ctor m p i u) ⟨[]::loc,gl⟩ KK)=(List.range 4).map λ_=>KK (.a .none) ⟨loc,gl⟩:=by kernel_rfl
theorem PY:(List.range 3).map (λm=>rest (rc Ci Cu Cp Cx Cc) 983 2 (HW node ctor m p i u) ⟨[]::loc,gl⟩ KK)=(List.range 3).map λ_=>KK (.a .none) ⟨loc,gl⟩:=by kernel_rfl
end
abbrev yc:=A×List (A×List Us)
def ju(l:List (A×List Us)):List Us:=l.flatMap (·.2)
def bu(ys:List yc):List Us:=ys.flatMap λy=>ju y.2
def gG(w:ai):A:=nd 59 (tx "") w.rs 0 (w.n+1+1)
structure QZ(w:ai)(ys:List yc)(U:List Us):Prop where
 ps:w.ps=ys.map Prod.fst
 pr:∀y∈ys,∃v,ya y.1 y.2 v
 md:∀u∈bu ys,Md u.mode
 nd:(bu ys).Pairwise λa b=>a.n≠b.n
 bd:Sem 248 false (gG w) U
 uk:∀u∈U,OD w u
 asc:U.Pairwise λa b=>a.fin≤b.n
 lo:∀a∈bu ys,∀u∈U,a.fin≤u.n
 el:(bu ys).length≤1000
 ul:U.length≤1000
 se:oa w.P
variable{a:Us}{D:Dg}{E done:List Us}{bs:Bool}
theorem qW{t:A}{l:List (A×List Us)}{v:List Us}(h:ya t l v):(∀x∈l,Sem 200 false x.1 x.2)∧(ju l).Perm v:=by
 cases h with
 |mk h hl hi=>exact⟨λx hx=>(WF hx).elim (h.sem x) ((ci hi).2 x),by unfold ju;rw[List.flatMap_append];exact h.perm.append (ci hi).1⟩
theorem AL{a c:List Dg}{b d:List Int}:(V.say a b).say c d=V.say (a++c) (b++d):=by unfold bg.say;rw[WR,WR]
theorem kI{a b:Int}(h:4*(a+1)+3=4*(b+1)+3):a=b:=by omega
theorem gK{a b:Int}(h:a≤b):4*a+3≤4*b+3:=by omega
theorem wV{x a:Int}(h:x≤4*a+3):x≠4*(a+1)+3:=by omega
theorem qJ{α:Type}{c:Bool}{x y:α}(h:x∈cond c [y] []):x=y:=by
 cases c with
 |true=>exact WD h
 |false=>exact(WJ h).elim
theorem kG(h:D∈pD bs u):D.pos=4*(u.n+1)+3:=by
 unfold pD at h
 revert h
 cases decide (u.mode=0) with
 |false=>exact λh=>(WJ h).elim
 |true=>cases u.sup with
  |true=>exact λh=>congrArg Dg.pos (qJ h)
  |false=>exact λh=>congrArg Dg.pos (WD h)
theorem HS(h:D∈cD w u):D.pos≤4*u.fin+3:=by
 have e1:u.pos≤4*u.fin+3:=gK c8
 unfold cD at h
 revert h
 cases(w.bs&&w.ev u) with
 |true=>exact λh=>Wy (Int.le_of_eq (congrArg Dg.pos (qJ h))) e1
 |false=>cases w.fld u with
  |true=>exact λh=>Int.le_of_eq (congrArg Dg.pos (qJ h))
  |false=>exact λh=>(WJ h).elim
theorem na{α:Type}{c:Bool}{y:α}:(cond c [y] []).length≤1:=by cases c;exact Nat.zero_le _;exact Nat.le_refl _
theorem hZ:(pD bs u).length≤1:=by
 unfold pD
 cases decide (u.mode=0) with
 |false=>exact Nat.zero_le _
 |true=>cases u.sup with
  |true=>exact na
  |false=>exact Nat.le_refl _
theorem gT:(pN u).length≤1:=by unfold pN;cases decide (u.mode=0);exact Nat.le_refl _;exact Nat.zero_le _
theorem pc:(cD w u).length≤1:=by
 unfold cD
 cases(w.bs&&w.ev u) with
 |true=>exact na
 |false=>cases w.fld u with
  |true=>exact na
  |false=>exact Nat.zero_le _
theorem oQ:(cN w u).length≤2:=by
 unfold cN
 cases(w.bs&&w.ev u) with
 |true=>cases decide (u.mode=0);exact Nat.le_succ 1;exact Nat.zero_le _
 |false=>cases w.fld u with
  |true=>exact V9 (Wq WN) (Wm na na)
  |false=>exact Nat.le_succ 1
theorem bF{α:Type}{f:Us→List α}{k:Nat}(h:∀u,(f u).length≤k):∀{l:List Us},(l.flatMap f).length≤k*l.length:=λ{l}=>@List.rec Us (λl=>(l.flatMap f).length≤k*l.length) (Nat.zero_le _) (λu r ih=>by
 show(f u++r.flatMap f).length≤k*(r.length+1)
 rw[WN,Nat.mul_succ,Nat.add_comm (k*r.length)]
 exact Wm (h u) ih) l
def eA(w:ai)(l:List Us):List Dg:=l.flatMap (pD w.bs)
def lT(w:ai)(l:List Us):List Dg:=l.flatMap (cD w)
def lh(w:ai)(l:List Us):List Int:=l.flatMap (cN w)
inductive I1(w:ai)(loc:List (List Ce))(V0:bg)(E:List Us)(lo:Nat)(r:List Us):En→AS→Prop
 |mk (m:Nat) (hm:lo≤m) (hm':m<4) (p i u:A) (done:List Us) (h:E=done++r):I1 w loc V0 E lo r (sF w.node w.ctor m p i u) (SJ w ([]::loc) (V0.say (eA w done) (done.flatMap pN)))
inductive I2(w:ai)(loc:List (List Ce))(V1:bg)(U:List Us)(r:List Us):En→AS→Prop
 |mk (e:En) (V:bg) (done:List Us) (h:U=done++r) (vo:dv w V) (hd:V.dg=V1.dg++lT w done) (hn:V.nt=V1.nt++lh w done) (he:∃m p i u,(m<4∧e=sF w.node w.ctor m p i u)∨(m<3∧e=HW w.node w.ctor m p i u)):I2 w loc V1 U r e (SJ w ([]::loc) V)
def EY(w:ai):bA:=rc bO cz (iq w) (dB w) (gU w)
variable{V0 V1:bg}{U:List Us}{K':KN}{p i u':A}{l:List (A×List Us)}{v:List Us}
theorem r4{m:Nat}(h:m<4):m∈List.range 4:=WE h
theorem Vg{m:Nat}(h:2≤m)(h':m<4):m∈[2,3]:=by
 rcases Nat.lt_or_eq_of_le h with h |rfl
 ·cases Nat.le_antisymm (Nat.le_of_lt_succ h') h;exact .tail _ (.head _)
 ·exact .head _
theorem U6{m:Nat}(h:1≤m)(h':m<4):m∈[1,2,3]:=by
 rcases Nat.lt_or_eq_of_le h with h |rfl
 ·exact .tail _ (Vg h h')
 ·exact .head _
theorem vE:eA w (U++r)=eA w U++eA w r:=List.flatMap_append
theorem xT:lT w (U++r)=lT w U++lT w r:=List.flatMap_append
theorem xC:lh w (U++r)=lh w U++lh w r:=List.flatMap_append
theorem eH{α:Type}{f:Us→List α}:[u].flatMap f=f u:=WQ _
theorem DJ(ok:ii w)(v0:dv w V0)(hd0:V0.dg=[])(hn0:V0.nt=[])(nd:E.Pairwise λa b=>a.n≠b.n)(md:∀u∈E,Md u.mode)(el:E.length≤1000)(h:I1 w loc V0 E 2 (u::r) env S)(f:∀env S,I1 w loc V0 E 2 r env S→K' env S):Vr (EY w) K' R u.out env S:=by
 cases h with
 |mk m hm hm' p i u1 done h=>
  subst h
  refine(WA (OS bO cz (iq w) (dB w) (gU w) K' R _ w.node w.ctor p i u1 u.out) m (Vg hm hm')).mpr ⟨rfl,_,u,rfl,rfl,md u (WG _ (.head _)),?_,?_,λD hD=>?_,f _ _ ?_⟩
  ·show(V0.dg++eA w done).length<_
   rw[hd0]
   exact Wg (bF (λu=>hZ)) (Wg (Wr 1 (V9 (Wo _ _) (WN▸el))) (by decide))
  ·show(V0.nt++done.flatMap pN).length<_
   rw[hn0]
   exact Wg (bF (λu=>gT)) (Wg (Wr 1 (V9 (Wo _ _) (WN▸el))) (by decide))
  ·have hD:D∈V0.dg++eA w done:=hD
   rw[hd0] at hD
   obtain⟨a,ha,hD⟩:=List.mem_flatMap.mp hD
   rw[kG hD]
   exact λq=>(List.pairwise_append.mp nd).2.2 a ha u (.head _) (kI q)
  ·rw[AL]
   have e1:eA w done++pD w.bs u=eA w (done++[u]):=by rw[vE];exact congrArg (_++·) eH.symm
   have e2:done.flatMap pN++pN u=(done++[u]).flatMap pN:=by rw[List.flatMap_append];exact congrArg (_++·) eH.symm
   rw[e1,e2]
   exact .mk 3 (by decide) (by decide) p i u.out (done++[u]) (List.append_cons done u r)
theorem yC(ok:ii w)(v0:dv w V0)(hd0:V0.dg=[])(hn0:V0.nt=[])(nd:E.Pairwise λa b=>a.n≠b.n)(md:∀u∈E,Md u.mode)(el:E.length≤1000){x:A×List Us}(hs:Sem 200 false x.1 x.2)(h:I1 w loc V0 E 1 (x.2++r) env S)(f:∀env S,I1 w loc V0 E 1 r env S→K' env S):U8 (EY w) K' R x.1 env S:=by
 cases h with
 |mk m hm hm' p i u1 done h=>
  have hl:x.2.length≤1000:=by
   rw[h,WN,WN] at el
   exact V9 (V9 (Wo _ _) (Wp _ _)) el
  refine(WA (QB bO cz (iq w) (dB w) (gU w) K' R _ w.node w.ctor p i u1 x.1) m (U6 hm hm')).mpr ⟨bm,x.1,x.2,200,rfl,hs,by decide,hl,?_⟩
  show ∃n',Vs (EY w) K' R (.a (.fl (x.2.map Us.out))) n' 0 _ _
  have hm2:2≤cond (Nat.beq m 1) 2 m∧cond (Nat.beq m 1) 2 m<4:=by
   rcases WC (U6 hm hm') with rfl |q
   ·decide
   rcases WC q with rfl |q
   ·decide
   cases WD q
   decide
  refine⟨x.2.length+1,jq (f:=Us.out) (P:=λus=>I1 w loc V0 E 2 (us++r)) (xs:=x.2) (λys env S h=>rfl) (λenv S h=>f env S ?_) (λy ys env S K'' h f=>DJ ok v0 hd0 hn0 nd md el h f) x.2 [] _ _ rfl (.mk _ hm2.1 hm2.2 p x.1 u1 done h)⟩
  cases h with
  |mk m hm hm' p i u done h=>exact .mk m (V9 (by decide) hm) hm' p i u done h
theorem Fk(ok:ii w)(v0:dv w V0)(hd0:V0.dg=[])(hn0:V0.nt=[])(nd:E.Pairwise λa b=>a.n≠b.n)(md:∀u∈E,Md u.mode)(el:E.length≤1000){y:yc}(hp:ya y.1 y.2 v)(h:I1 w loc V0 E 0 (ju y.2++r) env S)(f:∀env S,I1 w loc V0 E 0 r env S→K' env S):dw (EY w) 983 0 K' R y.1 env S:=by
 cases h with
 |mk m hm hm' p i u1 done h=>
  refine(WA (So bO cz (iq w) (dB w) (gU w) K' R _ w.node w.ctor p i u1 y.1) m (r4 hm')).mpr ⟨y.1,y.2,v,rfl,hp,?_⟩
  show ∃n',fl2 (EY w) K' R (.a (.fl (y.2.map Prod.fst))) n' 0 _ _
  have hm2:1≤cond (Nat.beq m 0) 1 m∧cond (Nat.beq m 0) 1 m<4:=by
   cases m with
   |zero=>decide
   |succ m=>exact⟨Ww (Nat.zero_le m),hm'⟩
  have hsem:=(qW hp).1
  refine⟨y.2.length+1,jq (f:=Prod.fst) (P:=λzs env S=>(∀x∈zs,Sem 200 false x.1 x.2)∧I1 w loc V0 E 1 (ju zs++r) env S) (xs:=y.2) (λys env S h=>rfl) (λenv S h=>f env S ?_) (λx zs env S K'' h f=>?_) y.2 [] _ _ rfl ⟨hsem,.mk _ hm2.1 hm2.2 y.1 i u1 done h⟩⟩
  ·cases h.2 with
   |mk m hm hm' p i u done h3=>exact .mk m (Nat.zero_le _) hm' p i u done h3
  ·have h2:I1 w loc V0 E 1 (x.2++(ju zs++r)) env S:=(WR x.2 (ju zs) r)▸h.2
   exact yC ok v0 hd0 hn0 nd md el (h.1 x (.head _)) h2 λenv S q=>f env S ⟨λx hx=>h.1 x (.tail _ hx),q⟩
def V00:bg:=⟨false,false,false,false,[],[]⟩
def tD(w:ai)(ys:List yc)(U:List Us):List Dg:=eA w (bu ys)++lT w U
def tN(w:ai)(ys:List yc)(U:List Us):List Int:=(bu ys).flatMap pN++lh w U
def Ek(w:ai)(xs:List X)(S:AS)(K:KX):Prop:=∃ys U,xs=[.a bm,.a w.node,.a w.ctor,.a (.int 2)]∧S=SJ w S.loc V00∧QZ w ys U∧∀V,dv w V→V.dg=tD w ys U→V.nt=tN w ys U→K (.a .none) (SJ w S.loc V)
end
section
variable{w:ai}{V0 V1:bg}{loc:List (List Ce)}{E U r r':List Us}{u:Us}{K':KN}{R:KX}{env:En}{S:AS}{ys:List yc}{xs:List X}{K:KX}
theorem KP(ok:ii w)(c:QZ w ys U)(hd1:V1.dg=eA w (bu ys))(hn1:V1.nt=(bu ys).flatMap pN)(h:I2 w loc V1 U (u::r) env S)(f:∀env S,I2 w loc V1 U r env S→K' env S):dw (EY w) 983 1 K' R u.out env S:=by
 cases h with
 |mk V done h vo hd hn he=>
  have asc:=c.asc
  have hul:=c.ul
  have huk:=c.uk
  have hlo:=c.lo
  rw[h] at asc hul huk hlo
  have hup:u∈done++u::r:=WG _ (.head _)
  have dl:done.length≤1000:=V9 (Wo _ _) (WN▸hul)
  have lo:∀D∈V.dg,D.pos≤4*u.n+3:=λD hD=>by
   rw[hd,hd1] at hD
   rcases WF hD with hD |hD
   ·obtain⟨a,ha,hD⟩:=List.mem_flatMap.mp hD
    rw[kG hD]
    exact Wy (gK c8) (gK (hlo a ha u hup))
   ·obtain⟨a,ha,hD⟩:=List.mem_flatMap.mp hD
    exact Wy (HS hD) (gK ((List.pairwise_append.mp asc).2.2 a ha u (.head _)))
  have el:=c.el
  have p:Oy w V u:=⟨vo,huk u hup,c.se,by
    rw[hd,hd1,WN]
    exact Wg (Wm (bF λu=>hZ) (bF λu=>pc)) (Wg (Wm (Wr 1 el) (Wr 1 dl)) (by decide)),by
    rw[hn,hn1,WN]
    exact Wg (Wm (bF λu=>gT) (bF λu=>oQ)) (Wg (Wm (Wr 1 el) (Wr 2 dl)) (by decide)),
   λD hD=>wV (lo D hD),λD hD=>Int.ne_of_lt (Int.lt_of_lt_of_le (Int.lt_iff_le_and_ne.mpr ⟨Wy (lo D hD) (gK (Wy le1 (Int.le_refl _))),wV (lo D hD)⟩) (gK c8))⟩
  have nx:∀e',(∃m p i u,(m<4∧e'=sF w.node w.ctor m p i u)∨(m<3∧e'=HW w.node w.ctor m p i u))→dB w [.a w.node] (SJ w ([]::loc) V) λx S=>gU w [.a bm,x,.a (.int 2),.a u.out] S λ_ S=>K' e' S:=λe' he=>⟨rfl,V,u,rfl,rfl,p,λV' vo' d' n'=>f _ _ (.mk e' V' (done++[u]) (h.trans (List.append_cons done u r)) vo' (by rw[d',hd,WR,xT];exact congrArg (λz=>V1.dg++(lT w done++z)) eH.symm) (by rw[n',hn,WR,xC];exact congrArg (λz=>V1.nt++(lh w done++z)) eH.symm) he)⟩
  obtain⟨m,p1,i1,u1,⟨hm,rfl⟩ |⟨hm,rfl⟩⟩:=he
  ·refine(WA (Tx bO cz (iq w) (dB w) (gU w) K' R _ w.node w.ctor p1 i1 u1 u.out) m (r4 hm)).mpr (nx _ ⟨cond (Nat.beq m 3) 2 m,p1,i1,u.out,.inr ⟨?_,rfl⟩⟩)
   rcases Nat.lt_or_eq_of_le (Nat.le_of_lt_succ hm) with hm |rfl
   ·rw[show Nat.beq m 3=false from Bool.eq_false_iff.mpr λq=>Nat.ne_of_lt hm (Wv q)];exact hm
   ·decide
  ·exact(WA (Pn bO cz (iq w) (dB w) (gU w) K' R _ w.node w.ctor p1 i1 u1 u.out) m (WE hm)).mpr (nx _ ⟨m,p1,i1,u.out,.inr ⟨hm,rfl⟩⟩)
theorem Pq(ok:ii w)(h:Ek w xs S K):ae (EY w) 983 xs S K:=by
 obtain⟨ys,U,rfl,e,c,h⟩:=h
 have e4:w.ctor=lX (bP w.ps (w.n+1)) (gG w) (w.n+1+1+1):=rfl
 refine bx (fi:=Fa 983) (by kernel_rfl) rfl (by kernel_rfl) (env:=MB w.node w.ctor) (by kernel_rfl) (ag (j:=1) ((Sw bO cz (iq w) (dB w) (gU w) _ _ _ w.node (gG w) (w.n+1+1+1) (w.n+1) w.ps).mpr ⟨ys.length+1,?_⟩))
 have v0:dv w V00:=⟨λh=>(nomatch h),λh=>nomatch h⟩
 rw[show push S=SJ w ([]::S.loc) V00 from jP e]
 refine e8 (f:=Prod.fst) (P:=λzs env S'=>(∀y∈zs,∃v,ya y.1 y.2 v)∧I1 w S.loc V00 (bu ys) 0 (bu zs) env S') (xs:=ys) (fi:=Fa 983) (s:=Fb 983 0) (p:=Fp 983 0) (by kernel_rfl) (by kernel_rfl) (by kernel_rfl) (λzs env S' h=>by rw[c.ps];rfl) (λenv S' h1=>?_) (λy zs env S' K' hI f=>?_) ys [] _ _ rfl ⟨c.pr,.mk 0 (Nat.le_refl _) (by decide) .none .none .none [] rfl⟩
 ·cases h1.2 with
  |mk m _ hm p i u done hE=>
   have hE:bu ys=done:=hE.trans (WQ _)
   subst hE
   generalize hV:V00.say (eA w (bu ys)) ((bu ys).flatMap pN)=V1
   have d1:V1.dg=eA w (bu ys):=hV▸rfl
   have n1:V1.nt=(bu ys).flatMap pN:=hV▸rfl
   have v1:dv w V1:=hV▸⟨v0.v,v0.mb⟩
   refine ag (j:=1) ((WA (SQ bO cz (iq w) (dB w) (gU w) _ _ _ w.node p i u (bP w.ps (w.n+1)) (gG w) (w.n+1+1+1)) m (r4 hm)).mpr ⟨bm,gG w,U,248,rfl,c.bd,by decide,c.ul,?_⟩)
   refine⟨U.length+1,e8 (f:=Us.out) (P:=I2 w S.loc V1 U) (xs:=U) (fi:=Fa 983) (s:=Fb 983 1) (p:=Fp 983 1) (by kernel_rfl) (by kernel_rfl) (by kernel_rfl) (λzs env S' h=>rfl) (λenv S' h2=>?_) (λy zs env S' K' hI f=>KP ok c d1 n1 hI f) U [] _ _ rfl (.mk _ V1 [] rfl v1 (WQ _).symm (WQ _).symm ⟨m,p,i,u,.inl ⟨hm,rfl⟩⟩)⟩
   cases h2 with
   |mk V done h2 vo hd hn he=>
    have h2:U=done:=h2.trans (WQ _)
    subst h2
    have fin:=h V vo (by rw[hd,d1];rfl) (by rw[hn,n1];rfl)
    obtain⟨m,p1,i1,u1,⟨hm,rfl⟩ |⟨hm,rfl⟩⟩:=he
    ·exact(WA (SO bO cz (iq w) (dB w) (gU w) K w.node w.ctor p1 i1 u1 S.loc (cS w V)) m (r4 hm)).mpr fin
    ·exact(WA (PY bO cz (iq w) (dB w) (gU w) K w.node w.ctor p1 i1 u1 S.loc (cS w V)) m (WE hm)).mpr fin
 ·obtain⟨v,hp⟩:=hI.1 y (.head _)
  exact Fk ok v0 rfl rfl c.nd c.md c.el hp hI.2 λenv S' q=>f env S' ⟨λy hy=>hI.1 y (.tail _ hy),q⟩
def H7(T:bA)(one l:A)(key:String)(f:X→List X)(S:AS)(K:AS→Prop):Prop:=opt (dT S (.a l) "append") λmm=>ao (.a one) (.a (tx key)) S λx S=>cC x "at" S λy S=>eX (f y) S λxs S=>ak xs (bK T mm (.a l) "append" [.a (.tup xs)] S λ_ S=>K S)
section
variable(one told noted:A)(S:AS)(K:KX)
theorem Pc:BB.map (λbs=>ae {} 1612 [.a one,.a (.bool bs),.a told,.a noted] S K)=BB.map λbs=>ao (.a one) (.a (tx "mode")) (push S) λx S=>dE .Gt x (.a (.int 0)) S λc=>aw c (H7 {} one noted "node" (λy=>[.a (.int 12),y]) S λS=>ret (.a .none) S K)
 (ao (.a one) (.a (tx "word")) S λx S=>lF S x (.a (tx "this")) λc=>aw c (H7 {} one told "node" (λy=>[.a (.int 2333),y,.a (dq none)]) S λS=>ret (.a .none) S K) (cond bs (H7 {} one told "node" (λy=>[.a (.int 2336),y,.a (dq none)]) S λS=>ret (.a .none) S K) (ret (.a .none) S K))):=by kernel_rfl
end
def wL(w:ai)(gv:List (A×A))(t1:List Dg)(n1:List Int)(t2:List Dg)(n2:List Int):ai:={w with gv:=gv,r2:=[.list (t1.map Dg.row)],r3:=[.list (n1.map aT)],r4:=[.list (t2.map Dg.row)],r5:=[.list (n2.map aT)]}
def SL(w:ai)(loc:List (List Ce))(gv:List (A×A))(t1:List Dg)(n1:List Int)(t2:List Dg)(n2:List Int):AS:=SJ (wL w gv t1 n1 t2 n2) loc V00
section
variable{gv:List (A×A)}{t1 t2:List Dg}{n1 n2:List Int}{k v:A}{KK:KX}{K:AS→Prop}{T:bA}{D:Dg}{p:Int}
theorem e6(hu:w.P.w[u.i]?=some u)(e:aM (.a (.g 3 u.i)) k (some (u.ce (.int (w.P.F u.i:Nat))))=some v)(h:KK (.a v) (SL w loc gv t1 n1 t2 n2)):ao (.a (.g 3 u.i)) (.a k) (SL w loc gv t1 n1 t2 n2) KK:=
 aj (a:=⟨k,rfl⟩) rfl (aj ((congrArg (aM (.a (.g 3 u.i)) k) (jo (loc:=loc) (P:={w.P with gl:=SN ((wL w gv t1 n1 t2 n2).cp V00) w.gl}) hu)).trans e) h)
theorem oA:cC (.a u.who) "at" (SL w loc gv t1 n1 t2 n2) KK=KK (.a (.int u.pos)) (SL w loc gv t1 n1 t2 n2):=by kernel_rfl
theorem Ku{S:AS}{one h0:A}{key:String}{f:X→List X}{l:Nat}{xs vs:List A}(hl:Nat.ble l 31=true)(hx:(S.get l)[0]?=some (.list xs))(hn:xs.length<900000)(hk:∀KK:KX,KK (.a h0) S→ao (.a one) (.a (tx key)) S KK)(ha:∀KK:KX,KK (.a (.int p)) S→cC (.a h0) "at" S KK)(hf:∀K,eX (f (.a (.int p))) S K=K vs S)(hv:vs.length≤10)
  (hr:dT S (.a (.g l 0)) "append"=some .list) (h:K (S.set l ((S.get l).set 0 (.list (xs++[.tup vs]))))):H7 T one (.g l 0) key f S K:=
 aj hr (hk _ (ha _ ((hf _).mpr (aA (aC (V9 hv (by decide))) (nF (KK:=λ_ S=>K S) (v:=.tup vs) hl hx hn h)))))
theorem zU(hf:u.fm≠.bare){S:AS}:cC (.a u.hold) "at" S KK=KK (.a (.int (4*u.fin+3))) S:=by
 obtain⟨k,a,ks,f,e⟩:=qp hf
 rw[e];kernel_rfl
theorem Ji(hu:w.P.w[u.i]?=some u)(hl:n1.length<900000)(h:K (SL w loc gv t1 (n1++[u.pos]) t2 n2)):H7 T (.g 3 u.i) (.g 23 0) "node" (λy=>[.a (.int 12),y]) (SL w loc gv t1 n1 t2 n2) K:=
 Ku (l:=23) (xs:=n1.map aT) (h0:=u.who) (vs:=[.int 12,.int u.pos]) rfl (by kernel_rfl) (by rw[WO];exact hl) (λKK h=>e6 hu (v:=u.who) (by kernel_rfl) h) (λKK h=>oA.mpr h) (λK=>rfl) (Wu rfl) (by kernel_rfl) ((congrArg K (by rw[show SL w loc gv t1 (n1++[u.pos]) t2 n2=SJ {wL w gv t1 n1 t2 n2 with r3:=[.list (n1.map aT++[aT u.pos])]} loc V00 from congrArg (λl=>SJ {wL w gv t1 n1 t2 n2 with r3:=[.list l]} loc V00) WS];kernel_rfl)).mpr h)
theorem Cz{q:Int}(hu:w.P.w[u.i]?=some u)(hl:t1.length<900000)(h:K (SL w loc gv (t1++[⟨q,u.pos,none⟩]) n1 t2 n2)):H7 T (.g 3 u.i) (.g 22 0) "node" (λy=>[.a (.int q),y,.a (dq none)]) (SL w loc gv t1 n1 t2 n2) K:=
 Ku (l:=22) (xs:=t1.map Dg.row) (h0:=u.who) (vs:=[.int q,.int u.pos,dq none]) rfl (by kernel_rfl) (by rw[WO];exact hl) (λKK h=>e6 hu (v:=u.who) (by kernel_rfl) h) (λKK h=>oA.mpr h) (λK=>rfl) (Wu rfl) (by kernel_rfl) ((congrArg K (by rw[show SL w loc gv (t1++[⟨q,u.pos,none⟩]) n1 t2 n2=SJ {wL w gv t1 n1 t2 n2 with r2:=[.list (t1.map Dg.row++[.tup [.int q,.int u.pos,dq none]])]} loc V00 from congrArg (λl=>SJ {wL w gv t1 n1 t2 n2 with r2:=[.list l]} loc V00) WS];kernel_rfl)).mpr h)
end
def E8(w:ai)(xs:List X)(S:AS)(K:KX):Prop:=∃gv t1 n1 t2 n2 u,xs=[.a (.g 3 u.i),.a (.bool w.bs),.a (.g 22 0),.a (.g 23 0)]∧S=SL w S.loc gv t1 n1 t2 n2∧w.P.w[u.i]?=some u∧Md u.mode∧t1.length<900000∧n1.length<900000∧K (.a .none) (SL w S.loc gv (t1++pD w.bs u) (n1++pN u) t2 n2)
theorem Fu{gv:List (A×A)}{t1 t2:List Dg}{n1 n2:List Int}(h:S=SL w S.loc gv t1 n1 t2 n2):push S=SL w ([]::S.loc) gv t1 n1 t2 n2:=(congrArg push h:push S=push (SL w S.loc gv t1 n1 t2 n2))
theorem LW{b:Bool}{S:AS}{Kb:Bool→Prop}:dE .Gt (.a (.int (cond b 1 0))) (.a (.int 0)) S Kb=Kb b:=@Bool.casesOn (λb=>dE .Gt (.a (.int (cond b 1 0))) (.a (.int 0)) S Kb=Kb b) b (by kernel_rfl) (by kernel_rfl)
theorem UK(h:E8 w xs S K):ae {} 1612 xs S K:=by
 obtain⟨gv,t1,n1,t2,n2,u,rfl,e,hu,⟨b,hb⟩,hl,hn,h⟩:=h
 refine(WA (Pc (.g 3 u.i) (.g 22 0) (.g 23 0) S K) w.bs (bb w.bs)).mpr ?_
 rw[Fu e]
 refine e6 hu (v:=.int u.mode) (by kernel_rfl) ?_
 have e0:pD w.bs u=cond b [] (cond u.sup (cond w.bs [⟨2336,u.pos,none⟩] []) [⟨2333,u.pos,none⟩])∧pN u=cond b [u.pos] []:=by unfold pD pN;rw[hb];cases b <;> exact⟨rfl,rfl⟩
 rw[e0.1,e0.2] at h
 rw[hb]
 refine LW.mpr ?_
 cases b with
 |true=>
  refine Ji (w:=w) (loc:=[]::S.loc) hu hn ?_
  have h:K (.a .none) (SL w S.loc gv (t1++[]) (n1++[u.pos]) t2 n2):=h
  rw[WQ] at h
  exact h
 |false=>
  refine cY rfl ?_
  refine e6 hu (v:=.str u.word) (by kernel_rfl) ?_
  refine qN.mpr ?_
  have h:K (.a .none) (SL w S.loc gv (t1++cond u.sup (cond w.bs [⟨2336,u.pos,none⟩] []) [⟨2333,u.pos,none⟩]) (n1++[]) t2 n2):=h
  rw[WQ] at h
  cases q:u.sup with
  |true=>
   rw[q] at h
   have h:K (.a .none) (SL w S.loc gv (t1++cond w.bs [⟨2336,u.pos,none⟩] []) n1 t2 n2):=h
   refine cY rfl (dK (λq2=>?_) λq2=>?_)
   ·rw[q2] at h;exact Cz (w:=w) (loc:=[]::S.loc) hu hl h
   ·rw[q2] at h
    have h:K (.a .none) (SL w S.loc gv (t1++[]) n1 t2 n2):=h
    rw[WQ] at h
    exact h
  |false=>
   rw[q] at h
   exact aA rfl (Cz (w:=w) (loc:=[]::S.loc) hu hl h)
variable{β:Type}{e t:WP}{i:Str}{x:X}{f g:β→A}{c:β→Bool}{xs:List β}{K:List A→AS→Prop}
theorem lJ{zs ys:List β}(h:xs=zs++ys):(xs.map f)[zs.length]?=(ys.map f)[0]?:=by rw[h,WS,List.getElem?_append_right (by rw[WO];exact Nat.le_refl _),WO,Nat.sub_self]
theorem pZ(hs:bU S x=some (xs.map f))(ht:∀y P Q,t.t ((i,.a (f y))::env) S P Q=aw (c y) (P S) (Q S))(he:∀y KK,e.e ((i,.a (f y))::env) S KK=KK (.a (g y)) S)(hl:xs.length<900000)(h:K ((xs.filter c).map g) S):∃n,cE e (some t) i env x n 0 [] S K:=by
 have main:∀ys zs,xs=zs++ys→cE e (some t) i env x (ys.length+1) zs.length ((zs.filter c).map g) S K:=λys=>@List.rec β (λys=>∀zs,xs=zs++ys→cE e (some t) i env x (ys.length+1) zs.length ((zs.filter c).map g) S K)
  (λzs q=>aj hs (by
   rw[lJ q]
   rw[q,WQ] at h
   exact h))
  (λy ys ih zs q=>aj hs (by
   rw[lJ q]
   have q':xs=(zs++[y])++ys:=q.trans (List.append_cons zs y ys)
   have ih:=ih (zs++[y]) q'
   rw[WN,List.filter_append,WS] at ih
   show t.t ((i,.a (f y))::env) S _ _
   rw[ht]
   refine aX (λqc=>?_) λqc=>?_
   ·rw[show[y].filter c=[y] by show cond (c y) _ _=_ <;> simp[qc]] at ih
    show e.e ((i,.a (f y))::env) S _
    rw[he]
    refine aA (aC ?_) ih
    have l1:(zs.filter c).length≤zs.length:=List.length_filter_le c zs
    rw[WN,WO]
    rw[q,WN] at hl
    exact V9 (Wl l1 1) (V9 (Ww (Nat.le_of_lt (Wg (Wo _ _) hl))) (by decide))
   ·rw[show[y].filter c=[] by simp[qc]] at ih
    rw[show[].map g=[] from rfl,WQ] at ih
    exact ih)) ys
 exact⟨xs.length+1,main xs [] rfl⟩
theorem zv(hs:bU S x=some (xs.map f))(he:∀y KK,e.e ((i,.a (f y))::env) S KK=KK (.a (g y)) S)(hl:xs.length<900000)(h:K (xs.map g) S):∃n,cE e none i env x n 0 [] S K:=by
 have main:∀ys zs,xs=zs++ys→cE e none i env x (ys.length+1) zs.length (zs.map g) S K:=λys=>@List.rec β (λys=>∀zs,xs=zs++ys→cE e none i env x (ys.length+1) zs.length (zs.map g) S K)
  (λzs q=>aj hs (by
   rw[lJ q]
   rw[q,WQ] at h
   exact h))
  (λy ys ih zs q=>aj hs (by
   rw[lJ q]
   have ih:=ih (zs++[y]) (q.trans (List.append_cons zs y ys))
   rw[WN,WS] at ih
   show e.e ((i,.a (f y))::env) S _
   rw[he]
   refine aA (aC ?_) ih
   rw[WN,WO]
   rw[q,WN] at hl
   exact V9 (Ww (Nat.le_of_lt (Wg (Wo _ _) hl))) (by decide))) ys
 exact⟨xs.length+1,main xs [] rfl⟩
def TK(s:Stmt):Option Expr:=nR s.ctorIdx 3 λh=>Stmt.Return.elim (motive_2:=λ_=>Option Expr) s h λe _=>e
def I3(e:Expr):Option Expr:=nR e.ctorIdx 15 λh=>Expr.Compare.elim (motive_1:=λ_=>Option Expr) e h λl _ _ _=>some l
def Jj(e:Expr):Option Expr:=(vM e).bind λq=>nth q.1.1.2 0
def IH:Pos:=⟨0,0,0,0⟩
structure Hk where
 e:Expr
 nm:Nm
 i:Str
 ts:List Expr
def PH(e:Option Expr):Hk:=(e.bind λe=>(Vx e).bind λlc=>(CJ lc.1.1.2).map λq=>(⟨lc.1.1.1,fy lc.1.2.1.names,q.1.1.1,q.1.2.2⟩:Hk)).getD ⟨.Name "" IH,[],"",[]⟩
end
section
def Hk.t(q:Hk):Expr:=(nth q.ts 0).getD (.Name "" IH)
def jA:Hk:=PH (((TK (Fb 1584 1)).bind I3).bind Jj)
def HX:bA:={fn:=λ_=>none,sy:=[1216015]}
def Vw(one nm:A)(bit:Int):List (Str×X):=[("one",.a one),("name",.a nm),("bit",.a (.int bit))]
def zP(s:String):Int:=cond (seq s "x") 2 (cond (seq s "y") 4 8)
section
variable(one:A)(S:AS)(K:KX)(KK:KX)(env:En)(v:Int)(P Q:AS→Prop)
theorem Pj:gD.map (λs=>ae HX 1584 [.a one,.a (tx s)] S K)=gD.map λs=>ao (.a one) (.a (tx "met")) (push S) λx S=>KF x S (∃n,cE (wp HX 37 jA.nm jA.e) (some (wp HX 37 jA.nm jA.t)) jA.i (Vw one (tx s) (zP s)) x n 0 [] S λl S=>ret (.a (.bool (decide ((l.length:Int)>0)))) S K):=by kernel_rfl
theorem Q0:gD.map (λs=>(wp HX 37 jA.nm jA.t).t ((jA.i,.a (.int v))::Vw one (tx s) (zP s)) S P Q)=gD.map λs=>aw (PyData.eqv (.int (Builtin.bitAnd v (zP s))) (.int 0)) (P S) (Q S):=by kernel_rfl
theorem Sv:(wp HX 37 jA.nm jA.e).e ((jA.i,.a (.int v))::env) S KK=KK (.a (.int v)) S:=by kernel_rfl
end
def iz(w:ai)(xs:List X)(S:AS)(K:KX):Prop:=∃gv t1 n1 t2 n2 u s,xs=[.a (.g 3 u.i),.a (tx s)]∧s∈gD∧S=SL w S.loc gv t1 n1 t2 n2∧w.P.w[u.i]?=some u∧(w.P.M u.i).length<900000∧K (.a (.bool (w.uns u (Str.ofString s)))) S
variable{w:ai}{xs:List X}{S:AS}{K:KX}{l:List Nat}{c:Nat→Bool}
theorem qI{f:Nat→A}:decide ((((l.filter c).map f).length:Int)>0)=l.any c:=by
 rw[WO]
 cases h:l.any c with
 |true=>
  obtain⟨x,hx,hc⟩:=List.any_eq_true.mp h
  exact decide_eq_true (Int.ofNat_lt.mpr (List.length_pos_of_mem (List.mem_filter.mpr ⟨hx,hc⟩)))
 |false=>
  refine decide_eq_false λq=>?_
  obtain⟨x,hx⟩:=List.exists_mem_of_length_pos (WM q)
  have:=List.mem_filter.mp hx
  exact Bool.false_ne_true (h.symm.trans (List.any_eq_true.mpr ⟨x,this.1,this.2⟩))
theorem BM{loc:List (List Ce)}{gv:List (A×A)}{t1 t2:List Dg}{n1 n2:List Int}{u:Us}(hu:w.P.w[u.i]?=some u):au (SL w loc gv t1 n1 t2 n2) (.a (.g 4 u.i))=some (.list ((w.P.M u.i).map λs=>.int (s:Nat))):=congrArg (λo:Option Ce=>o.bind iy) (show(oH w.P.w w.P.M)[u.i]?=_ from iO (P:=w.P) hu)
theorem IT{s:String}(h:s∈gD):zP s=(oE (Str.ofString s):Nat):=by
 rcases WC h with rfl |h
 ·kernel_rfl
 rcases WC h with rfl |h
 ·kernel_rfl
 cases WD h
 kernel_rfl
theorem CK{n:Nat}:PyData.eqv (.int (n:Nat)) (.int 0)=Nat.beq n 0:=by
 show decide ((n:Int)=0)=_
 cases n with
 |zero=>rfl
 |succ n=>exact decide_eq_false (λh=>nomatch Int.ofNat.inj h)
theorem OP(h:iz w xs S K):ae HX 1584 xs S K:=by
 obtain⟨gv,t1,n1,t2,n2,u,s,rfl,hs,e,hu,hl,h⟩:=h
 refine(WA (Pj (.g 3 u.i) S K) s hs).mpr ?_
 rw[Fu e]
 refine e6 hu (v:=.g 4 u.i) (by kernel_rfl) ?_
 have sq:bU (SL w ([]::S.loc) gv t1 n1 t2 n2) (.a (.g 4 u.i))=some ((w.P.M u.i).map λs=>.int (s:Nat)):=by
  show alt (uI _) _ (alt (uT _) _ (ba (au _ _)))=_
  rw[BM hu];rfl
 refine th (show uI (.a (.g 4 u.i))=none from rfl) (aj sq ?_)
 refine pZ (f:=λs:Nat=>.int (s:Nat)) (g:=λs:Nat=>.int (s:Nat)) (c:=λm=>Nat.beq (m&&&oE (Str.ofString s)) 0) sq (λy P Q=>?_) (λy KK=>Sv ..) hl ?_
 ·refine(WA (Q0 (.g 3 u.i) (SL w ([]::S.loc) gv t1 n1 t2 n2) (y:Nat) P Q) s hs).trans ?_
  rw[IT hs,Pz,CK]
 ·show ret (.a (.bool (decide _))) _ K
  rw[qI]
  rw[e] at h
  exact h
def VS(s:Stmt):Option Expr:=nR s.ctorIdx 12 λh=>Stmt.If.elim (motive_2:=λ_=>Option Expr) s h λt _ _ _=>some t
def VT(e:Expr):Option (List Expr):=nR e.ctorIdx 0 λh=>Expr.BoolOp.elim (motive_1:=λ_=>Option (List Expr)) e h λ_ l _=>some l
def jd:Hk:=PH (((VS (Fb 1617 1)).bind VT).bind λl=>((nth l 1).bind I3).bind Jj)
def nT(C:ay):bA:={fn:=λa=>lk a [(1584,C)],sy:=[1247021]}
def gw(k:String)(a l:Bool):A:=.tup [tx k,.bool a,.bool l]
def SI(one near told noted:A)(b:Bool):List (Str×X):=[("one",.a one),("near",.a near),("based",.a (.bool b)),("told",.a told),("noted",.a noted)]
def wB(one near told noted:A)(b:Bool)(y:X):List (Str×X):=SI one near told noted b++([("at",y)]:List (Str×X))
def CC(T:bA)(l:A)(f:List X)(S:AS)(K:AS→Prop):Prop:=opt (dT S (.a l) "append") λmm=>eX f S λxs S=>ak xs (bK T mm (.a l) "append" [.a (.tup xs)] S λ_ S=>K S)
def pQ(one:A)(S:AS)(P Q:AS→Prop):Prop:=ao (.a one) (.a (tx "mode")) S λx S=>dE .Gt x (.a (.int 0)) S λc=>aw c (P S) (Q S)
def d2:List A:=[.none,gw "field" false false,gw "field" false true,gw "field" true false,gw "method" false false,gw "access" false false]
section
variable(C:ay)(one near told noted:A)(S:AS)(K:KN)(R KK:KX)(y:X)(based:Bool)(env:En)(v p:Int)(P Q:AS→Prop)
theorem UX:BB.map (λb=>a9 (nT C) 1617 0 2 (SI one near told noted b) S K R)=BB.map λb=>ao (.a one) (.a (tx "node")) S λx S=>cC x "at" S λy S=>
 cond b (ao (.a one) (.a (tx "met")) S λx S=>KF x S (∃n,cE (wp (nT C) 36 jd.nm jd.e) (some (wp (nT C) 36 jd.nm jd.t)) jd.i (wB one near told noted b y) x n 0 [] S λl S=>aw (decide ((l.length:Int)>0)) (pQ one S (λS=>CC (nT C) noted [.a (.int 12),y] S λS=>R (.a .none) S) (λS=>CC (nT C) told [.a (.int 17009),y,.a (dq none)] S λS=>R (.a .none) S)) (K (wB one near told noted b y) S)))
  (K (wB one near told noted b y) S):=by kernel_rfl
theorem OV:(wp (nT C) 36 jd.nm jd.t).t ((jd.i,.a (.int v))::env) S P Q=aw (PyData.eqv (.int (v.fmod 2)) (.int 0)) (P S) (Q S):=by kernel_rfl
theorem Sh:(wp (nT C) 36 jd.nm jd.e).e ((jd.i,.a (.int v))::env) S KK=KK (.a (.int v)) S:=by kernel_rfl
def SY(q:Bool×Bool×Bool)(S:AS):Prop:=
 have nt:AS→Prop:=λS=>CC (nT C) noted [.a (.int 12),.a (.int p)] S λS=>ret (.a .none) S KK
 have s4:AS→Prop:=λS=>cond q.2.2 (ao (.a one) (.a (tx "role")) S λx S=>lF S x (.a (.int 1)) λc=>aw (!c) (pQ one S nt λS=>ao (.a one) (.a (tx "name")) S λx S=>C [.a one,x] S λz S=>sX z S (opt (dT S (.a told) "append") λmm=>ao (.a one) (.a (tx "holder")) S λx S=>cC x "at" S λy S=>ao (.a one) (.a (tx "name")) S λz S=>eX [z] S λzs S=>ak zs (eX [.a (.int 2565),y,.a (.tup zs)] S λxs S=>ak xs (bK (nT C) mm (.a told) "append" [.a (.tup xs)] S λ_ S=>ret (.a .none) S KK))) (ret (.a .none) S KK)) (ret (.a .none) S KK)) (ret (.a .none) S KK)
 ao (.a one) (.a (tx "word")) S λx S=>lF S x (.a (tx "super")) λc=>aw c (nt S) (cond q.1 (ao (.a one) (.a (tx "role")) S λx S=>lF S x (.a (.int 2)) λc=>aw c (cond q.2.1 (s4 S) (CC (nT C) noted [.a (.int 12),.a (.int p)] S s4)) (s4 S)) (nt S))
def dY:List (Bool×Bool×Bool):=[(false,false,false),(true,false,false),(true,false,true),(true,true,false),(false,false,false),(false,false,false)]
theorem RH:d2.map (λnear=>rest (nT C) 1617 2 (wB one near told noted based (.a (.int p))) S KK)=dY.map λq=>SY C one told noted KK p q S:=by kernel_rfl
end
structure jD(w:ai)(u:Us)(q:Bool×Bool×Bool):Prop where
 fld:w.fld u=(!u.sup&&q.1)
 arr:w.fld u=true→w.arr u.nm=q.2.1
 lk:w.fld u=true→(w.q1 u&&w.lk u.nm)=(q.2.2&& !decide (u.role=1))
 nm:q.2.2=true→u.fm≠.bare∧u.name=u.nm∧∃s∈gD,u.nm=Str.ofString s
def HD(w:ai)(xs:List X)(S:AS)(K:KX):Prop:=∃gv t1 n1 t2 n2 u near q,xs=[.a (.g 3 u.i),.a near,.a (.bool w.bs),.a (.g 24 0),.a (.g 25 0)]∧S=SL w S.loc gv t1 n1 t2 n2∧w.P.w[u.i]?=some u∧Md u.mode∧(near,q)∈d2.zip dY∧jD w u q∧(w.P.M u.i).length<900000∧t2.length<800000∧n2.length<800000∧K (.a .none) (SL w S.loc gv t1 n1 (t2++cD w u) (n2++cN w u))
section
variable{K:AS→Prop}{KK:KX}{Kn:KN}{loc:List (List Ce)}{gv:List (A×A)}{t1 t2:List Dg}{n1 n2:List Int}{u:Us}{T:bA}{p:Int}{D:Dg}{near:A}{q:Bool×Bool×Bool}
theorem Mw:(SL w loc gv t1 n1 t2 n2).set 24 (((SL w loc gv t1 n1 t2 n2).get 24).set 0 (.list (t2.map Dg.row++[D.row])))=SL w loc gv t1 n1 (t2++[D]) n2:=by
 rw[show SL w loc gv t1 n1 (t2++[D]) n2=SJ {wL w gv t1 n1 t2 n2 with r4:=[.list (t2.map Dg.row++[D.row])]} loc V00 from congrArg (λl=>SJ {wL w gv t1 n1 t2 n2 with r4:=[.list l]} loc V00) WS]
 kernel_rfl
theorem IB:(SL w loc gv t1 n1 t2 n2).set 25 (((SL w loc gv t1 n1 t2 n2).get 25).set 0 (.list (n2.map aT++[aT p])))=SL w loc gv t1 n1 t2 (n2++[p]):=by
 rw[show SL w loc gv t1 n1 t2 (n2++[p])=SJ {wL w gv t1 n1 t2 n2 with r5:=[.list (n2.map aT++[aT p])]} loc V00 from congrArg (λl=>SJ {wL w gv t1 n1 t2 n2 with r5:=[.list l]} loc V00) WS]
 kernel_rfl
theorem O5{a:A}{K:List A→AS→Prop}:eX [.a a] S K=K [a] S:=rfl
theorem KM{a b:A}{K:List A→AS→Prop}:eX [.a a,.a b] S K=K [a,b] S:=rfl
theorem N5{a b c:A}{K:List A→AS→Prop}:eX [.a a,.a b,.a c] S K=K [a,b,c] S:=rfl
theorem NH(hl:t2.length<900000)(h:K (SL w loc gv t1 n1 (t2++[D]) n2)):bK T .list (.a (.g 24 0)) "append" [.a D.row] (SL w loc gv t1 n1 t2 n2) λ_ S=>K S:=
 nF (KK:=λ_ S=>K S) (v:=D.row) (l:=24) (i:=0) (xs:=t2.map Dg.row) rfl (by kernel_rfl) (by rw[WO];exact hl) ((congrArg K Mw).mpr h)
theorem qO(hl:n2.length<900000)(h:K (SL w loc gv t1 n1 t2 (n2++[p]))):CC T (.g 25 0) [.a (.int 12),.a (.int p)] (SL w loc gv t1 n1 t2 n2) K:=
 aj (a:=MR.list) (by kernel_rfl) (KM.mpr (aA rfl (nF (KK:=λ_ S=>K S) (v:=aT p) (l:=25) (i:=0) (xs:=n2.map aT) rfl (by kernel_rfl) (by rw[WO];exact hl) ((congrArg K IB).mpr h))))
theorem LZ{k:Int}(hl:t2.length<900000)(h:K (SL w loc gv t1 n1 (t2++[⟨k,p,none⟩]) n2)):CC T (.g 24 0) [.a (.int k),.a (.int p),.a (dq none)] (SL w loc gv t1 n1 t2 n2) K:=
 aj (a:=MR.list) (by kernel_rfl) (N5.mpr (aA rfl (NH (D:=⟨k,p,none⟩) hl h)))
theorem wk{P Q:AS→Prop}{b:Bool}(hu:w.P.w[u.i]?=some u)(hm:u.mode=cond b 1 0)(h1:b=true→P (SL w loc gv t1 n1 t2 n2))(h2:b=false→Q (SL w loc gv t1 n1 t2 n2)):pQ (.g 3 u.i) (SL w loc gv t1 n1 t2 n2) P Q:=e6 hu (v:=.int u.mode) (by kernel_rfl) (by rw[hm];exact LW.mpr (aX h1 h2))
theorem Kh{Kb:Bool→Prop}:lF S (.a (.str u.word)) (.a (tx "super")) Kb=Kb u.sup:=by
 obtain⟨pl,fm,s,nm,mode,role,un⟩:=u
 exact@Bool.casesOn (λs=>lF S (.a (.str (Us.word ⟨pl,fm,s,nm,mode,role,un⟩))) (.a (tx "super")) Kb=Kb s) s (by kernel_rfl) (by kernel_rfl)
theorem UM(hu:w.P.w[u.i]?=some u){b:Bool}(hm:u.mode=cond b 1 0)(ok:jD w u q)(hE:(w.bs&&w.ev u)=false)(hM:(w.P.M u.i).length<900000)(hl:t2.length<800000)(hn:n2.length<800000)(h:KK (.a .none) (SL w loc gv t1 n1 (t2++cD w u) (n2++cN w u))):SY (iz w) (.g 3 u.i) (.g 24 0) (.g 25 0) KK u.pos q (SL w ([]::loc) gv t1 n1 t2 n2):=by
 have hD:cD w u=cond (w.fld u) (cond (w.q1 u&&(decide (u.mode=0)&&(w.lk u.nm&&w.uns u u.nm))) [⟨2565,4*u.fin+3,some u.nm⟩] []) []:=by unfold cD;rw[hE];rfl
 have hN:cN w u=cond (w.fld u) (cond (decide (u.role=2)&& !w.arr u.nm) [u.pos] []++cond (w.q1 u&&(!decide (u.mode=0)&&w.lk u.nm)) [u.pos] []) [u.pos]:=by unfold cN;rw[hE];rfl
 have hm0:decide (u.mode=0)= !b:=by rw[hm];cases b <;> rfl
 rw[hD,hN,hm0] at h
 have hl9:t2.length<900000:=Wi hl (by decide)
 have no:w.fld u=false→CC (nT (iz w)) (.g 25 0) [.a (.int 12),.a (.int u.pos)] (SL w ([]::loc) gv t1 n1 t2 n2) λS=>ret (.a .none) S KK:=λe=>by
  rw[e] at h
  have h:KK (.a .none) (SL w loc gv t1 n1 (t2++[]) (n2++[u.pos])):=h
  rw[WQ] at h
  exact qO (Wi hn (by decide)) h
 unfold SY
 refine e6 hu (v:=.str u.word) (by kernel_rfl) ?_
 refine Kh.mpr (aX (λqs=>no (by rw[ok.fld,qs];rfl)) λqs=>dK (λq1=>?_) λq1=>no (by rw[ok.fld,q1,Bool.and_false]))
 have ef:w.fld u=true:=by rw[ok.fld,qs,q1];rfl
 have ea:=ok.arr ef
 have el:=ok.lk ef
 rw[ef,ea] at h
 have h:KK (.a .none) (SL w loc gv t1 n1 (t2++cond (w.q1 u&&(!b&&(w.lk u.nm&&w.uns u u.nm))) [⟨2565,4*u.fin+3,some u.nm⟩] []) (n2++(cond (decide (u.role=2)&& !q.2.1) [u.pos] []++cond (w.q1 u&&(!!b&&w.lk u.nm)) [u.pos] []))):=h
 rw[Bool.not_not,← WR] at h
 have el1:(w.q1 u&&(!b&&(w.lk u.nm&&w.uns u u.nm)))=((q.2.2&& !decide (u.role=1))&&(!b&&w.uns u u.nm)):=by rw[← el];cases w.q1 u <;> cases w.lk u.nm <;> cases b <;> rfl
 have el2:(w.q1 u&&(b&&w.lk u.nm))=((q.2.2&& !decide (u.role=1))&&b):=by rw[← el];cases w.q1 u <;> cases w.lk u.nm <;> cases b <;> rfl
 rw[el1,el2] at h
 have s4:∀n3,n3.length<900000→KK (.a .none) (SL w loc gv t1 n1 (t2++cond ((q.2.2&& !decide (u.role=1))&&(!b&&w.uns u u.nm)) [⟨2565,4*u.fin+3,some u.nm⟩] []) (n3++cond ((q.2.2&& !decide (u.role=1))&&b) [u.pos] []))→
   cond q.2.2 (ao (.a (.g 3 u.i)) (.a (tx "role")) (SL w ([]::loc) gv t1 n1 t2 n3) λx S=>lF S x (.a (.int 1)) λc=>aw (!c) (pQ (.g 3 u.i) S (λS=>CC (nT (iz w)) (.g 25 0) [.a (.int 12),.a (.int u.pos)] S λS=>ret (.a .none) S KK) λS=>ao (.a (.g 3 u.i)) (.a (tx "name")) S λx S=>iz w [.a (.g 3 u.i),x] S λz S=>sX z S (opt (dT S (.a (.g 24 0)) "append") λmm=>ao (.a (.g 3 u.i)) (.a (tx "holder")) S λx S=>cC x "at" S λy S=>ao (.a (.g 3 u.i)) (.a (tx "name")) S λz S=>eX [z] S λzs S=>ak zs (eX [.a (.int 2565),y,.a (.tup zs)] S λxs S=>ak xs (bK (nT (iz w)) mm (.a (.g 24 0)) "append" [.a (.tup xs)] S λ_ S=>ret (.a .none) S KK))) (ret (.a .none) S KK)) (ret (.a .none) S KK)) (ret (.a .none) (SL w ([]::loc) gv t1 n1 t2 n3) KK):=λn3 hn3 h=>by
  have nil:∀{c:Bool},c=false→(q.2.2&& !decide (u.role=1))=c→KK (.a .none) (SL w loc gv t1 n1 t2 n3):=λ{c} ec e=>by
   rw[e,ec] at h
   have h:KK (.a .none) (SL w loc gv t1 n1 (t2++[]) (n3++[])):=h
   rw[WQ,WQ] at h
   exact h
  refine dK (λq2=>?_) λq2=>nil rfl (by rw[q2];rfl)
  obtain⟨hf,hnm,s,hs,es⟩:=ok.nm q2
  refine e6 hu (v:=.int u.role) (by kernel_rfl) (mM.mpr (aX (λqr=>?_) λqr=>nil rfl (by rw[qr,Bool.and_false])))
  rw[q2,qr] at h
  refine wk hu hm (λeb=>?_) λeb=>?_
  ·rw[eb] at h
   have h:KK (.a .none) (SL w loc gv t1 n1 (t2++[]) (n3++[u.pos])):=h
   rw[WQ] at h
   exact qO hn3 h
  ·rw[eb] at h
   have h:KK (.a .none) (SL w loc gv t1 n1 (t2++cond (w.uns u u.nm) [⟨2565,4*u.fin+3,some u.nm⟩] []) (n3++[])):=h
   rw[WQ] at h
   refine e6 hu (v:=.str u.name) (by kernel_rfl) ⟨gv,t1,n1,t2,n3,u,s,by rw[hnm,es],hs,rfl,hu,hM,?_⟩
   show aw (w.uns u (Str.ofString s)) _ _
   rw[es] at h
   refine aX (λqu=>?_) λqu=>?_
   ·rw[qu] at h
    refine aj (a:=MR.list) (by kernel_rfl) (e6 hu (v:=u.hold) (by kernel_rfl) ((zU hf).mpr (e6 hu (v:=.str u.name) (by kernel_rfl) ?_)))
    rw[hnm,es]
    refine O5.mpr (aA rfl (N5.mpr (aA rfl ?_)))
    exact NH (K:=λS=>ret (.a .none) S KK) (D:=⟨2565,4*u.fin+3,some (Str.ofString s)⟩) hl9 h
   ·rw[qu] at h
    have h:KK (.a .none) (SL w loc gv t1 n1 (t2++[]) n3):=h
    rw[WQ] at h
    exact h
 refine e6 hu (v:=.int u.role) (by kernel_rfl) (mM.mpr (aX (λqr=>dK (λqa=>?_) λqa=>?_) λqr=>?_))
 ·rw[qa,qr] at h
  have h:KK (.a .none) (SL w loc gv t1 n1 _ ((n2++[])++_)):=h
  rw[WQ] at h
  exact s4 n2 (Wi hn (by decide)) h
 ·rw[qa,qr] at h
  exact qO (Wi hn (by decide)) (s4 (n2++[u.pos]) (by rw[WN];exact Wi (Nat.add_lt_add_right hn 1) (by decide)) h)
 ·rw[qr] at h
  have h:KK (.a .none) (SL w loc gv t1 n1 _ ((n2++[])++_)):=h
  rw[WQ] at h
  exact s4 n2 (Wi hn (by decide)) h
end
theorem qR{α β γ:Type}{f:α→γ}{g:β→γ}{a:α}{b:β}:∀{l:List α} {l':List β},l.map f=l'.map g→(a,b)∈l.zip l'→f a=g b
 |[],_,_,h=>(WJ h).elim
 |_::_,[],_,h=>(WJ h).elim
 |x::r,y::r',e,h=>(WC h).elim (λh=>by cases h;exact(List.cons.inj e).1) λh=>qR (List.cons.inj e).2 h
theorem Hx{n:Nat}:(n:Int).fmod 2=((n % 2:Nat):Int):=(Int.fmod_eq_emod_of_nonneg _ (by decide)).trans rfl
theorem QK(h:HD w xs S K):ae (nT (iz w)) 1617 xs S K:=by
 obtain⟨gv,t1,n1,t2,n2,u,near,q,rfl,e,hu,⟨b,hb⟩,hz,ok,hM,hl,hn,h⟩:=h
 refine bx (fi:=Fa 1617) (by kernel_rfl) rfl (by kernel_rfl) (env:=SI (.g 3 u.i) near (.g 24 0) (.g 25 0) w.bs) (by kernel_rfl) (ag (j:=2) ((WA (UX (iz w) (.g 3 u.i) near (.g 24 0) (.g 25 0) (push S) _ _) w.bs (bb w.bs)).mpr ?_))
 rw[Fu e]
 have nx:(w.bs&&w.ev u)=false→rest (nT (iz w)) 1617 2 (wB (.g 3 u.i) near (.g 24 0) (.g 25 0) w.bs (.a (.int u.pos))) (SL w ([]::S.loc) gv t1 n1 t2 n2) K:=λhE=>(qR (RH (iz w) (.g 3 u.i) (.g 24 0) (.g 25 0) (SL w ([]::S.loc) gv t1 n1 t2 n2) K w.bs u.pos) hz).mpr (UM hu hb ok hE hM hl hn h)
 refine e6 hu (v:=u.who) (by kernel_rfl) (oA.mpr (dK (λq1=>?_) λq1=>nx (by rw[q1];rfl)))
 refine e6 hu (v:=.g 4 u.i) (by kernel_rfl) ?_
 have sq:bU (SL w ([]::S.loc) gv t1 n1 t2 n2) (.a (.g 4 u.i))=some ((w.P.M u.i).map λs=>.int (s:Nat)):=by
  show alt (uI _) _ (alt (uT _) _ (ba (au _ _)))=_
  rw[BM hu];rfl
 refine th (show uI (.a (.g 4 u.i))=none from rfl) (aj sq ?_)
 refine pZ (f:=λs:Nat=>.int (s:Nat)) (g:=λs:Nat=>.int (s:Nat)) (c:=λm=>Nat.beq (m % 2) 0) sq (λy P Q=>?_) (λy KK=>Sh ..) hM ?_
 ·refine(OV ..).trans ?_
  rw[Hx,CK]
 ·show aw (decide _) _ _
  rw[qI]
  show aw (w.ev u) _ _
  refine aX (λq2=>?_) λq2=>nx (by rw[q2,Bool.and_false])
  have e1:cD w u=cond (decide (u.mode=0)) [⟨17009,u.pos,none⟩] []∧cN w u=cond (decide (u.mode=0)) [] [u.pos]:=by unfold cD cN;rw[q1,q2];exact⟨rfl,rfl⟩
  rw[e1.1,e1.2,show decide (u.mode=0)= !b by rw[hb];cases b <;> rfl] at h
  refine wk hu hb (λeb=>?_) λeb=>?_
  ·rw[eb] at h
   have h:K (.a .none) (SL w S.loc gv t1 n1 (t2++[]) (n2++[u.pos])):=h
   rw[WQ] at h
   exact qO (K:=λS=>ret (.a .none) S K) (Wi hn (by decide)) h
  ·rw[eb] at h
   have h:K (.a .none) (SL w S.loc gv t1 n1 (t2++[⟨17009,u.pos,none⟩]) (n2++[])):=h
   rw[WQ] at h
   exact LZ (K:=λS=>ret (.a .none) S K) (Wi hl (by decide)) h
def Yv(C1 C2 C3 C4:ay):List (Nat×ay):=[(1612,C1),(1584,C2),(1617,C3),(983,C4),(172,ae {} 172)]
def TL(L:List A)(C1 C2 C3 C4:ay):bA:=TW L (Y1 L (Yd++Yv C1 C2 C3 C4))
def RK:A:=.tup [.g 22 0,.g 23 0]
def Sy:A:=.tup [.g 24 0,.g 25 0]
abbrev yi:=Option (A×Option A)
def wP(o:A):List yi:=[none,some (o,none)]
def fE(o x:A):List yi:=[none,some (o,none),some (o,some x)]
def VZ(sh:yi):List (Str×X):=alt sh (λp=>([("one",.a p.1)]:List (Str×X))++alt p.2 (λx=>([("name",.a x)]:List (Str×X))) []) []
section
variable(L L0:List A)(C1 C2 C3 C4:ay)(loc:List (List Ce))(P:SP)(C:CP)(gl:Rg 5)(S:AS)(K:KN)(R:KX)(d:Dr)(bo lap N:Nat)(rs ps:List A)(m:Nat×Int)(n:Int)(q0 k0 v o x:A)
def OE(ext:Bool)(kk:Option A):List (Str×X):=e32 L0 d ps rs bo lap N m n ext (some q0) kk
def e36(ext:Bool)(kk:Option A)(sh:yi):List (Str×X):=OE L0 d bo lap N rs ps m n q0 ext kk++(([("early",.a RK),("later",.a Sy)]:List (Str×X))++VZ sh)
def OQ:A:=.bool (decide ((d.way:Int)>2))
def Vf:CP:={C with r2:=[],r3:=[],r4:=[],r5:=[]}
def VE:CP:={C with r2:=[.list []],r3:=[.list []],r4:=[.list []],r5:=[.list []]}
theorem JD:BB.map (λext=>[none,some k0].map λkk=>a9 (TL L C1 C2 C3 C4) 1622 34 2 (OE L0 d bo lap N rs ps m n q0 ext kk) (SC loc P (Vf C) gl) K R)=BB.map λext=>[none,some k0].map λkk=>K (e36 L0 d bo lap N rs ps m n q0 ext kk none) (SC loc P (VE C) gl):=by kernel_rfl
theorem MH:BB.map (λext=>[none,some k0].map λkk=>a9 (TL L C1 C2 C3 C4) 1622 36 1 (e36 L0 d bo lap N rs ps m n q0 ext kk none) (SC loc P C gl) K R)=BB.map λext=>[none,some k0].map λkk=>ak ((fU P.w).take bo) (∃n',fV (TL L C1 C2 C3 C4) 1622 36 K R (.a (.fl ((fU P.w).take bo))) n' 0 (e36 L0 d bo lap N rs ps m n q0 ext kk none) (SC loc P C gl)):=by kernel_rfl
theorem Gf:BB.map (λext=>[none,some k0].map λkk=>(wP o).map λsh=>dw (TL L C1 C2 C3 C4) 1622 36 K R v (e36 L0 d bo lap N rs ps m n q0 ext kk sh) S)=BB.map λext=>[none,some k0].map λkk=>(wP o).map λsh=>C1 [.a v,.a (OQ d),.a (.g 22 0),.a (.g 23 0)] S λ_ S=>K (e36 L0 d bo lap N rs ps m n q0 ext kk (some (v,none))) S:=by kernel_rfl
theorem ID:BB.map (λext=>[none,some k0].map λkk=>(wP o).map λsh=>a9 (TL L C1 C2 C3 C4) 1622 37 1 (e36 L0 d bo lap N rs ps m n q0 ext kk sh) (SC loc P C gl) K R)=BB.map λext=>[none,some k0].map λkk=>(wP o).map λsh=>ak ((fU P.w).drop bo) (∃n',fV (TL L C1 C2 C3 C4) 1622 37 K R (.a (.fl ((fU P.w).drop bo))) n' 0 (e36 L0 d bo lap N rs ps m n q0 ext kk sh) (SC loc P C gl)):=by kernel_rfl
def DW(nm:String)(S:AS)(K:AS→Prop):Prop:=C2 [.a v,.a (tx nm)] S λx S=>ao (.a v) (.a (tx "flow")) S λf S=>eX [f,.a (tx nm)] S λk S=>ak k (bv (.a (.g 20 0)) (.a (.tup k)) x S K)
def QM(ext:Bool)(S:AS)(K:AS→Prop):Prop:=opt (dT S (.l 0 (cond ext 12 11)) "get") λm1=>ao (.a v) (.a (tx "name")) S λx S=>opt (dT S (.l 0 (cond ext 11 10)) "get") λm2=>ao (.a v) (.a (tx "name")) S λy S=>bK (TL L C1 C2 C3 C4) m2 (.l 0 (cond ext 11 10)) "get" [y] S λz S=>bK (TL L C1 C2 C3 C4) m1 (.l 0 (cond ext 12 11)) "get" [x,z] S λnear S=>C3 [.a v,near,.a (OQ d),.a (.g 24 0),.a (.g 25 0)] S λ_ S=>K S
theorem DK:BB.map (λext=>[none,some k0].map λkk=>(fE o x).map λsh=>dw (TL L C1 C2 C3 C4) 1622 37 K R v (e36 L0 d bo lap N rs ps m n q0 ext kk sh) S)=BB.map λext=>[none,some k0].map λkk=>(fE o x).map λsh=>
 DW C2 v "x" S λS=>DW C2 v "y" S λS=>DW C2 v "z" S λS=>QM L C1 C2 C3 C4 d v ext S λS=>K (e36 L0 d bo lap N rs ps m n q0 ext kk (some (v,some (tx "z")))) S:=by kernel_rfl
end
def fJ:List Str:=Str.ofString ""::aR
def D0(nm:String)(c:Bool)(v:A):List (A×A):=cond c [(tx nm,v)] []
def RT(a b c:Bool)(x y z:A):List (A×A):=D0 "x" a x++(D0 "y" b y++D0 "z" c z)
def FF(a b c:Bool)(x y z:A)(nm:Str):Option A:=cond (seq nm "x") (cond a (some x) none) (cond (seq nm "y") (cond b (some y) none) (cond (seq nm "z") (cond c (some z) none) none))
def Nz(ext:Bool)(p:Nat):List (A×A):=cond ext (EK p) []
def zH(p:Nat)(nm:Str):Option A:=cond (seq nm "k") (some (gw "field" false false)) (cond (seq nm "x") (cond (Nat.beq p 0) none (some (gw (cond (Nat.beq p 1) "field" "method") false false))) none)
theorem I7(x y z:A):fJ.map (λnm=>BB.map λa=>BB.map λb=>BB.map λc=>bH (.str nm) (RT a b c x y z))=fJ.map λnm=>BB.map λa=>BB.map λb=>BB.map λc=>some (FF a b c x y z nm):=by kernel_rfl
theorem Kg:fJ.map (λnm=>(List.range 3).map λp=>bH (.str nm) (EK p))=fJ.map λnm=>(List.range 3).map λp=>some (zH p nm):=by kernel_rfl
def ai.near(w:ai)(nm:Str):A:=(FF (hv w.d.a) (hv w.d.b) (hv w.d.c) (aZ w.d.a) (aZ w.d.b) (aZ w.d.c) nm).getD ((cond w.ext (zH w.d.plain nm) none).getD .none)
def ai.nq(w:ai)(nm:Str):Bool×Bool×Bool:=(cU (w.fM nm),w.arr nm,decide (w.own nm=1)&&w.lk nm)
def Vz(i p:Nat)(ext:Bool):Nat:=cond (Nat.beq i 7) (cond ext (cond (Nat.beq p 1) 1 (cond (Nat.beq p 2) 4 0)) 0) (cond (Nat.ble i 1) 2 (cond (Nat.ble i 7) 1 (cond (Nat.beq i 8) 3 (cond (Nat.beq i 9) 4 5))))
def Da(i p:Nat)(ext:Bool):A:=(cond (hv i) (some (aZ i)) none).getD ((cond ext (cond (Nat.beq p 0) none (some (gw (cond (Nat.beq p 1) "field" "method") false false))) none).getD .none)
def mX(i p:Nat)(ext:Bool):Int:=cond (decide (mS i=0)) (cond ext (cond (Nat.beq p 0) 0 (cond (Nat.beq p 1) 1 4)) 0) (mS i)
def E1(i p:Nat)(ext:Bool):Bool×Bool×Bool:=(cU (mX i p ext),Nat.beq i 8,decide (cond (cU (mS i)) (mS i) 0=1)&&Nat.ble i 1)
theorem Tq:(List.range 11).map (λi=>(List.range 3).map λp=>BB.map λext=>(d2.zip dY)[Vz i p ext]?)=(List.range 11).map λi=>(List.range 3).map λp=>BB.map λext=>some (Da i p ext,E1 i p ext):=by kernel_rfl
variable{nm:Str}{u:Us}
theorem nB{i p:Nat}{ext:Bool}(hi:i<11)(hp:p<3):(Da i p ext,E1 i p ext)∈d2.zip dY:=List.mem_of_getElem? (cr (WA Tq i (WE hi)) (WE hp) (bb ext))
theorem Di{b:Bool}:cond b true false=b:=by cases b <;> rfl
theorem zS(hd:w.d.Ok)(h:nm∈aR):(w.near nm,w.nq nm)∈d2.zip dY:=by
 rcases WC h with rfl |h
 ·have e1:w.near "x"=Da w.d.a w.d.plain w.ext:=by unfold ai.near Da;rfl
  have e2:w.nq "x"=E1 w.d.a w.d.plain w.ext:=by
   refine Prod.ext (congrArg cU ?_) (Prod.ext ?_ rfl)
   ·show cond (decide (w.mC "x"=0)) (cond w.ext (mB w.d.plain "x") 0) (w.mC "x")=_
    rfl
   ·show cond (Nat.beq w.d.a 8) true false=_
    exact Di
  rw[e1,e2]
  exact nB hd.a hd.plain
 rcases WC h with rfl |h
 ·have e1:w.near "y"=Da w.d.b 0 w.ext:=by
   show(cond (hv w.d.b) (some (aZ w.d.b)) none).getD ((cond w.ext none none).getD .none)=_
   cases w.ext <;> rfl
  have e2:w.nq "y"=E1 w.d.b 0 w.ext:=by
   refine Prod.ext (congrArg cU ?_) (Prod.ext ?_ rfl)
   ·rfl
   ·show cond (Nat.beq w.d.b 8) true false=_
    exact Di
  rw[e1,e2]
  exact nB hd.b (by decide)
 rcases WC h with rfl |h
 ·have e1:w.near "z"=Da w.d.c 0 w.ext:=by
   show(cond (hv w.d.c) (some (aZ w.d.c)) none).getD ((cond w.ext none none).getD .none)=_
   cases w.ext <;> rfl
  have e2:w.nq "z"=E1 w.d.c 0 w.ext:=by
   refine Prod.ext (congrArg cU ?_) (Prod.ext ?_ rfl)
   ·rfl
   ·rfl
  rw[e1,e2]
  exact nB hd.c (by decide)
 rcases WC h with rfl |h
 ·have e1:w.near "k"=Da 7 1 w.ext:=by
   show((cond w.ext (some (gw "field" false false)) none).getD .none)=_
   cases w.ext <;> rfl
  have e2:w.nq "k"=E1 7 1 w.ext:=by
   refine Prod.ext (congrArg cU ?_) (Prod.ext ?_ ?_)
   ·rfl
   ·rfl
   ·rfl
  rw[e1,e2]
  exact nB (by decide) (by decide)
 cases WD h
 have e1:w.near "q"=Da 7 0 w.ext:=by
  show((cond w.ext (none:Option A) none).getD .none)=_
  cases w.ext <;> rfl
 have e2:w.nq "q"=E1 7 0 w.ext:=by
  refine Prod.ext (congrArg cU ?_) (Prod.ext ?_ ?_)
  ·rfl
  ·rfl
  ·rfl
 rw[e1,e2]
 exact nB (by decide) (by decide)
abbrev Gk:=Int×Str
abbrev Gl:=List (Gk×Bool)
def sT(k:Gk):A:=.tup [.int k.1,.str k.2]
def tG(k:Gk):PyData:=.tuple [.int k.1,.str k.2]
def il(g:Gl):List (A×A):=g.map λp=>(sT p.1,.bool p.2)
def fF(k:Gk)(g:Gl):Option Bool:=@List.rec (Gk×Bool) (λ_=>Option Bool) none (λp _ ih=>cond (decide (p.1=k)) (some p.2) ih) g
def jT(k:Gk)(v:Bool)(g:Gl):Gl:=@List.rec (Gk×Bool) (λ_=>Gl) [(k,v)] (λp r ih=>cond (decide (p.1=k)) ((p.1,v)::r) (p::ih)) g
variable{k k':Gk}{g:Gl}{v:Bool}
theorem BS:am (tG k) (sT k')=decide (k'=k):=by
 show(decide (k'.1=k.1)&&(decide (k'.2=k.2)&&true))=_
 rw[Bool.and_true,← Bool.decide_and]
 exact decide_eq_decide.mpr ⟨λh=>Prod.ext h.1 h.2,λh=>h▸⟨rfl,rfl⟩⟩
theorem Jr:cH (tG k) (il g)=(fF k g).map A.bool:=@List.rec (Gk×Bool) (λg=>cH (tG k) (il g)=(fF k g).map A.bool) rfl (λp r ih=>by
 show cond (am (tG k) (sT p.1)) _ (cH (tG k) (il r))=Option.map A.bool (cond _ _ (fF k r))
 rw[BS,ih]
 cases decide (p.1=k) <;> rfl) g
theorem KU:bV (tG k) (sT k) (.bool v) (il g)=il (jT k v g):=@List.rec (Gk×Bool) (λg=>bV (tG k) (sT k) (.bool v) (il g)=il (jT k v g)) rfl (λp r ih=>by
 show cond (am (tG k) (sT p.1)) ((sT p.1,A.bool v)::il r) ((sT p.1,A.bool p.2)::bV (tG k) (sT k) (.bool v) (il r))=il (cond _ ((p.1,v)::r) (p::jT k v r))
 rw[BS,ih]
 cases decide (p.1=k) <;> rfl) g
theorem AA:fF k (jT k' v g)=cond (decide (k=k')) (some v) (fF k g):=@List.rec (Gk×Bool) (λg=>fF k (jT k' v g)=cond (decide (k=k')) (some v) (fF k g)) (by
 show cond (decide (k'=k)) _ none=_
 rw[show decide (k'=k)=decide (k=k') from decide_eq_decide.mpr ⟨Eq.symm,Eq.symm⟩];rfl) (λp r ih=>by
 show fF k (cond (decide (p.1=k')) ((p.1,v)::r) (p::jT k' v r))=cond (decide (k=k')) (some v) (cond (decide (p.1=k)) (some p.2) (fF k r))
 by_cases e:p.1=k'
 ·rw[decide_eq_true e]
  show cond (decide (p.1=k)) (some v) (fF k r)=_
  by_cases e2:p.1=k
  ·rw[decide_eq_true e2,decide_eq_true (e2.symm.trans e)];rfl
  ·rw[decide_eq_false e2,decide_eq_false λq=>e2 (e.trans q.symm)];rfl
 ·rw[decide_eq_false e]
  show cond (decide (p.1=k)) (some p.2) (fF k (jT k' v r))=_
  rw[ih]
  by_cases e2:p.1=k
  ·rw[decide_eq_true e2,decide_eq_false λq=>e (e2.trans q)];rfl
  ·rw[decide_eq_false e2];rfl) g
theorem fh:(jT k v g).length≤g.length+1:=@List.rec (Gk×Bool) (λg=>(jT k v g).length≤g.length+1) (Nat.le_refl _) (λp r ih=>by
 show(cond _ _ _:Gl).length≤r.length+1+1
 cases decide (p.1=k) with
 |true=>exact Nat.le_succ _
 |false=>exact Ww ih) g
def ai.fk(w:ai)(u:Us)(s:String):Gk:=((w.P.F u.i:Nat),Str.ofString s)
def ai.put1(w:ai)(u:Us)(s:String)(g:Gl):Gl:=jT (w.fk u s) (w.uns u (Str.ofString s)) g
def ai.put3(w:ai)(u:Us)(g:Gl):Gl:=w.put1 u "z" (w.put1 u "y" (w.put1 u "x" g))
def r8(w:ai)(done:List Us)(g:Gl):Prop:=∀u∈done,∀s∈gD,fF (w.fk u s) g=some (w.uns u (Str.ofString s))
variable{a:Us}{s:String}{done:List Us}
theorem oI{s':String}:fF (w.fk a s) (w.put1 u s' g)=cond (decide (w.fk a s=w.fk u s')) (some (w.uns u (Str.ofString s'))) (fF (w.fk a s) g):=AA
theorem Gj{s':String}(h:w.P.F a.i≠w.P.F u.i):decide (w.fk a s=w.fk u s')=false:=decide_eq_false λq=>h (Int.ofNat.inj (congrArg Prod.fst q))
theorem ES{s':String}(h:Str.ofString s≠Str.ofString s'):decide (w.fk a s=w.fk u s')=false:=decide_eq_false λq=>h (congrArg Prod.snd q)
theorem GY(h:w.P.F a.i=w.P.F u.i):decide (w.fk a s=w.fk u s)=true:=decide_eq_true (Prod.ext (congrArg Int.ofNat h) rfl)
theorem DA(hs:s∈gD):fF (w.fk a s) (w.put3 u g)=if w.P.F a.i=w.P.F u.i then some (w.uns u (Str.ofString s)) else fF (w.fk a s) g:=by
 unfold ai.put3
 rw[oI,oI,oI]
 by_cases e:w.P.F a.i=w.P.F u.i
 ·rw[if_pos e]
  rcases WC hs with rfl |hs
  ·rw[ES (s':="z") (by decide),ES (s':="y") (by decide),GY e];rfl
  rcases WC hs with rfl |hs
  ·rw[ES (s':="z") (by decide),GY e];rfl
  cases WD hs
  rw[GY e];rfl
 ·rw[if_neg e,Gj e,Gj e,Gj e];rfl
theorem vC(h:r8 w done g)(sm:∀a∈done,w.P.F a.i=w.P.F u.i→∀s,w.uns a s=w.uns u s):r8 w (done++[u]) (w.put3 u g):=λa ha s hs=>by
 rw[DA hs]
 rcases WF ha with ha |ha
 ·by_cases e:w.P.F a.i=w.P.F u.i
  ·rw[if_pos e,sm a ha e]
  ·rw[if_neg e];exact h a ha s hs
 ·cases WD ha
  exact if_pos rfl
theorem DX:(w.put3 u g).length≤g.length+3:=V9 fh (Ww (V9 fh (Ww fh)))
theorem Ay(uo:u.Ok)(hd:w.d.Ok):∃q,(w.near u.name,q)∈d2.zip dY∧jD w u q:=by
 have no:w.near ""=.none:=by
  show((cond w.ext (none:Option A) none).getD .none)=_
  cases w.ext <;> rfl
 have go:u.name=u.nm→u.fm≠.bare→(lU u.fm true true false false:Bool)=true→∃q,(w.near u.name,q)∈d2.zip dY∧jD w u q:=λe hf ht=>⟨w.nq u.nm,(congrArg (λn=>(w.near n,w.nq u.nm)∈d2.zip dY) e).mpr (zS hd uo.nm),⟨by
   unfold ai.fld;rw[ht];rfl,λ_=>rfl,λ_=>by
   show((decide (w.own u.nm=1)&& !decide (u.role=1))&&w.lk u.nm)=((decide (w.own u.nm=1)&&w.lk u.nm)&& !decide (u.role=1))
   rw[Bool.and_assoc,Bool.and_assoc,Bool.and_comm (w.lk u.nm)],λh=>by
   have h:(decide (w.own u.nm=1)&&w.lk u.nm)=true:=h
   obtain⟨s,hs,e1,_⟩:=B7 hd uo.nm (of_decide_eq_true (WB h).1)
   exact⟨hf,e,s,hs,e1⟩⟩⟩
 have st:u.name=Str.ofString ""→(lU u.fm true true false false:Bool)=false→∃q,(w.near u.name,q)∈d2.zip dY∧jD w u q:=λe ht=>by
  have hfl:w.fld u=false:=by unfold ai.fld;rw[ht];rfl
  exact⟨(false,false,false),by rw[e,no];exact .head _,⟨by rw[hfl,Bool.and_false],λh=>(nomatch hfl.symm.trans h),λh=>(nomatch hfl.symm.trans h),λh=>nomatch h⟩⟩
 obtain⟨pl,fm,s,nm,mode,role,un⟩:=u
 cases fm with
 |mem=>exact go rfl (λh=>nomatch h) rfl
 |text=>exact go rfl (λh=>nomatch h) rfl
 |idx=>exact st rfl rfl
 |bare=>exact st rfl rfl
section
variable(w:ai)(T:bA)(rs:List A)(node x y z:A)(p:Nat)(own:List (A×A))(pr:List A)(gv:List (A×A))(t1 t2:List Dg)(n1 n2:List Int)(KK:KX)(K:AS→Prop)(loc:List (List Ce))(k:Gk)(b:Bool)
theorem R8:bv (.a (.g 20 0)) (.a (sT k)) (.a (.bool b)) (SL w loc gv t1 n1 t2 n2) K=ak (bV (tG k) (sT k) (.bool b) gv) (K (SL w loc (bV (tG k) (sT k) (.bool b) gv) t1 n1 t2 n2)):=by kernel_rfl
theorem SA:BB.map (λext=>dT (SL w (cX rs node ext p own pr) gv t1 n1 t2 n2) (.l 0 (cond ext 12 11)) "get")=BB.map λ_=>some MR.dict:=by kernel_rfl
theorem PZ:BB.map (λext=>dT (SL w (cX rs node ext p own pr) gv t1 n1 t2 n2) (.l 0 (cond ext 11 10)) "get")=BB.map λ_=>some MR.dict:=by kernel_rfl
theorem RF:BB.map (λext=>bK T .dict (.l 0 (cond ext 12 11)) "get" [.a x,.a z] (SL w (cX rs node ext p own pr) gv t1 n1 t2 n2) KK)=BB.map λext=>opt (bH x own) λo=>KK (.a (o.getD z)) (SL w (cX rs node ext p own pr) gv t1 n1 t2 n2):=by kernel_rfl
theorem QT:BB.map (λext=>bK T .dict (.l 0 (cond ext 11 10)) "get" [.a y] (SL w (cX rs node ext p own pr) gv t1 n1 t2 n2) KK)=BB.map λext=>opt (bH y (Nz ext p)) λo=>KK (.a (o.getD .none)) (SL w (cX rs node ext p own pr) gv t1 n1 t2 n2):=by kernel_rfl
end
def ew:ay:=λxs S K=>∃w,E8 w xs S K
def cF:ay:=λxs S K=>∃w,iz w xs S K
def dz:ay:=λxs S K=>∃w,HD w xs S K
structure Il(w:ai)(E0 U:List Us):Prop where
 d:w.d.Ok
 we:w.P.w=E0++U
 ix:∀u∈E0++U,w.P.w[u.i]?=some u
 ok:∀u∈E0++U,u.Ok
 ml:∀u:Us,(w.P.M u.i).length<900000
 sm:∀a∈U,∀b∈U,w.P.F a.i=w.P.F b.i→∀s,w.uns a s=w.uns b s
 el:E0.length≤1000
 ul:U.length≤1000
def ai.lo(w:ai):List (List Ce):=cX w.rs w.node w.ext w.d.plain (iX w.d) (dj w.d)
section
variable{E0 U r:List Us}{L L0:List A}{C1 C2 C3 C4:ay}{K:AS→Prop}{Kn:KN}{R:KX}{loc:List (List Ce)}{t1 t2:List Dg}{n1 n2:List Int}{gv:List (A×A)}
theorem Dy:decide ((w.d.way:Int)>2)=w.bs:=by
 unfold ai.bs
 cases h:Nat.blt 2 w.d.way with
 |true=>exact decide_eq_true (Int.ofNat_lt.mpr (Wu h))
 |false=>exact decide_eq_false λq=>Bool.false_ne_true (h.symm.trans (Wx (WM q)))
theorem Hq(h:u.Ok):u.name∈fJ:=by
 have h5:u.nm∈fJ:=.tail _ h.nm
 have h0:Str.ofString ""∈fJ:=.head _
 obtain⟨pl,fm,s,nm,mode,role,un⟩:=u
 cases fm with
 |mem=>exact h5
 |text=>exact h5
 |idx=>exact h0
 |bare=>exact h0
theorem w7(hs:s∈gD)(hu:w.P.w[u.i]?=some u)(hM:(w.P.M u.i).length<900000)(hg:g.length<900000)(h:K (SL w loc (il (w.put1 u s g)) t1 n1 t2 n2)):DW cF (.g 3 u.i) s (SL w loc (il g) t1 n1 t2 n2) K:=by
 refine⟨w,il g,t1,n1,t2,n2,u,s,rfl,hs,rfl,hu,hM,e6 hu (v:=.int (w.P.F u.i:Nat)) (by kernel_rfl) (KM.mpr (aA rfl ((R8 w (il g) t1 t2 n1 n2 K loc (w.fk u s) (w.uns u (Str.ofString s))).mpr ?_)))⟩
 rw[KU]
 exact aA (aC (by unfold il;rw[WO];exact V9 fh (V9 hg (by decide)))) h
theorem JA(hd:w.d.Ok)(uo:u.Ok)(hu:w.P.w[u.i]?=some u)(h:C3 [.a (.g 3 u.i),.a (w.near u.name),.a (.bool w.bs),.a (.g 24 0),.a (.g 25 0)] (SL w w.lo gv t1 n1 t2 n2) λ_ S=>K S):QM L C1 C2 C3 C4 w.d (.g 3 u.i) w.ext (SL w w.lo gv t1 n1 t2 n2) K:=by
 have h6:=Hq uo
 have ho:bH (.str u.name) (iX w.d)=some (FF (hv w.d.a) (hv w.d.b) (hv w.d.c) (aZ w.d.a) (aZ w.d.b) (aZ w.d.c) u.name):=cr (cr (I7 (aZ w.d.a) (aZ w.d.b) (aZ w.d.c)) h6 (bb (hv w.d.a))) (bb (hv w.d.b)) (bb (hv w.d.c))
 have hol:bH (.str u.name) (Nz w.ext w.d.plain)=some (cond w.ext (zH w.d.plain u.name) none):=by
  cases w.ext with
  |true=>exact cr Kg h6 (WE hd.plain)
  |false=>rfl
 refine aj (WA (SA w w.rs w.node w.d.plain (iX w.d) (dj w.d) gv t1 t2 n1 n2) w.ext (bb w.ext)) (e6 hu (v:=.str u.name) (by kernel_rfl) (aj (WA (PZ w w.rs w.node w.d.plain (iX w.d) (dj w.d) gv t1 t2 n1 n2) w.ext (bb w.ext)) (e6 hu (v:=.str u.name) (by kernel_rfl) ((WA (QT w _ w.rs w.node (.str u.name) w.d.plain (iX w.d) (dj w.d) gv t1 t2 n1 n2 _) w.ext (bb w.ext)).mpr (aj hol ?_)))))
 refine(WA (RF w _ w.rs w.node (.str u.name) ((cond w.ext (zH w.d.plain u.name) none).getD .none) w.d.plain (iX w.d) (dj w.d) gv t1 t2 n1 n2 _) w.ext (bb w.ext)).mpr (aj ho ?_)
 show C3 [.a (.g 3 u.i),.a (w.near u.name),.a (.bool (decide ((w.d.way:Int)>2))),.a (.g 24 0),.a (.g 25 0)] _ _
 rw[Dy]
 exact h
theorem EJ(p:Il w E0 U)(hin:u∈U)(hg:g.length<800000)(h2:t2.length<800000)(h3:n2.length<800000)(h:K (SL w w.lo (il (w.put3 u g)) t1 n1 (t2++cD w u) (n2++cN w u))):
  DW cF (.g 3 u.i) "x" (SL w w.lo (il g) t1 n1 t2 n2) λS=>DW cF (.g 3 u.i) "y" S λS=>DW cF (.g 3 u.i) "z" S λS=>QM L C1 C2 dz C4 w.d (.g 3 u.i) w.ext S K:=by
 have hin':u∈E0++U:=WG _ hin
 have hu:=p.ix u hin'
 have uo:=p.ok u hin'
 have hM:=p.ml u
 have g1:(w.put1 u "x" g).length≤g.length+1:=fh
 have g2:(w.put1 u "y" (w.put1 u "x" g)).length≤g.length+2:=V9 fh (Ww g1)
 obtain⟨q,hq,nok⟩:=Ay uo p.d
 exact w7 (.head _) hu hM (Wi hg (by decide)) (w7 (.tail _ (.head _)) hu hM (Wg g1 (Wh (Nat.succ_lt_succ hg) (by decide))) (w7 (.tail _ (.tail _ (.head _))) hu hM (Wg g2 (Wh (Nat.succ_lt_succ (Nat.succ_lt_succ hg)) (by decide))) (JA p.d uo hu ⟨w,_,t1,n1,t2,n2,u,_,q,rfl,rfl,hu,uo.md,hq,nok,hM,h2,h3,h⟩)))
end
def DQ(L:List A)(C4:ay):bA:=TL L ew cF dz C4
def ai.e36(w:ai)(L0:List A)(bo lap N:Nat)(m:Nat×Int)(q0:A)(kk:Option A)(sh:yi):En:=Mine.e36 L0 w.d bo lap N w.rs w.ps m w.n q0 w.ext kk sh
inductive J1(w:ai)(L0:List A)(bo lap N:Nat)(m:Nat×Int)(q0:A)(kk:Option A)(E0:List Us)(r:List Us):En→AS→Prop
 |mk (o:A) (sh:yi) (hs:sh∈wP o) (done:List Us) (h:E0=done++r):J1 w L0 bo lap N m q0 kk E0 r (w.e36 L0 bo lap N m q0 kk sh) (SL w w.lo [] (eA w done) (done.flatMap pN) [] [])
inductive J2(w:ai)(L0:List A)(bo lap N:Nat)(m:Nat×Int)(q0:A)(kk:Option A)(t1:List Dg)(n1:List Int)(U:List Us)(r:List Us):En→AS→Prop
 |mk (o x:A) (sh:yi) (hs:sh∈fE o x) (done:List Us) (g:Gl) (h:U=done++r) (hg:r8 w done g) (hl:g.length≤3*done.length):J2 w L0 bo lap N m q0 kk t1 n1 U r (w.e36 L0 bo lap N m q0 kk sh) (SL w w.lo (il g) t1 n1 (lT w done) (lh w done))
section
variable{L0 L:List A}{bo lap N:Nat}{m:Nat×Int}{q0 k0:A}{kk:Option A}{E0 U r:List Us}{env:En}{K:KN}{R KK:KX}{C4:ay}{t1:List Dg}{n1:List Int}
theorem zC(hk:kk∈[none,some k0])(p:Il w E0 U)(h:J1 w L0 bo lap N m q0 kk E0 (u::r) env S)(f:∀env S,J1 w L0 bo lap N m q0 kk E0 r env S→K env S):dw (DQ L C4) 1622 36 K R (.g 3 u.i) env S:=by
 cases h with
 |mk o sh hs done h=>
  have el:=p.el
  rw[h,WN] at el
  have dl:done.length≤1000:=V9 (Wo _ _) el
  have hin:u∈E0++U:=WH _ (h▸WG _ (.head _))
  refine(cr (WA (Gf L L0 ew cF dz C4 _ K R w.d bo lap N w.rs w.ps m w.n q0 k0 (.g 3 u.i) o) w.ext (bb w.ext)) hk hs).mpr ?_
  unfold OQ
  rw[Dy]
  refine⟨w,_,_,_,_,_,u,rfl,rfl,p.ix u hin,(p.ok u hin).md,Wg (bF λu=>hZ) (Wg (Wr 1 dl) (by decide)),Wg (bF λu=>gT) (Wg (Wr 1 dl) (by decide)),?_⟩
  have e1:eA w done++pD w.bs u=eA w (done++[u]):=by rw[vE];exact congrArg (_++·) eH.symm
  have e2:done.flatMap pN++pN u=(done++[u]).flatMap pN:=by rw[List.flatMap_append];exact congrArg (_++·) eH.symm
  rw[e1,e2]
  exact f _ _ (.mk (.g 3 u.i) _ (.tail _ (.head _)) (done++[u]) (h.trans (List.append_cons done u r)))
theorem Ab(hk:kk∈[none,some k0])(p:Il w E0 U)(h:J2 w L0 bo lap N m q0 kk t1 n1 U (u::r) env S)(f:∀env S,J2 w L0 bo lap N m q0 kk t1 n1 U r env S→K env S):dw (DQ L C4) 1622 37 K R (.g 3 u.i) env S:=by
 cases h with
 |mk o x sh hs done g h hg hl=>
  have ul:=p.ul
  have sm:=p.sm
  rw[h] at sm
  rw[h,WN] at ul
  have dl:done.length≤1000:=V9 (Wo _ _) ul
  have hin:u∈U:=h▸WG _ (.head _)
  have gl:g.length≤3000:=V9 hl (Wr 3 dl)
  refine(cr (WA (DK L L0 ew cF dz C4 _ K R w.d bo lap N w.rs w.ps m w.n q0 k0 (.g 3 u.i) o x) w.ext (bb w.ext)) hk hs).mpr ?_
  refine EJ p hin (Wg gl (by decide)) (Wg (bF λu=>pc) (Wg (Wr 1 dl) (by decide))) (Wg (bF λu=>oQ) (Wg (Wr 2 dl) (by decide))) ?_
  have e1:lT w done++cD w u=lT w (done++[u]):=by rw[xT];exact congrArg (_++·) eH.symm
  have e2:lh w done++cN w u=lh w (done++[u]):=by rw[xC];exact congrArg (_++·) eH.symm
  rw[e1,e2]
  exact f _ _ (.mk (.g 3 u.i) (tx "z") _ (.tail _ (.tail _ (.head _))) (done++[u]) (w.put3 u g) (h.trans (List.append_cons done u r)) (vC hg λa ha=>sm a (WH _ ha) u (WG _ (.head _))) (by rw[WN];exact V9 DX (Wl hl 3)))
theorem GW:SC w.lo w.P (GX w.node w.nid w.ext w.d.plain (hF w.d) (dj w.d)) w.gl=SC w.lo w.P (Vf (({w with gv:=[],r2:=[],r3:=[],r4:=[],r5:=[]}:ai).cp V00)) w.gl:=by
 have e:JB (hF w.d) (dj w.d) false false=N7 (hF w.d) (dj w.d):=WQ _
 refine congrArg (λC=>SC w.lo w.P C w.gl) ?_
 show _=(⟨JB (hF w.d) (dj w.d) false false,aP 0 (JB (hF w.d) (dj w.d) false false),[.none,.g 16 0,.g 16 1],w.dd,[],[],[],[],[.none,EX w.node],[],[],[],[]⟩:CP)
 rw[e]
 rfl
theorem ER(hk:kk∈[none,some k0])(p:Il w E0 U)(hb:bo=E0.length)(h:∀o x sh g,sh∈fE o x→r8 w U g→rest (DQ L C4) 1622 38 (w.e36 L0 bo lap N m q0 kk sh) (SL w w.lo (il g) (eA w E0) (E0.flatMap pN) (lT w U) (lh w U)) KK):
  rest (DQ L C4) 1622 34 (OE L0 w.d bo lap N w.rs w.ps m w.n q0 w.ext kk) (SC w.lo w.P (GX w.node w.nid w.ext w.d.plain (hF w.d) (dj w.d)) w.gl) KK:=by
 rw[GW]
 have er:fU w.P.w=E0.map (λu=>A.g 3 u.i)++U.map (λu=>A.g 3 u.i):=by rw[p.we];exact WS
 have et:(fU w.P.w).take bo=E0.map λu=>A.g 3 u.i:=by rw[er,hb];exact List.take_left' (WO _)
 have ed:(fU w.P.w).drop bo=U.map λu=>A.g 3 u.i:=by rw[er,hb];exact List.drop_left' (WO _)
 refine ag (j:=2) ((cr (JD L L0 ew cF dz C4 w.lo w.P _ w.gl _ _ w.d bo lap N w.rs w.ps m w.n q0 k0) (bb w.ext) hk).mpr ?_)
 refine ag (j:=1) ((cr (MH L L0 ew cF dz C4 w.lo w.P _ w.gl _ _ w.d bo lap N w.rs w.ps m w.n q0 k0) (bb w.ext) hk).mpr ?_)
 rw[et]
 refine aA (aC (by rw[WO];exact V9 p.el (by decide))) ⟨E0.length+1,?_⟩
 refine e8 (f:=λu:Us=>A.g 3 u.i) (P:=J1 w L0 bo lap N m q0 kk E0) (xs:=E0) (fi:=Fa 1622) (s:=Fb 1622 36) (p:=Fp 1622 36) (by kernel_rfl) (by kernel_rfl) (by kernel_rfl) (λys env S h=>rfl) (λenv S h1=>?_) (λy ys env S K' hI f=>zC hk p hI f) E0 [] _ _ rfl (.mk .none none (.head _) [] rfl)
 cases h1 with
 |mk o sh hs done hE=>
  have hE:E0=done:=hE.trans (WQ _)
  subst hE
  refine ag (j:=1) ((cr (WA (ID L L0 ew cF dz C4 w.lo w.P ((wL w [] (eA w E0) (E0.flatMap pN) [] []).cp V00) w.gl _ _ w.d bo lap N w.rs w.ps m w.n q0 k0 o) w.ext (bb w.ext)) hk hs).mpr ?_)
  rw[ed]
  refine aA (aC (by rw[WO];exact V9 p.ul (by decide))) ⟨U.length+1,?_⟩
  have hs3:∀x,sh∈fE o x:=λx=>(WC hs).elim (λh=>h▸.head _) λh=>(WD h)▸.tail _ (.head _)
  refine e8 (f:=λu:Us=>A.g 3 u.i) (P:=J2 w L0 bo lap N m q0 kk (eA w E0) (E0.flatMap pN) U) (xs:=U) (fi:=Fa 1622) (s:=Fb 1622 37) (p:=Fp 1622 37) (by kernel_rfl) (by kernel_rfl) (by kernel_rfl) (λys env S h=>rfl) (λenv S h1=>?_) (λy ys env S K' hI f=>Ab hk p hI f) U [] _ _ rfl (.mk o .none sh (hs3 _) [] [] rfl (λu h=>(WJ h).elim) (Nat.le_refl 0))
  cases h1 with
  |mk o x sh hs done g hU hg hl=>
   have hU:U=done:=hU.trans (WQ _)
   subst hU
   exact h o x sh g hs hg
end
abbrev fG(x y:Int×Int):Prop:=x.1<y.1∨(x.1=y.1∧x.2<y.2)
theorem lM{x y z:Int×Int}(a:fG x y)(b:fG y z):fG x z:=by unfold fG at *;omega
theorem GM{x y:Int×Int}(a:fG x y):¬fG y x:=by unfold fG at *;omega
theorem F7{x y:Int×Int}(h:x≠y):fG x y∨fG y x:=by
 have:¬(x.1=y.1∧x.2=y.2):=λz=>h (Prod.ext z.1 z.2)
 unfold fG;omega
def KW{α:Type}(cmp:Nat→Nat→Option Bool)(t:PySem.W.KasT α)(Q:α→Prop):Prop:=∃a,cR cmp t=some a∧Q a
section
variable{cmp:Nat→Nat→Option Bool}
theorem KW.ret{α:Type}{a:α}{Q:α→Prop}(h:Q a):KW cmp (.ret a) Q:=⟨a,rfl,h⟩
theorem KW.ask{α:Type}{i j:Nat}{b:Bool}{k:Bool→PySem.W.KasT α}{Q:α→Prop}(h:cmp i j=some b)(q:KW cmp (k b) Q):KW cmp (.ask i j k) Q:=q.elim λa q=>⟨a,by
 show(cmp i j).bind (λb=>cR cmp (k b))=some a
 rw[h];exact q.1,q.2⟩
theorem KW.bind{α β:Type}{f:α→PySem.W.KasT β}{Q:β→Prop}{t:PySem.W.KasT α}:KW cmp t (λa=>KW cmp (f a) Q)→KW cmp (t.bind f) Q:=@PySem.W.KasT.rec α (λt=>KW cmp t (λa=>KW cmp (f a) Q)→KW cmp (t.bind f) Q)
 (λa h=>h.elim λb h=>(Wz h.1:a=b)▸h.2)
 (λi j k ih h=>h.elim λa h=>ad (show(cmp i j).bind (λb=>cR cmp (k b))=some a from h.1) λb e e2=>KW.ask e (ih b ⟨a,e2,h.2⟩)) t
theorem KW.mono{α:Type}{t:PySem.W.KasT α}{Q Q':α→Prop}(h:KW cmp t Q)(q:∀a,Q a→Q' a):KW cmp t Q':=h.elim λa z=>⟨a,z.1,q a z.2⟩
variable{n:Nat}{κ:Nat→Int×Int}{p:Array Nat}
def kx(κ:Nat→Int×Int)(p:Array Nat)(i:Nat):Int×Int:=κ (p.getD i 0)
abbrev PI(n:Nat)(p:Array Nat):Prop:=p.toList.Perm (List.range n)
abbrev js(κ:Nat→Int×Int)(p:Array Nat)(m:Nat):Prop:=∀i j,i<j→j<m→fG (kx κ p i) (kx κ p j)
abbrev uQ(κ:Nat→Int×Int)(p:Array Nat)(m:Nat):Prop:=∀i j,i<j→j<m→fG (kx κ p j) (kx κ p i)
theorem PI.size(h:PI n p):p.size=n:=by
 have:=h.length_eq
 rwa [List.length_range,Array.length_toList] at this
theorem PI.lt(h:PI n p){i:Nat}(hi:i<n):p.getD i 0<n:=by
 have hs:=h.size
 have e:p.getD i 0=p.toList[i]'(by rw[Array.length_toList,hs];exact hi):=by
  rw[Array.getD,dif_pos (by rw[hs];exact hi)];rfl
 rw[e]
 exact List.mem_range.mp (h.mem_iff.mp (List.getElem_mem _))
theorem PI.ne(h:PI n p){i j:Nat}(hi:i<n)(hj:j<n)(e:p.getD i 0=p.getD j 0):i=j:=by
 have hs:=h.size
 have nd:p.toList.Nodup:=h.nodup_iff.mpr List.nodup_range
 have g:∀{i} (hi:i<n),p.getD i 0=p.toList[i]'(by rw[Array.length_toList,hs];exact hi):=λhi=>by
  rw[Array.getD,dif_pos (by rw[hs];exact hi)];rfl
 rw[g hi,g hj] at e
 rcases Nat.lt_trichotomy i j with z |z |z
 ·exact absurd e (List.pairwise_iff_getElem.mp nd i j _ _ z)
 ·exact z
 ·exact absurd e.symm (List.pairwise_iff_getElem.mp nd j i _ _ z)
theorem PI.mir(h:PI n p)(i j d:Nat):PI n (PyProof.Rows.mirror p i j d):=(PyProof.Rows.mirror_perm p i j d).toList.trans h
theorem PI.bub(h:PI n p)(i d:Nat):PI n (PyProof.Rows.bubble p i d):=(PyProof.Rows.bubble_perm p i d).toList.trans h
theorem gp{q:Array Nat}{i j:Nat}(h:p[i]?=q[j]?):kx κ p i=kx κ q j:=by
 unfold kx
 rw[Array.getD_eq_getD_getElem?,Array.getD_eq_getD_getElem?,h]
theorem xn{m:Nat}(hm:m≤p.size)(i:Nat):kx κ (PySem.W.kas_rev p 0 m) i=if i<m then kx κ p (m - 1 - i) else kx κ p i:=by
 have:=PyProof.Rows.getElem?_mirror_all (xs:=p) (i:=0) hm i
 by_cases h:i<m
 ·rw[if_pos h]
  rw[if_pos ⟨Nat.zero_le _,h⟩,Nat.zero_add] at this
  exact gp this
 ·rw[if_neg h]
  rw[if_neg (λz=>h z.2)] at this
  exact gp this
theorem wZ{k l:Nat}(hk:k<p.size)(hl:l≤k)(i:Nat):kx κ (PyProof.Rows.bubble p k (k - l)) i=if i=l then kx κ p k else if l<i∧i≤k then kx κ p (i - 1) else kx κ p i:=by
 have:=PyProof.Rows.getElem?_bubble hk (k - l) (by omega) i
 rw[show k - (k - l)=l by omega] at this
 by_cases h:i=l
 ·rw[if_pos h];rw[if_pos h] at this;exact gp this
 ·rw[if_neg h];rw[if_neg h] at this
  by_cases h2:l<i∧i≤k
  ·rw[if_pos h2];rw[if_pos h2] at this;exact gp this
  ·rw[if_neg h2];rw[if_neg h2] at this;exact gp this
variable(hc:∀i j,i<n→j<n→cmp i j=some (decide (fG (κ i) (κ j))))(hi:∀i j,i<n→j<n→κ i=κ j→i=j)
include hc
theorem PI.ask(h:PI n p){i j:Nat}(hi:i<n)(hj:j<n):cmp (p.getD i 0) (p.getD j 0)=some (decide (fG (kx κ p i) (kx κ p j))):=hc _ _ (h.lt hi) (h.lt hj)
omit hc in
include hi in
theorem PI.to(h:PI n p){i j:Nat}(h1:i<n)(h2:j<n)(hn:i≠j):fG (kx κ p i) (kx κ p j)∨fG (kx κ p j) (kx κ p i):=
 F7 λe=>hn (h.ne h1 h2 (hi _ _ (h.lt h1) (h.lt h2) e))
omit hc in
theorem js.snoc{m:Nat}(h:js κ p m)(hm:1≤m)(q:fG (kx κ p (m - 1)) (kx κ p m)):js κ p (m+1):=λi j a b=>by
 by_cases e:j=m
 ·subst e
  by_cases e2:i=j - 1
  ·rw[e2];exact q
  ·exact lM (h i (j - 1) (by omega) (by omega)) q
 ·exact h i j a (by omega)
omit hc in
theorem uQ.snoc{m:Nat}(h:uQ κ p m)(hm:1≤m)(q:fG (kx κ p m) (kx κ p (m - 1))):uQ κ p (m+1):=λi j a b=>by
 by_cases e:j=m
 ·subst e
  by_cases e2:i=j - 1
  ·rw[e2];exact q
  ·exact lM q (h i (j - 1) (by omega) (by omega))
 ·exact h i j a (by omega)
include hi
theorem oU(hP:PI n p):∀(f m:Nat),1≤m→m+f=n→js κ p m→KW cmp (PySem.W.kas_asc p f m) λm'=>m≤m'∧m'≤n∧js κ p m'∧(m'<n→fG (kx κ p m') (kx κ p (m' - 1)))
 |0,m,h1,h2,h3=>.ret ⟨Nat.le_refl _,by omega,h3,λz=>by omega⟩
 |f+1,m,h1,h2,h3=>by
  refine KW.ask (hP.ask hc (i:=m) (j:=m - 1) (by omega) (by omega)) ?_
  by_cases q:fG (kx κ p m) (kx κ p (m - 1))
  ·rw[decide_eq_true q,if_pos rfl]
   exact .ret ⟨Nat.le_refl _,by omega,h3,λ_=>q⟩
  ·rw[decide_eq_false q,if_neg (by simp)]
   refine(oU hP f (m+1) (by omega) (by omega) (h3.snoc h1 ?_)).mono λa z=>⟨by omega,z.2⟩
   exact(hP.to hi (by omega) (by omega) (by omega)).resolve_right q
theorem p9(hP:PI n p):∀(f m:Nat),1≤m→m+f=n→uQ κ p m→KW cmp (PySem.W.kas_desc f p m 0) λr=>∃m',r=(p,m',0)∧m≤m'∧m'≤n∧uQ κ p m'
 |0,m,h1,h2,h3=>.ret ⟨m,rfl,Nat.le_refl _,by omega,h3⟩
 |f+1,m,h1,h2,h3=>by
  refine KW.ask (hP.ask hc (i:=m) (j:=m - 1) (by omega) (by omega)) ?_
  by_cases q:fG (kx κ p m) (kx κ p (m - 1))
  ·rw[decide_eq_true q,if_pos rfl,if_neg (by omega)]
   exact(p9 hP f (m+1) (by omega) (by omega) (h3.snoc h1 q)).mono λa ⟨m',z,w⟩=>⟨m',z,by omega,w.2⟩
  ·rw[decide_eq_false q,if_neg (by simp)]
   refine KW.ask (hP.ask hc (i:=m - 1) (j:=m) (by omega) (by omega)) ?_
   rw[decide_eq_true ((hP.to hi (by omega) (by omega) (by omega)).resolve_right q),if_pos rfl]
   exact .ret ⟨m,rfl,Nat.le_refl _,by omega,h3⟩
theorem xB(hP:PI n p)(hn:2≤n):KW cmp (PySem.W.kas_count n p) λr=>PI n r.2∧1≤r.1∧r.1≤n∧js κ r.2 r.1:=by
 refine KW.bind ((oU hc hi hP (n - 1) 1 (by omega) (by omega) λi j a b=>by omega).mono ?_)
 rintro m ⟨h1,h2,h3,h4⟩
 by_cases e:m=n
 ·subst e
  rw[if_pos (beq_self_eq_true _)]
  exact .ret ⟨hP,h1,h2,h3⟩
 ·rw[if_neg (by simpa using e)]
  by_cases e1:m>1
  ·rw[if_pos e1]
   refine KW.ask (hP.ask hc (i:=0) (j:=m - 1) (by omega) (by omega)) ?_
   rw[decide_eq_true (h3 0 (m - 1) (by omega) (by omega)),if_pos rfl]
   exact .ret ⟨hP,h1,h2,h3⟩
  ·have e2:m=1:=by omega
   subst e2
   rw[if_neg e1]
   refine KW.bind ((p9 hc hi hP (n - 2) 2 (by omega) (by omega) λi j a b=>?_).mono ?_)
   ·have:i=0∧j=1:=by omega
    rw[this.1,this.2];exact h4 (by omega)
   ·rintro _ ⟨m',rfl,a,b,c⟩
    show KW cmp (if 0>0 then _ else _) _
    rw[if_neg (by omega)]
    have hs:=hP.size
    have hA:js κ (PySem.W.kas_rev p 0 m') m':=λi j x y=>by
     rw[xn (by omega),xn (by omega),if_pos (by omega),if_pos y]
     exact c _ _ (by omega) (by omega)
    refine KW.bind ((oU hc hi (hP.mir 0 m' _) (n - m') m' (by omega) (by omega) hA).mono ?_)
    rintro m2 ⟨x1,x2,x3,_⟩
    exact .ret ⟨hP.mir 0 m' _,by omega,x2,x3⟩
theorem i6(hP:PI n p){k:Nat}(hk:k<n)(hA:js κ p k):∀(f l r:Nat),r≤k→l≤r→r≤l+f→(∀i,i<l→fG (kx κ p i) (kx κ p k))→(∀i,r≤i→i<k→fG (kx κ p k) (kx κ p i))→KW cmp (PySem.W.kas_place p k f l r) λl'=>l'≤k∧(∀i,i<l'→fG (kx κ p i) (kx κ p k))∧∀i,l'≤i→i<k→fG (kx κ p k) (kx κ p i)
 |0,l,r,h1,h2,h3,h4,h5=>by
  have:l=r:=by omega
  subst this
  exact .ret ⟨h1,h4,h5⟩
 |f+1,l,r,h1,h2,h3,h4,h5=>by
  show KW cmp (if l≥r then _ else _) _
  by_cases e:l≥r
  ·rw[if_pos e]
   have:l=r:=by omega
   subst this
   exact .ret ⟨h1,h4,h5⟩
  ·rw[if_neg e]
   refine KW.ask (hP.ask hc (i:=k) (j:=(l+r) / 2) hk (by omega)) ?_
   by_cases q:fG (kx κ p k) (kx κ p ((l+r) / 2))
   ·rw[decide_eq_true q,if_pos rfl]
    refine i6 hP hk hA f l ((l+r) / 2) (by omega) (by omega) (by omega) h4 λi x y=>?_
    by_cases e3:i=(l+r) / 2
    ·rw[e3];exact q
    ·exact lM q (hA _ _ (by omega) y)
   ·rw[decide_eq_false q,if_neg (by simp)]
    have q':=(hP.to hi (i:=k) (j:=(l+r) / 2) hk (by omega) (by omega)).resolve_left q
    refine i6 hP hk hA f ((l+r) / 2+1) r h1 (by omega) (by omega) (λi x=>?_) h5
    by_cases e3:i=(l+r) / 2
    ·rw[e3];exact q'
    ·exact lM (hA _ _ (by omega) (by omega)) q'
theorem ud:∀(f k:Nat) (p:Array Nat),PI n p→k+f=n→js κ p k→KW cmp (PySem.W.kas_bin f p k) λp'=>PI n p'∧js κ p' n
 |0,k,p,hP,h1,h2=>by
  have:k=n:=by omega
  subst this
  exact .ret ⟨hP,h2⟩
 |f+1,k,p,hP,h1,h2=>by
  have hs:=hP.size
  refine KW.bind ((i6 hc hi hP (k:=k) (by omega) h2 k 0 k (Nat.le_refl _) (Nat.zero_le _) (by omega) (λi z=>by omega) λi a b=>by omega).mono ?_)
  rintro l ⟨a,b,c⟩
  refine ud f (k+1) _ (hP.bub k (k - l)) (by omega) λi j x y=>?_
  rw[wZ (by omega) a,wZ (by omega) a]
  by_cases i1:i=l
  ·rw[if_pos i1,if_neg (by omega),if_pos (by omega)]
   exact c _ (by omega) (by omega)
  rw[if_neg i1]
  by_cases j1:j=l
  ·rw[if_pos j1,if_neg (by omega)]
   exact b _ (by omega)
  rw[if_neg j1]
  by_cases i2:l<i∧i≤k
  ·rw[if_pos i2,if_pos (by omega)]
   exact h2 _ _ (by omega) (by omega)
  ·rw[if_neg i2]
   by_cases j2:l<j∧j≤k
   ·rw[if_pos j2];exact h2 _ _ (by omega) (by omega)
   ·rw[if_neg j2];exact h2 _ _ (by omega) (by omega)
theorem Bg(hn:2≤n):KW cmp (PySem.W.kas_sort n) λp'=>PI n p'∧js κ p' n:=by
 refine KW.bind ((xB hc hi (p:=(List.range n).toArray) (.refl _) hn).mono ?_)
 rintro⟨m,q⟩ ⟨h1,h2,h3,h4⟩
 by_cases e:m<n
 ·rw[if_pos e]
  have h2:1≤m:=h2
  show KW cmp (PySem.W.kas_bin (n - max m 1) q (max m 1)) _
  rw[show max m 1=m by omega]
  exact ud hc hi (n - m) m q h1 (by omega) h4
 ·rw[if_neg e]
  have h3:m≤n:=h3
  have:m=n:=by omega
  subst this
  exact .ret ⟨h1,h4⟩
end
theorem gd{β:Type}{d:β}{l:List β}{i:Nat}(h:i<l.length):l.getD i d=l[i]:=by rw[List.getD_eq_getElem?_getD,List.getElem?_eq_getElem h];rfl
theorem mw{β:Type}(d:β){f:β→A}{key:β→Int×Int}{L:List β}(hl:L.length<64)(ht:∀x∈L,i8 (f x)=true)(hc:∀x∈L,∀y∈L,qz (f x) (f y)=some (decide (fG (key x) (key y))))(hn:L.Pairwise λx y=>key x≠key y):∃r:List β,b8 (L.map f)=some (r.map f)∧r.Perm L∧r.Pairwise λx y=>fG (key x) (key y):=by
 have hs:l9 (L.map f)=true:=Bool.and_eq_true_iff.mpr ⟨aC (by rw[WO];exact Nat.le_of_lt_succ hl),Bool.or_eq_true_iff.mpr (.inr (List.all_eq_true.mpr λx hx=>(List.mem_map.mp hx).elim λy h=>h.2▸ht y h.1))⟩
 unfold b8
 rw[hs,WO]
 show ∃r:List β,cond (Nat.ble L.length 1) (some (L.map f)) _=some (r.map f)∧_
 cases h2:Nat.ble L.length 1 with
 |true=>
  refine⟨L,rfl,.refl _,?_⟩
  match L,h2 with
  |[],_=>exact .nil
  |[_],_=>exact .cons (λ_ h=>nomatch h) .nil
 |false=>
  have h2:¬L.length≤1:=λq=>Bool.false_ne_true (h2.symm.trans (aC q))
  have hg:∀i,i<L.length→L.getD i d∈L:=λi hi=>gd hi▸List.getElem_mem hi
  have hm:∀i,i<L.length→(L.map f).getD i .none=f (L.getD i d):=λi hi=>by
   rw[gd (l:=L.map f) (by rw[WO];exact hi),gd hi,List.getElem_map]
  obtain⟨p,h3,h4,h5⟩:=Bg (cmp:=λi j=>qz ((L.map f).getD i .none) ((L.map f).getD j .none)) (κ:=λi=>key (L.getD i d)) (n:=L.length) (λi j a b=>by
   show qz _ _=_
   rw[hm i a,hm j b];exact hc _ (hg i a) _ (hg j b)) (λi j a b e=>by
   have q:=List.pairwise_iff_getElem.mp hn
   have e:key (L.getD i d)=key (L.getD j d):=e
   rw[gd a,gd b] at e
   rcases Nat.lt_trichotomy i j with z |z |z
   ·exact absurd e (q i j a b z)
   ·exact z
   ·exact absurd e.symm (q j i b a z)) (by omega)
  have hlt:∀i∈p.toList,i<L.length:=λi hi=>List.mem_range.mp (h4.mem_iff.mp hi)
  refine⟨p.toList.map λi=>L.getD i d,?_,?_,?_⟩
  ·show Option.map _ _=_
   rw[h3]
   show some _=_
   rw[List.map_map]
   exact congrArg some (List.map_inj_left.mpr λi hi=>hm i (hlt i hi))
  ·refine(h4.map _).trans ?_
   have:(List.range L.length).map (λi=>L.getD i d)=L:=by
    apply List.ext_getElem
    ·rw[WO,List.length_range]
    ·intro i a b
     rw[List.getElem_map,List.getElem_range,gd b]
   rw[this]
  ·rw[List.pairwise_map,List.pairwise_iff_getElem]
   intro i j a b z
   have hs:=h4.length_eq
   rw[List.length_range] at hs
   have:=h5 i j z (by omega)
   unfold kx at this
   have g:∀i (a:i<p.toList.length),p.getD i 0=p.toList[i]:=λi a=>by
    rw[Array.getD,dif_pos (by rw[← Array.length_toList];exact a)];rfl
   rw[g i a,g j b] at this
   exact this
theorem kg{β:Type}(d:β){f:β→A}{key:β→Int×Int}{L M:List β}(hp:L.Perm M)(hl:L.length<64)(ht:∀x∈L,i8 (f x)=true)(hc:∀x∈L,∀y∈L,qz (f x) (f y)=some (decide (fG (key x) (key y))))(hn:L.Pairwise λx y=>key x≠key y):∃r:List β,b8 (L.map f)=some (r.map f)∧b8 (M.map f)=some (r.map f)∧r.Perm L:=by
 obtain⟨r,a1,a2,a3⟩:=mw d hl ht hc hn
 obtain⟨r',b1,b2,b3⟩:=mw d (L:=M) (by rw[← hp.length_eq];exact hl) (λx hx=>ht x (hp.mem_iff.mpr hx)) (λx hx y hy=>hc x (hp.mem_iff.mpr hx) y (hp.mem_iff.mpr hy)) ((hp.pairwise_iff (λh=>Ne.symm h)).mp hn)
 have:r=r':=List.Perm.eq_of_pairwise (le:=λx y=>fG (key x) (key y)) (λx y _ _ h1 h2=>absurd h2 (GM h1)) a3 b3 (a2.trans (hp.trans b2.symm))
 subst this
 exact⟨r,a1,b1,a2⟩
variable{β:Type}{f:β→A}{g:β→PyData}{l:List β}
theorem IN(h:∀x,py (f x)=some (g x)):∀{l:List β},jH (l.map f)=some (l.map g):=λ{l}=>@List.rec β (λl=>jH (l.map f)=some (l.map g)) rfl (λx r ih=>by
 show(py (f x)).bind (λa=>(jH (r.map f)).map λr=>a::r)=_
 rw[h,ih];rfl) l
theorem LD{k:Nat}(h:∀x,PyData.depth (g x)≤k):∀{l:List β},PyData.depthAll (l.map g)≤k:=λ{l}=>@List.rec β (λl=>PyData.depthAll (l.map g)≤k) (Nat.zero_le _) (λx r ih=>Nat.max_le.mpr ⟨h x,ih⟩) l
theorem K8(h:∀x,PyData.eqv (g x) (g x)=true):∀{l:List β},PyData.eqvAll (l.map g) (l.map g)=true:=λ{l}=>@List.rec β (λl=>PyData.eqvAll (l.map g) (l.map g)=true) rfl (λx r ih=>by
 show(PyData.eqv (g x) (g x)&&PyData.eqvAll (r.map g) (r.map g))=true
 rw[h,ih];rfl) l
theorem Dh(h:∀x,py (f x)=some (g x))(hd:∀x,PyData.depth (g x)≤39)(he:∀x,PyData.eqv (g x) (g x)=true):iw (l.map f) (l.map f)=some true:=by
 unfold iw
 rw[IN h]
 show cond (Nat.ble (min (PyData.depthAll (l.map g)) (PyData.depthAll (l.map g))) 39) (some (PyData.eqvAll (l.map g) (l.map g))) none=_
 rw[Nat.min_self,aC (LD hd),K8 he];rfl
def Dg.rowD(D:Dg):PyData:=.tuple [.int D.num,.int D.pos,.tuple (D.arg.toList.map PyData.str)]
def VB(p:Int):PyData:=.tuple [.int 12,.int p]
variable{D D':Dg}{p p' a b c e:Int}{l m:List A}{L:List Dg}{N:List Int}
theorem gQ{a:Int}{r:Bool}(h:r=true):(decide (a=a)&&r)=true:=by rw[decide_eq_true rfl,h];rfl
theorem B0:iw (L.map Dg.row) (L.map Dg.row)=some true:=Dh (g:=Dg.rowD) (λD=>by obtain⟨n,p,a⟩:=D;cases a <;> rfl) (λD=>by obtain⟨n,p,a⟩:=D;cases a <;> exact Wu rfl) (λD=>by
 obtain⟨n,p,a⟩:=D
 cases a with
 |none=>exact gQ (gQ rfl)
 |some s=>exact gQ (gQ (by show((decide (s=s)&&true)&&true)=true;rw[decide_eq_true rfl];rfl)))
theorem C8:iw (N.map aT) (N.map aT)=some true:=Dh (g:=VB) (λp=>rfl) (λp=>Wu rfl) λp=>(show(decide ((12:Int)=12)&&(decide (p=p)&&true))=true from gQ (gQ rfl))
theorem BP:BK (.int a) (.int c)=some (decide (a=c)):=rfl
theorem p8(h:DR l m=some false):qz (.tup (.int a::.int b::l)) (.tup (.int c::.int e::m))=some (decide (fG (a,b) (c,e))):=by
 show(BK (.int a) (.int c)).bind (λq=>cond q ((BK (.int b) (.int e)).bind λq=>cond q (DR l m) (some (decide (b<e)))) (some (decide (a<c))))=_
 rw[BP,BP]
 by_cases h1:a=c
 ·rw[decide_eq_true h1]
  by_cases h2:b=e
  ·rw[decide_eq_true h2]
   show DR l m=_
   rw[h]
   exact congrArg some (decide_eq_false λz=>z.elim (λz=>Int.lt_irrefl _ (h1▸z)) λz=>Int.lt_irrefl _ (h2▸z.2)).symm
  ·rw[decide_eq_false h2]
   exact congrArg some (decide_eq_decide.mpr ⟨λz=>.inr ⟨h1,z⟩,λz=>z.elim (λz=>(Int.lt_irrefl _ (h1▸z)).elim) λz=>z.2⟩)
 ·rw[decide_eq_false h1]
  exact congrArg some (decide_eq_decide.mpr ⟨.inl,λz=>z.elim id λz=>(h1 z.1).elim⟩)
theorem TO(h:D.arg=none)(h':D'.arg=none):qz D.row D'.row=some (decide (fG (D.num,D.pos) (D'.num,D'.pos))):=by
 obtain⟨n,p,a⟩:=D
 obtain⟨n',p',a'⟩:=D'
 cases(show a=none from h)
 cases(show a'=none from h')
 exact p8 (by kernel_rfl)
theorem Sd:qz (aT p) (aT p')=some (decide (fG (12,p) (12,p'))):=p8 (l:=[]) (m:=[]) (by kernel_rfl)
def sP:Hk:=PH ((I9 (Fb 1622 39)).map (·.2))
section
variable(L L0:List A)(C1 C2 C3 C4:ay)(loc:List (List Ce))(w:ai)(V:bg)(S:AS)(K:KN)(R KK:KX)(d:Dr)(bo lap N:Nat)(rs ps:List A)(m:Nat×Int)(n:Int)(q0 k0 o x:A)(l a2 a3 a4 a5:List A)(D:Dg)(env:En)(fr:List Ce)
def U0(ext:Bool)(kk:Option A)(sh:yi):List (Str×X):=e36 L0 d bo lap N rs ps m n q0 ext kk sh++([("got",.a (.fl l))]:List (Str×X))
def OF(ext:Bool)(kk:Option A)(sh:yi):List (Str×X):=e36 L0 d bo lap N rs ps m n q0 ext kk sh++([("got",.a (.fl l)),("noted",.a (.g 18 0))]:List (Str×X))
def FL:ai:={w with r2:=[.list a2],r3:=[.list a3],r4:=[.list a4],r5:=[.list a5]}
theorem JE:BB.map (λext=>[none,some k0].map λkk=>(fE o x).map λsh=>a9 (TL L C1 C2 C3 C4) 1622 38 1 (e36 L0 d bo lap N rs ps m n q0 ext kk sh) S K R)=BB.map λext=>[none,some k0].map λkk=>(fE o x).map λsh=>C4 [.a bm,.a (be d ps rs n),.a (d9 ps rs n),.a (.int 2)] S λ_ S=>K (e36 L0 d bo lap N rs ps m n q0 ext kk sh) S:=by kernel_rfl
theorem LQ:BB.map (λext=>[none,some k0].map λkk=>(fE o x).map λsh=>a9 (TL L C1 C2 C3 C4) 1622 39 1 (e36 L0 d bo lap N rs ps m n q0 ext kk sh) (SJ w loc V) K R)=BB.map λext=>[none,some k0].map λkk=>(fE o x).map λsh=>∃n',cE (wp (TL L C1 C2 C3 C4) 39 sP.nm sP.e) none sP.i (e36 L0 d bo lap N rs ps m n q0 ext kk sh) (.a (.g 17 1)) n' 0 [] (SJ w loc V) λl S=>K (U0 L0 d bo lap N rs ps m n q0 l ext kk sh) S:=by kernel_rfl
theorem GG:(wp (TL L C1 C2 C3 C4) 39 sP.nm sP.e).e ((sP.i,.a D.den)::env) S KK=KK (.a D.row) S:=by kernel_rfl
theorem Jb:BB.map (λext=>[none,some k0].map λkk=>(fE o x).map λsh=>a9 (TL L C1 C2 C3 C4) 1622 40 1 (U0 L0 d bo lap N rs ps m n q0 l ext kk sh) S K R)=BB.map λext=>[none,some k0].map λkk=>(fE o x).map λsh=>K (OF L0 d bo lap N rs ps m n q0 l ext kk sh) S:=by kernel_rfl
theorem NK:BB.map (λext=>[none,some k0].map λkk=>(fE o x).map λsh=>a9 (TL L C1 C2 C3 C4) 1622 41 1 (OF L0 d bo lap N rs ps m n q0 l ext kk sh) (SJ (FL w a2 a3 a4 a5) loc V) K R)=BB.map λext=>[none,some k0].map λkk=>(fE o x).map λsh=>
 ak (l.drop a2.length) (opt (iw (l.drop a2.length) a4) λb=>aw (!b) (R (.a (.bool false)) (SJ (FL w a2 a3 a4 a5) loc V)) (ak ((V.nt.map aT).drop a3.length) (opt (iw ((V.nt.map aT).drop a3.length) a5) λc=>aw (!c) (R (.a (.bool false)) (SJ (FL w a2 a3 a4 a5) loc V)) (K (OF L0 d bo lap N rs ps m n q0 l ext kk sh) (SJ (FL w a2 a3 a4 a5) loc V))))):=by kernel_rfl
theorem LO:BB.map (λext=>[none,some k0].map λkk=>(fE o x).map λsh=>rest (TL L C1 C2 C3 C4) 1622 42 (OF L0 d bo lap N rs ps m n q0 l ext kk sh) (SJ (FL w a2 a3 a4 a5) (fr::loc) V) KK)=BB.map λext=>[none,some k0].map λkk=>(fE o x).map λsh=>
 ak (l.take a2.length) (opt (b8 (l.take a2.length)) λr1=>ak r1 (opt (b8 a2) λr2=>ak r2 (opt (iw r1 r2) λb=>aw b (ak ((V.nt.map aT).take a3.length) (opt (b8 ((V.nt.map aT).take a3.length)) λr3=>ak r3 (opt (b8 a3) λr4=>ak r4 (opt (iw r3 r4) λc=>KK (.a (.bool c)) (SJ (FL w a2 a3 a4 a5) loc V))))) (KK (.a (.bool b)) (SJ (FL w a2 a3 a4 a5) loc V))))):=by kernel_rfl
end
structure Oh(w:ai)(ys:List yc)(E0 U:List Us):Prop where
 ok:ii w
 lp:Il w E0 U
 ps:w.ps=ys.map Prod.fst
 pr:∀y∈ys,∃v,ya y.1 y.2 v
 perm:(bu ys).Perm E0
 nd:E0.Pairwise λa b=>a.n≠b.n
 bd:Sem 248 false (gG w) U
 ar:∀u∈U,cH (.int (u.n+1)) w.P.es=some (.int (w.P.F u.i:Nat))
 fr:∀u∈U,cH (.int u.fin) w.P.es=some (.int (w.P.F u.i:Nat))
 lt:∀u∈U,w.P.F u.i<w.P.N.length
 ear:∀u∈U,(w.ev u=true↔kP w.P.N w.P.E (w.P.F u.i))
 asc:U.Pairwise λa b=>a.fin≤b.n
 lo:∀a∈E0,∀u∈U,a.fin≤u.n
 e32:E0.length≤32
 se:oa w.P
def f0:ay:=λxs S K=>∃w,ii w∧Ek w xs S K
section
variable{ys:List yc}{E0 U E:List Us}{g:Gl}{t1 t2:List Dg}{n1 n2:List Int}{bs:Bool}
theorem M0(h:Oh w ys E0 U)(hg:r8 w U g):QZ (wL w (il g) t1 n1 t2 n2) ys U:=⟨h.ps,h.pr,λu hu=>(h.lp.ok u (WH _ (h.perm.mem_iff.mp hu))).md,(h.perm.pairwise_iff Ne.symm).mpr h.nd,h.bd,
 λu hu=>⟨h.lp.ok u (WG _ hu),h.ar u hu,h.fr u hu,h.lt u hu,h.ear u hu,λs hs=>(Jr (k:=w.fk u s) (g:=g)).trans (congrArg (Option.map A.bool) (hg u hu s hs))⟩,
 h.asc,λa ha u hu=>h.lo a (h.perm.mem_iff.mp ha) u hu,h.perm.length_eq▸h.lp.el,h.lp.ul,⟨h.se.rd,h.se.en,h.se.sup,h.se.tot⟩⟩
theorem NN(h:ii w):ii (wL w (il g) t1 n1 t2 n2):=⟨h.d,h.ext,h.n,h.ps,h.psl⟩
theorem DT(h:D∈pD bs u):D.arg=none:=by
 unfold pD at h
 revert h
 cases decide (u.mode=0) with
 |false=>exact λh=>(WJ h).elim
 |true=>cases u.sup with
  |true=>exact λh=>congrArg Dg.arg (qJ h)
  |false=>exact λh=>congrArg Dg.arg (WD h)
theorem vk{p:Int}(h:p∈pN u):p=4*(u.n+1)+3:=by
 unfold pN at h
 revert h
 cases decide (u.mode=0) with
 |true=>exact λh=>(WJ h).elim
 |false=>exact λh=>WD h
theorem U5{α:Type}{R:α→α→Prop}{l:List α}(h:l.length≤1):l.Pairwise R:=match l,h with
 |[],_=>.nil
 |[_],_=>.cons (λ_ h=>nomatch h) .nil
theorem FG(hp:E.Perm E0)(nd:E0.Pairwise λa b=>a.n≠b.n)(hl:E0.length≤32):∃r:List Dg,b8 ((eA w E).map Dg.row)=some (r.map Dg.row)∧b8 ((eA w E0).map Dg.row)=some (r.map Dg.row)∧r.length≤1000:=by
 have hlen:(eA w E).length≤32:=V9 (bF λu=>hZ) (by rw[hp.length_eq,Nat.one_mul];exact hl)
 have ha:∀D∈eA w E,D.arg=none:=λD hD=>(List.mem_flatMap.mp hD).elim λu h=>DT h.2
 obtain⟨r,h1,h2,h3⟩:=kg (⟨0,0,none⟩:Dg) (f:=Dg.row) (key:=λD=>(D.num,D.pos)) (L:=eA w E) (M:=eA w E0) (hp.flatMap_right _) (Wg hlen (by decide)) (λ_ _=>rfl) (λD hD D' hD'=>TO (ha D hD) (ha D' hD')) (List.pairwise_flatMap.mpr ⟨λu _=>U5 hZ,((hp.pairwise_iff Ne.symm).mpr nd).imp λh D hD D' hD' q=>h (kI ((kG hD).symm.trans ((congrArg Prod.snd q).trans (kG hD'))))⟩)
 exact⟨r,h1,h2,h3.length_eq▸V9 hlen (by decide)⟩
theorem Ga(hp:E.Perm E0)(nd:E0.Pairwise λa b=>a.n≠b.n)(hl:E0.length≤32):∃r:List Int,b8 ((E.flatMap pN).map aT)=some (r.map aT)∧b8 ((E0.flatMap pN).map aT)=some (r.map aT)∧r.length≤1000:=by
 have hlen:(E.flatMap pN).length≤32:=V9 (bF λu=>gT) (by rw[hp.length_eq,Nat.one_mul];exact hl)
 obtain⟨r,h1,h2,h3⟩:=kg (0:Int) (f:=aT) (key:=λp=>(12,p)) (L:=E.flatMap pN) (M:=E0.flatMap pN) (hp.flatMap_right _) (Wg hlen (by decide)) (λ_ _=>rfl) (λp _ p' _=>Sd) (List.pairwise_flatMap.mpr ⟨λu _=>U5 gT,((hp.pairwise_iff Ne.symm).mpr nd).imp λh p hm p' hm' q=>h (kI ((vk hm).symm.trans ((show p=p' from congrArg Prod.snd q).trans (vk hm'))))⟩)
 exact⟨r,h1,h2,h3.length_eq▸V9 hlen (by decide)⟩
set_option maxHeartbeats 2000000 in
theorem Hu{L L0:List A}{bo lap N:Nat}{m:Nat×Int}{q0 k0 o x:A}{kk:Option A}{sh:yi}{KK:KX}(hk:kk∈[none,some k0])(hs:sh∈fE o x)(h:Oh w ys E0 U)(hg:r8 w U g)(hK:∀S,KK (.a (.bool true)) S):
  rest (DQ L f0) 1622 38 (w.e36 L0 bo lap N m q0 kk sh) (SL w w.lo (il g) (eA w E0) (E0.flatMap pN) (lT w U) (lh w U)) KK:=by
 refine ag (j:=1) ((cr (WA (JE L L0 ew cF dz f0 _ _ _ w.d bo lap N w.rs w.ps m w.n q0 k0 o x) w.ext (bb w.ext)) hk hs).mpr ⟨wL w (il g) (eA w E0) (E0.flatMap pN) (lT w U) (lh w U),NN h.ok,ys,U,rfl,rfl,M0 h hg,λV vo hd hn=>?_⟩)
 have hd:V.dg=eA w (bu ys)++lT w U:=hd
 have hn:V.nt=(bu ys).flatMap pN++lh w U:=hn
 have el:=h.perm.length_eq▸h.lp.el
 have ld:V.dg.length<900000:=by
  rw[hd,WN]
  exact Wg (Wm (bF λu=>hZ) (bF λu=>pc)) (Wg (Wm (Wr 1 el) (Wr 1 h.lp.ul)) (by decide))
 have ln:V.nt.length<900000:=by
  rw[hn,WN]
  exact Wg (Wm (bF λu=>gT) (bF λu=>oQ)) (Wg (Wm (Wr 1 el) (Wr 2 h.lp.ul)) (by decide))
 have eD:(eA w (bu ys)).length=((eA w E0).map Dg.row).length:=by rw[WO];exact(h.perm.flatMap_right _).length_eq
 have eN:((bu ys).flatMap pN).length=((E0.flatMap pN).map aT).length:=by rw[WO];exact(h.perm.flatMap_right _).length_eq
 have lm:∀{α:Type} {f:α→A} {l:List α},l.length<900000→Nat.ble (l.map f).length bM=true:=λ{α f l} h=>aC (by rw[WO];exact V9 (Nat.le_of_lt h) (by decide))
 have ed:(V.dg.map Dg.row).drop ((eA w E0).map Dg.row).length=(lT w U).map Dg.row:=by rw[hd,WS];exact List.drop_left' (by rw[WO];exact eD)
 have et:(V.dg.map Dg.row).take ((eA w E0).map Dg.row).length=(eA w (bu ys)).map Dg.row:=by rw[hd,WS];exact List.take_left' (by rw[WO];exact eD)
 have ed2:(V.nt.map aT).drop ((E0.flatMap pN).map aT).length=(lh w U).map aT:=by rw[hn,WS];exact List.drop_left' (by rw[WO];exact eN)
 have et2:(V.nt.map aT).take ((E0.flatMap pN).map aT).length=((bu ys).flatMap pN).map aT:=by rw[hn,WS];exact List.take_left' (by rw[WO];exact eN)
 have l1:∀{X Y:List Dg},V.dg=X++Y→X.length<900000∧Y.length<900000:=λ{X Y} e=>by rw[e,WN] at ld;exact⟨Wg (Wo _ _) ld,Wg (Wp _ _) ld⟩
 have l2:∀{X Y:List Int},V.nt=X++Y→X.length<900000∧Y.length<900000:=λ{X Y} e=>by rw[e,WN] at ln;exact⟨Wg (Wo _ _) ln,Wg (Wp _ _) ln⟩
 refine ag (j:=1) ((cr (WA (LQ L L0 ew cF dz f0 w.lo (wL w (il g) (eA w E0) (E0.flatMap pN) (lT w U) (lh w U)) V _ _ w.d bo lap N w.rs w.ps m w.n q0 k0 o x) w.ext (bb w.ext)) hk hs).mpr (zv (f:=Dg.den) (g:=Dg.row) (xs:=V.dg) rfl (λD KK=>GG ..) ld ?_))
 refine ag (j:=1) ((cr (WA (Jb L L0 ew cF dz f0 _ _ _ w.d bo lap N w.rs w.ps m w.n q0 k0 o x (V.dg.map Dg.row)) w.ext (bb w.ext)) hk hs).mpr ?_)
 refine ag (j:=1) ((cr (WA (NK L L0 ew cF dz f0 w.lo (wL w (il g) (eA w E0) (E0.flatMap pN) (lT w U) (lh w U)) V _ _ w.d bo lap N w.rs w.ps m w.n q0 k0 o x (V.dg.map Dg.row) ((eA w E0).map Dg.row) ((E0.flatMap pN).map aT) ((lT w U).map Dg.row) ((lh w U).map aT)) w.ext (bb w.ext)) hk hs).mpr ?_)
 rw[ed,ed2]
 refine aA (lm (l1 hd).2) (aj B0 (cY rfl (aA (lm (l2 hn).2) (aj C8 (cY rfl ?_)))))
 obtain⟨r,r1,r2,r3⟩:=FG (w:=w) h.perm h.nd h.e32
 obtain⟨s,s1,s2,s3⟩:=Ga h.perm h.nd h.e32
 refine(cr (WA (LO L L0 ew cF dz f0 [] (wL w (il g) (eA w E0) (E0.flatMap pN) (lT w U) (lh w U)) V KK w.d bo lap N w.rs w.ps m w.n q0 k0 o x (V.dg.map Dg.row) ((eA w E0).map Dg.row) ((E0.flatMap pN).map aT) ((lT w U).map Dg.row) ((lh w U).map aT) (w.lo.headD [])) w.ext (bb w.ext)) hk hs).mpr ?_
 rw[et,et2]
 have r4:r.length<900000:=Wg r3 (by decide)
 have s4:s.length<900000:=Wg s3 (by decide)
 exact aA (lm (l1 hd).1) (aj r1 (aA (lm r4) (aj r2 (aA (lm r4) (aj B0 (aA rfl (aA (lm (l2 hn).1) (aj s1 (aA (lm s4) (aj s2 (aA (lm s4) (aj C8 (hK _)))))))))))))
end
variable{Z:Zt}{P:SP}{a:Us}{t:Nat→Nat}{ss:List S1}{T:aB}{Ts:List aB}{g:GN}{w:List Us}{i:Nat}{lo hi:Int}
theorem qg{s:S1}:(CT s t).map Prod.fst=s.u.toList:=by unfold CT;rw[List.map_map];exact List.map_id _
theorem yv:∀{ss:List S1} {t:Nat→Nat},(yk ss t).map Prod.fst=ss.flatMap λs=>s.u.toList:=λ{ss}=>@List.rec S1 (λss=>∀{t:Nat→Nat},(yk ss t).map Prod.fst=ss.flatMap λs=>s.u.toList) (λ{t}=>rfl) (λs r ih {t}=>by
 show(CT s t++yk r λx=>A9 s (t x)).map Prod.fst=s.u.toList++r.flatMap λs=>s.u.toList
 rw[WS,qg,ih]) ss
theorem yq:(CZ T t).map Prod.fst=T.us:=@aB.casesOn (λT=>(CZ T t).map Prod.fst=T.us) T (λs=>qg) λss c=>yv
theorem mJ:∀{Ts:List aB} {t:Nat→Nat},(fx Ts t).map Prod.fst=ic Ts:=λ{Ts}=>@List.rec aB (λTs=>∀{t:Nat→Nat},(fx Ts t).map Prod.fst=ic Ts) (λ{t}=>rfl) (λT r ih {t}=>by
 show(CZ T t++fx r λx=>xb (t x) T).map Prod.fst=T.us++ic r
 rw[WS,yq,ih]) Ts
theorem Dc(gr:kK Z P)(h:u∈sY Z):∃b t,b<Z.length∧(u,t)∈fx (zT Z b) id∧Ld P (u,(t,b)):=by
 obtain⟨z,hz,hu⟩:=List.mem_flatMap.mp h
 obtain⟨b,hb⟩:=List.mem_iff_getElem?.mp hz
 have eT:zT Z b=z.1:=by unfold zT;rw[hb];rfl
 have hl:b<Z.length:=(WK hb).1
 rw[← mJ (t:=id),← eT] at hu
 obtain⟨q,hq,rfl⟩:=List.mem_map.mp hu
 exact⟨b,q.2,hl,hq,gr.ld b hl q hq⟩
theorem JY(gr:kK Z P){b:Nat}{q:Us×(Nat→Nat)}(hq:q∈fx (zT Z b) id):b<Z.length:=by
 rcases Nat.lt_or_ge b Z.length with h |h
 ·exact h
 ·have e:zT Z b=[]:=by unfold zT;rw[List.getElem?_eq_none h];rfl
  rw[e] at hq
  exact(WJ hq).elim
theorem KR{b:Nat}{q:Us×(Nat→Nat)}(hb:b<Z.length)(hq:q∈fx (zT Z b) id):q.1∈sY Z:=by
 have h:q.1∈ic (zT Z b):=mJ (Ts:=zT Z b) (t:=id)▸List.mem_map.mpr ⟨q,hq,rfl⟩
 have eT:zT Z b=Z[b].1:=by unfold zT;rw[List.getElem?_eq_getElem hb];rfl
 exact List.mem_flatMap.mpr ⟨Z[b],List.getElem_mem hb,eT▸h⟩
theorem yT(gr:kK Z P)(mt:nK Z P.M)(ix:∀a∈sY Z,∀b∈sY Z,a.i=b.i→a=b)(h:u∈sY Z):∃g,P.N[P.F u.i]?=some g∧g.pv≠.nil∧∀s,s∈P.M u.i↔∃s0,rM Z g.b s0∧g.t s0=s:=by
 obtain⟨b,t,hb,hq,ld⟩:=Dc gr h
 obtain⟨g,hg,hn,eb,et⟩:=ld.nw
 refine⟨g,hg,hn,λs=>(mt u.i s).trans ⟨λ⟨b',s0,hr,q,hq',ei,es⟩=>?_,λ⟨s0,hr,es⟩=>⟨b,s0,(show g.b=b from eb)▸hr,(u,t),hq,rfl,(show g.t=t from et)▸es⟩⟩⟩
 have hb':=JY gr hq'
 have ld':=gr.ld b' hb' q hq'
 have eu:q.1=u:=ix _ (KR hb' hq') _ h ei
 obtain⟨g',hg',_,eb',et'⟩:=ld'.nw
 have hg':P.N[P.F u.i]?=some g':=eu▸hg'
 obtain rfl:=Wz (hg.symm.trans hg')
 exact⟨s0,by rw[eb'];exact hr,by rw[et'];exact es⟩
theorem aE.okAll:∀{w:List Us} {i:Nat} {lo:Int},aE w i lo hi→∀u∈w,u.Ok:=λ{w}=>@List.rec Us (λw=>∀{i:Nat} {lo:Int},aE w i lo hi→∀u∈w,u.Ok) (λ{i lo} _ u h=>(WJ h).elim) (λx r ih {i lo} h u hu=>(WC hu).elim (λe=>e▸h.2.1) (ih h.2.2.2 u)) w
theorem aE.low:∀{w:List Us} {i:Nat} {lo:Int},aE w i lo hi→(∀u∈w,lo≤u.n)∧lo≤hi:=λ{w}=>@List.rec Us (λw=>∀{i:Nat} {lo:Int},aE w i lo hi→(∀u∈w,lo≤u.n)∧lo≤hi) (λ{i lo} h=>⟨λu h=>(WJ h).elim,h⟩) (λx r ih {i lo} h=>by
 have q:=ih h.2.2.2
 have l:lo≤x.fin:=Wy h.2.2.1 (Wy le1 c8)
 exact⟨λu hu=>(WC hu).elim (λe=>e▸h.2.2.1) λhu=>Wy l (q.1 u hu),Wy l q.2⟩) w
theorem aE.pw:∀{w:List Us} {i:Nat} {lo:Int},aE w i lo hi→w.Pairwise λa b=>a.fin≤b.n:=λ{w}=>@List.rec Us (λw=>∀{i:Nat} {lo:Int},aE w i lo hi→w.Pairwise λa b=>a.fin≤b.n) (λ{i lo} _=>.nil) (λx r ih {i lo} h=>.cons (λa ha=>(aE.low (w:=r) (i:=i+1) h.2.2.2).1 a ha) (ih h.2.2.2)) w
theorem li.ys{ps:List A}{ls:List (List (A×List Us))}{v:List Us}(h:li ps ls v):∃ys:List yc,ps=ys.map Prod.fst∧(∀y∈ys,∃v,ya y.1 y.2 v)∧(bu ys).Perm v:=by
 induction h with
 |nil=>exact⟨[],rfl,λ_ h=>(WJ h).elim,.refl _⟩
 |@cons t ts l ls v v' h _ ih=>
  obtain⟨ys,e,hp,pm⟩:=ih
  exact⟨(t,l)::ys,congrArg (t::·) e,λy hy=>(WC hy).elim (λq=>q▸⟨v,h⟩) (hp y),(qW h).2.append pm⟩
def KT(G:jV)(P:SP)(ext:Bool)(gl:Rg 5):ai:=⟨G.d,G.ps,G.rs,G.n,ext,P,gl,[],[],[],[],[]⟩
section
variable{G:jV}{gl:Rg 5}{ext:Bool}{L L0:List A}{lap:Nat}{m:Nat×Int}
theorem RU(hG:G.Ok)(ph:Ph G P)(he:ext=true↔3<G.d.way):∃ys,Oh (KT G P ext gl) ys G.pw (hQ G.Tss):=by
 obtain⟨ys,hys,hpr,hpm⟩:=hG.ps.ys
 have asc:=hG.gi.asc
 have eU:sY (gz G)=hQ G.Tss:=N4 hG
 have pws:G.w.Pairwise λa b=>a.fin≤b.n:=asc.pw
 have pwa:=List.pairwise_append.mp pws
 have ix:∀a∈sY (gz G),∀b∈sY (gz G),a.i=b.i→a=b:=λa ha b hb e=>by
  have h1:=qZ hG (u:=a) (WG _ (eU▸ha))
  have h2:=qZ hG (u:=b) (WG _ (eU▸hb))
  rw[e] at h1
  exact Wz (h1.symm.trans h2)
 have len:G.pw.length+(hQ G.Tss).length≤900:=WN▸hG.gi.len
 have mi:∀u∈hQ G.Tss,∃g,P.N[P.F u.i]?=some g∧g.pv≠.nil∧∀s,s∈P.M u.i↔∃s0,rM (gz G) g.b s0∧g.t s0=s:=λu hu=>yT ph.gr ph.met ix (eU.symm▸hu)
 have ld:∀u∈hQ G.Tss,∃d,Ld P (u,d):=λu hu=>(Dc ph.gr (eU.symm▸hu)).elim λb h=>h.elim λt h=>⟨_,h.2.2⟩
 have ok:ii (KT G P ext gl):=⟨hG.d,he,(aE.low asc).2,⟨G.ls,G.pw,hG.ps⟩,hG.psl⟩
 have sm:∀a∈hQ G.Tss,∀b∈hQ G.Tss,P.F a.i=P.F b.i→∀s,(KT G P ext gl).uns a s=(KT G P ext gl).uns b s:=λa ha b hb e s=>by
  obtain⟨g,hg,_,h1⟩:=mi a ha
  obtain⟨g',hg',_,h2⟩:=mi b hb
  rw[e] at hg
  obtain rfl:=Wz (hg.symm.trans hg')
  have hm:∀s,s∈P.M a.i↔s∈P.M b.i:=λs=>(h1 s).trans (h2 s).symm
  have q:∀{l l':List Nat} {c:Nat→Bool},(∀s∈l,s∈l')→l.any c=true→l'.any c=true:=λ{l l' c} h q=>(List.any_eq_true.mp q).elim λx hx=>List.any_eq_true.mpr ⟨x,h x hx.1,hx.2⟩
  exact Bool.eq_iff_iff.mpr ⟨q λs h=>(hm s).mp h,q λs h=>(hm s).mpr h⟩
 refine⟨ys,ok,⟨hG.d,ph.w,λu hu=>ph.w▸qZ hG hu,λu hu=>aE.okAll asc u hu,λu=>Wg (ph.ml u.i) (by decide),sm,V9 hG.pwl (by decide),V9 (Wp _ _) (V9 len (by decide))⟩,hys,hpr,hpm,pwa.1.imp λh=>Int.ne_of_lt (Int.lt_of_lt_of_le (Int.lt_add_one_iff.mpr (Int.le_refl _)) (Wy c8 h)),
  ⟨⟨_,.here rfl⟩,λpar _=>a8 (by decide) (hG.rs _) hG.rsl⟩,λu hu=>(ld u hu).elim λd h=>h.a,λu hu=>(ld u hu).elim λd h=>h.f,λu hu=>(mi u hu).elim λg h=>(WK h.1).1,λu hu=>?_,pwa.2.1,pwa.2.2,hG.pwl,ph.se⟩
 obtain⟨g,hg,hn,h1⟩:=mi u hu
 refine Iff.trans ?_ (z7 ph.gr.g hg hn).symm
 refine List.any_eq_true.trans ⟨λ⟨s,hs,h0⟩=>((h1 s).mp hs).elim λs0 h=>⟨s0,h.1,h.2▸Wv h0⟩,λ⟨s0,hr,h0⟩=>⟨g.t s0,(h1 _).mpr ⟨s0,hr,rfl⟩,by rw[h0];rfl⟩⟩
def Yr:List (Nat×ay):=[(1598,ae {} 1598),(307,ae {} 307),(359,ae (tab [(307,ae {} 307),(347,ae {} 347)]) 359)]
def Yx:List (Nat×ay):=Yv ew cF dz f0
def S7(d:Dr)(k0:A):Option A:=cond (hv d.a ||(hv d.b ||hv d.c)) (some k0) none
theorem G9{d:Dr}{k0:A}:S7 d k0∈[none,some k0]:=by unfold S7;cases(hv d.a ||(hv d.b ||hv d.c));exact .head _;exact .tail _ (.head _)
theorem IV{K:KX}(hK:∀S,K (.a (.bool true)) S){w:ai}{ys:List yc}{E0 U:List Us}{bo N:Nat}{q0 k0:A}{kk:Option A}(hk:kk∈[none,some k0])(h:Oh w ys E0 U)(hb:bo=E0.length):rest (DQ L f0) 1622 34 (OE L0 w.d bo lap N w.rs w.ps m w.n q0 w.ext kk) (SC w.lo w.P (GX w.node w.nid w.ext w.d.plain (hF w.d) (dj w.d)) w.gl) K:=ER (m:=m) (q0:=q0) hk h.lp hb λo x sh g hs hg=>Hu hk hs h hg hK
theorem Jl{K:KX}(hK:∀S,K (.a (.bool true)) S)(hG:G.Ok)(ph:Ph G P)(he:ext=true↔3<G.d.way)(k0:A):rest (DQ L f0) 1622 34 (OH L0 G.d G.ps G.rs G.pw.length lap G.Tss.length m G.n ext k0) (SC (cX G.rs (be G.d G.ps G.rs G.n) ext G.d.plain (iX G.d) (dj G.d)) P (GX (be G.d G.ps G.rs G.n) (iA G.d G.n+1+1+1) ext G.d.plain (hF G.d) (dj G.d)) gl) K:=
 (RU (gl:=gl) hG ph he).elim λys h=>cast (by kernel_rfl) (IV (L:=L) (L0:=L0) (w:=KT G P ext gl) (lap:=lap) (N:=G.Tss.length) (m:=(2,m.2)) (q0:=.int G.d.c) (kk:=S7 G.d k0) hK G9 h rfl)
theorem IJ{K:KX}(hK:∀S,K (.a (.bool true)) S)(hG:G.Ok)(ph:Ph G P)(he:ext=true↔3<G.d.way):rest (TW L (Y1 L (Yd++Yx))) 1622 30 (FR L0 G.d G.ps G.rs G.pw.length lap G.Tss.length m G.n ext) (SC (oX G.rs (be G.d G.ps G.rs G.n) ext G.d.plain) P (B1 (be G.d G.ps G.rs G.n) (iA G.d G.n+1+1+1) ext G.d.plain) gl) K:=
 Ft hG.d λk0=>cast (by kernel_rfl) (Jl (L:=L) (L0:=L0) (gl:=gl) (lap:=lap) (m:=m) hK hG ph he k0)
theorem IP{K:KX}(hK:∀S,K (.a (.bool true)) S)(hG:G.Ok)(ph:Ph G P):rest (TW L (Y1 L (Yc++(Yr++Yx)))) 1622 24 (Ig L0 G.d G.ps G.rs G.pw.length lap G.Tss.length m G.n) (SC (Bb G.rs (be G.d G.ps G.rs G.n)) P (Oc (be G.d G.ps G.rs G.n)) gl) K:=
 ag (j:=6) (GE L L0 (Yr++Yx) gl _ _ G.pw.length lap G.Tss.length G.rs G.ps m G.n P G.d hG.d λext he=>cast (by kernel_rfl) (IJ (L:=L) (L0:=L0) (gl:=gl) (lap:=lap) (m:=m) hK hG ph he))
theorem Lj{K:KX}(hK:∀S,K (.a (.bool true)) S)(hG:G.Ok)(ph:Ph G P):rest (TW L (Y1 L (Yc++(Yr++Yx)))) 1622 20 (Dj L0 G.d G.ps G.rs G.pw.length lap G.Tss.length m G.n) (SG [[.fz (.fl G.rs),.fz GV]] {P with gl:=v7 gl}) K:=
 ag (j:=4) (Hy L L0 (Yr++Yx) gl _ _ G.d G.pw.length lap G.Tss.length G.rs G.ps m G.n P (IP hK hG ph))
theorem zI{K:KX}(hK:∀S,K (.a (.bool true)) S)(hG:G.Ok)(ph:Ph G P)(hgl:P.gl=v7 gl):rest (TW L (Y1 L (Yd++Yx))) 1622 20 (Dj L0 G.d G.ps G.rs G.pw.length lap G.Tss.length m G.n) (SG [[.fz (.fl G.rs),.fz GV]] P) K:=by
 have eP:P={P with gl:=v7 gl}:=by rw[← hgl]
 rw[eP]
 exact cast (by kernel_rfl) (Lj (L:=L) (L0:=L0) (gl:=gl) (lap:=lap) (m:=m) hK hG ph)
theorem vt{K:KX}(hK:∀S,K (.a (.bool true)) S):ae (TW (L0.take 63) (Y1 (L0.take 63) (Yd++Yx))) 1622 [.a (.fl L0)] ⟨[],gE (R2 (v7 gl))⟩ K:=Ip λG hG=>FK hG λm lap P ph hgl hL=>zI hK hG ph hgl
end
end
end
section
open PySem PySem.W PyProof.Rows
section
noncomputable def wI(v:Value):Option {p:Int×Tok // v=.int p.1 p.2}:=match v with | .int i t=>some ⟨(i,t),rfl⟩ |_=>none
noncomputable def Vn(v:Value):Option {p:Str×Tok // v=.str p.1 p.2}:=match v with | .str i t=>some ⟨(i,t),rfl⟩ |_=>none
noncomputable def wR(v:Value):Option {a:Addr // v=.ref a}:=match v with | .ref a=>some ⟨a,rfl⟩ |_=>none
noncomputable def Jm(o:Obj):Option {vs:Array Value // o=db vs.toList}:=match o with
 |⟨.type n,none,.seq vs 0,⟨[]⟩⟩=>@Decidable.rec (n="tuple") (λ_=>Option {ws:Array Value // (⟨.type n,none,.seq vs 0,⟨[]⟩⟩:Obj)=db ws.toList}) (λ_=>none) (λh=>some ⟨vs,by subst h;rfl⟩) (instDecidableEqString n "tuple")
 |_=>none
section
variable(K:Frag)
noncomputable def xP(x:A):Value→Bool:=@A.rec (λ_=>Value→Bool) (λ_=>List Value→Bool) (λ_=>Unit) (λ_=>Unit) (λ_=>Unit) (λ_=>Unit)
 (λ_=>false) (λ_ _=>false) (λi v=>alt (wI v) (λp=>decide (p.1.1=i)) false) (λs v=>alt (Vn v) (λp=>seq p.1.1 s&&((PyData.str s).canLay0&&Nat.ble s.length bM)) false)
 (λl ih v=>alt (wR v) (λa=>alt (K.lookup a.1) (λo=>alt (Jm o) (λvs=>ih vs.1.toList&&Nat.ble l.length bM) false) false) false) (λ_ _ _=>false) (λ_ _ _=>false) (λ_ _ _ _=>false) (λ_ _ _=>false) (λw v=>(v==w)&&handedIn v)
 (λvs=> !aq vs) (λ_ _ h ih vs=>@List.rec Value (λ_=>Bool) false (λv r _=>h v&&ih r) vs) () (λ_ _ _ _=>()) () (λ_ _ _ _=>()) (λ_ _ _ _=>()) (λ_ _ _=>()) x
noncomputable def nv(x:List A):List Value→Bool:=@List.rec A (λ_=>List Value→Bool) (λvs=> !aq vs) (λx _ ih vs=>@List.rec Value (λ_=>Bool) false (λv r _=>xP K x v&&ih r) vs) x
end
variable{c:Cx}{K:Frag}{Γ:Gh}{C:Prop}
theorem pJ{α:Type}{o:Option α}{g:α→Bool}(h:alt o g false=true)(k:∀a,o=some a→g a=true→C):C:=aV h k λh=>ff h
theorem Ev{α:Type}{l:List α}(h:(!aq l)=true):l=[]:=match l,h with |[],_=>rfl |_::_,h=>nomatch h
theorem lR(x:A):∀v,xP c.K x v=true→Av c Γ x v:=@A.rec (λx=>∀v,xP c.K x v=true→Av c Γ x v) (λl=>∀vs,@A.rec_1 (λ_=>Value→Bool) (λ_=>List Value→Bool) (λ_=>Unit) (λ_=>Unit) (λ_=>Unit) (λ_=>Unit)
 (λ_=>false) (λ_ _=>false) (λi v=>alt (wI v) (λp=>decide (p.1.1=i)) false) (λs v=>alt (Vn v) (λp=>seq p.1.1 s&&((PyData.str s).canLay0&&Nat.ble s.length bM)) false)
 (λl ih v=>alt (wR v) (λa=>alt (c.K.lookup a.1) (λo=>alt (Jm o) (λvs=>ih vs.1.toList&&Nat.ble l.length bM) false) false) false) (λ_ _ _=>false) (λ_ _ _=>false) (λ_ _ _ _=>false) (λ_ _ _=>false) (λw v=>(v==w)&&handedIn v)
 (λvs=> !aq vs) (λ_ _ h ih vs=>@List.rec Value (λ_=>Bool) false (λv r _=>h v&&ih r) vs) () (λ_ _ _ _=>()) () (λ_ _ _ _=>()) (λ_ _ _ _=>()) (λ_ _ _=>()) l vs=true→aG c Γ l vs) (λ_=>True) (λ_=>True) (λ_=>True) (λ_=>True)
 (λ_ h=>ff h) (λ_ _ h=>ff h) (λi v h=>pJ h λp _ h=>p.2.symm▸(of_decide_eq_true h)▸gu.mk _) (λs v h=>pJ h λp _ h=>have h:=WB h;have h2:=WB h.2;p.2.symm▸aW h.1▸gq.mk _ ⟨(aW h.1).symm▸h2.1,(aW h.1).symm▸ble h2.2⟩)
 (λl ih v h=>pJ h λa _ h=>pJ h λo e h=>pJ h λvs _ h=>have h:=WB h;a.2.symm▸dO.mk (.inl (vs.2▸e)) (ih _ h.1) (ble h.2)) (λ_ _ _ h=>ff h) (λ_ _ _ h=>ff h) (λ_ _ _ _ h=>ff h) (λ_ _ _ h=>ff h) (λw v h=>have h:=WB h;⟨beq_iff_eq.mp h.1,h.2⟩)
 (λvs h=>Ev h) (λx l h1 h2 vs h=>match vs,h with |[],h=>ff h |v::vs,h=>have h:=WB h;.mk (h1 v h.1) (h2 vs h.2)) trivial (λ_ _ _ _=>trivial) trivial (λ_ _ _ _=>trivial) (λ_ _ _ _=>trivial) (λ_ _ _=>trivial) x
theorem tq(l:List A):∀vs,nv c.K l vs=true→aG c Γ l vs:=@List.rec A (λl=>∀vs,nv c.K l vs=true→aG c Γ l vs) (λvs h=>Ev h) (λx l ih vs h=>match vs,h with |[],h=>ff h |v::vs,h=>have h:=WB h;.mk (lR x v h.1) (ih vs h.2)) l
noncomputable def Be(K:Frag)(x:Str)(a:A):Bool:=alt (nsIn K mainGlobals x) (λo=>@Option.rec Value (λ_=>Bool) (alt (bootBuiltins x) (λv=>xP K a v&& !(x=="__name__")) false) (λv=>xP K a v) o) false
theorem zc{x:Str}{a:A}(h:Be c.K x a=true):∃v,vV c x a v:=pJ h λo e h=>match o,e,h with
 |some v,e,h=>⟨v,.inl e,λΓ=>lR a v h⟩
 |none,e,h=>pJ h λv e' h=>have h:=WB h;⟨v,.inr ⟨e,e',beq_eq_false_iff_ne.mp (by have:=h.2;cases q:x==("__name__":Str) <;> first |rfl |(rw[q] at this;exact ff this))⟩,λΓ=>lR a v h.1⟩
theorem gP{α:Type}{n:Nat}{a:α}:∀{l:List (Nat×α)},lk n l=some a→(n,a)∈l
 |p::l,h=>by
  have h:cond (Nat.beq p.1 n) (some p.2) (lk n l)=some a:=h
  cases q:Nat.beq p.1 n with
  |true=>rw[q] at h;exact Wv q▸Wz h▸.head _
  |false=>rw[q] at h;exact .tail _ (gP h)
theorem rh{α:Type}{x:Str}{a:α}{l:List (Nat×Str×α)}(h:DG x l=some a):(hs x,x,a)∈l:=ad h λp e h=>aQ h λe1 e2=>by
 have:=gP e
 obtain⟨y,b⟩:=p
 cases aW e1;cases Wz e2
 exact this
theorem KS(h:(GL.all λp=>Be c.K p.2.1 p.2.2)=true):FX c:=λx a e=>zc (WL h _ (rh e))
noncomputable def OM(o:Obj):Option {fd:FuncData // o.data=.func fd}:=match o with |⟨_,_,.func fd,_⟩=>some ⟨fd,rfl⟩ |_=>none
noncomputable def LH(b:FuncBody):Option {l:List Stmt // b=.stmts l}:=match b with | .stmts l=>some ⟨l,rfl⟩ | .expr _=>none
noncomputable def DF(k:NameKind):Bool:=match k with | .free=>true |_=>false
noncomputable def BY(K:Frag)(fd:FuncData):Bool:=codeIn K fd.code fd.qualname&&(decide (fd.scope.kind=.function)&&(!fd.scope.isCoroutine&&(!fd.scope.isGenerator&&(!aq fd.closure&&(Nat.beq fd.globals mainGlobals&&(Nat.beq fd.builtins builtinsNs&&
 (decide (fd.params.args.map (·.arg)).Nodup&&(decide ((cellsFrom 0 fd.scope.names []).map (·.1)).Nodup&&((fd.params.args.map (·.arg)).all (λx=>decide (fd.scope.names.lookup x=some .local) ||decide (fd.scope.names.lookup x=some .cell))&&((br "__debug__" fd.scope.names).isNone&&
 fd.scope.names.all λx=>decide (fd.scope.names.lookup x.1=some x.2)&& !DF x.2))))))))))
noncomputable def uV(K:Frag)(a:Addr):Option (List Stmt×Nm×List Str):=(K.lookup a).bind λo=>(OM o).bind λfd=>(LH fd.1.body).bind λb=>cond (BY K fd.1) (some (b.1,fd.1.scope.names,fd.1.params.args.map (·.arg))) none
noncomputable def qx(fi:Fs):List Stmt×Nm×List Str:=(fi.body,fi.nm,fi.ps)
noncomputable def QR(d:Data):List Value:=match d with | .seq vs _=>vs.toList |_=>[]
noncomputable def VY(K:Frag)(fd:FuncData):List Value:=alt (wR fd.defaults) (λd=>alt (K.lookup d.1) (λo=>QR o.data) []) []
noncomputable def wi(K:Frag)(a:Addr):List Value:=alt (K.lookup a) (λo=>alt (OM o) (λfd=>VY K fd.1) []) []
noncomputable def Op(K:Frag)(a n:Nat)(S:Setting)(v:Nat→Value):Option (List (Str×Value)):=(K.lookup a).bind λo=>(OM o).bind λfd=>peek K S (bindArgs fd.1 ⟨(List.range n).map v,[]⟩)
noncomputable def sE(e:Nat×Option Stmt×List A):List (Nat×Nat×Fs):=alt (e.2.1.bind λs=>Fs.of s e.2.2) (λfi=>(List.range (fi.ds.length+1)).map λk=>(e.1,fi.ps.length - k,fi)) []
noncomputable def BA(K:Frag)(e:Nat×Nat×Fs)(v:Nat→Value):List (Str×Value):=e.2.2.ps.zip ((List.range e.2.1).map v++(wi K e.1).drop (e.2.1+e.2.2.ds.length - e.2.2.ps.length))
variable{a:Nat}{fi:Fs}
theorem rK(vs:List Value):(List.range vs.length).map (λi=>vs.getD i .none)=vs:=List.ext_getElem (by rw[WO,List.length_range]) λi h1 h2=>by rw[List.getElem_map,List.getElem_range];show(vs[i]?).getD _=_;rw[List.getElem?_eq_getElem h2];rfl
theorem JR{b:Bool}(h:(!b)=true):b=false:=by cases b <;> first |rfl |exact ff h
theorem LX(h1:uV c.K a=some (qx fi))(h2:nv c.K fi.ds (wi c.K a)=true)(h3:∀n,n≤fi.ps.length→fi.ps.length≤n+fi.ds.length→∀S v,Op c.K a n S v=some (BA c.K (a,n,fi) v)):ly c a fi:=
 ad h1 λo e1 h=>ad h λfd e2 h=>ad h λb e3 h=>aQ h λhk h=>by
  have h:=Wz h
  have q1:b.1=fi.body:=congrArg (λp=>p.1) h
  have q2:fd.1.scope.names=fi.nm:=congrArg (λp=>p.2.1) h
  have q3:fd.1.params.args.map (·.arg)=fi.ps:=congrArg (λp=>p.2.2) h
  unfold BY at hk
  rw[q2,q3] at hk
  have k1:=WB hk
  have k2:=WB k1.2
  have k3:=WB k2.2
  have k4:=WB k3.2
  have k5:=WB k4.2
  have k6:=WB k5.2
  have k7:=WB k6.2
  have k8:=WB k7.2
  have k9:=WB k8.2
  have k10:=WB k9.2
  have k11:=WB k10.2
  have ka:=WL k11.2
  refine .mk e1 fd.2 (b.2.trans (congrArg FuncBody.stmts q1)) k1.1 q2 (of_decide_eq_true k2.1) (JR k3.1) (JR k4.1) (Ev k5.1) (Wv k6.1) (Wv k7.1) (of_decide_eq_true k8.1) (of_decide_eq_true k9.1)
   (λx hx=>(Bool.or_eq_true_iff.mp (WL k10.1 x hx)).imp of_decide_eq_true of_decide_eq_true) (Option.isNone_iff_eq_none.mp k11.1) (λx hx=>of_decide_eq_true (WB (ka x hx)).1) (λx hx e=>by have:=(WB (ka x hx)).2;rw[e] at this;exact ff this) λs vs hX l1 l2=>?_
  refine⟨(wi c.K a).drop (vs.length+fi.ds.length - fi.ps.length),kp_binds hX λS=>?_,λΓ=>(tq (Γ:=Γ) _ _ h2).drop _⟩
  have:=h3 vs.length l1 l2 S λi=>vs.getD i .none
  unfold Op BA at this
  rw[e1,rK] at this
  have this:(OM o).bind _=_:=this
  rw[e2] at this
  exact this
noncomputable def Jz(K:Frag)(C:Addr)(n:Str)(f:Addr):Bool:=findIn K (.ref C) "__getattribute__"==some (some (.builtin "object.__getattribute__"))&&(findIn K (.ref C) "__getattr__"==some none&&(findIn K (.ref C) n==some (some (.ref f))&&(typeIn K (.ref f)==some (.type "function")&&keepIn K (.ref f))))
noncomputable def Jf(K:Frag)(C:Addr)(g:Option Nat):Bool:=makesIn K C&&@Option.rec Nat (λ_=>Bool) (findIn K (.ref C) "__init__"==some (some (.builtin "object.__init__"))) (λg=>findIn K (.ref C) "__init__"==some (some (.ref g))&&typeIn K (.ref g)==some (.type "function")) g
theorem AI{α:Type}{x:Str}{b:α}:∀{l:List (Str×α)},br x l=some b→(x,b)∈l:=λ{l} h=>aJ (bR l▸h)
theorem nE{n:Nat}:∀{l:List Nat},kX n l=true→n∈l
 |m::l,h=>by
  have h:cond (Nat.beq m n) true (kX n l)=true:=h
  cases q:Nat.beq m n with
  |true=>exact Wv q▸.head _
  |false=>rw[q] at h;exact .tail _ (nE h)
theorem wv(h:(lr.all λp=>p.2.all λq=>Jz c.K p.1 q.1 q.2)=true):bN c:=λC n f e=>ad e λl e1 e2=>by
 have q:=WL (WL h _ (gP e1)) _ (AI e2)
 have k1:=WB q
 have k2:=WB k1.2
 have k3:=WB k2.2
 have k4:=WB k3.2
 exact⟨beq_iff_eq.mp k1.1,beq_iff_eq.mp k2.1,beq_iff_eq.mp k3.1,beq_iff_eq.mp k4.1,k4.2⟩
theorem FV(h:(c6.all λp=>Jf c.K p.1 p.2)=true):∀a i,lk a c6=some i→jw c a i:=λa i e=>by
 have q:=WB (WL h _ (gP e))
 cases i with
 |none=>exact .none q.1 (beq_iff_eq.mp q.2)
 |some g=>have k:=WB q.2;exact .some q.1 (beq_iff_eq.mp k.1) (beq_iff_eq.mp k.2)
theorem HB(h:(nk.all λp=>p.2.all λn=>kb c.K p.1 n.2.1&&eJ c.K p.1 n.2.1)=true):Oz c:=λC n e=>by
 unfold Oj at e
 cases q:(lk C nk).bind λl=>DG n l with
 |none=>rw[q] at e;exact nomatch e
 |some u=>exact ad q λl e1 e2=>WB (WL (WL h _ (gP e1)) _ (rh e2))
theorem Nc(h1:(nk.all λp=>p.2.all λn=>kb c.K p.1 n.2.1&&eJ c.K p.1 n.2.1)=true)(h2:(GL.all λp=>Be c.K p.2.1 p.2.2)=true)(h3:(uX.all λa=>keepIn c.K (.ref a))=true):Wd c:=⟨HB h1,KS h2,λa e=>WL h3 _ (nE e)⟩
theorem Nn{s:Stmt}{ds:List A}(e:Fs.of s ds=some fi):fi.ds=ds:=by
 cases s with
 |FunctionDef _ _ _ _ _ _ _ _ _ _=>exact(Wz (show some _=some fi from e))▸rfl
 |_=>exact nn (show(none:Option Fs)=some fi from e)
theorem Hp(h1:eo.map (λp=>uV c.K p.1)=eo.map λp=>(p.2.1.bind λs=>Fs.of s p.2.2).map qx)(h2:(eo.all λp=>nv c.K p.2.2 (wi c.K p.1))=true)
  (h3:((eo.flatMap sE).map λe=>λS v=>Op c.K e.1 e.2.1 S v)=(eo.flatMap sE).map λe=>λS v=>some (BA c.K e v)):∀a fi,io a=some fi→ly c a fi:=λa fi e=>ad e λq e1 e2=>ad e2 λs e3 e4=>by
 have hm:=gP e1
 obtain⟨q1,q2⟩:=q
 have e3:q1=some s:=e3
 subst e3
 have e5:((some s).bind λs=>Fs.of s q2)=some fi:=e4
 have hds:fi.ds=q2:=Nn e4
 refine LX ((WA h1 _ hm).trans (congrArg (Option.map qx) e5)) (hds▸WL h2 _ hm) λn l1 l2 S v=>?_
 have hk:(a,n,fi)∈eo.flatMap sE:=List.mem_flatMap.mpr ⟨_,hm,by
  unfold sE
  rw[e5]
  exact List.mem_map.mpr ⟨fi.ps.length - n,WE (by omega),by rw[show fi.ps.length - (fi.ps.length - n)=n by omega]⟩⟩
 exact congrFun (congrFun (WA h3 _ hk) S) v
end
end
section
open PySem PySem.W PyProof.Rows
set_option maxHeartbeats 0
section
open H in
noncomputable def kf(P:Params)(T:Frag):Frag:=[(35,u35),(49,u49),(56,u56),(63,u63),(70,u70),(77,u77),(84,u84),(159,u159),(166,u166),(188,u188),(195,u195),(221,u221),(228,u228),(287,u287),(294,u294),(301,u301),(322,u322),(336,u336),(353,u353),(369,u369),(376,u376),(383,u383),(390,u390),(397,u397),(404,u404),(411,u411),(418,u418),(430,u430),(439,u439),(446,u446),(453,u453),(467,u467),(474,u474),(572,u572),(607,u607),(614,u614),(621,u621),(628,u628),(640,u640),(647,u647),(654,u654),(661,u661),(673,u673),(680,u680),(687,u687),(699,u699),(713,u713),(720,u720),(746,u746),(767,u767),(781,u781),(793,u793),(800,u800),(812,u812),(824,u824),(831,u831),(838,u838),(845,u845),(852,u852),(860,u860),(867,u867),(874,u874),(881,u881),(888,u888),(895,u895),(907,u907),(914,u914),(921,u921),(928,u928),(935,u935),(942,u942),(949,u949),(956,u956),(963,u963),(970,u970),(977,u977),(984,u984),(998,u998),(1005,u1005),(1059,u1059),(1066,u1066),(1087,u1087),(1276,u1276),(1339,u1339),(1346,u1346),(1360,u1360),(1475,u1475),(1483,u1483),(1490,u1490),(1497,u1497),(1509,u1509),(1516,u1516),(1523,u1523),(1530,u1530),(1537,u1537),(1554,u1554),(1566,u1566),(1573,u1573),(1585,u1585),(1592,u1592),(1599,u1599),(1606,u1606)].foldr (λa r=>(a.1+6,a.2.d)::(a.1+5,a.2.c)::r) ([(43,v43),(174,v174),(250,v250),(309,v309),(330,v330),(728,v728),(754,v754),(775,v775),(1046,v1046),(1074,v1074),(1158,v1158),(1193,v1193),(1214,v1214),(1242,v1242),(1263,v1263),(1445,v1445)].foldr (λa r=>(a.1+1,a.2.e)::(a.1,a.2.b P)::r) ([(3,h3 (sv "law_xm0459_01" 2789) 242 243 P),(187,(ts 790 [""])),(347,o347),(346,o346),(352,o352),(429,o429),(428,o428),(639,o639),(638,o638),(672,o672),(671,o671),(698,o698),(697,o697),(738,o738),(737,o737),(792,o792),(791,o791),(811,o811),(810,o810),(823,o823),(822,o822),(906,o906),(905,o905),(1482,o1482),(1508,o1508),(1507,o1507),(1548,o1548),(1547,o1547),(1553,o1553),(1552,o1552),(1565,o1565),(1564,o1564),(1584,o1584),(1583,o1583),(1617,o1617),(1616,o1616),(1622,o1622),(1621,o1621),(348,e0),(349,e0),(350,e0),(351,e0),(209,o209),(208,o208 P),(1014,o1014),(1013,v1013.b P),(602,h602 [.ref 1014]),(601,v601.b P),(256,o256),(257,o257),(258,o258),(259,o259),(260,o260),(261,o261),(262,o262),(263,o263),(264,o264),(265,o265),(266,o266),(267,e0),(268,e0),(269,e0),(270,e0),(271,e0),(272,o272),(273,o273),(274,o274),(275,o275),(276,o276),(277,o277),(278,o278),(279,o279),(437,o437),(438,o438),(859,o859),(1,boot_o_1 P)].append T))
section
variable(P:Params)(T:Frag)
theorem EZ:((kf P T).lookup sysModules).isSome=true:=by kernel_rfl
theorem SX:(GL.all λp=>Be (kf P T) p.2.1 p.2.2)=true:=by kernel_rfl
theorem QD:(uX.all λa=>keepIn (kf P T) (.ref a))=true:=by kernel_rfl
theorem Iy:(c6.all λp=>Jf (kf P T) p.1 p.2)=true:=by kernel_rfl
theorem Ef:(lr.all λp=>p.2.all λq=>Jz (kf P T) p.1 q.1 q.2)=true:=by kernel_rfl
theorem Sm:(nk.all λp=>p.2.all λn=>kb (kf P T) p.1 n.2.1&&eJ (kf P T) p.1 n.2.1)=true:=by kernel_rfl
end
section
variable(P:Params)(T:Frag)
theorem TA:eo.map (λp=>uV (kf P T) p.1)=eo.map λp=>(p.2.1.bind λs=>Fs.of s p.2.2).map qx:=by kernel_rfl
theorem M6:(eo.all λp=>nv (kf P T) p.2.2 (wi (kf P T) p.1))=true:=by kernel_rfl
theorem HN:((eo.flatMap sE).map λe=>λS v=>Op (kf P T) e.1 e.2.1 S v)=(eo.flatMap sE).map λe=>λS v=>some (BA (kf P T) e v):=by kernel_rfl
end
theorem uK{c:Cx}{T:Frag}(h:c.K=kf c.P T):Wd c∧bN c∧(∀a fi,io a=some fi→ly c a fi)∧∀a i,lk a c6=some i→jw c a i:=
 ⟨Nc (h▸Sm _ _) (h▸SX _ _) (h▸QD _ _),wv (h▸Ef _ _),Hp (h▸TA _ _) (h▸M6 _ _) (h▸HN _ _),FV (h▸Iy _ _)⟩
end
end
section
open PySem PySem.W PyProof.Rows
section
noncomputable def Hc(d:Nat):Rg d:=@Nat.rec Rg [] (λ_ r=>(r,r)) d
theorem ym(d:Nat):∀l,eC d l (Hc d)=[]:=@Nat.rec (λd=>∀l,eC d l (Hc d)=[]) (λ_=>rfl) (λd ih l=>by
 show cond (Nat.beq (l % 2) 0) (eC d (l / 2) (Hc d)) (eC d (l / 2) (Hc d))=[]
 cases Nat.beq (l % 2) 0 <;> exact ih _) d
noncomputable def S0:AS:=⟨[],Hc 5⟩
theorem pR(w:Ow):cont S0 w=none:=match w with
 | .g l i=>by
  show cond (Nat.ble l 31) (eC 5 l (Hc 5))[i]? none=none
  rw[ym];cases Nat.ble l 31 <;> rfl
 | .l j k=>rfl
 | .d _=>rfl
 | .f=>rfl
 | .z=>rfl
def G0(s:Shared):Gh:=⟨s.heap,s.toks,[],λ_=>.f,λ_=>0,λ_=>False⟩
variable{c:Cx}{u:Nat}{T:bA}{a:Nat}{Ar:Around}{xs:List X}{vs:List Value}
theorem Si(s:Shared)(hM:(c.K.lookup sysModules).isSome=true):xR c S0 (G0 s):=⟨.nil,hM,λw ce h=>nn ((pR w).symm.trans h),λw=>⟨False.elim,λh=>by rw[pR w] at h;exact nomatch h⟩⟩
theorem nu{f:Fm}{m:Mp}{S:AS}{Γ:Gh}{x:X}{v:Value}(st:ah c f m S Γ)(hx:Xv c Γ x v)(q:ret x S λx _=>x=.a (.bool true)):v=.bool true:=by
 unfold ret at q
 cases hS:S.loc with
 |nil=>rw[hS] at q;exact q.elim
 |cons fr r=>
  rw[hS] at q
  cases x with
  |a z=>cases q;exact hx
  |l j k=>cases j with
   |succ j=>exact nomatch q
   |zero=>
    refine aa q λo ho q=>?_
    have hc:cont S (.l 0 k)=some o:=by show(S.loc[0]?).bind _=_;rw[hS];exact ho
    cases o with
    |fz z=>cases q;have:=st.C _ _ hc;exact nomatch(show Value.ref _=.bool true from this)
    |_=>exact nomatch q
theorem yx(hW:Wd c)(hM:bN c)(hT:dG c u T)(ft:∀fi,io a=some fi→ly c a fi)(ha:Nat.beq a 55=false)(hm:(c.K.lookup sysModules).isSome=true)(KI:c.K.In c.s₀.heap)(TR:TopRead c.prog c.loose c.mg c.mb c.s₀.heap)(hA:Rm Ar (u+1))(hv:b4 c (G0 c.s₀) xs vs)
  (q:ae T a xs S0 λx _=>x=.a (.bool true)) {R:Result→Shared→Prop} (h:∀h' tk,(∀b o,c.s₀.heap.get? b=some o→h'.get? b=some o)→R (.ok (.ret (.bool true))) {c.s₀ with heap:=h',toks:=tk}):codeAny c.M Ar (.call (.ref a) ⟨vs,[]⟩) R c.s₀:=by
 unfold ae at q
 refine aa q λfi e q=>bC q λhl q=>?_
 have hl:=WB hl
 refine kE (Γ:=G0 c.s₀) (ft fi e) (Si c.s₀ hm) KI KI TR.nolimit TR (λp hp=>nomatch hp) hv hA.room (ble hl.1) (ble hl.2) λf' m' Γ' e0 bd le hno E=>?_
 have keep:∀{m2 S2 Γ2},ah c f' m2 S2 Γ2→∀b o,c.s₀.heap.get? b=some o→Γ2.h.get? b=some o:=λst b o hb=>st.F.keep b o (by rw[e0];exact hb)
 refine dD (u7 hW hM hT 20 fi.nm) fi.body hA.deeper q bd (λΓ2 S2 en2 m2 k2 b2 le2=>?_) (λΓ2 S2 en2 m2 k2 b2 le2=>k2.elim) λv Γ2 S2 x m2 k2 st2 le2 hx=>?_
 ·exact nomatch(nu (x:=.a .none) (v:=.none) b2.1 rfl k2)
 ·rw[ha] at k2
  rw[nu st2 hx k2]
  exact h Γ2.h Γ2.tk (keep st2)
theorem ig{β:Type}{a:Addr}{b:β}:∀{l:List (Addr×β)},l.lookup a=some b→(a,b)∈l
 |(k,v)::l,h=>by
  rw[List.lookup_cons] at h
  cases q:a==k with
  |true=>rw[q] at h;cases h;rw[beq_iff_eq.mp q];exact .head _
  |false=>rw[q] at h;exact .tail _ (ig h)
theorem Frag.in_app{K T:Frag}{h:Heap}(a:K.In h)(b:T.In h):Frag.In (K++T) h:=λx o e=>by
 rw[List.lookup_append] at e
 cases q:K.lookup x with
 |none=>rw[q,Option.none_or] at e;exact b x o e
 |some y=>rw[q,Option.some_or] at e;exact a x o (q.trans e)
theorem po(P:Params)(T:Frag):kf P T=kf P []++T:=by kernel_rfl
theorem HT(P:Params):(kf P []).map (λp=>(H.T1 P).get p.1)=(kf P []).map (λp=>some p.2):=by kernel_rfl
theorem Ax(P:Params):(kf P []).map (λp=>alive p.2)=(kf P []).map (λp=>some p.2):=by kernel_rfl
theorem Js(P:Params):((kf P []).all λp=>decide (p.1<1623))=true:=by kernel_rfl
theorem B9{w:World}{h:Heap}{T:Frag}(Y:H.YP w h)(hT:T.In h):(kf w.params T).In h:=by
 rw[po]
 refine Frag.in_app (λa o e=>Y a o ?_) hT
 have hm:=ig e
 have h1:=WA (HT w.params) _ hm
 have h2:=WA (Ax w.params) _ hm
 have h3:=of_decide_eq_true (WL (Js w.params) _ hm)
 exact(abs_get h3 h1).trans h2
theorem MF{R:WRecords}{x:WData}(h:WShape.has R x .int=true):∃i,x=.int i:=by cases x <;> first |exact⟨_,rfl⟩ |exact ff h
theorem l8{R:WRecords}:∀{xs:List WData},WShape.hasItems R xs .int=true→∃l:List Int,xs=l.map WData.int
 |[],_=>⟨[],rfl⟩
 |x::xs,h=>have h:=WB (show(WShape.has R x .int&&WShape.hasItems R xs .int)=true from h);(MF h.1).elim λi e=>(l8 h.2).elim λl e'=>⟨i::l,e▸e'▸rfl⟩
theorem RA{R:WRecords}{cl:Str→Option Addr}{h:Heap}{i:Int}{l:List WData}{vs:List Value}{as:List Addr}{C:List Value→Prop}(r:ReadsAllW R cl h vs (.int i::l) as)(k:∀t vs' as',ReadsAllW R cl h vs' l as'→C (.int i t::vs')):C vs:=by
 cases r with
 |cons a r=>cases a;exact k _ _ _ r
theorem OU{R:WRecords}{cl:Str→Option Addr}{h:Heap}{vs:List Value}{as:List Addr}(r:ReadsAllW R cl h vs [] as):vs=[]:=by cases r;rfl
theorem pz{R:WRecords}{cl:Str→Option Addr}{h:Heap}{c:Cx}{Γ:Gh}(l:List Int):∀vs as,ReadsAllW R cl h vs (l.map WData.int) as→aG c Γ (l.map A.int) vs:=@List.rec Int (λl=>∀vs as,ReadsAllW R cl h vs (l.map WData.int) as→aG c Γ (l.map A.int) vs) (λvs as r=>OU r) (λi l ih vs as r=>RA (C:=λvs=>aG c Γ ((i::l).map A.int) vs) r λt vs' as' r=>.mk (.mk t) (ih vs' as' r)) l
theorem Gg{R:WRecords}{x:WData}(h:WShape.has R x (.list .int)=true):∃xs,x=.list xs∧WShape.hasItems R xs .int=true:=by
 cases x with
 |list xs=>exact⟨xs,rfl,(Bool.or_false _).symm.trans h⟩
 |_=>exact ff h
theorem yM{R:WRecords}{args:List WData}(h:WShape.hasAll R args [.list .int]=true):∃l:List Int,args=[.list (l.map WData.int)]:=by
 match args,h with
 |[],h=>exact ff h
 |x::y::r,h=>exact ff (WB (show(WShape.has R x (.list .int)&&false)=true from h)).2
 |[x],h=>exact(Gg (WB (show(WShape.has R x (.list .int)&&true)=true from h)).1).elim λxs e=>(l8 e.2).elim λl e'=>⟨l,by rw[e.1,e']⟩
theorem AV{l:List Int}(h:WTm.holds [] (PySem.Challenge.rw_xm0459_01).pre {args:=[.list (l.map WData.int)]}=true):l.length≤63:=by
 simp only[OpenLaw.pre,PySem.Challenge.rw_xm0459_01,WTm.holds] at h
 rcases Nat.lt_or_ge 63 l.length with q |q
 ·exfalso
  have q':(63:Int)<l.length:=by omega
  have e:less? (WData.int 63) (WData.int l.length)=some true:=by show some (decide _)=_;rw[decide_eq_true q']
  simp[WTm.value,e] at h
 ·exact q
theorem tS{q:Program}{loose:List Str}{p:Program}{mg mb:Str→Option Value}{h:Heap}(T:TopRead q loose mg mb h):∃loose',TopRead p loose' mg mb h:=
 ⟨loose++((recsOf q).map (·.name)++((litsOf q).map (·.1)++(clssOf q loose).map (·.name))),T.g,T.b,T.nolimit,T.builtins,λx h1 h2 _ _ _=>T.free x h1 (λz=>h2 (WH _ z)) (λz=>h2 (WG _ (WH _ z))) (λz=>h2 (WG _ (WG _ (WH _ z)))) λz=>h2 (WG _ (WG _ (WG _ z)))⟩
theorem room:Rm callerA 16:=⟨rfl,by decide,by decide⟩
def CA:Prop:=∀(l:List Int),l.length≤63→∀c:Cx,Wd c→bN c→(∀a fi,io a=some fi→ly c a fi)→(∀a i,lk a c6=some i→jw c a i)→∃T,dG c 15 T∧ae T 1622 [.a (.fl (l.map .int))] S0 λx _=>x=.a (.bool true)
theorem RE(plain:CA):PySem.Challenge.rw_xm0459_01.Holds:=by
 refine H.head λw s₀ s₁ mg mb G Y a o pm cd doc dV kV ha hd hcd hdf hmg hg args vals as hpre hlay hrd hwell hlow=>?_
 obtain⟨h1,h2⟩:=WB hpre
 obtain⟨l,rfl⟩:=yM h1
 have hl:l.length≤63:=AV h2
 obtain⟨loose',T⟩:=tS (p:=H.row.toRowW.prog) (topRead_of G.T)
 have X0:(kf w.params []).In s₁.heap:=B9 Y λa o e=>by cases e
 have ea:mg H.d.name=some (.ref 1622):=mg_of X0 T.g (by kernel_rfl)
 rw[hmg] at ea
 obtain rfl:a=1622:=by injection ea with ea;injection ea
 cases hrd with
 |cons r1 r2=>
  cases r2
  cases r1 with
  |list g1 g2 g3 g4=>
   rename_i b ob vs n as'
   have hT:Frag.In [(b,ob)] s₁.heap:=λx y e=>by
    rw[List.lookup_cons] at e
    split at e
    ·rename_i q;cases e;rw[beq_iff_eq.mp q];exact g1
    ·cases e
   have X:=B9 (T:=[(b,ob)]) Y hT
   have hk:(kf w.params [(b,ob)]).lookup b=some ob:=by
    cases q:(kf w.params []).lookup b with
    |none=>rw[po,List.lookup_append,q,Option.none_or,List.lookup_cons,beq_self_eq_true]
    |some y=>
     rw[po,List.lookup_append,q,Option.some_or]
     exact(X0 _ _ q).symm.trans g1
   have W:=uK (c:=⟨H.row.toRowW.prog,w,kf w.params [(b,ob)],loose',mg,mb,s₁⟩) (T:=[(b,ob)]) rfl
   obtain⟨Tb,hTb,q⟩:=plain l hl _ W.1 W.2.1 W.2.2.1 W.2.2.2
   have hv:b4 ⟨H.row.toRowW.prog,w,kf w.params [(b,ob)],loose',mg,mb,s₁⟩ (G0 s₁) [.a (.fl (l.map .int))] [.ref b]:=.mk (pt.mk (.inl hk) ⟨g2,n,g3.trans (by rw[Array.toArray_toList])⟩ (pz l _ _ g4) (by rw[WO];exact V9 hl (by decide))) rfl
   refine wpAny_call (yx (c:=⟨H.row.toRowW.prog,w,kf w.params [(b,ob)],loose',mg,mb,s₁⟩) W.1 W.2.1 hTb (W.2.2.1 1622) rfl (EZ _ _) X T room hv q λh' tk k=>?_)
   exact⟨.inl ⟨_,.bool true,[],rfl,λ_=>rfl,.bool true,by kernel_rfl,λ_=>⟨.nil,λ_ h=>by cases h⟩⟩,.of_keep k,rfl,hg▸.of_eq rfl⟩
end
end
section
open PySem
section
structure SU(c:Cx):Prop where
 w:Wd c
 m:bN c
 f:∀a fi,io a=some fi→ly c a fi
 k:∀a i,lk a c6=some i→jw c a i
structure CR(c:Cx)(u a:Nat)(C:ay):Prop where
 r:im c u a C
def fW(c:Cx)(u:Nat)(l:List (Nat×ay)):Prop:=∀p∈l,CR c u p.1 p.2
section
variable{c:Cx}{u v a:Nat}{C C':ay}{l:List (Nat×ay)}{s:List Nat}{T:bA}
theorem CR.up(h:CR c u a C)(e:u≤v):CR c v a C:=⟨λhA q st hv k=>h.r ⟨hA.1,V9 (Wl (Wj (Wr 2 e) _) 4) hA.2.1,V9 (Wl (Wj (Wr 10 e) _) 100) hA.2.2⟩ q st hv k⟩
theorem CR.imp(h:CR c u a C')(i:fD C C'):CR c u a C:=⟨λhA q st hv k=>h.r hA (i _ _ _ q) st hv k⟩
theorem n4(h:∀xs S K,C xs S K→∃C',CR c u a C'∧C' xs S K):CR c u a C:=⟨λhA q st hv k=>(h _ _ _ q).elim λC' h=>h.1.r hA h.2 st hv k⟩
theorem ok0:fW c u []:=λp h=>(WJ h).elim
theorem an(h:CR c v a C)(e:Nat.ble v u=true)(t:fW c u l):fW c u ((a,C)::l):=λp hp=>(WC hp).elim (λq=>q▸h.up (Wu e)) (t p)
theorem fW.up(h:fW c u l)(e:Nat.ble u v=true):fW c v l:=λp hp=>(h p hp).up (Wu e)
theorem fW.app{l':List (Nat×ay)}(h:fW c u l)(h':fW c u l'):fW c u (l++l'):=λp hp=>(WF hp).elim (h p) (h' p)
theorem K6:∀{l:List (Nat×ay)},lk a l=some C→(a,C)∈l:=λ{l}=>@List.rec (Nat×ay) (λl=>lk a l=some C→(a,C)∈l) (λh=>nomatch h) (λp r ih h=>by
 have h:cond (Nat.beq p.1 a) (some p.2) (lk a r)=some C:=h
 cases q:Nat.beq p.1 a with
 |true=>rw[q] at h;cases Wv q;cases(show p.2=C from Wz h);exact .head _
 |false=>rw[q] at h;exact .tail _ (ih h)) l
theorem fW.tab(h:fW c u l):dG c u {fn:=λa=>lk a l,sy:=s}:=λa C e=>(h _ (K6 e)).r
theorem LP:dG c u {fn:=λ_=>none,sy:=s}:=λa C (e:(none:Option ay)=some C)=>by cases e
variable(W:SU c)
include W
theorem bB(u:Nat)(t:fW c u l):CR c (u+1) a (ae {fn:=λa=>lk a l,sy:=s} a):=⟨K4 W.w W.m t.tab (W.f a)⟩
theorem gt(u:Nat)(t:fW c u l):CR c (u+1) a (cT {fn:=λa=>lk a l,sy:=s} a):=⟨CF t.tab (W.k a)⟩
theorem II:CR c 1 a (ae {fn:=λ_=>none,sy:=s} a):=⟨K4 (u:=0) W.w W.m LP (W.f a)⟩
theorem aK:CR c 1 a (ae {} a):=II W
theorem wg:CR c 1 a (cT {} a):=⟨CF (u:=0) LP (W.k a)⟩
theorem H6(h:∀xs S K,C xs S K→ae {fn:=λ_=>none,sy:=s} a xs S K):CR c 1 a C:=(II W).imp h
theorem dy(u:Nat)(t:fW c u l)(h:∀xs S K,C xs S K→ae {fn:=λa=>lk a l,sy:=s} a xs S K):CR c (u+1) a C:=(bB W u t).imp h
end
section
variable{c:Cx}{w:ai}{V:bg}{i:Bool}
theorem pL:fD (Fv (lB w i) (cond i w.node .none)) (xl w):=λxs S K h=>h.1.elim λV q=>⟨V,i,q.1,q.2,h.2⟩
theorem DO(ok:ii w)(vo:dv w V):fD (On (rY w V (V.fm true)) w (V.fm true) ((V.fm true).fm false) (w.frs true) (w.frs false)) (t5 w):=λxs S K h=>by
 cases q:yF xs with
 |none=>
  have h:opt (yF xs) _:=h
  rw[q] at h
  exact h.elim
 |some i=>cases i with
  |true=>exact v8 (i:=true) ok vo (λe=>nomatch e) rfl V (V.fm true) rfl h q
  |false=>exact v8 (i:=false) ok (V:=V.fm true) vo.fm (λ_=>rfl) rfl V (V.fm true) rfl h q
variable(W:SU c)
include W
theorem vU:fW c 1 L0:=an (aK W) rfl ok0
theorem R3:fW c 3 L2:=an (bB W 2 (an (gt W 1 (vU W)) rfl ((vU W).up rfl))) rfl (an (gt W 1 (vU W)) rfl ((vU W).up rfl))
theorem oc{L:List A}:CR c 4 1489 (dX L):=dy W 3 (R3 W) λ_ _ _ h=>DY h
theorem wQ:fW c 1 OA:=an (aK W) rfl (an (aK W) rfl (an (aK W) rfl (an (aK W) rfl (an (H6 W λ_ _ _ h=>Hg h) rfl (an (H6 W λ_ _ _ h=>Ho h) rfl ok0)))))
theorem Ey:CR c 3 894 cz:=dy W 2 (an (bB W 1 (wQ W)) rfl (an (bB W 1 (wQ W)) rfl ((wQ W).up rfl))) λ_ _ _ h=>Hl h
theorem AM:CR c 1 906 bO:=H6 W λ_ _ _ h=>As h
theorem Ks:CR c 2 880 jS:=bB W 1 (an (aK W) rfl ok0)
theorem y6:CR c 3 913 kM:=dy W 2 (an (Ks W) rfl ok0) λ_ _ _ h=>Ao h
theorem Nh:CR c 3 83 Hr:=dy W 2 (an (bB W 1 (an (aK W) rfl ok0)) rfl ok0) λ_ _ _ h=>QG h
theorem RN:CR c 1 634 (rS w):=(aK W).imp λ_ _ _ h=>P6 h
theorem Du:CR c 1 307 (ib w):=(aK W).imp λ_ _ _ h=>JM h
theorem NY:CR c 3 738 (td w):=dy W 2 (an (bB W 1 (an (Du W) rfl ok0)) rfl ok0) λ_ _ _ h=>K7 h
theorem QH:CR c 7 698 (tH w):=n4 λxs S K h=>by
 obtain⟨Cp,Cf,ip,jf,q⟩:=RM h
 have rp:=(Du W (w:=w)).imp ip
 have rf:=(RN W (w:=w)).imp jf
 have o480:CR c 1 480 oh.2:=aK W
 have o1004:CR c 2 1004 p6.2:=bB W 1 (s:=[]) (an (aK W) rfl ok0)
 have o452:CR c 3 452 Ej.2:=bB W 2 (s:=[]) (an o480 rfl (an o1004 rfl ok0))
 have o1011:CR c 2 1011 BQ.2:=bB W 1 (s:=[]) (an (aK W) rfl ok0)
 have o660:CR c 3 660 (EA Cf).2:=bB W 2 (s:=[]) (an o480 rfl (an o1011 rfl (an rf rfl ok0)))
 have o417:CR c 2 417 LY.2:=bB W 1 (s:=[]) (an (aK W) rfl (an (aK W) rfl ok0))
 have o429:CR c 3 429 (AF Cp).2:=bB W 2 (s:=[]) (an (aK W) rfl (an (aK W) rfl (an (aK W) rfl (an o417 rfl (an rp rfl ok0)))))
 have o693:CR c 6 693 (FZ Cp).2:=bB W 5 (s:=[]) (an (bB W 4 (s:=[]) (an (bB W 3 (s:=[]) (an o429 rfl ok0)) rfl ok0)) rfl ok0)
 have ot:fW c 6 [oh,p6,Ej,EA Cf,FZ Cp,(445,ae {} 445),AF Cp]:=an o480 rfl (an o1004 rfl (an o452 rfl (an o660 rfl (an o693 rfl (an (aK W) rfl (an o429 rfl ok0))))))
 exact⟨_,bB W 6 (s:=[]) ot,q⟩
theorem NB:CR c 8 920 (kZ w):=dy W 7 (an (NY W) rfl (an (QH W) rfl ok0)) λ_ _ _ h=>Tn h
theorem Je:CR c 2 927 (lD w):=dy W 1 (an (aK W) rfl (an (aK W) rfl ok0)) λ_ _ _ h=>To h
theorem nX:CR c 2 1366 (cb w):=dy W 1 (an (aK W) rfl ok0) λ_ _ _ h=>F6 h
theorem Ex:CR c 4 1352 (pA w):=dy W 3 (an (bB W 2 (an (gt W 1 (an (aK W) rfl ok0)) rfl ok0)) rfl ok0) λ_ _ _ h=>DS h
theorem kN:CR c 5 1345 (bX w):=dy W 4 (an (Ex W) rfl ok0) λ_ _ _ h=>AU h
theorem Pk:CR c 6 990 (iq w):=dy W 5 (an (nX W) rfl (an (kN W) rfl ok0)) λ_ _ _ h=>PO h
theorem Pd:CR c 9 976 (o1 w):=dy W 8 (an (NB W) rfl (an (Je W) rfl (an (nX W) rfl (an (aK W) rfl (an (kN W) rfl ok0))))) λ_ _ _ h=>QX h
theorem UJ:CR c 1 1612 (E8 w):=(aK W).imp λ_ _ _ h=>UK h
theorem JO:CR c 1 1584 (iz w):=H6 W λ_ _ _ h=>OP h
theorem QW:CR c 2 1617 (HD w):=dy W 1 (an (JO W) rfl ok0) λ_ _ _ h=>QK h
variable(ok:ii w)
include ok
theorem CN:CR c 1 787 (xl w):=(aK W).imp λ_ _ _ h=>Nv ok h
theorem Nb:CR c 2 792 (zR w):=dy W 1 (an (aK W) rfl ok0) λ_ _ _ h=>OZ h
theorem Sf:CR c 5 830 (IX w):=dy W 4 (an (aK W) rfl (an (Nb W ok) rfl (an (dy W 3 (an (dy W 2 (an (Nb W ok) rfl ok0) λ_ _ _ h=>Q1 h) rfl (an (dy W 1 (an (aK W) rfl ok0) λ_ _ _ h=>OY ok h) rfl ok0)) λ_ _ _ h=>TT ok.psl h) rfl
 (an (dy W 2 (an (aK W) rfl (an (bB W 1 (an (aK W) rfl ok0)) rfl ok0)) λ_ _ _ h=>R6 ok.d h) rfl ok0)))) λ_ _ _ h=>PT h
theorem IY:CR c 7 844 (t5 w):=n4 λxs S K h=>(Tt ok h).elim λi q=>⟨_,bB W 6 (s:=[]) (an (bB W 5 (an ((CN W ok).imp pL) rfl (an (Sf W ok) rfl ok0))) rfl ok0),q⟩
theorem xX:CR c 8 858 (lC w):=n4 λxs S K h=>(Fj ok h).elim λV q=>⟨_,bB W 7 (s:=[]) (an (aK W) rfl (an ((IY W ok).imp (DO ok q.1)) rfl ok0)),q.2⟩
theorem K9:CR c 9 941 (B2 w):=dy W 8 (an (xX W ok) rfl ok0) λ_ _ _ h=>I4 ok h
theorem MP:CR c 8 934 (Dd w):=dy W 7 (an (IY W ok) rfl ok0) λ_ _ _ h=>MQ ok h
theorem MX:CR c 2 969 (BZ w):=n4 λxs S K h=>(Jq ok h).elim λV q=>⟨_,bB W 1 (s:=[]) (an ((CN W ok).imp (pL (i:=true))) rfl (an (aK W) rfl (an (aK W) rfl ok0))),q.2⟩
theorem PQ:CR c 9 955 (Hi w):=n4 λxs S K h=>(TZ ok h).elim λu q=>⟨_,bB W 8 (s:=[]) (an ((Nh W).imp Cy) rfl (an ((xX W ok).imp (z0 q.1)) rfl ok0)),q.2⟩
theorem Ps:CR c 10 962 (gU w):=n4 λxs S K h=>by
 obtain⟨u,uk,se,q⟩:=QP ok h
 have hn:=uk.ok.nm
 refine⟨_,bB W 9 (s:=[]) (an ((y6 W).imp (KY uk se)) rfl (an ((PQ W ok).imp (F4 uk.ok)) rfl (an ((Nh W).imp Cy) rfl (an ((K9 W ok).imp (tv (v:=λnm=>.bool (cU (w.fM nm))) hn)) rfl (an ((MX W ok).imp (tv (v:=λnm=>.bool (w.arr nm)) hn)) rfl (an ((MP W ok).imp (tv (v:=λnm=>.int (w.own nm)) hn)) rfl
  (an (Pd W) rfl (an (Je W) rfl (an (NB W) rfl (an (nX W) rfl (an (kN W) rfl ok0))))))))))),q⟩
theorem K1:CR c 2 948 (dB w):=dy W 1 (an (aK W) rfl ok0) λ_ _ _ h=>IR ok.d h
theorem OT:CR c 11 983 (Ek w):=dy W 10 (an (AM W) rfl (an (Ey W) rfl (an (Pk W) rfl (an (K1 W ok) rfl (an (Ps W ok) rfl ok0))))) λ_ _ _ h=>Pq ok h
end
section
variable{c:Cx}{L:List A}{u a:Nat}{C:ay}
theorem tQ(h:∀{xs S K},C xs S K→False):CR c 0 a C:=⟨λhA q st hv k=>(h q).elim⟩
theorem Hm{α:Type}{D:α→ay}(h:∀w,CR c u a (D w)):CR c u a λxs S K=>∃w,D w xs S K:=⟨λhA q st hv k=>q.elim λw q=>(h w).r hA q st hv k⟩
variable(W:SU c)
include W
theorem ET:CR c 3 1560 (f8 1):=dy W 2 (an (aK W) rfl (an (dy W 1 (an (aK W) rfl (an (tQ (C:=Io 0) id) rfl ok0)) λ_ _ _ h=>Cj (k:=0) h:CR c 2 1560 (f8 0)) rfl ok0)) λ_ _ _ h=>Cj (k:=1) h
theorem I8:CR c 3 1579 ql:=dy W 2 (an (dy W 1 (an (dy W 0 (an (tQ (C:=yg 0) id) rfl ok0) λ_ _ _ h=>ut (k:=0) h:CR c 1 1572 (bG 0)) rfl ok0) λ_ _ _ h=>ut (k:=1) h:CR c 2 1572 (bG 1)) rfl ok0) λ_ _ _ h=>J7 h
theorem Aa:CR c 5 1565 (iQ L):=dy W 4 (an (aK W) rfl (an (ET W) rfl (an (oc W) rfl ok0))) λ_ _ _ h=>Br h
theorem PV:fW c 4 Yc:=an (gt W 2 (an (bB W 1 (an (aK W) rfl ok0)) rfl ok0)) rfl (an (gt W 1 (an (aK W) rfl ok0)) rfl (an (gt W 1 (an (aK W) rfl ok0)) rfl (an (gt W 1 (an (aK W) rfl ok0)) rfl (an (gt W 1 (an (aK W) rfl ok0)) rfl (an (gt W 1 (an (aK W) rfl ok0)) rfl
 (an (gt W 3 (an (bB W 2 (an (gt W 1 (an (aK W) rfl ok0)) rfl (an (wg W) rfl (an (gt W 1 (an (aK W) rfl ok0)) rfl (an (wg W) rfl (an (wg W) rfl (an (wg W) rfl (an (wg W) rfl ok0)))))))) rfl ok0)) rfl (an (bB W 2 (an (gt W 1 (an (aK W) rfl ok0)) rfl ok0)) rfl ok0)))))))
theorem OR:fW c 4 Yd:=(PV W).app (an (aK W) rfl (an (aK W) rfl (an (bB W 1 (an (aK W) rfl (an (aK W) rfl ok0))) rfl ok0)))
theorem P7:fW c 11 Yx:=an (Hm λw=>UJ W) rfl (an (Hm λw=>JO W) rfl (an (Hm λw=>QW W) rfl (an (n4 λxs S K h=>h.elim λw h=>⟨_,OT W h.1,h.2⟩) rfl (an (aK W) rfl ok0))))
variable(hL:∀a∈L,∃i,a=A.int i)
include hL
theorem GP:fW c 4 (T3 L):=an (H6 W (s:=[]) λ_ _ _ h=>tw hL h) rfl (an (oc W) rfl ((vU W).up rfl))
theorem o9:fW c 5 (T4 L):=an (bB W 4 (GP W hL)) rfl ((GP W hL).up rfl)
theorem Fi:fW c 6 (T5 L):=an (bB W 5 (o9 W hL)) rfl (an (dy W 5 (o9 W hL) λ_ _ _ h=>J9 h) rfl ((o9 W hL).up rfl))
theorem t8:fW c 7 (T6 L):=an (bB W 6 (Fi W hL)) rfl ((Fi W hL).up rfl)
theorem qh:CR c 9 1522 (cI L 2):=dy W 8 (an (dy W 7 (an (tQ (C:=cI L 0) Bo) rfl (t8 W hL)) λ_ _ _ h=>o4 (k:=0) h:CR c 8 1522 (cI L 1)) rfl ((t8 W hL).up rfl)) λ_ _ _ h=>o4 (k:=1) h
theorem Aw:CR c 10 1522 (cI L 3):=dy W 9 (an (qh W hL) rfl ((t8 W hL).up rfl)) λ_ _ _ h=>o4 (k:=2) h
theorem GT:fW c 9 (T7 L):=an (qh W hL) rfl ((o9 W hL).up rfl)
theorem FH:CR c 12 1529 (d8 L 3):=dy W 11 (an (dy W 10 (an (dy W 9 (an (tQ (C:=d8 L 0) FS) rfl (GT W hL)) λ_ _ _ h=>uz (k:=0) h:CR c 10 1529 (d8 L 1)) rfl ((GT W hL).up rfl)) λ_ _ _ h=>uz (k:=1) h:CR c 11 1529 (d8 L 2)) rfl ((GT W hL).up rfl)) λ_ _ _ h=>uz (k:=2) h
theorem A3:CR c 13 1536 (lj L):=dy W 12 (an (FH W hL) rfl (an (Aw W hL) rfl ((t8 W hL).up rfl))) λ_ _ _ h=>yI h
theorem qY:CR c 1 1481 (iN L):=H6 W (s:=[]) λ_ _ _ h=>Bz hL h
theorem NI:fW c 7 (T9 L):=an (bB W 5 (o9 W hL)) rfl (an (qY W hL) rfl (t8 W hL))
theorem yX:CR c 9 1548 (dZ L 2):=dy W 8 (an (dy W 7 (an (tQ (C:=dZ L 0) A5) rfl (NI W hL)) λ_ _ _ h=>wf (k:=0) h:CR c 8 1548 (dZ L 1)) rfl ((NI W hL).up rfl)) λ_ _ _ h=>wf (k:=1) h
theorem KO:fW c 13 (F5 L):=an (qY W hL) rfl (an (oc W) rfl (an (bB W 4 (GP W hL)) rfl (an (A3 W hL) rfl (an (yX W hL) rfl (an (dy W 5 (o9 W hL) λ_ _ _ h=>Es h) rfl (an (dy W 6 (Fi W hL) λ_ _ _ h=>uw h) rfl (an (dy W 5 (o9 W hL) λ_ _ _ h=>Gb h) rfl ok0)))))))
theorem MI:fW c 15 (F5 L++Y1 L (Yd++Yx)):=((KO W hL).up rfl).app (an (gt W 1 (an (aK W) rfl ok0)) rfl (an (Aa W) rfl (an (I8 W) rfl (((OR W).up rfl).app ((P7 W).up rfl)))))
end
theorem AW{l:List Int}:∀a∈(l.map A.int).take 63,∃i,a=A.int i:=λa h=>(List.mem_map.mp (List.mem_of_mem_take h)).elim λi h=>⟨i,h.2.symm⟩
theorem plain:CA:=λl hl c w m f k=>⟨TW ((l.map A.int).take 63) (Y1 ((l.map A.int).take 63) (Yd++Yx)),(MI ⟨w,m,f,k⟩ AW).tab,cast (by kernel_rfl) (vt (L0:=l.map A.int) (gl:=Hc 5) (K:=λx _=>x=X.a (.bool true)) λS=>rfl)⟩
theorem law_holds:PySem.Challenge.rw_xm0459_01.Holds:=RE plain
end
end
end
end Mine
theorem PySem.Challenge.cw_xm0459_01_holds : PySem.Challenge.rw_xm0459_01.Holds :=
 Mine.law_holds
