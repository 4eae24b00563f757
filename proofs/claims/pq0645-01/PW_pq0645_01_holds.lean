import PyProof.Rows.All
import Wide.All
import OpenK.AllK
import Wide.FinOn
import PySem.Challenge.RW_pq0645_01
set_option Elab.async false
set_option maxRecDepth 100000
set_option linter.all false
set_option genInjectivity false
set_option genSizeOf false
section
namespace Hd
open PySem PySem.W PySem.Calls PyProof.Rows
section
noncomputable abbrev pw:Program:=PySem.Challenge.pw_pq0645_01
noncomputable def bd:List Stmt:=behindTheImports pw
noncomputable def nth:List Stmt→Nat→Stmt
 |[],_=>.Pass ⟨0,0,0,0⟩
 |a::_,0=>a
 |_::r,n+1=>nth r n
noncomputable def put {α:Type}:List α→Nat→α→List α
 |[],_,_=>[]
 |_::r,0,a=>a::r
 |b::r,n+1,a=>b::put r n a
noncomputable def upd {α:Type}:List α→List (Nat×α)→List α
 |l,[]=>l
 |l,(i,a)::r=>upd (put l i a) r
noncomputable def sel:Bool→List Obj→List Obj
 |_,[]=>[]
 |true,_::r=>sel false r
 |false,a::r=>a::sel true r
noncomputable def bt:Nat→List Obj→BT
 |0,_=>.nil
 |_+1,[]=>.nil
 |n+1,o::r=>.node o (bt n (sel false r)) (bt n (sel true r))
noncomputable def st (i:Nat):Stmt:=nth bd i
noncomputable def sm (i j:Nat):Stmt:=match nth bd i with
 |.ClassDef _ _ _ b _ _ _ _ _ _ _=>nth b j
 |s=>s
noncomputable def fS (s:Stmt) (q:Str) (g:Addr) (cl:List (Str×Addr)) (df kd dc pm:Value) (an:Option Addr) (cd ct:Value) (bi:Addr):FuncData:=match s with
 |.FunctionDef nm ps b _ _ _ sc _ _ _=>⟨nm,q,ps,.stmts b,sc,g,cl,df,kd,dc,pm,an,cd,ct,bi⟩
 |_=>default
noncomputable def tU (l:List Value):Obj:=⟨.type "tuple",none,.seq l.toArray 0,#[]⟩
noncomputable def pl (l:List Value):Obj:=⟨.none,none,.fields l.toArray,#[]⟩
noncomputable def co (l:List Value):Obj:=⟨.type "code",none,.fields l.toArray,#[]⟩
noncomputable def tm (f:FuncData):Obj:=⟨.none,none,.func f,#[]⟩
noncomputable def fu (f:FuncData):Obj:=⟨.type "function",none,.func f,#[]⟩
noncomputable def tM (s:Stmt) (q:Str):Obj:=tm (fS s q 0 [] .none .none .none .none none .none .none 0)
noncomputable def fU (s:Stmt) (q m:Str) (t:Tok) (c:Addr):Obj:=fu (fS s q 3 [] .none .none .none (.str m t) none (.ref c) .none 0)
noncomputable def cO (x y:Str) (n:Nat) (l a b c d:Int) (r:Addr) (e:Int) (q:Addr) (u v w:Value) (t:Nat):Obj:=co [.str x n,.str y (n+1),.str "/claim/cut.py" (n+2),.int l 0,.int a 0,.int b 0,.int c 0,.int d 0,.ref r,.bool true,.int e 0,.ref q,.none,u,v,w,.int (.ofNat t) 0,.int l 0,.str "/claim/cut.py" (t+1)]
noncomputable def di (n:Nat) (l:List DictEntry):Obj:=⟨.type "dict",none,.dict l.toArray n,#[]⟩
noncomputable def en (P:Params) (x:Str) (t:Nat) (v:Value):DictEntry:=⟨PyData.keyHash P x,.str x t,v⟩
noncomputable def L0 (P:Params):List Obj:=[boot_o_0 P,boot_o_1 P,boot_o_2 P,boot_o_3 P,boot_o_4 P,boot_o_5 P,boot_o_6 P,boot_o_7 P,boot_o_8 P,boot_o_9 P,boot_o_10 P]
noncomputable def Na (P:Params):List Obj:=[
 tU [],
 pl [],
 co [.str "<module>" 182,.str "<module>" 183,.str "/claim/cut.py" 184,.int 1 0,.int 0 0,.int 0 0,.int 0 0,.int 0 0,.ref 11,.bool false,.int 181 0,.ref 12,.none,.none,.none,.none,.int 185 0,.int 1 0,.str "/claim/cut.py" 186],
 {cls:=Value.type "frame",slots:=#[some (Value.ref 13),some (Value.ref 3),some (Value.ref 3),none,some (Value.str (Str.ofString "__main__") 164),none,some (Value.ref 0)]}]
noncomputable def La (P:Params):List Obj:=upd (L0 P) []++Na P
noncomputable def Nb (P:Params):List Obj:=[
]
noncomputable def Lb (P:Params):List Obj:=upd (La P) []++Nb P
noncomputable def KU (P:Params):List DictEntry:=[en P "__name__" 165 (.str "ledgerspeak.errors" 194),en P "__doc__" 166 .none,en P "__package__" 167 .none,en P "__loader__" 168 (.builtin "__main__.__loader__#opaque"),en P "__spec__" 169 .none,en P "__annotations__" 170 (.ref 6),en P "__builtins__" 171 (.ref 4),en P "__file__" 173 (.str "/claim/cut.py" 172),en P "__cached__" 174 .none,en P "_wall" 193 (.ref 21),en P "LedgerError" 235 (.ref 47)]
noncomputable def J8 (P:Params):List DictEntry:=KU P
noncomputable def tr:List (Nat×Nat)→List Value
 |[]=>[]
 |p::r=>.int (.ofNat p.1) 0::.int 0 0::.ref p.2::tr r
noncomputable def CQ:List Value:=tr [(1,20),(5,27)]
noncomputable def J9 (P:Params):List DictEntry:=[en P "__module__" 203 (.str "ledgerspeak.errors" 194),en P "__qualname__" 205 (.str "LedgerError" 204),en P "__firstlineno__" 207 (.int 5 206),en P "__init__" 218 (.ref 37),en P "told" 225 (.ref 44),en P "__static_attributes__" 228 (.ref 45)]
noncomputable def JP:List Value:=[.int 7 0,.int 4 0,.ref 36,.int 12 0,.int 4 0,.ref 43]
noncomputable def JZ (P:Params):List DictEntry:=[en P "__module__" 203 (.str "ledgerspeak.errors" 194),en P "__firstlineno__" 207 (.int 5 206),en P "__init__" 218 (.ref 37),en P "told" 225 (.ref 44),en P "__static_attributes__" 228 (.ref 45),en P "__weakref__" 230 (.ref 48),en P "__doc__" 231 .none]
noncomputable def N1 (P:Params):List Obj:=[
 tU [],
 pl [],
 tU [.str "k" 190],
 tU [],
 tM (st 0) "_wall",
 cO "_wall" "_wall" 187 1 1 0 0 3 15 181 16 (.ref 17) (.ref 18) (.ref 19) 191,
 fU (st 0) "_wall" "__main__" 164 20,
 tU [.type "Exception"],
 {cls:=Value.type "builtin_function_or_method",data:=Data.fields #[Value.builtin "type.__prepare__",Value.type "type"]},
 di 6 (J9 P),
 tU [],
 pl JP,
 co [.str "LedgerError" 198,.str "LedgerError" 199,.str "/claim/cut.py" 200,.int 5 0,.int 0 0,.int 0 0,.int 0 0,.int 0 0,.ref 25,.bool false,.int 181 0,.ref 26,.none,.none,.none,.none,.int 201 0,.int 5 0,.str "/claim/cut.py" 202],
 {cls:=Value.type "frame",slots:=#[some (Value.ref 27),some (Value.ref 3),some (Value.ref 24),none,some (Value.str (Str.ofString "ledgerspeak.errors") 194),none,some (Value.ref 0)]},
 tU [.int 0 208,.int 0 209],
 tU [.ref 29],
 tU [],
 pl [],
 tU [.str "self" 213,.str "what" 214,.str "at" 215],
 tU [],
 tM (sm 2 0) "LedgerError.__init__",
 cO "__init__" "LedgerError.__init__" 210 7 3 0 0 3 31 181 32 (.ref 33) (.ref 34) (.ref 35) 216,
 fu (fS (sm 2 0) "LedgerError.__init__" 3 [] (.ref 30) .none .none (.str "ledgerspeak.errors" 194) none (.ref 36) .none 0),
 tU [],
 pl [],
 tU [.str "self" 222],
 tU [],
 tM (sm 2 1) "LedgerError.told",
 cO "told" "LedgerError.told" 219 12 1 0 0 3 38 181 39 (.ref 40) (.ref 41) (.ref 42) 223,
 fU (sm 2 1) "LedgerError.told" "ledgerspeak.errors" 194 43,
 tU [.str "at" 226,.str "what" 227],
 di 3 (JZ P),
 {cls:=Value.type "type",data:=Data.cls {name:=Str.ofString "LedgerError",bases:=[Value.type "Exception"],mro:=[Value.ref 47,Value.type "Exception",Value.type "BaseException",Value.type "object"],ns:=46,qualname:=Str.ofString "LedgerError"},slots:=#[some (Value.ref 22),none,some (Value.str (Str.ofString "LedgerError") 196),some (Value.str (Str.ofString "LedgerError") 204),some (Value.builtin "Exception.__new__"),some (Value.bool true)]},
 {cls:=Value.type "getset_descriptor",data:=Data.fields #[Value.str (Str.ofString "__weakref__") 229,Value.ref 47,Value.builtin "ExceptionGroup.__weakref__",Value.none]},
 {cls:=Value.type "super",data:=Data.fields #[Value.ref 47,Value.ref 47,Value.ref 47]},
 {cls:=Value.type "builtin_function_or_method",data:=Data.fields #[Value.builtin "object.__init_subclass__",Value.ref 47]}]
noncomputable def u2 (P:Params):Obj:={cls:=Value.none,data:=Data.dict #[{hash:=PyData.keyHash P (Str.ofString "type.__subclasses__.Exception.0"),key:=Value.str (Str.ofString "type.__subclasses__.Exception.0") 232,val:=Value.int 47 0},{hash:=PyData.keyHash P (Str.ofString "type.__subclasses__.Exception.n"),key:=Value.str (Str.ofString "type.__subclasses__.Exception.n") 233,val:=Value.int 1 0}] 2}
noncomputable def L1 (P:Params):List Obj:=upd (Lb P) [(2,u2 P),(3,di 11 (J8 P)),(12,pl CQ)]++N1 P
noncomputable def KS (P:Params):List DictEntry:=[en P "TokenFault" 251 (.ref 60)]
noncomputable def J7 (P:Params):List DictEntry:=upd (J8 P) []++KS P
noncomputable def CP:List Value:=upd CQ []++tr [(14,56)]
noncomputable def JY (P:Params):List DictEntry:=[en P "__module__" 243 (.str "ledgerspeak.errors" 194),en P "__qualname__" 245 (.str "TokenFault" 244),en P "__firstlineno__" 247 (.int 14 246),en P "__static_attributes__" 248 (.ref 58)]
noncomputable def JX (P:Params):List DictEntry:=[en P "__module__" 243 (.str "ledgerspeak.errors" 194),en P "__firstlineno__" 247 (.int 14 246),en P "__static_attributes__" 248 (.ref 58),en P "__doc__" 249 .none]
noncomputable def N2 (P:Params):List Obj:=[
 tU [.ref 47],
 {cls:=Value.type "builtin_function_or_method",data:=Data.fields #[Value.builtin "type.__prepare__",Value.type "type"]},
 di 4 (JY P),
 tU [],
 pl [],
 co [.str "TokenFault" 238,.str "TokenFault" 239,.str "/claim/cut.py" 240,.int 14 0,.int 0 0,.int 0 0,.int 0 0,.int 0 0,.ref 54,.bool false,.int 181 0,.ref 55,.none,.none,.none,.none,.int 241 0,.int 14 0,.str "/claim/cut.py" 242],
 {cls:=Value.type "frame",slots:=#[some (Value.ref 56),some (Value.ref 3),some (Value.ref 53),none,some (Value.str (Str.ofString "ledgerspeak.errors") 194),none,some (Value.ref 0)]},
 tU [],
 di 2 (JX P),
 {cls:=Value.type "type",data:=Data.cls {name:=Str.ofString "TokenFault",bases:=[Value.ref 47],mro:=[Value.ref 60,Value.ref 47,Value.type "Exception",Value.type "BaseException",Value.type "object"],ns:=59,qualname:=Str.ofString "TokenFault"},slots:=#[some (Value.ref 51),none,some (Value.str (Str.ofString "TokenFault") 236),some (Value.str (Str.ofString "TokenFault") 244),some (Value.builtin "Exception.__new__"),some (Value.bool true)]},
 {cls:=Value.type "super",data:=Data.fields #[Value.ref 60,Value.ref 60,Value.ref 60]},
 {cls:=Value.type "builtin_function_or_method",data:=Data.fields #[Value.builtin "object.__init_subclass__",Value.ref 60]}]
noncomputable def L2 (P:Params):List Obj:=upd (L1 P) [(3,di 12 (J7 P)),(12,pl CP),(47,{cls:=Value.type "type",data:=Data.cls {name:=Str.ofString "LedgerError",bases:=[Value.type "Exception"],mro:=[Value.ref 47,Value.type "Exception",Value.type "BaseException",Value.type "object"],ns:=46,qualname:=Str.ofString "LedgerError",subclasses:=[Value.ref 60]},slots:=#[some (Value.ref 22),none,some (Value.str (Str.ofString "LedgerError") 196),some (Value.str (Str.ofString "LedgerError") 204),some (Value.builtin "Exception.__new__"),some (Value.bool true)]})]++N2 P
noncomputable def KR (P:Params):List DictEntry:=[en P "GrammarFault" 267 (.ref 72),en P "FIGURES" 271 (.str "0123456789" 270),en P "cut_quotient" 279 (.ref 81),en P "decimal" 288 (.ref 89),en P "negated" 295 (.ref 96),en P "units_at" 306 (.ref 103),en P "is_whole" 313 (.ref 110)]
noncomputable def J6 (P:Params):List DictEntry:=upd (J7 P) [(0,en P "__name__" 165 (.str "ledgerspeak.decimals" 268))]++KR P
noncomputable def CO:List Value:=upd CP []++tr [(16,68),(20,80),(24,88),(31,95),(33,102),(41,109)]
noncomputable def JV (P:Params):List DictEntry:=[en P "__module__" 259 (.str "ledgerspeak.errors" 194),en P "__qualname__" 261 (.str "GrammarFault" 260),en P "__firstlineno__" 263 (.int 16 262),en P "__static_attributes__" 264 (.ref 70)]
noncomputable def JU (P:Params):List DictEntry:=[en P "__module__" 259 (.str "ledgerspeak.errors" 194),en P "__firstlineno__" 263 (.int 16 262),en P "__static_attributes__" 264 (.ref 70),en P "__doc__" 265 .none]
noncomputable def N3 (P:Params):List Obj:=[
 tU [.ref 47],
 {cls:=Value.type "builtin_function_or_method",data:=Data.fields #[Value.builtin "type.__prepare__",Value.type "type"]},
 di 4 (JV P),
 tU [],
 pl [],
 co [.str "GrammarFault" 254,.str "GrammarFault" 255,.str "/claim/cut.py" 256,.int 16 0,.int 0 0,.int 0 0,.int 0 0,.int 0 0,.ref 66,.bool false,.int 181 0,.ref 67,.none,.none,.none,.none,.int 257 0,.int 16 0,.str "/claim/cut.py" 258],
 {cls:=Value.type "frame",slots:=#[some (Value.ref 68),some (Value.ref 3),some (Value.ref 65),none,some (Value.str (Str.ofString "ledgerspeak.errors") 194),none,some (Value.ref 0)]},
 tU [],
 di 2 (JU P),
 {cls:=Value.type "type",data:=Data.cls {name:=Str.ofString "GrammarFault",bases:=[Value.ref 47],mro:=[Value.ref 72,Value.ref 47,Value.type "Exception",Value.type "BaseException",Value.type "object"],ns:=71,qualname:=Str.ofString "GrammarFault"},slots:=#[some (Value.ref 63),none,some (Value.str (Str.ofString "GrammarFault") 252),some (Value.str (Str.ofString "GrammarFault") 260),some (Value.builtin "Exception.__new__"),some (Value.bool true)]},
 {cls:=Value.type "super",data:=Data.fields #[Value.ref 72,Value.ref 72,Value.ref 72]},
 {cls:=Value.type "builtin_function_or_method",data:=Data.fields #[Value.builtin "object.__init_subclass__",Value.ref 72]},
 tU [],
 pl [],
 tU [.str "top" 275,.str "bottom" 276],
 tU [],
 tM (st 7) "cut_quotient",
 cO "cut_quotient" "cut_quotient" 272 20 2 0 0 3 75 181 76 (.ref 77) (.ref 78) (.ref 79) 277,
 fU (st 7) "cut_quotient" "ledgerspeak.decimals" 268 80,
 tU [.int 0 280],
 tU [],
 pl [],
 tU [.str "units" 284,.str "scale" 285],
 tU [],
 tM (st 8) "decimal",
 cO "decimal" "decimal" 281 24 2 0 0 3 83 181 84 (.ref 85) (.ref 86) (.ref 87) 286,
 fu (fS (st 8) "decimal" 3 [] (.ref 82) .none .none (.str "ledgerspeak.decimals" 268) none (.ref 88) .none 0),
 tU [],
 pl [],
 tU [.str "a" 292],
 tU [],
 tM (st 9) "negated",
 cO "negated" "negated" 289 31 1 0 0 3 90 181 91 (.ref 92) (.ref 93) (.ref 94) 293,
 fU (st 9) "negated" "ledgerspeak.decimals" 268 95,
 tU [],
 pl [],
 tU [.str "a" 299,.str "scale" 300,.str "is_rounded" 301,.str "size" 302,.str "half" 303],
 tU [],
 tM (st 10) "units_at",
 cO "units_at" "units_at" 296 33 3 0 0 3 97 181 98 (.ref 99) (.ref 100) (.ref 101) 304,
 fU (st 10) "units_at" "ledgerspeak.decimals" 268 102,
 tU [],
 pl [],
 tU [.str "a" 310],
 tU [],
 tM (st 11) "is_whole",
 cO "is_whole" "is_whole" 307 41 1 0 0 3 104 181 105 (.ref 106) (.ref 107) (.ref 108) 311,
 fU (st 11) "is_whole" "ledgerspeak.decimals" 268 109]
noncomputable def u47 (P:Params):Obj:={cls:=Value.type "type",data:=Data.cls {name:=Str.ofString "LedgerError",bases:=[Value.type "Exception"],mro:=[Value.ref 47,Value.type "Exception",Value.type "BaseException",Value.type "object"],ns:=46,qualname:=Str.ofString "LedgerError",subclasses:=[Value.ref 60,Value.ref 72]},slots:=#[some (Value.ref 22),none,some (Value.str (Str.ofString "LedgerError") 196),some (Value.str (Str.ofString "LedgerError") 204),some (Value.builtin "Exception.__new__"),some (Value.bool true)]}
noncomputable def L3 (P:Params):List Obj:=upd (L2 P) [(3,di 19 (J6 P)),(12,pl CO),(47,u47 P)]++N3 P
noncomputable def KQ (P:Params):List DictEntry:=[en P "whole_of" 320 (.ref 117),en P "worth_of" 329 (.ref 124),en P "read_decimal" 342 (.ref 131),en P "write_decimal" 350 (.ref 138),en P "MOST_FIGURES" 354 (.int 18 353)]
noncomputable def J5 (P:Params):List DictEntry:=upd (J6 P) [(0,en P "__name__" 165 (.str "ledgerspeak.tokens" 351))]++KQ P
noncomputable def CN:List Value:=upd CO []++tr [(43,116),(45,123),(50,130),(65,137)]
noncomputable def N4 (P:Params):List Obj:=[
 tU [],
 pl [],
 tU [.str "a" 317],
 tU [],
 tM (st 12) "whole_of",
 cO "whole_of" "whole_of" 314 43 1 0 0 3 111 181 112 (.ref 113) (.ref 114) (.ref 115) 318,
 fU (st 12) "whole_of" "ledgerspeak.decimals" 268 116,
 tU [],
 pl [],
 tU [.str "figures" 324,.str "number" 325,.str "figure" 326],
 tU [],
 tM (st 13) "worth_of",
 cO "worth_of" "worth_of" 321 45 1 0 0 3 118 181 119 (.ref 120) (.ref 121) (.ref 122) 327,
 fU (st 13) "worth_of" "ledgerspeak.decimals" 268 123,
 tU [],
 pl [],
 tU [.str "text" 333,.str "begin" 334,.str "ahead" 335,.str "behind" 336,.str "point" 337,.str "at" 338,.str "units" 339],
 tU [],
 tM (st 14) "read_decimal",
 cO "read_decimal" "read_decimal" 330 50 1 0 0 3 125 181 126 (.ref 127) (.ref 128) (.ref 129) 340,
 fU (st 14) "read_decimal" "ledgerspeak.decimals" 268 130,
 tU [],
 pl [],
 tU [.str "a" 346,.str "figures" 347],
 tU [],
 tM (st 15) "write_decimal",
 cO "write_decimal" "write_decimal" 343 65 1 0 0 3 132 181 133 (.ref 134) (.ref 135) (.ref 136) 348,
 fU (st 15) "write_decimal" "ledgerspeak.decimals" 268 137]
noncomputable def L4 (P:Params):List Obj:=upd (L3 P) [(3,di 24 (J5 P)),(12,pl CN)]++N4 P
noncomputable def KP (P:Params):List DictEntry:=[en P "Token" 398 (.ref 164),en P "quoted" 405 (.ref 175),en P "MOST_SUBSCRIPTS" 409 (.int 7 408)]
noncomputable def J4 (P:Params):List DictEntry:=upd (J5 P) [(0,en P "__name__" 165 (.str "ledgerspeak.references" 406))]++KP P
noncomputable def CM:List Value:=upd CN []++tr [(73,144),(83,174)]
noncomputable def Fc (P:Params):List DictEntry:=[en P "__module__" 362 (.str "ledgerspeak.tokens" 351),en P "__qualname__" 364 (.str "Token" 363),en P "__firstlineno__" 366 (.int 73 365),en P "__init__" 379 (.ref 154),en P "told" 386 (.ref 161),en P "__static_attributes__" 391 (.ref 162)]
noncomputable def E3:List Value:=[.int 75 0,.int 4 0,.ref 153,.int 81 0,.int 4 0,.ref 160]
noncomputable def Fb (P:Params):List DictEntry:=[en P "__module__" 362 (.str "ledgerspeak.tokens" 351),en P "__firstlineno__" 366 (.int 73 365),en P "__init__" 379 (.ref 154),en P "told" 386 (.ref 161),en P "__static_attributes__" 391 (.ref 162),en P "__dict__" 393 (.ref 165),en P "__weakref__" 395 (.ref 166),en P "__doc__" 396 .none]
noncomputable def N5 (P:Params):List Obj:=[
 tU [],
 {cls:=Value.type "builtin_function_or_method",data:=Data.fields #[Value.builtin "type.__prepare__",Value.type "type"]},
 di 6 (Fc P),
 tU [],
 pl E3,
 co [.str "Token" 357,.str "Token" 358,.str "/claim/cut.py" 359,.int 73 0,.int 0 0,.int 0 0,.int 0 0,.int 0 0,.ref 142,.bool false,.int 181 0,.ref 143,.none,.none,.none,.none,.int 360 0,.int 73 0,.str "/claim/cut.py" 361],
 {cls:=Value.type "frame",slots:=#[some (Value.ref 144),some (Value.ref 3),some (Value.ref 141),none,some (Value.str (Str.ofString "ledgerspeak.tokens") 351),none,some (Value.ref 0)]},
 tU [.int 0 367,.int 0 368],
 tU [.ref 146,.bool false],
 tU [],
 pl [],
 tU [.str "self" 372,.str "kind" 373,.str "worth" 374,.str "at" 375,.str "is_in_a" 376],
 tU [],
 tM (sm 18 0) "Token.__init__",
 cO "__init__" "Token.__init__" 369 75 5 0 0 3 148 181 149 (.ref 150) (.ref 151) (.ref 152) 377,
 fu (fS (sm 18 0) "Token.__init__" 3 [] (.ref 147) .none .none (.str "ledgerspeak.tokens" 351) none (.ref 153) .none 0),
 tU [],
 pl [],
 tU [.str "self" 383],
 tU [],
 tM (sm 18 1) "Token.told",
 cO "told" "Token.told" 380 81 1 0 0 3 155 181 156 (.ref 157) (.ref 158) (.ref 159) 384,
 fU (sm 18 1) "Token.told" "ledgerspeak.tokens" 351 160,
 tU [.str "at" 387,.str "is_in_a" 388,.str "kind" 389,.str "worth" 390],
 di 4 (Fb P),
 {cls:=Value.type "type",data:=Data.cls {name:=Str.ofString "Token",bases:=[Value.type "object"],mro:=[Value.ref 164,Value.type "object"],ns:=163,qualname:=Str.ofString "Token"},slots:=#[none,none,some (Value.str (Str.ofString "Token") 355),some (Value.str (Str.ofString "Token") 363),some (Value.builtin "object.__new__"),some (Value.bool true)]},
 {cls:=Value.type "getset_descriptor",data:=Data.fields #[Value.str (Str.ofString "__dict__") 392,Value.ref 164,Value.builtin "function.__dict__",Value.builtin "function.__dict__#set"]},
 {cls:=Value.type "getset_descriptor",data:=Data.fields #[Value.str (Str.ofString "__weakref__") 394,Value.ref 164,Value.builtin "ExceptionGroup.__weakref__",Value.none]},
 {cls:=Value.type "super",data:=Data.fields #[Value.ref 164,Value.ref 164,Value.ref 164]},
 {cls:=Value.type "builtin_function_or_method",data:=Data.fields #[Value.builtin "object.__init_subclass__",Value.ref 164]},
 tU [],
 pl [],
 tU [.str "text" 402],
 tU [],
 tM (st 19) "quoted",
 cO "quoted" "quoted" 399 83 1 0 0 3 169 181 170 (.ref 171) (.ref 172) (.ref 173) 403,
 fU (st 19) "quoted" "ledgerspeak.tokens" 351 174]
noncomputable def L5 (P:Params):List Obj:=upd (L4 P) [(3,di 27 (J4 P)),(12,pl CM)]++N5 P
noncomputable def KO (P:Params):List DictEntry:=[en P "FIGURE_NAMES" 443 (.ref 176),en P "FIGURE_SHOWN" 459 (.ref 177),en P "is_part_next" 468 (.ref 184),en P "read_subscripts" 477 (.ref 191),en P "read_part" 487 (.ref 198),en P "read_ref" 499 (.ref 205)]
noncomputable def J3 (P:Params):List DictEntry:=upd (J4 P) []++KO P
noncomputable def CL:List Value:=upd CM []++tr [(89,183),(102,190),(110,197),(117,204)]
noncomputable def Fa (P:Params):List DictEntry:=[en P "ZERO" 410 (.str "ZERO" 411),en P "ZEROS" 412 (.str "ZERO" 413),en P "ZEROES" 414 (.str "ZERO" 415),en P "SPACE" 416 (.str "SPACE" 417),en P "SPACES" 418 (.str "SPACE" 419),en P "HIGH-VALUE" 420 (.str "HIGH" 421),en P "HIGH-VALUES" 422 (.str "HIGH" 423),en P "LOW-VALUE" 424 (.str "LOW" 425),en P "LOW-VALUES" 426 (.str "LOW" 427),en P "QUOTE" 428 (.str "QUOTE" 429),en P "QUOTES" 430 (.str "QUOTE" 431)]
noncomputable def E9 (P:Params):List DictEntry:=[en P "ZERO" 444 (.str "ZERO" 445),en P "SPACE" 446 (.str "SPACE" 447),en P "HIGH" 448 (.str "HIGH-VALUE" 449),en P "LOW" 450 (.str "LOW-VALUE" 451),en P "QUOTE" 452 (.str "QUOTE" 453)]
noncomputable def N6 (P:Params):List Obj:=[
 di 11 (Fa P),
 di 5 (E9 P),
 tU [],
 pl [],
 tU [.str "reader" 463,.str "depth" 464,.str "ahead" 465],
 tU [],
 tM (st 24) "is_part_next",
 cO "is_part_next" "is_part_next" 460 89 1 0 0 3 178 181 179 (.ref 180) (.ref 181) (.ref 182) 466,
 fU (st 24) "is_part_next" "ledgerspeak.references" 406 183,
 tU [],
 pl [],
 tU [.str "reader" 472,.str "read_expr" 473,.str "found" 474],
 tU [],
 tM (st 25) "read_subscripts",
 cO "read_subscripts" "read_subscripts" 469 102 2 0 0 3 185 181 186 (.ref 187) (.ref 188) (.ref 189) 475,
 fU (st 25) "read_subscripts" "ledgerspeak.references" 406 190,
 tU [],
 pl [],
 tU [.str "reader" 481,.str "read_expr" 482,.str "begin" 483,.str "length" 484],
 tU [],
 tM (st 26) "read_part",
 cO "read_part" "read_part" 478 110 2 0 0 3 192 181 193 (.ref 194) (.ref 195) (.ref 196) 485,
 fU (st 26) "read_part" "ledgerspeak.references" 406 197,
 tU [],
 pl [],
 tU [.str "reader" 491,.str "read_expr" 492,.str "name" 493,.str "qualifiers" 494,.str "subscripts" 495,.str "part" 496],
 tU [],
 tM (st 27) "read_ref",
 cO "read_ref" "read_ref" 488 117 2 0 0 3 199 181 200 (.ref 201) (.ref 202) (.ref 203) 497,
 fU (st 27) "read_ref" "ledgerspeak.references" 406 204]
noncomputable def L6 (P:Params):List Obj:=upd (L5 P) [(3,di 33 (J3 P)),(12,pl CL)]++N6 P
noncomputable def KN (P:Params):List DictEntry:=[en P "read_all" 507 (.ref 212),en P "read_figure" 514 (.ref 219),en P "read_operand" 523 (.ref 226),en P "shown_octets" 529 (.ref 231),en P "shown_number" 537 (.ref 238),en P "shown_subscripts" 543 (.ref 243),en P "show_ref" 553 (.ref 250),en P "show_operand" 561 (.ref 257),en P "MOST_DEEP" 565 (.int 20 564),en P "SIGNED" 567 (.int 3 566),en P "RAISED" 569 (.int 4 568),en P "BARE" 571 (.int 5 570),en P "LEVELS" 587 (.ref 258),en P "read_expression" 594 (.ref 265)]
noncomputable def J2 (P:Params):List DictEntry:=upd (J3 P) [(0,en P "__name__" 165 (.str "ledgerspeak.expressions" 562))]++KN P
noncomputable def CK:List Value:=upd CL []++tr [(127,211),(134,218),(138,225),(147,230),(149,237),(152,242),(157,249),(165,256),(179,264)]
noncomputable def E8 (P:Params):List DictEntry:=[en P "+" 572 (.int 1 573),en P "-" 574 (.int 1 575),en P "*" 576 (.int 2 577),en P "/" 578 (.int 2 579),en P "**" 580 (.int 4 581)]
noncomputable def N7 (P:Params):List Obj:=[
 tU [],
 pl [],
 tU [.str "reader" 503,.str "figure" 504],
 tU [],
 tM (st 28) "read_all",
 cO "read_all" "read_all" 500 127 1 0 0 3 206 181 207 (.ref 208) (.ref 209) (.ref 210) 505,
 fU (st 28) "read_all" "ledgerspeak.references" 406 211,
 tU [],
 pl [],
 tU [.str "reader" 511],
 tU [],
 tM (st 29) "read_figure",
 cO "read_figure" "read_figure" 508 134 1 0 0 3 213 181 214 (.ref 215) (.ref 216) (.ref 217) 512,
 fU (st 29) "read_figure" "ledgerspeak.references" 406 218,
 tU [],
 pl [],
 tU [.str "reader" 518,.str "read_expr" 519,.str "figure" 520],
 tU [],
 tM (st 30) "read_operand",
 cO "read_operand" "read_operand" 515 138 2 0 0 3 220 181 221 (.ref 222) (.ref 223) (.ref 224) 521,
 fU (st 30) "read_operand" "ledgerspeak.references" 406 225,
 tU [],
 pl [],
 tM (st 31) "shown_octets",
 cO "shown_octets" "shown_octets" 524 147 1 0 0 3 227 181 228 .none .none (.ref 229) 527,
 fU (st 31) "shown_octets" "ledgerspeak.references" 406 230,
 tU [],
 pl [],
 tU [.str "worth" 533,.str "text" 534],
 tU [],
 tM (st 32) "shown_number",
 cO "shown_number" "shown_number" 530 149 1 0 0 3 232 181 233 (.ref 234) (.ref 235) (.ref 236) 535,
 fU (st 32) "shown_number" "ledgerspeak.references" 406 237,
 tU [],
 pl [],
 tM (st 33) "shown_subscripts",
 cO "shown_subscripts" "shown_subscripts" 538 152 2 0 0 3 239 181 240 .none .none (.ref 241) 541,
 fU (st 33) "shown_subscripts" "ledgerspeak.references" 406 242,
 tU [],
 pl [],
 tU [.str "ref" 547,.str "show_expr" 548,.str "found" 549,.str "length" 550],
 tU [],
 tM (st 34) "show_ref",
 cO "show_ref" "show_ref" 544 157 2 0 0 3 244 181 245 (.ref 246) (.ref 247) (.ref 248) 551,
 fU (st 34) "show_ref" "ledgerspeak.references" 406 249,
 tU [],
 pl [],
 tU [.str "operand" 557,.str "show_expr" 558],
 tU [],
 tM (st 35) "show_operand",
 cO "show_operand" "show_operand" 554 165 2 0 0 3 251 181 252 (.ref 253) (.ref 254) (.ref 255) 559,
 fU (st 35) "show_operand" "ledgerspeak.references" 406 256,
 di 5 (E8 P),
 tU [],
 pl [],
 tU [.str "reader" 591],
 tU [],
 tM (st 42) "read_expression",
 cO "read_expression" "read_expression" 588 179 1 0 0 3 259 181 260 (.ref 261) (.ref 262) (.ref 263) 592,
 fU (st 42) "read_expression" "ledgerspeak.expressions" 562 264]
noncomputable def L7 (P:Params):List Obj:=upd (L6 P) [(3,di 47 (J2 P)),(12,pl CK)]++N7 P
noncomputable def KL (P:Params):List DictEntry:=[en P "sign_among" 603 (.ref 272),en P "read_sum" 613 (.ref 279),en P "read_product" 623 (.ref 286),en P "read_factor" 634 (.ref 293),en P "is_lone_number" 643 (.ref 300),en P "read_power" 652 (.ref 307),en P "read_primary" 662 (.ref 314),en P "level_of" 669 (.ref 321),en P "bracketed" 678 (.ref 328),en P "show_expression" 687 (.ref 335),en P "right_part" 694 (.ref 342),en P "show_signed" 701 (.ref 349),en P "TWO_SIDED" 709 (.ref 350)]
noncomputable def J1 (P:Params):List DictEntry:=upd (J2 P) [(0,en P "__name__" 165 (.str "ledgerspeak.reckoning" 702))]++KL P
noncomputable def CJ:List Value:=upd CK []++tr [(181,271),(186,278),(194,285),(200,292),(210,299),(215,306),(221,313),(229,320),(233,327),(236,334),(249,341),(251,348)]
noncomputable def N8 (P:Params):List Obj:=[
 tU [],
 pl [],
 tU [.str "reader" 598,.str "signs" 599,.str "token" 600],
 tU [],
 tM (st 43) "sign_among",
 cO "sign_among" "sign_among" 595 181 2 0 0 3 266 181 267 (.ref 268) (.ref 269) (.ref 270) 601,
 fU (st 43) "sign_among" "ledgerspeak.expressions" 562 271,
 tU [],
 pl [],
 tU [.str "reader" 607,.str "depth" 608,.str "found" 609,.str "sign" 610],
 tU [],
 tM (st 44) "read_sum",
 cO "read_sum" "read_sum" 604 186 2 0 0 3 273 181 274 (.ref 275) (.ref 276) (.ref 277) 611,
 fU (st 44) "read_sum" "ledgerspeak.expressions" 562 278,
 tU [],
 pl [],
 tU [.str "reader" 617,.str "depth" 618,.str "found" 619,.str "sign" 620],
 tU [],
 tM (st 45) "read_product",
 cO "read_product" "read_product" 614 194 2 0 0 3 280 181 281 (.ref 282) (.ref 283) (.ref 284) 621,
 fU (st 45) "read_product" "ledgerspeak.expressions" 562 285,
 tU [],
 pl [],
 tU [.str "reader" 627,.str "depth" 628,.str "sign" 629,.str "is_own" 630,.str "found" 631],
 tU [],
 tM (st 46) "read_factor",
 cO "read_factor" "read_factor" 624 200 2 0 0 3 287 181 288 (.ref 289) (.ref 290) (.ref 291) 632,
 fU (st 46) "read_factor" "ledgerspeak.expressions" 562 292,
 tU [],
 pl [],
 tU [.str "reader" 638,.str "token" 639,.str "behind" 640],
 tU [],
 tM (st 47) "is_lone_number",
 cO "is_lone_number" "is_lone_number" 635 210 1 0 0 3 294 181 295 (.ref 296) (.ref 297) (.ref 298) 641,
 fU (st 47) "is_lone_number" "ledgerspeak.expressions" 562 299,
 tU [],
 pl [],
 tU [.str "reader" 647,.str "depth" 648,.str "found" 649],
 tU [],
 tM (st 48) "read_power",
 cO "read_power" "read_power" 644 215 2 0 0 3 301 181 302 (.ref 303) (.ref 304) (.ref 305) 650,
 fU (st 48) "read_power" "ledgerspeak.expressions" 562 306,
 tU [],
 pl [],
 tU [.str "reader" 656,.str "depth" 657,.str "found" 658],
 tU [.str "depth" 659],
 tM (st 49) "read_primary",
 cO "read_primary" "read_primary" 653 221 2 0 0 3 308 181 309 (.ref 310) (.ref 311) (.ref 312) 660,
 fU (st 49) "read_primary" "ledgerspeak.expressions" 562 313,
 tU [],
 pl [],
 tU [.str "expr" 666],
 tU [],
 tM (st 50) "level_of",
 cO "level_of" "level_of" 663 229 1 0 0 3 315 181 316 (.ref 317) (.ref 318) (.ref 319) 667,
 fU (st 50) "level_of" "ledgerspeak.expressions" 562 320,
 tU [],
 pl [],
 tU [.str "expr" 673,.str "least" 674,.str "text" 675],
 tU [],
 tM (st 51) "bracketed",
 cO "bracketed" "bracketed" 670 233 2 0 0 3 322 181 323 (.ref 324) (.ref 325) (.ref 326) 676,
 fU (st 51) "bracketed" "ledgerspeak.expressions" 562 327,
 tU [],
 pl [],
 tU [.str "expr" 682,.str "pieces" 683,.str "here" 684],
 tU [],
 tM (st 52) "show_expression",
 cO "show_expression" "show_expression" 679 236 1 0 0 3 329 181 330 (.ref 331) (.ref 332) (.ref 333) 685,
 fU (st 52) "show_expression" "ledgerspeak.expressions" 562 334,
 tU [],
 pl [],
 tU [.str "expr" 691],
 tU [],
 tM (st 53) "right_part",
 cO "right_part" "right_part" 688 249 1 0 0 3 336 181 337 (.ref 338) (.ref 339) (.ref 340) 692,
 fU (st 53) "right_part" "ledgerspeak.expressions" 562 341,
 tU [],
 pl [],
 tU [.str "expr" 698],
 tU [],
 tM (st 54) "show_signed",
 cO "show_signed" "show_signed" 695 251 1 0 0 3 343 181 344 (.ref 345) (.ref 346) (.ref 347) 699,
 fU (st 54) "show_signed" "ledgerspeak.expressions" 562 348,
 tU [.str "+" 704,.str "-" 705,.str "*" 706,.str "/" 707,.str "**" 708]]
noncomputable def L8 (P:Params):List Obj:=upd (L7 P) [(3,di 60 (J1 P)),(12,pl CJ)]++N8 P
noncomputable def KJ (P:Params):List DictEntry:=[en P "postfix" 720 (.ref 357),en P "leaves" 726 (.ref 362),en P "SHOWN_DEPTH" 730 (.int 2 729),en P "FIGURE_WORDS" 732 (.str " ZERO ZEROS ZEROES SPACE SPACES HIGH-VALUE HIGH-VALUES LOW-VALUE LOW-VALUES QUOTE QUOTES ALL " 731),en P "word_ahead" 742 (.ref 369),en P "phrase_words" 749 (.ref 376),en P "opening_length" 763 (.ref 383),en P "body_here" 772 (.ref 390),en P "branches_here" 785 (.ref 397),en P "begins_operand" 792 (.ref 404),en P "ref_here" 799 (.ref 411),en P "is_numeric_operand" 806 (.ref 418),en P "is_numeric_expr" 812 (.ref 423),en P "refuse_at" 821 (.ref 430)]
noncomputable def J0 (P:Params):List DictEntry:=upd (J1 P) [(0,en P "__name__" 165 (.str "ledgerspeak.readarith" 727))]++KJ P
noncomputable def CH:List Value:=upd CJ []++tr [(257,356),(271,361),(276,368),(279,375),(289,382),(309,389),(314,396),(323,403),(327,410),(331,417),(333,422),(335,429)]
noncomputable def N9 (P:Params):List Obj:=[
 tU [],
 pl [],
 tU [.str "expr" 713,.str "found" 714,.str "line" 715,.str "kind" 716,.str "here" 717],
 tU [],
 tM (st 57) "postfix",
 cO "postfix" "postfix" 710 257 1 0 0 3 351 181 352 (.ref 353) (.ref 354) (.ref 355) 718,
 fU (st 57) "postfix" "ledgerspeak.reckoning" 702 356,
 tU [],
 pl [],
 tM (st 58) "leaves",
 cO "leaves" "leaves" 721 271 1 0 0 3 358 181 359 .none .none (.ref 360) 724,
 fU (st 58) "leaves" "ledgerspeak.reckoning" 702 361,
 tU [],
 pl [],
 tU [.str "reader" 736,.str "ahead" 737,.str "word" 738,.str "token" 739],
 tU [],
 tM (st 62) "word_ahead",
 cO "word_ahead" "word_ahead" 733 276 3 0 0 3 363 181 364 (.ref 365) (.ref 366) (.ref 367) 740,
 fU (st 62) "word_ahead" "ledgerspeak.readarith" 727 368,
 tU [],
 pl [],
 tU [.str "key" 746],
 tU [],
 tM (st 63) "phrase_words",
 cO "phrase_words" "phrase_words" 743 279 1 0 0 3 370 181 371 (.ref 372) (.ref 373) (.ref 374) 747,
 fU (st 63) "phrase_words" "ledgerspeak.readarith" 727 375,
 tU [],
 pl [],
 tU [.str "reader" 753,.str "key" 754,.str "ahead" 755,.str "bare" 756,.str "early" 757,.str "needed" 758,.str "late" 759,.str "word" 760],
 tU [],
 tM (st 64) "opening_length",
 cO "opening_length" "opening_length" 750 289 2 0 0 3 377 181 378 (.ref 379) (.ref 380) (.ref 381) 761,
 fU (st 64) "opening_length" "ledgerspeak.readarith" 727 382,
 tU [],
 pl [],
 tU [.str "reader" 767,.str "read_body" 768,.str "body" 769],
 tU [],
 tM (st 65) "body_here",
 cO "body_here" "body_here" 764 309 2 0 0 3 384 181 385 (.ref 386) (.ref 387) (.ref 388) 770,
 fU (st 65) "body_here" "ledgerspeak.readarith" 727 389,
 tU [],
 pl [],
 tU [.str "reader" 776,.str "read_body" 777,.str "keys" 778,.str "branches" 779,.str "key" 780,.str "length" 781,.str "turn" 782],
 tU [],
 tM (st 66) "branches_here",
 cO "branches_here" "branches_here" 773 314 3 0 0 3 391 181 392 (.ref 393) (.ref 394) (.ref 395) 783,
 fU (st 66) "branches_here" "ledgerspeak.readarith" 727 396,
 tU [],
 pl [],
 tU [.str "reader" 789],
 tU [],
 tM (st 67) "begins_operand",
 cO "begins_operand" "begins_operand" 786 323 1 0 0 3 398 181 399 (.ref 400) (.ref 401) (.ref 402) 790,
 fU (st 67) "begins_operand" "ledgerspeak.readarith" 727 403,
 tU [],
 pl [],
 tU [.str "reader" 796],
 tU [],
 tM (st 68) "ref_here",
 cO "ref_here" "ref_here" 793 327 1 0 0 3 405 181 406 (.ref 407) (.ref 408) (.ref 409) 797,
 fU (st 68) "ref_here" "ledgerspeak.readarith" 727 410,
 tU [],
 pl [],
 tU [.str "operand" 803],
 tU [],
 tM (st 69) "is_numeric_operand",
 cO "is_numeric_operand" "is_numeric_operand" 800 331 1 0 0 3 412 181 413 (.ref 414) (.ref 415) (.ref 416) 804,
 fU (st 69) "is_numeric_operand" "ledgerspeak.readarith" 727 417,
 tU [],
 pl [],
 tM (st 70) "is_numeric_expr",
 cO "is_numeric_expr" "is_numeric_expr" 807 333 1 0 0 3 419 181 420 .none .none (.ref 421) 810,
 fU (st 70) "is_numeric_expr" "ledgerspeak.readarith" 727 422,
 tU [],
 pl [],
 tU [.str "reader" 816,.str "mark" 817,.str "what" 818],
 tU [],
 tM (st 71) "refuse_at",
 cO "refuse_at" "refuse_at" 813 335 3 0 0 3 424 181 425 (.ref 426) (.ref 427) (.ref 428) 819,
 fU (st 71) "refuse_at" "ledgerspeak.readarith" 727 429]
noncomputable def L9 (P:Params):List Obj:=upd (L8 P) [(3,di 74 (J0 P)),(12,pl CH)]++N9 P
noncomputable def Dg (P:Params):List DictEntry:=[en P "number_here" 830 (.ref 437),en P "numbers_here" 838 (.ref 444),en P "targets_here" 848 (.ref 451),en P "goal_rows" 854 (.ref 456),en P "sole_operand" 862 (.ref 463),en P "given_rows" 869 (.ref 470),en P "size_branches" 879 (.ref 477),en P "read_corresponding" 893 (.ref 484),en P "passes_corresponding" 900 (.ref 491),en P "read_add" 911 (.ref 498),en P "read_subtract" 922 (.ref 505),en P "read_multiply" 933 (.ref 512)]
noncomputable def C0 (P:Params):List DictEntry:=upd (J0 P) []++Dg P
noncomputable def yF:List Value:=upd CH []++tr [(338,436),(346,443),(351,450),(358,455),(363,462),(369,469),(371,476),(375,483),(381,490),(383,497),(401,504),(414,511)]
noncomputable def N10 (P:Params):List Obj:=[
 tU [],
 pl [],
 tU [.str "reader" 825,.str "mark" 826,.str "operand" 827],
 tU [],
 tM (st 72) "number_here",
 cO "number_here" "number_here" 822 338 1 0 0 3 431 181 432 (.ref 433) (.ref 434) (.ref 435) 828,
 fU (st 72) "number_here" "ledgerspeak.readarith" 727 436,
 tU [],
 pl [],
 tU [.str "reader" 834,.str "expr" 835],
 tU [],
 tM (st 73) "numbers_here",
 cO "numbers_here" "numbers_here" 831 346 1 0 0 3 438 181 439 (.ref 440) (.ref 441) (.ref 442) 836,
 fU (st 73) "numbers_here" "ledgerspeak.readarith" 727 443,
 tU [],
 pl [],
 tU [.str "reader" 842,.str "rows" 843,.str "mark" 844,.str "operand" 845],
 tU [],
 tM (st 74) "targets_here",
 cO "targets_here" "targets_here" 839 351 1 0 0 3 445 181 446 (.ref 447) (.ref 448) (.ref 449) 846,
 fU (st 74) "targets_here" "ledgerspeak.readarith" 727 450,
 tU [],
 pl [],
 tM (st 75) "goal_rows",
 cO "goal_rows" "goal_rows" 849 358 3 0 0 3 452 181 453 .none .none (.ref 454) 852,
 fU (st 75) "goal_rows" "ledgerspeak.readarith" 727 455,
 tU [],
 pl [],
 tU [.str "reader" 858,.str "targets" 859],
 tU [],
 tM (st 76) "sole_operand",
 cO "sole_operand" "sole_operand" 855 363 2 0 0 3 457 181 458 (.ref 459) (.ref 460) (.ref 461) 860,
 fU (st 76) "sole_operand" "ledgerspeak.readarith" 727 462,
 tU [],
 pl [],
 tU [.str "reader" 866],
 tU [],
 tM (st 77) "given_rows",
 cO "given_rows" "given_rows" 863 369 1 0 0 3 464 181 465 (.ref 466) (.ref 467) (.ref 468) 867,
 fU (st 77) "given_rows" "ledgerspeak.readarith" 727 469,
 tU [],
 pl [],
 tU [.str "reader" 873,.str "read_body" 874,.str "closing" 875,.str "branches" 876],
 tU [],
 tM (st 78) "size_branches",
 cO "size_branches" "size_branches" 870 371 3 0 0 3 471 181 472 (.ref 473) (.ref 474) (.ref 475) 877,
 fU (st 78) "size_branches" "ledgerspeak.readarith" 727 476,
 tU [],
 pl [],
 tU [.str "reader" 883,.str "read_body" 884,.str "joint" 885,.str "way" 886,.str "closing" 887,.str "source" 888,.str "goal" 889,.str "is_rounded" 890],
 tU [],
 tM (st 79) "read_corresponding",
 cO "read_corresponding" "read_corresponding" 880 375 5 0 0 3 478 181 479 (.ref 480) (.ref 481) (.ref 482) 891,
 fU (st 79) "read_corresponding" "ledgerspeak.readarith" 727 483,
 tU [],
 pl [],
 tU [.str "reader" 897],
 tU [],
 tM (st 80) "passes_corresponding",
 cO "passes_corresponding" "passes_corresponding" 894 381 1 0 0 3 485 181 486 (.ref 487) (.ref 488) (.ref 489) 898,
 fU (st 80) "passes_corresponding" "ledgerspeak.readarith" 727 490,
 tU [],
 pl [],
 tU [.str "reader" 904,.str "read_body" 905,.str "expr" 906,.str "targets" 907,.str "rows" 908],
 tU [],
 tM (st 81) "read_add",
 cO "read_add" "read_add" 901 383 2 0 0 3 492 181 493 (.ref 494) (.ref 495) (.ref 496) 909,
 fU (st 81) "read_add" "ledgerspeak.readarith" 727 497,
 tU [],
 pl [],
 tU [.str "reader" 915,.str "read_body" 916,.str "expr" 917,.str "targets" 918,.str "rows" 919],
 tU [],
 tM (st 82) "read_subtract",
 cO "read_subtract" "read_subtract" 912 401 2 0 0 3 499 181 500 (.ref 501) (.ref 502) (.ref 503) 920,
 fU (st 82) "read_subtract" "ledgerspeak.readarith" 727 504,
 tU [],
 pl [],
 tU [.str "reader" 926,.str "read_body" 927,.str "expr" 928,.str "targets" 929,.str "rows" 930],
 tU [],
 tM (st 83) "read_multiply",
 cO "read_multiply" "read_multiply" 923 414 2 0 0 3 506 181 507 (.ref 508) (.ref 509) (.ref 510) 931,
 fU (st 83) "read_multiply" "ledgerspeak.readarith" 727 511]
noncomputable def L10 (P:Params):List Obj:=upd (L9 P) [(3,di 86 (C0 P)),(12,pl yF)]++N10 P
noncomputable def Df (P:Params):List DictEntry:=[en P "read_remainder" 946 (.ref 519),en P "read_divide" 959 (.ref 526),en P "read_compute" 970 (.ref 533),en P "MOST_OCTET" 974 (.int 255 973),en P "RESERVED" 976 (.str " ACCEPT ACCESS ADD ADVANCING AFTER ALL ALPHABETIC ALPHABETIC-LOWER ALPHABETIC-UPPER ALPHANUMERIC ALPHANUMERIC-EDITED ALSO ALTERNATE AND ANY ARE AREA AREAS ASCENDING ASSIGN AT AUTHOR BEFORE BINARY BLANK BLOCK BY CALL CHARACTER CHARACTERS CLOSE COMP COMP-3 COMPUTATIONAL COMPUTATIONAL-3 COMPUTE CONFIGURATION CONTAINS CONTENT CONTINUE CONVERTING COPY CORR CORRESPONDING COUNT DATA DATE-COMPILED DATE-WRITTEN DELETE DELIMITED DELIMITER DEPENDING DESCENDING DISPLAY DIVIDE DIVISION DOWN DUPLICATES DYNAMIC ELSE END END-ADD END-CALL END-COMPUTE END-DELETE END-DIVIDE END-EVALUATE END-IF END-MULTIPLY END-PERFORM END-READ END-RETURN END-REWRITE END-SEARCH END-START END-STRING END-SUBTRACT END-UNSTRING END-WRITE ENVIRONMENT EQUAL ERROR EVALUATE EXCEPTION EXIT EXTEND EXTERNAL FALSE FD FILE FILE-CONTROL FILLER FIRST FOR FROM GIVING GLOBAL GO GREATER HIGH-VALUE HIGH-VALUES I-O I-O-CONTROL IDENTIFICATION IF IN INDEX INDEXED INITIAL INITIALIZE INPUT INPUT-OUTPUT INSPECT INSTALLATION INTO INVALID IS JUST JUSTIFIED KEY LABEL LEADING LEFT LESS LINE LINES LINKAGE LOCK LOW-VALUE LOW-VALUES MERGE MODE MOVE MULTIPLY NATIVE NEGATIVE NEXT NO NOT NUMERIC NUMERIC-EDITED OBJECT-COMPUTER OCCURS OF OFF OMITTED ON OPEN OPTIONAL OR ORDER ORGANIZATION OTHER OUTPUT OVERFLOW PACKED-DECIMAL PERFORM PIC PICTURE POINTER POSITIVE PROCEDURE PROCEED PROGRAM PROGRAM-ID QUOTE QUOTES RANDOM READ RECORD RECORDS REDEFINES REFERENCE RELATIVE RELEASE REMAINDER RENAMES REPLACE REPLACING RETURN REWRITE RIGHT ROUNDED RUN SAME SD SEARCH SECTION SECURITY SELECT SENTENCE SEPARATE SEQUENTIAL SET SIGN SIZE SORT SORT-MERGE SOURCE-COMPUTER SPACE SPACES SPECIAL-NAMES STANDARD START STATUS STOP STRING SUBTRACT SYNC SYNCHRONIZED TALLYING TEST THAN THEN THROUGH THRU TIMES TO TRAILING TRUE UNSTRING UNTIL UP UPON USAGE USING VALUE VALUES VARYING WHEN WITH WORKING-STORAGE WRITE ZERO ZEROES ZEROS " 975),en P "is_reserved" 983 (.ref 540),en P "octets_of_text" 989 (.ref 545)]
noncomputable def CZ (P:Params):List DictEntry:=upd (C0 P) [(0,en P "__name__" 165 (.str "ledgerspeak.reader" 971))]++Df P
noncomputable def yE:List Value:=upd yF []++tr [(425,518),(431,525),(448,532),(461,539),(463,544)]
noncomputable def N11 (P:Params):List Obj:=[
 tU [],
 pl [],
 tU [.str "reader" 937,.str "read_body" 938,.str "dividend" 939,.str "divisor" 940,.str "rows" 941,.str "remainder" 942,.str "goal" 943],
 tU [],
 tM (st 84) "read_remainder",
 cO "read_remainder" "read_remainder" 934 425 5 0 0 3 513 181 514 (.ref 515) (.ref 516) (.ref 517) 944,
 fU (st 84) "read_remainder" "ledgerspeak.readarith" 727 518,
 tU [],
 pl [],
 tU [.str "reader" 950,.str "read_body" 951,.str "one" 952,.str "dividend" 953,.str "divisor" 954,.str "targets" 955,.str "rows" 956],
 tU [],
 tM (st 85) "read_divide",
 cO "read_divide" "read_divide" 947 431 2 0 0 3 520 181 521 (.ref 522) (.ref 523) (.ref 524) 957,
 fU (st 85) "read_divide" "ledgerspeak.readarith" 727 525,
 tU [],
 pl [],
 tU [.str "reader" 963,.str "read_body" 964,.str "rows" 965,.str "mark" 966,.str "expr" 967],
 tU [],
 tM (st 86) "read_compute",
 cO "read_compute" "read_compute" 960 448 2 0 0 3 527 181 528 (.ref 529) (.ref 530) (.ref 531) 968,
 fU (st 86) "read_compute" "ledgerspeak.readarith" 727 532,
 tU [],
 pl [],
 tU [.str "word" 980],
 tU [],
 tM (st 90) "is_reserved",
 cO "is_reserved" "is_reserved" 977 461 1 0 0 3 534 181 535 (.ref 536) (.ref 537) (.ref 538) 981,
 fU (st 90) "is_reserved" "ledgerspeak.reader" 971 539,
 tU [],
 pl [],
 tM (st 91) "octets_of_text",
 cO "octets_of_text" "octets_of_text" 984 463 1 0 0 3 541 181 542 .none .none (.ref 543) 987,
 fU (st 91) "octets_of_text" "ledgerspeak.reader" 971 544]
noncomputable def L11 (P:Params):List Obj:=upd (L10 P) [(3,di 93 (CZ P)),(12,pl yE)]++N11 P
noncomputable def De (P:Params):List DictEntry:=[en P "Reader" 1196 (.ref 714)]
noncomputable def CY (P:Params):List DictEntry:=upd (CZ P) []++De P
noncomputable def yD:List Value:=upd yE []++tr [(468,551)]
noncomputable def Br (P:Params):List DictEntry:=[en P "__module__" 997 (.str "ledgerspeak.reader" 971),en P "__qualname__" 999 (.str "Reader" 998),en P "__firstlineno__" 1001 (.int 468 1000),en P "__init__" 1011 (.ref 560),en P "peek" 1020 (.ref 568),en P "is_done" 1027 (.ref 575),en P "fault" 1035 (.ref 582),en P "take" 1043 (.ref 589),en P "is_kind" 1054 (.ref 597),en P "is_word" 1064 (.ref 604),en P "skip" 1072 (.ref 611),en P "need" 1080 (.ref 618),en P "one_of" 1089 (.ref 625),en P "word" 1096 (.ref 632),en P "is_name" 1105 (.ref 640),en P "name" 1112 (.ref 647),en P "names" 1119 (.ref 654),en P "is_sign" 1129 (.ref 662),en P "skip_sign" 1137 (.ref 669),en P "need_sign" 1145 (.ref 676),en P "is_number" 1152 (.ref 683),en P "signed" 1161 (.ref 690),en P "whole" 1169 (.ref 697),en P "literal" 1176 (.ref 704),en P "octets" 1184 (.ref 711),en P "__static_attributes__" 1189 (.ref 712)]
noncomputable def Bk:List Value:=[.int 470 0,.int 4 0,.ref 559,.int 476 0,.int 4 0,.ref 567,.int 481 0,.int 4 0,.ref 574,.int 484 0,.int 4 0,.ref 581,.int 489 0,.int 4 0,.ref 588,.int 496 0,.int 4 0,.ref 596,.int 500 0,.int 4 0,.ref 603,.int 508 0,.int 4 0,.ref 610,.int 514 0,.int 4 0,.ref 617,.int 518 0,.int 4 0,.ref 624,.int 524 0,.int 4 0,.ref 631,.int 529 0,.int 4 0,.ref 639,.int 532 0,.int 4 0,.ref 646,.int 537 0,.int 4 0,.ref 653,.int 540 0,.int 4 0,.ref 661,.int 543 0,.int 4 0,.ref 668,.int 549 0,.int 4 0,.ref 675,.int 553 0,.int 4 0,.ref 682,.int 558 0,.int 4 0,.ref 689,.int 567 0,.int 4 0,.ref 696,.int 576 0,.int 4 0,.ref 703,.int 581 0,.int 4 0,.ref 710]
noncomputable def Bq (P:Params):List DictEntry:=[en P "__module__" 997 (.str "ledgerspeak.reader" 971),en P "__firstlineno__" 1001 (.int 468 1000),en P "__init__" 1011 (.ref 560),en P "peek" 1020 (.ref 568),en P "is_done" 1027 (.ref 575),en P "fault" 1035 (.ref 582),en P "take" 1043 (.ref 589),en P "is_kind" 1054 (.ref 597),en P "is_word" 1064 (.ref 604),en P "skip" 1072 (.ref 611),en P "need" 1080 (.ref 618),en P "one_of" 1089 (.ref 625),en P "word" 1096 (.ref 632),en P "is_name" 1105 (.ref 640),en P "name" 1112 (.ref 647),en P "names" 1119 (.ref 654),en P "is_sign" 1129 (.ref 662),en P "skip_sign" 1137 (.ref 669),en P "need_sign" 1145 (.ref 676),en P "is_number" 1152 (.ref 683),en P "signed" 1161 (.ref 690),en P "whole" 1169 (.ref 697),en P "literal" 1176 (.ref 704),en P "octets" 1184 (.ref 711),en P "__static_attributes__" 1189 (.ref 712),en P "__dict__" 1191 (.ref 715),en P "__weakref__" 1193 (.ref 716),en P "__doc__" 1194 .none]
noncomputable def N12 (P:Params):List Obj:=[
 tU [],
 {cls:=Value.type "builtin_function_or_method",data:=Data.fields #[Value.builtin "type.__prepare__",Value.type "type"]},
 di 26 (Br P),
 tU [],
 pl Bk,
 co [.str "Reader" 992,.str "Reader" 993,.str "/claim/cut.py" 994,.int 468 0,.int 0 0,.int 0 0,.int 0 0,.int 0 0,.ref 549,.bool false,.int 181 0,.ref 550,.none,.none,.none,.none,.int 995 0,.int 468 0,.str "/claim/cut.py" 996],
 {cls:=Value.type "frame",slots:=#[some (Value.ref 551),some (Value.ref 3),some (Value.ref 548),none,some (Value.str (Str.ofString "ledgerspeak.reader") 971),none,some (Value.ref 0)]},
 tU [.int 0 1002],
 tU [],
 pl [],
 tU [.str "self" 1006,.str "tokens" 1007,.str "at" 1008],
 tU [],
 tM (sm 92 0) "Reader.__init__",
 cO "__init__" "Reader.__init__" 1003 470 3 0 0 3 554 181 555 (.ref 556) (.ref 557) (.ref 558) 1009,
 fu (fS (sm 92 0) "Reader.__init__" 3 [] (.ref 553) .none .none (.str "ledgerspeak.reader" 971) none (.ref 559) .none 0),
 tU [.int 0 1012],
 tU [],
 pl [],
 tU [.str "self" 1016,.str "ahead" 1017],
 tU [],
 tM (sm 92 1) "Reader.peek",
 cO "peek" "Reader.peek" 1013 476 2 0 0 3 562 181 563 (.ref 564) (.ref 565) (.ref 566) 1018,
 fu (fS (sm 92 1) "Reader.peek" 3 [] (.ref 561) .none .none (.str "ledgerspeak.reader" 971) none (.ref 567) .none 0),
 tU [],
 pl [],
 tU [.str "self" 1024],
 tU [],
 tM (sm 92 2) "Reader.is_done",
 cO "is_done" "Reader.is_done" 1021 481 1 0 0 3 569 181 570 (.ref 571) (.ref 572) (.ref 573) 1025,
 fU (sm 92 2) "Reader.is_done" "ledgerspeak.reader" 971 574,
 tU [],
 pl [],
 tU [.str "self" 1031,.str "what" 1032],
 tU [],
 tM (sm 92 3) "Reader.fault",
 cO "fault" "Reader.fault" 1028 484 2 0 0 3 576 181 577 (.ref 578) (.ref 579) (.ref 580) 1033,
 fU (sm 92 3) "Reader.fault" "ledgerspeak.reader" 971 581,
 tU [],
 pl [],
 tU [.str "self" 1039,.str "token" 1040],
 tU [],
 tM (sm 92 4) "Reader.take",
 cO "take" "Reader.take" 1036 489 1 0 0 3 583 181 584 (.ref 585) (.ref 586) (.ref 587) 1041,
 fU (sm 92 4) "Reader.take" "ledgerspeak.reader" 971 588,
 tU [.int 0 1044],
 tU [],
 pl [],
 tU [.str "self" 1048,.str "kind" 1049,.str "ahead" 1050,.str "token" 1051],
 tU [],
 tM (sm 92 5) "Reader.is_kind",
 cO "is_kind" "Reader.is_kind" 1045 496 3 0 0 3 591 181 592 (.ref 593) (.ref 594) (.ref 595) 1052,
 fu (fS (sm 92 5) "Reader.is_kind" 3 [] (.ref 590) .none .none (.str "ledgerspeak.reader" 971) none (.ref 596) .none 0),
 tU [],
 pl [],
 tU [.str "self" 1058,.str "words" 1059,.str "ahead" 1060,.str "word" 1061],
 tU [],
 tM (sm 92 6) "Reader.is_word",
 cO "is_word" "Reader.is_word" 1055 500 2 0 0 3 598 181 599 (.ref 600) (.ref 601) (.ref 602) 1062,
 fU (sm 92 6) "Reader.is_word" "ledgerspeak.reader" 971 603,
 tU [],
 pl [],
 tU [.str "self" 1068,.str "words" 1069],
 tU [],
 tM (sm 92 7) "Reader.skip",
 cO "skip" "Reader.skip" 1065 508 2 0 0 3 605 181 606 (.ref 607) (.ref 608) (.ref 609) 1070,
 fU (sm 92 7) "Reader.skip" "ledgerspeak.reader" 971 610,
 tU [],
 pl [],
 tU [.str "self" 1076,.str "words" 1077],
 tU [],
 tM (sm 92 8) "Reader.need",
 cO "need" "Reader.need" 1073 514 2 0 0 3 612 181 613 (.ref 614) (.ref 615) (.ref 616) 1078,
 fU (sm 92 8) "Reader.need" "ledgerspeak.reader" 971 617,
 tU [],
 pl [],
 tU [.str "self" 1084,.str "words" 1085,.str "word" 1086],
 tU [],
 tM (sm 92 9) "Reader.one_of",
 cO "one_of" "Reader.one_of" 1081 518 2 0 0 3 619 181 620 (.ref 621) (.ref 622) (.ref 623) 1087,
 fU (sm 92 9) "Reader.one_of" "ledgerspeak.reader" 971 624,
 tU [],
 pl [],
 tU [.str "self" 1093],
 tU [],
 tM (sm 92 10) "Reader.word",
 cO "word" "Reader.word" 1090 524 1 0 0 3 626 181 627 (.ref 628) (.ref 629) (.ref 630) 1094,
 fU (sm 92 10) "Reader.word" "ledgerspeak.reader" 971 631,
 tU [.int 0 1097],
 tU [],
 pl [],
 tU [.str "self" 1101,.str "ahead" 1102],
 tU [],
 tM (sm 92 11) "Reader.is_name",
 cO "is_name" "Reader.is_name" 1098 529 2 0 0 3 634 181 635 (.ref 636) (.ref 637) (.ref 638) 1103,
 fu (fS (sm 92 11) "Reader.is_name" 3 [] (.ref 633) .none .none (.str "ledgerspeak.reader" 971) none (.ref 639) .none 0),
 tU [],
 pl [],
 tU [.str "self" 1109],
 tU [],
 tM (sm 92 12) "Reader.name",
 cO "name" "Reader.name" 1106 532 1 0 0 3 641 181 642 (.ref 643) (.ref 644) (.ref 645) 1110,
 fU (sm 92 12) "Reader.name" "ledgerspeak.reader" 971 646,
 tU [],
 pl [],
 tU [.str "self" 1116],
 tU [],
 tM (sm 92 13) "Reader.names",
 cO "names" "Reader.names" 1113 537 1 0 0 3 648 181 649 (.ref 650) (.ref 651) (.ref 652) 1117,
 fU (sm 92 13) "Reader.names" "ledgerspeak.reader" 971 653,
 tU [.int 0 1120],
 tU [],
 pl [],
 tU [.str "self" 1124,.str "sign" 1125,.str "ahead" 1126],
 tU [],
 tM (sm 92 14) "Reader.is_sign",
 cO "is_sign" "Reader.is_sign" 1121 540 3 0 0 3 656 181 657 (.ref 658) (.ref 659) (.ref 660) 1127,
 fu (fS (sm 92 14) "Reader.is_sign" 3 [] (.ref 655) .none .none (.str "ledgerspeak.reader" 971) none (.ref 661) .none 0),
 tU [],
 pl [],
 tU [.str "self" 1133,.str "sign" 1134],
 tU [],
 tM (sm 92 15) "Reader.skip_sign",
 cO "skip_sign" "Reader.skip_sign" 1130 543 2 0 0 3 663 181 664 (.ref 665) (.ref 666) (.ref 667) 1135,
 fU (sm 92 15) "Reader.skip_sign" "ledgerspeak.reader" 971 668,
 tU [],
 pl [],
 tU [.str "self" 1141,.str "sign" 1142],
 tU [],
 tM (sm 92 16) "Reader.need_sign",
 cO "need_sign" "Reader.need_sign" 1138 549 2 0 0 3 670 181 671 (.ref 672) (.ref 673) (.ref 674) 1143,
 fU (sm 92 16) "Reader.need_sign" "ledgerspeak.reader" 971 675,
 tU [],
 pl [],
 tU [.str "self" 1149],
 tU [],
 tM (sm 92 17) "Reader.is_number",
 cO "is_number" "Reader.is_number" 1146 553 1 0 0 3 677 181 678 (.ref 679) (.ref 680) (.ref 681) 1150,
 fU (sm 92 17) "Reader.is_number" "ledgerspeak.reader" 971 682,
 tU [],
 pl [],
 tU [.str "self" 1156,.str "is_below" 1157,.str "found" 1158],
 tU [],
 tM (sm 92 18) "Reader.signed",
 cO "signed" "Reader.signed" 1153 558 1 0 0 3 684 181 685 (.ref 686) (.ref 687) (.ref 688) 1159,
 fU (sm 92 18) "Reader.signed" "ledgerspeak.reader" 971 689,
 tU [],
 pl [],
 tU [.str "self" 1165,.str "found" 1166],
 tU [],
 tM (sm 92 19) "Reader.whole",
 cO "whole" "Reader.whole" 1162 567 1 0 0 3 691 181 692 (.ref 693) (.ref 694) (.ref 695) 1167,
 fU (sm 92 19) "Reader.whole" "ledgerspeak.reader" 971 696,
 tU [],
 pl [],
 tU [.str "self" 1173],
 tU [],
 tM (sm 92 20) "Reader.literal",
 cO "literal" "Reader.literal" 1170 576 1 0 0 3 698 181 699 (.ref 700) (.ref 701) (.ref 702) 1174,
 fU (sm 92 20) "Reader.literal" "ledgerspeak.reader" 971 703,
 tU [],
 pl [],
 tU [.str "self" 1180,.str "found" 1181],
 tU [],
 tM (sm 92 21) "Reader.octets",
 cO "octets" "Reader.octets" 1177 581 1 0 0 3 705 181 706 (.ref 707) (.ref 708) (.ref 709) 1182,
 fU (sm 92 21) "Reader.octets" "ledgerspeak.reader" 971 710,
 tU [.str "at" 1185,.str "named" 1186,.str "shared" 1187,.str "tokens" 1188],
 di 4 (Bq P),
 {cls:=Value.type "type",data:=Data.cls {name:=Str.ofString "Reader",bases:=[Value.type "object"],mro:=[Value.ref 714,Value.type "object"],ns:=713,qualname:=Str.ofString "Reader"},slots:=#[none,none,some (Value.str (Str.ofString "Reader") 990),some (Value.str (Str.ofString "Reader") 998),some (Value.builtin "object.__new__"),some (Value.bool true)]},
 {cls:=Value.type "getset_descriptor",data:=Data.fields #[Value.str (Str.ofString "__dict__") 1190,Value.ref 714,Value.builtin "function.__dict__",Value.builtin "function.__dict__#set"]},
 {cls:=Value.type "getset_descriptor",data:=Data.fields #[Value.str (Str.ofString "__weakref__") 1192,Value.ref 714,Value.builtin "ExceptionGroup.__weakref__",Value.none]},
 {cls:=Value.type "super",data:=Data.fields #[Value.ref 714,Value.ref 714,Value.ref 714]},
 {cls:=Value.type "builtin_function_or_method",data:=Data.fields #[Value.builtin "object.__init_subclass__",Value.ref 714]}]
noncomputable def L12 (P:Params):List Obj:=upd (L11 P) [(3,di 94 (CY P)),(12,pl yD)]++N12 P
noncomputable def Dd (P:Params):List DictEntry:=[en P "PHRASES" 1214 (.ref 719),en P "operand_text" 1221 (.ref 726),en P "ref_text" 1228 (.ref 733),en P "joined" 1234 (.ref 738),en P "some_of" 1241 (.ref 745),en P "show_body" 1247 (.ref 750),en P "show_phrase" 1254 (.ref 757),en P "show_branches" 1260 (.ref 762),en P "rounded" 1268 (.ref 769),en P "summands" 1274 (.ref 774),en P "show_goals" 1280 (.ref 779),en P "way_of" 1286 (.ref 784)]
noncomputable def CX (P:Params):List DictEntry:=upd (CY P) [(0,en P "__name__" 165 (.str "ledgerspeak.showing" 1197))]++Dd P
noncomputable def yC:List Value:=upd yD []++tr [(591,725),(593,732),(595,737),(597,744),(601,749),(605,756),(609,761),(614,768),(616,773),(627,778),(629,783)]
noncomputable def Bp (P:Params):List DictEntry:=[en P "size" 1199 (.str "ON SIZE ERROR" 1200),en P "over" 1201 (.str "ON OVERFLOW" 1202),en P "end" 1203 (.str "AT END" 1204),en P "invalid" 1205 (.str "INVALID KEY" 1206),en P "fault" 1207 (.str "ON EXCEPTION" 1208)]
noncomputable def N13 (P:Params):List Obj:=[
 di 5 (Bp P),
 tU [],
 pl [],
 tU [.str "operand" 1218],
 tU [],
 tM (st 95) "operand_text",
 cO "operand_text" "operand_text" 1215 591 1 0 0 3 720 181 721 (.ref 722) (.ref 723) (.ref 724) 1219,
 fU (st 95) "operand_text" "ledgerspeak.showing" 1197 725,
 tU [],
 pl [],
 tU [.str "ref" 1225],
 tU [],
 tM (st 96) "ref_text",
 cO "ref_text" "ref_text" 1222 593 1 0 0 3 727 181 728 (.ref 729) (.ref 730) (.ref 731) 1226,
 fU (st 96) "ref_text" "ledgerspeak.showing" 1197 732,
 tU [],
 pl [],
 tM (st 97) "joined",
 cO "joined" "joined" 1229 595 1 0 0 3 734 181 735 .none .none (.ref 736) 1232,
 fU (st 97) "joined" "ledgerspeak.showing" 1197 737,
 tU [],
 pl [],
 tU [.str "rows" 1238],
 tU [],
 tM (st 98) "some_of",
 cO "some_of" "some_of" 1235 597 1 0 0 3 739 181 740 (.ref 741) (.ref 742) (.ref 743) 1239,
 fU (st 98) "some_of" "ledgerspeak.showing" 1197 744,
 tU [],
 pl [],
 tM (st 99) "show_body",
 cO "show_body" "show_body" 1242 601 2 0 0 3 746 181 747 .none .none (.ref 748) 1245,
 fU (st 99) "show_body" "ledgerspeak.showing" 1197 749,
 tU [],
 pl [],
 tU [.str "key" 1251],
 tU [],
 tM (st 100) "show_phrase",
 cO "show_phrase" "show_phrase" 1248 605 1 0 0 3 751 181 752 (.ref 753) (.ref 754) (.ref 755) 1252,
 fU (st 100) "show_phrase" "ledgerspeak.showing" 1197 756,
 tU [],
 pl [],
 tM (st 101) "show_branches",
 cO "show_branches" "show_branches" 1255 609 3 0 0 3 758 181 759 .none .none (.ref 760) 1258,
 fU (st 101) "show_branches" "ledgerspeak.showing" 1197 761,
 tU [],
 pl [],
 tU [.str "text" 1264,.str "is_rounded" 1265],
 tU [],
 tM (st 102) "rounded",
 cO "rounded" "rounded" 1261 614 2 0 0 3 763 181 764 (.ref 765) (.ref 766) (.ref 767) 1266,
 fU (st 102) "rounded" "ledgerspeak.showing" 1197 768,
 tU [],
 pl [],
 tM (st 103) "summands",
 cO "summands" "summands" 1269 616 1 0 0 3 770 181 771 .none .none (.ref 772) 1272,
 fU (st 103) "summands" "ledgerspeak.showing" 1197 773,
 tU [],
 pl [],
 tM (st 104) "show_goals",
 cO "show_goals" "show_goals" 1275 627 1 0 0 3 775 181 776 .none .none (.ref 777) 1278,
 fU (st 104) "show_goals" "ledgerspeak.showing" 1197 778,
 tU [],
 pl [],
 tM (st 105) "way_of",
 cO "way_of" "way_of" 1281 629 1 0 0 3 780 181 781 .none .none (.ref 782) 1284,
 fU (st 105) "way_of" "ledgerspeak.showing" 1197 783]
noncomputable def L13 (P:Params):List Obj:=upd (L12 P) [(3,di 106 (CX P)),(12,pl yC)]++N13 P
noncomputable def Dc (P:Params):List DictEntry:=[en P "show_arith" 1292 (.ref 789),en P "show_divide" 1307 (.ref 796),en P "show_corr" 1324 (.ref 803),en P "show_reckoning" 1332 (.ref 810),en P "_law_FORMS" 1346 (.ref 811),en P "_law_heap" 1355 (.ref 818),en P "_law_draw" 1364 (.ref 825),en P "_law_pick" 1372 (.ref 832),en P "_law_words" 1381 (.ref 839),en P "_law_subscript" 1392 (.ref 846),en P "_law_ref" 1400 (.ref 855),en P "_law_due" 1414 (.ref 862)]
noncomputable def CW (P:Params):List DictEntry:=upd (CX P) [(0,en P "__name__" 165 (.str "law_pq0645_01" 1333))]++Dc P
noncomputable def yB:List Value:=upd yC []++tr [(634,788),(652,795),(659,802),(664,809),(672,817),(677,824),(684,831),(686,838),(694,845),(700,854),(702,861)]
noncomputable def N14 (P:Params):List Obj:=[
 tU [],
 pl [],
 tM (st 106) "show_arith",
 cO "show_arith" "show_arith" 1287 634 2 0 0 3 785 181 786 .none .none (.ref 787) 1290,
 fU (st 106) "show_arith" "ledgerspeak.showing" 1197 788,
 tU [],
 pl [],
 tU [.str "statement" 1296,.str "show" 1297,.str "word" 1298,.str "dividend" 1299,.str "divisor" 1300,.str "goal" 1301,.str "remainder" 1302,.str "branches" 1303,.str "head" 1304],
 tU [],
 tM (st 107) "show_divide",
 cO "show_divide" "show_divide" 1293 652 2 0 0 3 790 181 791 (.ref 792) (.ref 793) (.ref 794) 1305,
 fU (st 107) "show_divide" "ledgerspeak.showing" 1197 795,
 tU [],
 pl [],
 tU [.str "statement" 1311,.str "show" 1312,.str "word" 1313,.str "way" 1314,.str "source" 1315,.str "goal" 1316,.str "is_rounded" 1317,.str "branches" 1318,.str "verb" 1319,.str "joint" 1320,.str "head" 1321],
 tU [],
 tM (st 108) "show_corr",
 cO "show_corr" "show_corr" 1308 659 2 0 0 3 797 181 798 (.ref 799) (.ref 800) (.ref 801) 1322,
 fU (st 108) "show_corr" "ledgerspeak.showing" 1197 802,
 tU [],
 pl [],
 tU [.str "statement" 1328,.str "show" 1329],
 tU [],
 tM (st 109) "show_reckoning",
 cO "show_reckoning" "show_reckoning" 1325 664 2 0 0 3 804 181 805 (.ref 806) (.ref 807) (.ref 808) 1330,
 fU (st 109) "show_reckoning" "ledgerspeak.showing" 1197 809,
 tU [.str "ADD T A GIVING C" 1335,.str "ADD A TO T GIVING C" 1336,.str "SUBTRACT T A FROM C GIVING D" 1337,.str "SUBTRACT A C FROM T GIVING D" 1338,.str "MULTIPLY T BY A GIVING C" 1339,.str "MULTIPLY A BY T GIVING C" 1340,.str "DIVIDE T BY A GIVING C" 1341,.str "DIVIDE T INTO A GIVING C" 1342,.str "ADD T A TO C" 1343,.str "SUBTRACT A T FROM C" 1344,.str "MULTIPLY T BY C" 1345],
 tU [],
 pl [],
 tU [.str "script" 1350,.str "whole" 1351,.str "cell" 1352],
 tU [],
 tM (st 112) "_law_heap",
 cO "_law_heap" "_law_heap" 1347 672 1 0 0 3 812 181 813 (.ref 814) (.ref 815) (.ref 816) 1353,
 fU (st 112) "_law_heap" "law_pq0645_01" 1333 817,
 tU [],
 pl [],
 tU [.str "heap" 1359,.str "many" 1360,.str "digit" 1361],
 tU [],
 tM (st 113) "_law_draw",
 cO "_law_draw" "_law_draw" 1356 677 2 0 0 3 819 181 820 (.ref 821) (.ref 822) (.ref 823) 1362,
 fU (st 113) "_law_draw" "law_pq0645_01" 1333 824,
 tU [],
 pl [],
 tU [.str "heap" 1368,.str "some" 1369],
 tU [],
 tM (st 114) "_law_pick",
 cO "_law_pick" "_law_pick" 1365 684 2 0 0 3 826 181 827 (.ref 828) (.ref 829) (.ref 830) 1370,
 fU (st 114) "_law_pick" "law_pq0645_01" 1333 831,
 tU [],
 pl [],
 tU [.str "text" 1376,.str "found" 1377,.str "word" 1378],
 tU [],
 tM (st 115) "_law_words",
 cO "_law_words" "_law_words" 1373 686 1 0 0 3 833 181 834 (.ref 835) (.ref 836) (.ref 837) 1379,
 fU (st 115) "_law_words" "law_pq0645_01" 1333 838,
 tU [],
 pl [],
 tU [.str "many" 1385,.str "one" 1386,.str "text" 1387,.str "tree" 1388,.str "turn" 1389],
 tU [],
 tM (st 116) "_law_subscript",
 cO "_law_subscript" "_law_subscript" 1382 694 1 0 0 3 840 181 841 (.ref 842) (.ref 843) (.ref 844) 1390,
 fU (st 116) "_law_subscript" "law_pq0645_01" 1333 845,
 tU [],
 tU [.ref 847],
 tU [],
 pl [],
 tU [.str "name" 1396,.str "subscripts" 1397],
 tU [],
 tM (st 117) "_law_ref",
 cO "_law_ref" "_law_ref" 1393 700 2 0 0 3 849 181 850 (.ref 851) (.ref 852) (.ref 853) 1398,
 fu (fS (st 117) "_law_ref" 3 [] (.ref 848) .none .none (.str "law_pq0645_01" 1333) none (.ref 854) .none 0),
 tU [],
 pl [],
 tU [.str "form" 1404,.str "item" 1405,.str "a" 1406,.str "c" 1407,.str "d" 1408,.str "exprs" 1409,.str "goal" 1410,.str "way" 1411],
 tU [],
 tM (st 118) "_law_due",
 cO "_law_due" "_law_due" 1401 702 2 0 0 3 856 181 857 (.ref 858) (.ref 859) (.ref 860) 1412,
 fU (st 118) "_law_due" "law_pq0645_01" 1333 861]
noncomputable def L14 (P:Params):List Obj:=upd (L13 P) [(3,di 118 (CW P)),(12,pl yB)]++N14 P
noncomputable def Db (P:Params):List DictEntry:=[en P "_law_body" 1421 (.ref 869),en P "_law_read" 1427 (.ref 874),en P "_law_right" 1439 (.ref 881),en P "law" 1450 (.ref 888)]
noncomputable def CU (P:Params):List DictEntry:=upd (CW P) []++Db P
noncomputable def yA:List Value:=upd yB []++tr [(707,868),(709,873),(725,880),(732,887)]
noncomputable def N15 (P:Params):List Obj:=[
 tU [],
 pl [],
 tU [.str "reader" 1418],
 tU [],
 tM (st 119) "_law_body",
 cO "_law_body" "_law_body" 1415 707 1 0 0 3 863 181 864 (.ref 865) (.ref 866) (.ref 867) 1419,
 fU (st 119) "_law_body" "law_pq0645_01" 1333 868,
 tU [],
 pl [],
 tM (st 120) "_law_read",
 cO "_law_read" "_law_read" 1422 709 1 0 0 3 870 181 871 .none .none (.ref 872) 1425,
 fU (st 120) "_law_read" "law_pq0645_01" 1333 873,
 tU [],
 pl [],
 tU [.str "form" 1431,.str "many" 1432,.str "text" 1433,.str "subscript" 1434,.str "due" 1435,.str "told" 1436],
 tU [],
 tM (st 121) "_law_right",
 cO "_law_right" "_law_right" 1428 725 2 0 0 3 875 181 876 (.ref 877) (.ref 878) (.ref 879) 1437,
 fU (st 121) "_law_right" "law_pq0645_01" 1333 880,
 tU [],
 pl [],
 tU [.str "script" 1443,.str "heap" 1444,.str "form" 1445,.str "few" 1446,.str "many" 1447],
 tU [],
 tM (st 122) "law",
 cO "law" "law" 1440 732 1 0 0 3 882 181 883 (.ref 884) (.ref 885) (.ref 886) 1448,
 fU (st 122) "law" "law_pq0645_01" 1333 887]
noncomputable def e3F (P:Params):List DictEntry:=upd (KU P) [(0,en P "__name__" 165 (.str "law_pq0645_01" 1333))]++(KS P++(KR P++(KQ P++(KP P++(KO P++(KN P++(KL P++(KJ P++(Dg P++(Df P++(De P++(Dd P++(Dc P++Db P)))))))))))))
noncomputable def LF (P:Params):List Obj:=upd (L0 P++(Na P++Nb P)) [(2,u2 P),(3,di 122 (e3F P)),(12,pl yA)]++(upd (N1 P) [(32,u47 P)]++(N2 P++(N3 P++(N4 P++(N5 P++(N6 P++(N7 P++(N8 P++(N9 P++(N10 P++(N11 P++(N12 P++(N13 P++(N14 P++N15 P))))))))))))))
noncomputable def L15 (P:Params):List Obj:=upd (L14 P) [(3,di 122 (CU P)),(12,pl yA)]++N15 P
noncomputable def Nz (P:Params):List Obj:=[
]
noncomputable def Lz (P:Params):List Obj:=upd (L15 P) []++Nz P
noncomputable def rq:Env:={scope:=pw.main.scope,locals:=mainNs,globals:=mainNs,cells:=[],code:=.ref 13,frame:=some 14}
noncomputable def cdM:Code:=.body bd rq
noncomputable abbrev frM:List Frame:=[topFrame ⟨0,0,0,0⟩]
noncomputable def sT (l:Params→List Obj) (n t:Nat) (w:World) (os:OsState):SharedT:=⟨bt 40 (l w.params),n,{},Array.mk [],{},t,os⟩
noncomputable def Piece (n:Nat) (l1:Params→List Obj) (n1 t1:Nat) (p1:Pos) (sts:List Stmt) (l2:Params→List Obj) (n2 t2:Nat) (p2:Pos) (w:World):Prop :=
 (fun os=>segRunT treeTable pw w 11 (some (.ref 6)) 1 n (sT l1 n1 t1 w os) (piecesOf sts rq cdM p1 frM))=fun os=>some (.next,sT l2 n2 t2 w os,cdM,p2)
theorem Piece.of {n:Nat}{l1 l2:Params→List Obj}{n1 t1 n2 t2:Nat}{p1 p2:Pos}{sts:List Stmt}{w:World}
 (h:(fun os=>Fast.tw10110043849684766642 Fast.tw14364793385576792824 pw w 11 (some (.ref 6)) 1 n (sT l1 n1 t1 w os) (piecesOf sts rq cdM p1 frM))=fun os=>some (.next,sT l2 n2 t2 w os,cdM,p2)) :
 Piece n l1 n1 t1 p1 sts l2 n2 t2 p2 w:=by
 unfold Piece
 rw[Fast.te10110043849684766642,Fast.te14364793385576792824]
 exact h
theorem Piece.app {n:Nat}{l1 l2:Params→List Obj}{n1 t1 n2 t2:Nat}{p1 p2:Pos}{sts:List Stmt}{w:World}(h:Piece n l1 n1 t1 p1 sts l2 n2 t2 p2 w) {N:Nat}{rest:List Stmt}{r:Shared}{os:OsState}
 (k:topRun treeTable pw w 11 (some (.ref 6)) N (sT l2 n2 t2 w os).abs (restOf rest rq cdM p2 frM)=some r) :
 topRun treeTable pw w 11 (some (.ref 6)) (n+N) (sT l1 n1 t1 w os).abs (restOf (sts++rest) rq cdM p1 frM)=some r:=piece_app (segRun_of (congrFun h os)) k
theorem pre (w:World):(fun os=>topGo treeTable pw w 11 (some (.ref 6)) 12 ⟨boot_heap w.params,Array.mk [],boot_drawn,boot_toks,os⟩ (topStub pw)) =
 fun os=>some (⟨⟨(La w.params).toArray,{}⟩,Array.mk [],{},187,os⟩,⟨denote treeTable cdM,cdM,⟨0,0,0,0⟩,frM⟩):=by
 rewrite [Fast.te15667345088766844465,Fast.te14364793385576792824,Fast.te11892475500146522536]
 kernel_rfl
theorem blk (w:World):(fun os=>segRun treeTable pw w 11 (some (.ref 6)) 1 1 ⟨⟨(La w.params).toArray,{}⟩,Array.mk [],{},187,os⟩ (blockOf bd rq cdM ⟨0,0,0,0⟩ frM)) =
 fun os=>some (.next,(sT Lb 15 187 w os).abs,cdM,⟨0,0,0,0⟩):=by
 rewrite [Fast.te14374325043358763698,Fast.te14364793385576792824]
 kernel_rfl
noncomputable def Gb:List Stmt:=(bd.drop 0).take 3
theorem p1:∀ w:World,Piece 305 Lb 15 187 ⟨0,0,0,0⟩ Gb L1 51 236 ⟨5,0,13,35⟩ w:=fun w=>.of (by kernel_rfl)
noncomputable def Ga:List Stmt:=(bd.drop 3).take 1
theorem p2:∀ w:World,Piece 214 L1 51 236 ⟨5,0,13,35⟩ Ga L2 63 252 ⟨14,0,15,8⟩ w:=fun w=>.of (by kernel_rfl)
noncomputable def F9:List Stmt:=(bd.drop 4).take 8
theorem p3:∀ w:World,Piece 385 L2 63 252 ⟨14,0,15,8⟩ F9 L3 111 314 ⟨41,0,42,20⟩ w:=fun w=>.of (by kernel_rfl)
noncomputable def F8:List Stmt:=(bd.drop 12).take 6
theorem p4:∀ w:World,Piece 144 L3 111 314 ⟨41,0,42,20⟩ F8 L4 139 355 ⟨72,0,72,12⟩ w:=fun w=>.of (by kernel_rfl)
noncomputable def F7:List Stmt:=(bd.drop 18).take 4
theorem p5:∀ w:World,Piece 312 L4 139 355 ⟨72,0,72,12⟩ F7 L5 176 410 ⟨86,0,86,15⟩ w:=fun w=>.of (by kernel_rfl)
noncomputable def F6:List Stmt:=(bd.drop 22).take 6
theorem p6:∀ w:World,Piece 389 L5 176 410 ⟨86,0,86,15⟩ F6 L6 206 500 ⟨117,0,126,61⟩ w:=byRow2 "special-get-raises" (fun w=>.of (by kernel_rfl)) fun w=>.of (by kernel_rfl)
noncomputable def F5:List Stmt:=(bd.drop 28).take 15
theorem p7:∀ w:World,Piece 394 L6 206 500 ⟨117,0,126,61⟩ F5 L7 266 595 ⟨179,0,180,30⟩ w:=byRow2 "special-get-raises" (fun w=>.of (by kernel_rfl)) fun w=>.of (by kernel_rfl)
noncomputable def F4:List Stmt:=(bd.drop 43).take 14
theorem p8:∀ w:World,Piece 396 L7 266 595 ⟨179,0,180,30⟩ F4 L8 351 710 ⟨256,0,256,9⟩ w:=fun w=>.of (by kernel_rfl)
noncomputable def F3:List Stmt:=(bd.drop 57).take 15
theorem p9:∀ w:World,Piece 394 L8 351 710 ⟨256,0,256,9⟩ F3 L9 431 822 ⟨335,0,337,28⟩ w:=fun w=>.of (by kernel_rfl)
noncomputable def Ch:List Stmt:=(bd.drop 72).take 12
theorem p10:∀ w:World,Piece 375 L9 431 822 ⟨335,0,337,28⟩ Ch L10 513 934 ⟨414,0,424,82⟩ w:=fun w=>.of (by kernel_rfl)
noncomputable def Cg:List Stmt:=(bd.drop 84).take 8
theorem p11:∀ w:World,Piece 186 L10 513 934 ⟨414,0,424,82⟩ Cg L11 546 990 ⟨463,0,467,25⟩ w:=fun w=>.of (by kernel_rfl)
noncomputable def Cf:List Stmt:=(bd.drop 92).take 1
theorem p12:∀ w:World,Piece 910 L11 546 990 ⟨463,0,467,25⟩ Cf L12 719 1197 ⟨468,0,588,20⟩ w:=fun w=>.of (by kernel_rfl)
noncomputable def Cd:List Stmt:=(bd.drop 93).take 13
theorem p13:∀ w:World,Piece 397 L12 719 1197 ⟨468,0,588,20⟩ Cd L13 785 1287 ⟨629,0,633,18⟩ w:=byRow2 "special-get-raises" (fun w=>.of (by kernel_rfl)) fun w=>.of (by kernel_rfl)
noncomputable def Cc:List Stmt:=(bd.drop 106).take 13
theorem p14:∀ w:World,Piece 388 L13 785 1287 ⟨629,0,633,18⟩ Cc L14 863 1415 ⟨702,0,706,60⟩ w:=fun w=>.of (by kernel_rfl)
noncomputable def Cb:List Stmt:=(bd.drop 119).take 4
theorem p15:∀ w:World,Piece 123 L14 863 1415 ⟨702,0,706,60⟩ Cb L15 889 1451 ⟨732,0,738,62⟩ w:=fun w=>.of (by kernel_rfl)
theorem fin (w:World):(fun os=>topRun treeTable pw w 11 (some (.ref 6)) 2 (sT L15 889 1451 w os).abs ⟨doneF .next,cdM,⟨732,0,738,62⟩,frM⟩)=fun os=>some (sT L15 889 1451 w os).abs:=by
 rewrite [Fast.te14082659384304107361,Fast.te14364793385576792824]
 kernel_rfl
theorem Kr:bd=Gb++(Ga++(F9++(F8++(F7++(F6++(F5++(F4++(F3++(Ch++(Cg++(Cf++(Cd++(Cc++(Cb++[])))))))))))))):=by kernel_rfl
noncomputable def ni:Nat:=12+(1+(305+(214+(385+(144+(312+(389+(394+(396+(394+(375+(186+(910+(397+(388+(123+2))))))))))))))))
theorem M4 (w:World) (os:OsState):topRun treeTable pw w 11 (some (.ref 6)) ni ⟨boot_heap w.params,Array.mk [],boot_drawn,boot_toks,os⟩ (topStub pw)=some (sT L15 889 1451 w os).abs:=by
 refine go_top (congrFun (pre w) os) (piece_block (congrFun (blk w) os) ?_)
 refine Eq.trans (congrArg (fun l=>topRun treeTable pw w 11 (some (.ref 6)) _ _ (restOf l rq cdM ⟨0,0,0,0⟩ frM)) Kr) ?_
 exact Piece.app (p1 w) (Piece.app (p2 w) (Piece.app (p3 w) (Piece.app (p4 w) (Piece.app (p5 w) (Piece.app (p6 w) (Piece.app (p7 w) (Piece.app (p8 w) (Piece.app (p9 w) (Piece.app (p10 w) (Piece.app (p11 w) (Piece.app (p12 w) (Piece.app (p13 w) (Piece.app (p14 w) (Piece.app (p15 w) (piece_nil (congrFun (fin w) os))))))))))))))))
end
section
noncomputable def qM:Program:=view pw [122]
noncomputable def M2 (l:List DictEntry):List Str:=l.filterMap fun e=>match e.key with
 |.str x _=>some x
 |_=>none
noncomputable def HM (P:Params):Heap:=absHeap (bt 40 (L15 P)) 889 {}
noncomputable def looseM:List Str:=(["_wall","LedgerError","TokenFault","GrammarFault","FIGURES","cut_quotient","decimal","negated","units_at","is_whole","whole_of","worth_of","read_decimal","write_decimal","MOST_FIGURES","Token","quoted","MOST_SUBSCRIPTS","FIGURE_NAMES","FIGURE_SHOWN","is_part_next","read_subscripts","read_part","read_ref","read_all","read_figure","read_operand","shown_octets"]:List Str)++(["shown_number","shown_subscripts","show_ref","show_operand","MOST_DEEP","SIGNED","RAISED","BARE","LEVELS","read_expression","sign_among","read_sum","read_product","read_factor","is_lone_number","read_power","read_primary","level_of","bracketed","show_expression","right_part","show_signed","TWO_SIDED","postfix","leaves","SHOWN_DEPTH","FIGURE_WORDS","word_ahead"]:List Str)++(["phrase_words","opening_length","body_here","branches_here","begins_operand","ref_here","is_numeric_operand","is_numeric_expr","refuse_at","number_here","numbers_here","targets_here","goal_rows","sole_operand","given_rows","size_branches","read_corresponding","passes_corresponding","read_add","read_subtract","read_multiply","read_remainder","read_divide","read_compute","MOST_OCTET","RESERVED","is_reserved","octets_of_text"]:List Str)++(["Reader","PHRASES","operand_text","ref_text","joined","some_of","show_body","show_phrase","show_branches","rounded","summands","show_goals","way_of","show_arith","show_divide","show_corr","show_reckoning","_law_FORMS","_law_heap","_law_draw","_law_pick","_law_words","_law_subscript","_law_ref","_law_due","_law_body","_law_read","_law_right"]:List Str)
noncomputable def wO (w:World) (os:OsState):Shared:=⟨HM w.params,Array.mk [],{},1451,os⟩
theorem op1:opening pw=plainProg pw.main.scope.names:=by kernel_rfl
theorem op2 (s:Shared):fenceModules? pw s=some s:=by kernel_rfl
theorem Go (w:World):((boot_heap w.params).isNs mainGlobals&&(Array.mk []:Array GenState).size==0,(boot_heap w.params).objs.size,(boot_heap w.params).nsMap mainGlobals "__annotations__")=(true,11,some (.ref 6)):=by kernel_rfl
theorem IR (w:World):(fun os=>staticsOk (importedModules pw.main.body) (boot_heap w.params) (HM w.params)&&namesBound pw (HM w.params)&&gensDone (wO w os)&&laidKept (boot_heap w.params) (HM w.params))=fun _=>true:=by kernel_rfl
theorem IQ (w:World):(fun os=>openSeen qM looseM (importedModules pw.main.body) (fun _=>true) true (wO w os))=fun _=>openGood qM looseM:=by
 rewrite [Fast.te4187177175401517315,Fast.te5923862056798008813]
 kernel_rfl
noncomputable def YfM (s:Shared):List Obj×Nat:=(s.heap.objs.toList,s.toks)
noncomputable def YaM (w:World):List Obj×Nat:=(L15 w.params,1451)
theorem IP (w:World):(fun os=>YfM (wO w os))=fun _=>YaM w:=by kernel_rfl
abbrev rwM:OpenLaw:=PySem.Challenge.rw_pq0645_01
noncomputable def Fe:Stmt→DefRec
 |.FunctionDef nm ps b _ _ _ sc _ _ pos=>⟨nm,ps,b,sc,pos⟩
 |_=>⟨"",⟨[],[],none,[],[],none,[]⟩,[],pw.main.scope,⟨0,0,0,0⟩⟩
noncomputable def lawD:DefRec:=Fe (st 122)
theorem Jc (w:World) (os:OsState):topRun treeTable pw w 11 (some (.ref 6)) ni ⟨boot_heap w.params,Array.mk [],boot_drawn,boot_toks,os⟩ (topStub pw)=some ⟨HM w.params,Array.mk [],{},1451,os⟩ :=
 (M4 w os).trans (by kernel_rfl)
theorem EI (w:World):(fun os=>(staticsOk (importedModules pw.main.body) (boot_heap w.params) (HM w.params)&&namesBound pw (HM w.params)&&gensDone ⟨HM w.params,Array.mk [],{},1451,os⟩&&laidKept (boot_heap w.params) (HM w.params),
 openSeen qM looseM (importedModules pw.main.body) (fun _=>true) true ⟨HM w.params,Array.mk [],{},1451,os⟩,YfM ⟨HM w.params,Array.mk [],{},1451,os⟩))=fun _=>(true,openGood qM looseM,YaM w):=by
 have h1:=IR w
 have h2:=IQ w
 have h3:=IP w
 funext os
 exact Prod.ext (congrFun h1 os) (Prod.ext (congrFun h2 os) (congrFun h3 os))
theorem leM:Nat.ble ni 2000000=true:=by decide +kernel
theorem Ii:∀ w:World,(fencedOpening treeTable pw w 2000000).map (fun s=>(s.heap,s.gens,s.drawn,s.toks))=some (boot_heap w.params,Array.mk [],boot_drawn,boot_toks):=boot_open (p:=pw) (N:=2000000) op1 (by decide +kernel) op2
theorem IX:LeftO pw qM looseM (fun _=>true) YfM YaM 2000000 true :=
 LeftO.of_pieces (p:=pw) (q:=qM) (loose:=looseM) (Xt:=fun _=>true) (Yf:=YfM) (Ya:=YaM) (N:=2000000) (g0:=true) (H₀:=boot_heap) (H₁:=HM) (gs₀:=Array.mk []) (gs₁:=Array.mk []) (d₀:=boot_drawn) (d₁:={}) (k₀:=boot_toks) (k₁:=1451)
  (m₀:=11) (ann:=some (.ref 6)) (M:=ni) Ii Go Jc leM EI
theorem Jd:defOf qM rwM.row.name=some (lawD,[]):=by kernel_rfl
theorem hpM:rwM.row.prog.theDef rwM.row.name=some (lawD.params,lawD.body,lawD.scope):=by kernel_rfl
theorem okM:(chainsOk qM&&opensWell rwM.row.prog&&(frees rwM.row.toRowW&&rwM.row.within.isEmpty))=true:=by kernel_rfl
theorem KA:rwM.row.prog.bare:=⟨rfl,rfl,rfl,rfl,rfl,by decide +kernel⟩
theorem Ic:rwM.row.toRowW.promised:=by w_witness2
theorem EZ (said:rwM.row.wellSaid=true) (walk:WalkX qM looseM (fun _ _=>True) YfM YaM rwM.row.toRowW lawD [] fun f vs=>PySem.call f vs):rwM.row.Holds :=
 holds_openX IX (fun _ _=>trivial) (fun _ _ _ _ _=>trivial) Jd hpM (by kernel_rfl) (fun s _=>recFacts_of (R:=[]) (s:=s) rfl) (by kernel_rfl) said okM KA Ic walk
end
section
noncomputable def lkM:Look:={strict:=false,foot:=none,bare:=[]}
noncomputable def Ni:Expr:=@Stmt.Assign.elim (fun _=>Expr) (st 89) (show _=5 by kernel_rfl) fun _ e _=>e
noncomputable def No:Const:=@Expr.Constant.elim (fun _=>Const) Ni (show _=19 by kernel_rfl) fun c _ _=>c
noncomputable def str89:Str:=@Const.str.elim (fun _=>Str) No (show _=5 by kernel_rfl) fun x=>x
theorem e89 (n:Str) (p:Pos) (x:Str) (a:Nat) (b c:Pos):noRoadLS lkM (.Assign [.Name n p] (.Constant (.str x) a b) c)=lkM.str x:=by kernel_rfl
theorem NB:∃ n p a b c,st 89=.Assign [.Name n p] (.Constant (.str str89) a b) c:=⟨_,_,_,_,_,rfl⟩
set_option maxHeartbeats 4000000 in
noncomputable def resvC:{l:List Char // str89=Str.ofString (String.ofList l)}:=⟨_,rfl⟩
noncomputable def resvL:List Nat:=resvC.1.map Char.toNat
theorem resv_eq:str89=⟨resvL.toArray⟩:=by
 rw[resvC.2,Fast.ofString_ofList];rfl
noncomputable abbrev Cm:Str:=⟨resvL.toArray⟩
theorem Ea:roadStr Cm=false:=by
 unfold roadStr
 simp only[List.any_toArray]
 kernel_rfl
theorem Dy:lkM.word Cm=true:=by kernel_rfl
theorem MR:lkM.str (str89)=true:=by
 rw[resv_eq]
 unfold Look.str
 rw[Dy,Ea,Bool.or_true]
 rfl
theorem s89:noRoadLS lkM (st 89)=true:=let⟨n,p,a,b,c,e⟩:=NB;(congrArg _ e).trans ((e89 n p _ a b c).trans MR)
theorem nz (lk:Look) (s:Stmt) (r:List Stmt):noRoadLSs lk (s::r)=(noRoadLS lk s&&noRoadLSs lk r):=by kernel_rfl
theorem o8 (lk:Look):∀(a b:List Stmt),noRoadLSs lk a=true→noRoadLSs lk b=true→noRoadLSs lk (a++b)=true
 |[],_,_,h=>h
 |s::r,b,ha,hb=>by
  rw[nz,Bool.and_eq_true]at ha
  rw[List.cons_append,nz,ha.1,o8 lk r b ha.2 hb]
  rfl
theorem AY:noRoadLSs lkM bd=true:=by
 rw[show bd=bd.take 89++(st 89::bd.drop 90)by kernel_rfl]
 refine o8 _ _ _ (by rewrite [Fast.te8326940854005059898];kernel_rfl) ?_
 rw[nz,s89,Bool.true_and]
 rewrite [Fast.te8326940854005059898];kernel_rfl
end
section
theorem BG:pw.main.body=bd:=by kernel_rfl
theorem uE:((["vars","dir","locals"]:List Str).filter (readsOut pw pw.main.body))=[]:=by
 have e:∀ n,readsOut pw pw.main.body n=!(@namesMeet pw pw.main.body fun sc x=>x != n||!(sc.names.lookup x==some .globalImplicit||sc.names.lookup x==some .globalExplicit)):=fun _=>rfl
 simp only[funext e]
 rewrite [Fast.te17119622794617984870]
 kernel_rfl
theorem zp:(!(importedModules pw.main.body).all cThrough.contains)=false:=by kernel_rfl
theorem IL:(namesMeet pw pw.main.body fun _ n=>attrL n)=true:=by rewrite [Fast.te17119622794617984870];kernel_rfl
theorem vR:namesResolve pw=true:=by rewrite [Fast.te8377067652309620493];kernel_rfl
theorem Dx:(pw.boundNames.all fun n=>!worldNames.contains n)=true:=by kernel_rfl
theorem LD:(sreFenced pw.main&&((moduleNames pw.main.body).isEmpty||lookedIntoSs (moduleNames pw.main.body) pw.main.body))=true:=by kernel_rfl
theorem qS:looksOpen pw=true:=by
 unfold looksOpen
 rw[zp,uE,IL,vR,Dx,LD,BG]
 exact look_both (look_both rfl AY) rfl
theorem tZ:rwM.row.partSaid=true:=by
 unfold OpenRow.partSaid
 rw[show looksOpen rwM.row.prog=true from qS]
 kernel_rfl
theorem o7:rwM.row.wellSaid=true:=by
 unfold OpenRow.wellSaid
 rw[tZ]
 kernel_rfl
theorem GO:rwM.wellSaid=true:=by
 unfold OpenLaw.wellSaid
 rw[o7]
 rewrite [Fast.te17119622794617984870,Fast.te8326940854005059898]
 kernel_rfl
theorem holds_of_walk (walk:WalkX qM looseM (fun _ _=>True) YfM YaM rwM.row.toRowW lawD [] fun f vs=>PySem.call f vs):rwM.Holds:=⟨GO,EZ o7 walk⟩
end
section
noncomputable def hid (n:Nat):Bool:=Nat.beq n 309||Nat.beq n 432
noncomputable def mK:Nat→List Obj→Frag
 |_,[]=>[]
 |n,o::r=>bif hid n then mK (n+1) r else(n,o)::mK (n+1) r
theorem bor {n:Nat}(h:hid n=false):n≠309∧n≠432:=⟨fun e=>by subst e;injection h,fun e=>by subst e;injection h⟩
theorem gd {a:Nat}{o:Obj}:∀{l:List Obj}{n:Nat},(mK n l).lookup a=some o→∃ i,a=n+i∧l[i]?=some o∧hid a=false
 |[],_,h=>by injection h
 |b::r,n,h=>by
  unfold mK at h
  induction q:hid n using Bool.casesOn with
  |true=>rw[q]at h;obtain⟨i,h1,h2⟩:=gd (show(mK (n+1) r).lookup a=some o from h);exact⟨i+1,h1.trans (Nat.succ_add_eq_add_succ n i),h2⟩
  |false =>
   rw[q,cond_false,List.lookup_cons]at h
   induction e:a==n using Bool.casesOn with
   |true=>rw[e]at h;exact⟨0,eq_of_beq e,h,eq_of_beq e▸q⟩
   |false=>rw[e]at h;obtain⟨i,h1,h2⟩:=gd h;exact⟨i+1,h1.trans (Nat.succ_add_eq_add_succ n i),h2⟩
noncomputable def IT:Obj→Bool
 |⟨_,_,.freed,_⟩=>false
 |_=>true
theorem IS (P:Params):(L15 P).all IT=true:=by kernel_rfl
theorem yw {h:Heap}{a:Addr}{o:Obj}(e:h.objs[a]?=some o) (l:IT o=true):h.get? a=some o:=by
 unfold Heap.get?
 rw[e]
 obtain⟨c,d,dt,sl⟩:=o
 cases dt<;>first | rfl | cases l
theorem Nm (P:Params):e3F P=CU P:=by kernel_rfl
theorem K0 (P:Params):LF P=L15 P:=by kernel_rfl
noncomputable def kM (P:Params):Frag:=mK 0 (LF P)
theorem kM_get {P:Params}{a:Addr}{o:Obj}(h:(kM P).lookup a=some o):(L15 P)[a]?=some o∧@Ne Nat a 309∧@Ne Nat a 432:=by
 unfold kM at h
 obtain⟨i,h1,h2,h3⟩:=gd h
 rw[Nat.zero_add]at h1
 subst h1
 rw[← K0]
 exact⟨h2,(bor h3).1,(bor h3).2⟩
theorem get_old {w:World}{s:Shared}(y:YfM s=YaM w) {a:Addr}{o:Obj}(h:(L15 w.params)[a]?=some o):s.heap.get? a=some o:=by
 have e:s.heap.objs.toList=L15 w.params:=congrArg Prod.fst y
 have hl:=List.all_eq_true.mp (IS w.params) o (List.mem_of_getElem? h)
 rw[← e,Array.getElem?_toList]at h
 exact yw h hl
theorem inM {w:World}{s:Shared}(y:YfM s=YaM w):(kM w.params).In s.heap:=fun a o h=>get_old y (kM_get h).1
theorem NE {w:World}{s:Shared}(y:YfM s=YaM w):(kM w.params).In (hideAll s.heap [309,432]):=fun a o h=>by
 obtain⟨h1,h2,h3⟩:=kM_get h
 exact hideAll_get _ (get_old y h1) fun m=>by
  rcases List.mem_cons.mp m with m | m
  ·exact h2 m
  ·exact h3 (List.mem_singleton.mp m)
end
end Hd
end
section
namespace Mine
open PySem PySem.W PySem.Calls PyProof.Rows Builtin.Str
inductive D where
 |py (p:PyData)
 |tok (k w:Str) (n:Int)
 |toks (l:List (Str×Str×Int))
 |rdr
 |exn
 |glob (v:Value)
 |lam (d:Int)
 |rng (a b:Int)
 |bl (l:List PyData)
 deriving Inhabited
inductive OutK (κ α:Type) where
 |ok (a:α) (k:κ)
 |exc
 |no
 deriving Inhabited
noncomputable abbrev Out:=OutK Nat
noncomputable def OutK.bind {κ α β:Type}(x:OutK κ α) (f:α→κ→OutK κ β):OutK κ β:=match x with
 |.ok a k=>f a k
 |.exc=>.exc
 |.no=>.no
noncomputable def ofO {κ α:Type}(x:Option α) (k:κ):OutK κ α:=match x with
 |some a=>.ok a k
 |none=>.no
noncomputable def optK {κ α β:Type}(o:Option α) (f:α→OutK κ β):OutK κ β:=match o with
 |some a=>f a
 |none=>.no
noncomputable def orK {κ α β:Type}(o:Option α) (f:α→OutK κ β) (g:OutK κ β):OutK κ β:=match o with
 |some a=>f a
 |none=>g
noncomputable def one {α:Type}:List α→Option α
 |[]=>none
 |a::r=>match r with
  |[]=>some a
  |_::_=>none
noncomputable def two {α:Type}:List α→Option (α×α)
 |[]=>none
 |a::r=>(one r).map fun b=>(a,b)
noncomputable abbrev Rho:=List (Str×D)
noncomputable abbrev qc (κ:Type):=Addr→List D→κ→OutK κ D
noncomputable abbrev Orc:=qc Nat
noncomputable def gs:List Nat→List Nat→Bool
 |[],[]=>true
 |a::l,b::r=>match Nat.beq a b with | true=>gs l r | false=>false
 |_,_=>false
noncomputable def ac (a b:Str):Bool:=gs a.cps.toList b.cps.toList
noncomputable def aH:Rho→Str→Option D
 |[],_=>none
 |p::r,x=>match ac p.1 x with | true=>some p.2 | false=>aH r x
noncomputable def bP:Rho→Str→D→Rho
 |[],x,d=>[(x,d)]
 |p::r,x,d=>match ac p.1 x with | true=>(p.1,d)::r | false=>p::bP r x d
noncomputable def jM:List (Str×NameKind)→Str→Option NameKind
 |[],_=>none
 |p::r,x=>match ac p.1 x with | true=>some p.2 | false=>jM r x
noncomputable def AU:PyData→PyData→Bool:=PyData.eqv
noncomputable def eJ:List D→Option (List PyData)
 |[]=>some []
 |.py p::r=>(eJ r).map (p::·)
 |_=>none
noncomputable def tT (v:Value):Option Addr:=match v with
 |.ref a=>some a
 |_=>none
noncomputable def tyV (v:Value):Option String:=match v with
 |.type m=>some m
 |_=>none
noncomputable def A8 (n:String) (v:Value):Bool:=match tyV v with
 |some m=>m==n
 |none=>false
noncomputable def GD (d:Data):Option (Array Value):=match d with
 |.seq vs _=>some vs
 |_=>none
noncomputable def Ff (v:Value):Option PyData:=match v with
 |.none=>some .none
 |.bool b=>some (.bool b)
 |.int i _=>some (.int i)
 |.str s _=>some (.str s)
 |_=>none
noncomputable def yQ (K:Frag):Nat→Value→Option PyData
 |0,v=>Ff v
 |n+1,v=>match tT v with
  |some a=>(K.lookup a).bind fun o=>if A8 "tuple" o.cls then(GD o.data).bind fun vs=>(vs.toList.mapM (yQ K n)).map .tuple else none
  |none=>Ff v
noncomputable def hY (K:Frag) (v:Value):D:=match yQ K 4 v with
 |some p=>.py p
 |none=>.glob v
noncomputable def Iw (x:Str):Option D:=if ac x "__name__" then none else(bootBuiltins x).map .glob
noncomputable def Ex (K:Frag) (x:Str) (o:Option Value):Option D:=match o with
 |some v=>some (hY K v)
 |none=>Iw x
noncomputable def d7 (K:Frag) (x:Str):Option D:=(nsIn K mainGlobals x).bind (Ex K x)
noncomputable def sm (n:Nat):Bool:=Nat.ble n 100000
noncomputable def rB:Const→Option D
 |.none=>some (.py .none)
 |.bool b=>some (.py (.bool b))
 |.int i=>some (.py (.int i))
 |.str s=>some (.py (.str s))
 |_=>none
noncomputable def bV:D→Option Bool
 |.py .none=>some false
 |.py (.bool b)=>some b
 |.py (.int i)=>some (i != 0)
 |.py (.str s)=>if sm s.length then some ((s.length:Int) != 0)else none
 |.py (.list l)=>if sm l.length then some (!l.isEmpty)else none
 |.py (.tuple l)=>if sm l.length then some (!l.isEmpty)else none
 |.bl l=>if sm l.length then some (!l.isEmpty)else none
 |_=>none
noncomputable def j3:D→Option Bool
 |.py .none=>some true
 |.py _=>some false
 |.tok _ _ _=>some false
 |_=>none
noncomputable def cG:List PyData→Option (List Str)
 |[]=>some []
 |.str s::r=>(cG r).map (s::·)
 |_=>none
noncomputable def b8 (x:Str):List Str→Bool
 |[]=>false
 |y::l=>match ac y x with | true=>true | false=>b8 x l
noncomputable def kh (x y:Str):Bool:=!(occurrences y x 0 y.length 1).isEmpty
noncomputable def nsD (K:Frag) (ds:List Addr) (a:Addr) (x:Str):Option (Option Value):=if ds.contains a then nsIn K a x else none
noncomputable def pyV:D→Option PyData
 |.py p=>some p
 |_=>none
noncomputable def jH:PyData→Option Str
 |.str x=>some x
 |_=>none
noncomputable def se:PyData→Option Int
 |.int x=>some x
 |_=>none
noncomputable def fM (d:D):Option Str:=(pyV d).bind jH
noncomputable def intD (d:D):Option Int:=(pyV d).bind se
noncomputable def sj (d:D):Bool:=match pyV d with
 |some p=>match p with
  |.none=>true
  |_=>false
 |none=>false
noncomputable def eqP (neg:Bool) (p q:PyData):Option Bool:=match jH p,jH q with
 |some x,some y=>some (ac x y^^neg)
 |_,_=>if SeqAt.shaped p&&SeqAt.shaped q then some (AU p q^^neg)else none
noncomputable def eqD (a b:D):Option Bool:=match pyV b with
 |none=>none
 |some q=>match a with
  |.py p=>eqP false p q
  |.bl l=>if SeqAt.shaped (.list l)&&SeqAt.shaped q then some (AU (.list l) q)else none
  |_=>none
noncomputable def neD (a b:D):Option Bool:=match pyV b with
 |none=>none
 |some q=>match pyV a with
  |some p=>eqP true p q
  |none=>none
noncomputable def ub (f:Int→Int→Bool) (a b:D):Option Bool:=match intD a,intD b with
 |some i,some j=>some (f i j)
 |_,_=>none
noncomputable def inP (neg:Bool) (x:Str):PyData→Option Bool
 |.str y=>some (kh x y^^neg)
 |.tuple l=>(cG l).map (fun l=>b8 x l^^neg)
 |.list l=>if neg then none else(cG l).map (b8 x)
 |_=>none
noncomputable def ot:List PyData→Option (List Int)
 |[]=>some []
 |.int i::r=>(ot r).map (i::·)
 |_=>none
noncomputable def EW (neg:Bool) (i:Int):PyData→Option Bool
 |.tuple l=>if neg then none else(ot l).map fun l=>l.any (·==i)
 |_=>none
noncomputable def yt (neg:Bool) (a b:D):Option Bool:=match intD a,pyV b with
 |some i,some p=>EW neg i p
 |_,_=>none
noncomputable def inD (K:Frag) (dl:List Addr) (neg:Bool) (a b:D):Option Bool:=match fM a with
 |none=>yt neg a b
 |some x=>match b with
  |.py p=>inP neg x p
  |.glob v=>match v with
   |.ref a=>(nsD K dl a x).map (fun r=>r.isSome^^neg)
   |_=>none
  |_=>none
noncomputable def gJ (K:Frag) (dl:List Addr) (op:CmpOp) (a b:D):Option Bool:=match op with
 |.Is=>if sj b then j3 a else none
 |.IsNot=>if sj b then(j3 a).map (!·)else none
 |.Eq=>eqD a b
 |.NotEq=>neD a b
 |.Lt=>ub (fun i j=>decide (i<j)) a b
 |.LtE=>ub (fun i j=>decide (i≤j)) a b
 |.Gt=>ub (fun i j=>decide (i > j)) a b
 |.GtE=>ub (fun i j=>decide (i≥j)) a b
 |.In=>inD K dl false a b
 |.NotIn=>inD K dl true a b
noncomputable def Fi (x y:Str):Str:=⟨(x.cps.toList++y.cps.toList).toArray⟩
theorem BB (x y:Str):Fi x y=x++y:=by
 obtain⟨⟨x⟩⟩:=x
 obtain⟨⟨y⟩⟩:=y
 show(⟨(x++y).toArray⟩:Str)=⟨⟨x⟩++⟨y⟩⟩
 rw[List.append_toArray]
noncomputable def sF (s:List Nat):List Str→List Nat
 |[]=>[]
 |x::r=>match r with
  |[]=>x.cps.toList
  |_::_=>x.cps.toList++(s++sF s r)
noncomputable def sE (s:Str) (l:List Str):Str:=⟨(sF s.cps.toList l).toArray⟩
theorem pI (s:Str):∀ l,sF s.cps.toList l=(Str.join s l).cps.toList
 |[]=>rfl
 |[x]=>rfl
 |x::y::r=>by
  show x.cps.toList++(s.cps.toList++sF s.cps.toList (y::r))=(x++s++Str.join s (y::r)).cps.toList
  rw[pI s (y::r)]
  simp only[Str.cps_append,Array.toList_append,List.append_assoc]
theorem pH (s:Str) (l:List Str):sE s l=Txt.join s l:=by
 unfold sE Txt.join
 rw[PySem.StrLaws.glued_eq_join,pI,Array.toArray_toList]
noncomputable def qE:PyData→Option (List PyData)
 |.list x=>some x
 |_=>none
noncomputable def sy (d:D):Option (List PyData):=(pyV d).bind qE
noncomputable def blV (d:D):Option (List PyData):=match d with
 |.bl l=>some l
 |_=>none
noncomputable def pe (d:D):Bool:=match d with
 |.rdr=>true
 |_=>false
noncomputable def Ej (p:PyData):Bool:=match p with
 |.none=>true
 |.bool _=>true
 |_=>false
noncomputable def quiet (d:D):Bool:=match pyV d with
 |some p=>Ej p
 |none=>false
noncomputable def qF (ds:List D):Bool:=match one ds with
 |some d=>(fM d).isSome
 |none=>false
noncomputable def HG (d:D):D:=match d with
 |.bl l=>.py (.list l)
 |d=>d
noncomputable def re (o:UnaryOp):Bool:=match o with
 |.Not=>true
 |_=>false
noncomputable def ET (f:Int→Int→Option D) (a b:D):Option D:=(intD a).bind fun i=>(intD b).bind fun j=>f i j
noncomputable def Fu (a b:D):Option D:=match intD a with
 |some i=>(intD b).bind fun j=>some (.py (.int (i+j)))
 |none=>match fM a with
  |some x=>(fM b).bind fun y=>if sm (x.length+y.length)then some (.py (.str (Fi x y)))else none
  |none=>(sy a).bind fun x=>(sy b).bind fun y=>if sm (x.length+y.length)then some (.py (.list (x++y)))else none
noncomputable def aK (op:Operator) (a b:D):Option D:=match op with
 |.Add=>Fu a b
 |.Sub=>ET (fun i j=>some (.py (.int (i-j)))) a b
 |.Mult=>ET (fun i j=>if sm i.natAbs&&sm j.natAbs then some (.py (.int (i*j)))else none) a b
 |_=>none
noncomputable def qI:Int→Option Nat
 |.ofNat j=>some j
 |_=>none
noncomputable def kI (d:D):Option Nat:=(intD d).bind qI
noncomputable def Ja (p:PyData) (j:Nat):Option D:=match p with
 |.tuple l=>(l[j]?).map .py
 |.list l=>(l[j]?).map .py
 |.str x=>(x.cps.toList[j]?).map fun c=>.py (.str ⟨#[c]⟩)
 |_=>none
noncomputable def Cz (a:D) (j:Nat):Option D:=match a with
 |.py p=>Ja p j
 |.toks l=>(l[j]?).map fun t=>.tok t.1 t.2.1 t.2.2
 |_=>none
noncomputable def vX:D→Option Addr
 |.glob v=>match v with
  |.ref a=>some a
  |_=>none
 |_=>none
noncomputable def ah (K:Frag) (dl:List Addr) (a i:D):Option D:=match kI i with
 |some j=>if sm j then Cz a j else none
 |none=>(fM i).bind fun x=>(vX a).bind fun a=>(nsD K dl a x).bind fun v=>v.bind fun v=>some (hY K v)
noncomputable def sd:PyData→Option (List PyData)
 |.tuple l=>some l
 |_=>none
noncomputable def te:D→Option (List PyData)
 |.py p=>sd p
 |_=>none
noncomputable def smO (n:Nat):Option Nat:=if sm n then some n else none
noncomputable def IU (p:PyData):Option Nat:=match p with
 |.str s=>smO s.length
 |.list l=>smO l.length
 |.tuple l=>smO l.length
 |_=>none
noncomputable def uk (d:D):Option Nat:=match d with
 |.py p=>IU p
 |.bl l=>smO l.length
 |.toks l=>smO l.length
 |_=>none
noncomputable def IN (d:D):Option (List PyData):=match d with
 |.py p=>qE p
 |.bl l=>some l
 |_=>none
noncomputable def DX {α:Type}(l:List α) (lo hi:Option Int):Option (List α):=match hi with
 |none=>(lo.bind qI).map l.drop
 |some _=>none
noncomputable def kn {κ:Type}(d:D) (lo hi:Option Int) (k:κ):OutK κ D:=match d with
 |.py (.str s)=>if sm s.length then .ok (.py (.str (Txt.slice s lo hi))) k else .no
 |.py (.list l)=>if sm l.length then ofO ((DX l lo hi).map fun l=>.py (.list l)) k else .no
 |_=>.no
noncomputable def gP (g:List (Str×Str×Int)) (a:Str) (d:D) (k:Nat):Option D:=match d with
 |.rdr=>if ac a "at" then some (.py (.int k))else if ac a "tokens" then some (.toks g)else none
 |.tok kd w _=>if ac a "kind" then some (.py (.str kd))else if ac a "worth" then some (.py (.str w))else none
 |_=>none
noncomputable def dR (K:Frag) (C:Addr) (m:Str):Option Addr:=if !(ac m "tokens"||ac m "at"||ac m "named"||ac m "shared")then
 (findIn K (.ref C) m).bind fun o=>(o.bind tT).bind fun f=>if isFn K (.ref f)then some f else none else none
structure Cx where
 K:Frag
 rc:Addr -- the class Reader
 rs:Addr -- read_sum
 dl:List Addr -- the dicts of the top that are read
 tabs:List (Addr×Nat×Nat×Str) -- the code tables that lambdas fill: table,line,column,qualified name
 toks:List (Str×Str×Int)
 me:Option Addr -- the function at hand
 calls:Orc
noncomputable def aS (f:String) (args:List D):Option D:=(one args).bind fun d =>
 if f=="len" then(uk d).map fun(n:Nat)=>D.py (.int n)
 else if f=="abs" then(intD d).map fun i=>.py (.int (if i<0 then -i else i))
 else none
noncomputable def uR (f:String) (d:D):Option D :=
 if f=="tuple" then(IN d).bind fun l=>if sm l.length then some (.py (.tuple l))else none
 else if f=="list" then(te d).bind fun l=>if sm l.length then some (.py (.list l))else none
 else if f=="str" then(intD d).bind fun i=>if sm i.natAbs then some (.py (.str (Str.ofString (toString i))))else none
 else if f=="range" then(intD d).map fun i=>.rng 0 i
 else none
noncomputable def gj (f:String) (args:List D):Option D:=match one args with
 |some d=>uR f d
 |none=>if f=="range" then(two args).bind fun q=>(intD q.1).bind fun a=>(intD q.2).map fun b=>.rng a b else none
noncomputable def nb:D→Bool
 |.bl _=>false
 |_=>true
noncomputable def nbO {κ:Type}:OutK κ D→OutK κ D
 |.ok d k=>if nb d then .ok d k else .no
 |o=>o
noncomputable def MZ {κ:Type}(calls:qc κ) (rs:Addr) (d:Int) (args:List D) (k:κ):OutK κ D:=optK (one args) fun a=>if pe a then nbO (calls rs [.rdr,.py (.int (d+1))] k)else .no
noncomputable def oF {κ:Type}(calls:qc κ) (rs:Addr) (f:D) (args:List D) (k:κ):OutK κ D:=match f with
 |.glob u=>match u with
  |.ref a=>if args.all nb then nbO (calls a args k)else .no
  |.builtin b=>ofO (aS b args) k
  |.type b=>ofO (gj b args) k
  |_=>.no
 |.lam d=>MZ calls rs d args k
 |_=>.no
noncomputable def rR (c:Cx) (f:D) (args:List D) (k:Nat):Out D:=oF c.calls c.rs f args k
noncomputable def Ge (x:Str) (m:Str) (y:Str):Option D :=
 if ac m "split" then(if y.length != 0&&sm x.length&&sm (Txt.split x y).length then some (.py (.list ((Txt.split x y).map .str)))else none)
 else if ac m "startswith" then some (.py (.bool (Txt.startswith x y)))
 else if ac m "index" then(occurrences x y 0 x.length 1).head?.map fun(i:Nat)=>D.py (.int i)
 else none
noncomputable def Gc (x:Str) (m:Str) (l:List PyData):Option D:=if ac m "join" then(cG l).bind fun ss=>if JoinOk x ss then some (.py (.str (sE x ss)))else none else none
noncomputable def vz (x:Str) (m:Str) (a:D):Option D:=match fM a with
 |some y=>Ge x m y
 |none=>(sy a).bind (Gc x m)
noncomputable def oS (x:Str) (m:Str) (args:List D):Option D:=match args with
 |[]=>if ac m "isdigit" then some (.py (.bool (Txt.isdigit x)))else none
 |a::r=>if r.isEmpty then vz x m a else none
noncomputable def rZ (m:Str):Option Value :=
 if ac m "split" then some (.builtin "str.split")
 else if ac m "startswith" then some (.builtin "str.startswith")
 else if ac m "index" then some (.builtin "str.index")
 else if ac m "join" then some (.builtin "str.join")
 else if ac m "isdigit" then some (.builtin "str.isdigit")
 else none
noncomputable def Cs (fm:Option Value) (dl:Addr→Bool) (d:D) (m:Str):Option Value:=match d with
 |.rdr=>fm
 |.py p=>match p with
  |.str _=>rZ m
  |_=>none
 |.glob u=>match u with
  |.ref a=>if ac m "get"&&dl a then some (.builtin "dict.get")else none
  |_=>none
 |_=>none
noncomputable def Cr {κ:Type}(rd:κ→OutK κ D) (dg:Addr→List D→Option D) (d:D) (m:Str) (args:List D) (k:κ):OutK κ D:=match d with
 |.rdr=>rd k
 |.py p=>match p with
  |.str x=>ofO (oS x m args) k
  |_=>.no
 |.glob u=>match u with
  |.ref a=>ofO (dg a args) k
  |_=>.no
 |_=>.no
noncomputable def sx (c:Cx) (d:D) (m:Str):Option Value:=Cs ((dR c.K c.rc m).bind fun f=>if keepIn c.K (.ref f)then some (.ref f)else none) (fun a=>c.dl.contains a) d m
noncomputable def Je (K:Frag) (o:Option Value) (d:D):D:=match o with
 |some v=>hY K v
 |none=>d
noncomputable def sU (K:Frag) (dl:List Addr) (a:Addr) (args:List D):Option D:=(two args).bind fun q=>(fM q.1).bind fun x=>(nsD K dl a x).map fun r=>Je K r q.2
noncomputable def wa {κ:Type}(calls:qc κ) (fm:Option Addr) (args:List D) (k:κ):OutK κ D:=optK fm fun f=>if args.all nb then nbO (calls f (.rdr::args) k)else .no
noncomputable def Ct (c:Cx) (d:D) (m:Str) (args:List D) (k:Nat):Out D:=Cr (wa c.calls (dR c.K c.rc m) args) (sU c.K c.dl) d m args k
noncomputable def wV (c:Cx):D→Bool
 |.glob (.ref a)=>keepIn c.K (.ref a)
 |.glob (.builtin _)=>true
 |.glob (.type _)=>true
 |.lam _=>true
 |_=>false
noncomputable def cP:Expr→Bool
 |.Starred ..=>true
 |_=>false
noncomputable def noStar (es:List Expr):Bool:=es.all fun e=>!cP e
noncomputable def qG:Expr→Bool
 |.Slice ..=>false
 |_=>true
noncomputable def gX:Expr→Bool
 |.Call (.Name _ _) [] [] _=>false
 |_=>true
noncomputable def cJ:Expr→Bool
 |.Set _ _ _=>false
 |_=>true
noncomputable def bw (o:Expr) (ap p:Pos) (args:List Expr):Bool :=
 noStar args&&Nat.beq ap.endLine p.line&&Nat.blt args.length 29&&gX o
noncomputable def hX:D→Option (List D)
 |.py (.list l)=>if sm l.length then some (l.map .py)else none
 |.py (.tuple l)=>if sm l.length then some (l.map .py)else none
 |.bl l=>if sm l.length then some (l.map .py)else none
 |.py (.str s)=>if sm s.length then some (s.cps.toList.map fun c=>.py (.str ⟨#[c]⟩))else none
 |.rng a b=>if sm a.natAbs&&sm b.natAbs then some ((List.range (b-a).toNat).map fun(i:Nat)=>D.py (.int (a+i)))else none
 |_=>none
noncomputable def aO (sc:Scope) (x:Str) (k:NameKind):Bool:=match jM sc.names x,k with
 |some .local,.local=>true
 |some .cell,.cell=>true
 |some .free,.free=>true
 |some .globalImplicit,.globalImplicit=>true
 |_,_=>false
noncomputable def qw:List (Str×PyData)→Rho→Rho
 |[],ρ=>ρ
 |p::r,ρ=>qw r (bP ρ p.1 (.py p.2))
noncomputable def gh (sc:Scope):Rho→Rho
 |[]=>[]
 |p::r=>match jM sc.names p.1 with
  |some .free=>p::gh sc r
  |_=>gh sc r
noncomputable def jP:List (Str×NameKind)→List Str
 |[]=>[]
 |(x,.free)::r=>x::jP r
 |_::r=>jP r
noncomputable def bh (x:Str):Bool:=!(ac x "__debug__"||ac x "__classdict__")
noncomputable def FG:(e:Expr)→Option {q:Expr×Str×Pos // e=.Attribute q.1 q.2.1 q.2.2}
 |.Attribute o m p=>some ⟨(o,m,p),rfl⟩
 |_=>none
noncomputable def eE:(e:Expr)→Option {q:Str×Pos // e=.Name q.1 q.2}
 |.Name x p=>some ⟨(x,p),rfl⟩
 |_=>none
noncomputable def FA:(c:Const)→Option {x:Str // c=.str x}
 |.str x=>some ⟨x,rfl⟩
 |_=>none
noncomputable def jd:(e:Expr)→Option {q:Const×Nat×Pos // e=.Constant q.1 q.2.1 q.2.2}
 |.Constant c a p=>some ⟨(c,a,p),rfl⟩
 |_=>none
noncomputable def FF:(e:Expr)→Option {q:Expr×Operator×Expr×Pos // e=.BinOp q.1 q.2.1 q.2.2.1 q.2.2.2}
 |.BinOp l o r p=>some ⟨(l,o,r,p),rfl⟩
 |_=>none
noncomputable def FC:(o:Operator)→Option (PLift (o=.Add))
 |.Add=>some ⟨rfl⟩
 |_=>none
noncomputable def rW:(e:Expr)→Option {q:Expr×List Expr×List Keyword×Pos // e=.Call q.1 q.2.1 q.2.2.1 q.2.2.2}
 |.Call f a k p=>some ⟨(f,a,k,p),rfl⟩
 |_=>none
noncomputable def FE:(e:Expr)→Option {q:List (Option Expr)×List Expr×Pos // e=.Dict q.1 q.2.1 q.2.2}
 |.Dict ks vs p=>some ⟨(ks,vs,p),rfl⟩
 |_=>none
noncomputable def Dz:(e:Expr)→Option {q:Option Expr×Option Expr×Option Expr×Pos // e=.Slice q.1 q.2.1 q.2.2.1 q.2.2.2}
 |.Slice lo hi st p=>some ⟨(lo,hi,st,p),rfl⟩
 |_=>none
noncomputable def lJ {α:Type}:(l:List α)→Option (PLift (l=[]))
 |[]=>some ⟨rfl⟩
 |_::_=>none
noncomputable def uQ {α:Type}:(l:List α)→Option {q:α×List α // l=q.1::q.2}
 |[]=>none
 |a::r=>some ⟨(a,r),rfl⟩
noncomputable def uP {α:Type}:(l:Option α)→Option (PLift (l=none))
 |none=>some ⟨rfl⟩
 |some _=>none
noncomputable def vL1 {α:Type}(l:List α):Option {a:α // l=[a]}:=(uQ l).bind fun q=>(lJ q.1.2).map fun e=>⟨q.1.1,q.2.trans (by rw[← e.1])⟩
noncomputable def vL2 {α:Type}(l:List α):Option {q:α×α // l=[q.1,q.2]}:=(uQ l).bind fun q=>(vL1 q.1.2).map fun e=>⟨(q.1.1,e.1),q.2.trans (by rw[← e.2])⟩
noncomputable def zi (e:Expr):Option {q:Expr×Expr×Pos // e=.BinOp q.1 .Add q.2.1 q.2.2}:=(FF e).bind fun q=>(FC q.1.2.1).map fun h=>⟨(q.1.1,q.1.2.2.1,q.1.2.2.2),q.2.trans (by rw[← h.1])⟩
noncomputable def FD:(e:Expr)→Option {q:List Expr×Pos // e=.List q.1 q.2}
 |.List es p=>some ⟨(es,p),rfl⟩
 |_=>none
noncomputable def zh:(e:Expr)→Option {q:List Expr×Nat×Pos // e=.Tuple q.1 q.2.1 q.2.2}
 |.Tuple es k p=>some ⟨(es,k,p),rfl⟩
 |_=>none
noncomputable def uZ {τ:Type}(f:τ→PyData→Rho→Option Rho) (ts:List τ):List PyData→Rho→Option Rho :=
 ts.foldr (fun t (rest:List PyData→Rho→Option Rho)=>fun l ρ=>match l with
  |[]=>some ρ
  |p::r=>(f t p ρ).bind (rest r)) fun _ ρ=>some ρ
noncomputable def wm (sc:Scope) (x:Str) (d:D) (ρ:Rho):Option Rho:=if nb d&&aO sc x .local then some (bP ρ x d)else none
noncomputable def gq (sc:Scope):Nat→Expr→D→Rho→Option Rho
 |0,e,d,ρ=>(eE e).bind fun q=>wm sc q.1.1 d ρ
 |n+1,e,d,ρ=>match eE e with
  |some q=>wm sc q.1.1 d ρ
  |none=>(zh e).bind fun q=>(te d).bind fun l=>if noStar q.1.1&&Nat.beq q.1.1.length l.length then uZ (fun t p ρ=>gq sc n t (.py p) ρ) q.1.1 l ρ else none
noncomputable def gr (sc:Scope) (line:Nat):Expr→Option Str
 |.Name id pos=>if(sc.names.lookup id==some .local&&pos.line==line)then some id else none
 |_=>none
noncomputable def jE (sc:Scope) (ts:List Expr) (value:Expr):Option (Option (List Str)):=match zh value with
 |some q =>
  let vs:=q.1.1
  if !(ts.length==2||ts.length==3)||vs.length != ts.length then some none else
  if vs.any cP then some none else
  let names:=ts.filterMap (gr sc ((ts.head?.map (·.pos.line)).getD 0))
  if names.length != ts.length||names.eraseDups.length != names.length then some none else
  if vs.all (foldedForSure 8)then some none else
  if vs.all (constantsAlone 8)then none else some (some names)
 |none=>some none
noncomputable def BO:(ps:Arguments)→Option {a:Arg // ps=⟨[],[a],none,[],[],none,[]⟩}
 |⟨p1,p2,p3,p4,p5,p6,p7⟩=>(lJ p1).bind fun h1=>(vL1 p2).bind fun a=>(uP p3).bind fun h3=>(lJ p4).bind fun h4=>(lJ p5).bind fun h5=>(uP p6).bind fun h6=>(lJ p7).map fun h7 =>
  ⟨a.1,by rw[h1.1,← a.2,h3.1,h4.1,h5.1,h6.1,h7.1]⟩
noncomputable def oj (a:Addr) (o:Option D):Bool:=match o.bind vX with
 |some q=>Nat.beq q a
 |none=>false
noncomputable def w8 (o:Option D):Bool:=match o.bind kI with
 |some j=>Nat.beq j 2
 |none=>false
noncomputable def rV:(c:Const)→Option {x:Int // c=.int x}
 |.int x=>some ⟨x,rfl⟩
 |_=>none
noncomputable def sJ (e:Expr):Bool:=match(jd e).bind fun q=>(rV q.1.1).bind fun i=>qI i.1 with
 |some j=>Nat.beq j 1
 |none=>false
noncomputable def rh (sc:Scope):Bool:=match sc.kind with
 |.function=>true
 |_=>false
noncomputable def sg (p:Str×NameKind):Bool:=match p.2 with
 |.cell=>false
 |_=>true
noncomputable def GG (sc:Scope):Bool:=rh sc&&!sc.isGenerator&&!sc.isCoroutine&&sc.names.all sg
noncomputable def pN (sc:Scope) (x:Str):Bool:=bh x&&aO sc x .globalImplicit
noncomputable def n7 (K:Frag) (sc:Scope) (i:Str) (e:Expr):Option (Option Str):=match zi e with
 |some b=>(eE b.1.1).bind fun y=>if sJ b.1.2.1&&bh y.1.1&&aO sc y.1.1 .free&&!ac i y.1.1 then some (some y.1.1)else none
 |none=>(eE e).bind fun y=>if pN sc y.1.1&&w8 (d7 K y.1.1)then some none else none
noncomputable def n8 (K:Frag) (sc:Scope) (i:Str) (a1 a2:Expr):Option (Option Str):=match eE a1 with
 |some n1=>if ac i n1.1.1 then n7 K sc i a2 else none
 |none=>none
noncomputable def j2 (K:Frag) (sc:Scope) (i:Str) (args:List Expr):Option (Option Str):=match vL2 args with
 |some q=>n8 K sc i q.1.1 q.1.2
 |none=>none
noncomputable def yy (x:Option Str) (l:List Str):Bool:=match x with
 |some x=>match l with
  |[]=>false
  |z::r=>ac x z&&r.isEmpty
 |none=>l.isEmpty
noncomputable def BD (sc:Scope) (x:Option Str):Bool:=match x with
 |some y=>aO sc y .free
 |none=>true
noncomputable def Cw (K:Frag) (rs:Addr) (sc:Scope) (i rn:Str) (args:List Expr):Option (Option Str):=if GG sc&&bh i&&aO sc i .local&&pN sc rn&&oj rs (d7 K rn)&&keepIn K (.ref rs)then
 (j2 K sc i args).bind fun x=>if yy x (jP sc.names)&&BD sc x then some x else none
 else none
noncomputable def wS (K:Frag) (rs:Addr) (sc:Scope) (i:Str) (f:Expr) (args:List Expr) (kws:List Keyword):Option (Option Str):=match lJ kws,eE f with
 |some _,some rn=>Cw K rs sc i rn.1.1 args
 |_,_=>none
noncomputable def mB (K:Frag) (rs:Addr) (ps:Arguments) (body:Expr) (sc:Scope):Option (Str×Option Str):=match BO ps,rW body with
 |some a,some b=>(wS K rs sc a.1.arg b.1.1 b.1.2.1 b.1.2.2.1).map fun x=>(a.1.arg,x)
 |_,_=>none
noncomputable def JG (d:Data):Option (Array Value):=match d with
 |.fields vs=>some vs
 |_=>none
noncomputable def Jf (d:Data):Option FuncData:=match d with
 |.func fd=>some fd
 |_=>none
noncomputable def pL (v:Value):Bool:=match v with
 |.str _ _=>true
 |_=>false
noncomputable def la (v:Value):Bool:=match v with
 |.int _ _=>true
 |_=>false
noncomputable def mF (v:Value):Bool:=match v with
 |.bool _=>true
 |_=>false
noncomputable def rE (K:Frag) (c:Addr):Option Addr:=(K.lookup c).bind fun o=>(JG o.data).bind fun vs=>((vs[11]?).bind tT).bind fun P =>
 if A8 "code" o.cls&&pL (vs.getD 18 .none)&&la (vs.getD 7 .none)&&mF (vs.getD 9 .none)&&la (vs.getD 10 .none)&&!Nat.beq c P then some P else none
noncomputable def pG (c:Cx) (pos:Pos):Option Bool:=c.me.bind fun me=>(c.K.lookup me).bind fun o=>(Jf o.data).bind fun fd=>(tT fd.code).bind fun cc=>(rE c.K cc).map fun P =>
 c.tabs.any fun t=>Nat.beq t.1 P&&Nat.beq t.2.1 pos.line&&Nat.beq t.2.2.1 pos.col&&ac t.2.2.2 (fd.qualname++".<locals>."++"<lambda>")
noncomputable def j1 (c:Cx) (pos:Pos):Bool:=(pG c pos).getD false
noncomputable def ER {κ:Type}(o:Option D) (k:κ):OutK κ D:=ofO ((o.bind intD).map .lam) k
noncomputable def EQ (c:Cx) (sc:Scope) (ρ:Rho) (ps:Arguments) (body:Expr) (sc':Scope) (pos:Pos) (k:Nat):Out D:=if j1 c pos then
 match mB c.K c.rs ps body sc' with
 |some q=>match q.2 with
  |some x=>if aO sc x .cell then ER (aH ρ x) k else .no
  |none=>.ok (.lam 1) k
 |none=>.no
 else .no
noncomputable def uF:BoolOp→Bool
 |.And=>true
 |.Or=>false
noncomputable def uj (c:Cx) (sc:Scope) (e:Expr):Option Int:=match jd e with
 |some q=>(rV q.1.1).map (·.1)
 |none=>(eE e).bind fun q=>if pN sc q.1.1 then(d7 c.K q.1.1).bind intD else none
noncomputable def sS (c:Cx) (sc:Scope):List (Option Expr)→List Expr→Option (List (Int×Int))
 |[],vs=>match vs with
  |[]=>some []
  |_::_=>none
 |k::ks,vs=>match vs with
  |[]=>none
  |v::vs=>k.bind fun k=>(uj c sc k).bind fun a=>(uj c sc v).bind fun b=>(sS c sc ks vs).map fun r=>(a,b)::r
noncomputable def sL (j:Int):List (Int×Int)→Option Int
 |[]=>none
 |p::r=>if p.1=j then some p.2 else sL j r
noncomputable def kH:List Int→Bool
 |[]=>true
 |a::r=>r.all (fun b=>!decide (a=b))&&kH r
noncomputable def gI (sc sc':Scope) (ρ:Rho):Bool:=(match sc'.kind with | .function=>true | _=>false)&&sc'.names.all fun p=>match p.2 with
 |.local=>aO sc' p.1 .local
 |.cell=>false
 |.free=>(aO sc p.1 .cell||aO sc p.1 .free)&&(aH ρ p.1).isSome
 |_=>true
noncomputable abbrev Ev:=Rho→Expr→Nat→Out D
noncomputable def evs {κ ε:Type}(f:ε→κ→OutK κ D):List ε→κ→OutK κ (List D)
 |[],k=>.ok [] k
 |e::r,k=>(f e k).bind fun d k=>(evs f r k).bind fun ds k=>.ok (d::ds) k
noncomputable def eG {κ ε:Type}(f:ε→κ→OutK κ Bool) (and:Bool):List ε→κ→OutK κ Bool
 |[],k=>.ok and k
 |e::r,k=>(f e k).bind fun b k=>if b==and then eG f and r k else .ok b k
noncomputable def lH {κ ε:Type}(f:ε→κ→OutK κ D) (and:Bool):List ε→κ→OutK κ D
 |[],_=>.no
 |[e],k=>f e k
 |e::r,k=>(f e k).bind fun d k=>match bV d with
  |some b=>if b==and then lH f and r k else .ok d k
  |none=>.no
noncomputable def yR (o:Option D) (ds:List D):List D:=match o with
 |some y=>y::ds
 |none=>ds
noncomputable def dH {κ:Type}(f:D→κ→OutK κ (Option D)):List D→κ→OutK κ (List D)
 |[],k=>.ok [] k
 |d::r,k=>match f d k with
  |.ok o k=>(dH f r k).bind fun ds k=>.ok (yR o ds) k
  |_=>.no
noncomputable def jY (K:Frag) (sc:Scope) (rv:Str):Bool:=bh rv&&aO sc rv .globalImplicit&&(match d7 K rv with | some (.glob (.type t))=>t=="reversed" | _=>false)
noncomputable def pZ (e:Expr):Option (Expr×Str×Pos):=(FG e).map (·.1)
noncomputable def so (e:Expr):Option Str:=(eE e).map (·.1.1)
noncomputable def tv (e:Expr):Option Str:=(jd e).bind fun q=>(FA q.1.1).map (·.1)
noncomputable def wb (e:Expr):Option (Str×Str):=(rW e).bind fun a=>(vL1 a.1.2.1).bind fun b=>(lJ a.1.2.2.1).bind fun _=>(eE a.1.1).bind fun f=>(eE b.1).map fun x=>(f.1.1,x.1.1)
noncomputable def HD (l:List Expr):Option (Str×Str):=(vL1 l).bind fun a=>wb a.1
noncomputable def FK (l:List Expr):Option (Str×Str):=(vL2 l).bind fun a=>(tv a.1.1).bind fun y=>(tv a.1.2).map fun z=>(y,z)
noncomputable def C5 (e:Expr):Option (Str×Str×Str):=(zi e).bind fun a=>(zi a.1.1).bind fun b=>(tv b.1.1).bind fun c1=>(so b.1.2.1).bind fun x=>(tv a.1.2.1).map fun c2=>(c1,x,c2)
noncomputable def Ki (l:List Expr):Option (Str×Str×Str×Str):=(vL2 l).bind fun a=>(tv a.1.1).bind fun y=>(C5 a.1.2).map fun w=>(y,w)
noncomputable def C1 (e:Expr):Option (List (Option Expr)×List Expr):=(FE e).map fun q=>(q.1.1,q.1.2.1)
noncomputable def vF (e:Expr):Option (Option Expr×Option Expr):=(Dz e).bind fun q=>(uP q.1.2.2.1).map fun _=>(q.1.1,q.1.2.1)
noncomputable def wX {κ ε:Type}(ρ:Rho) (ev:ε→κ→OutK κ D) (x:Str) (o:ε) (k:κ):OutK κ D:=optK ((aH ρ x).bind blV) fun l=>(ev o k).bind fun d k=>optK (fM d) fun sep=>optK (cG l) fun ss =>
 if sm l.length&&JoinOk sep ss.reverse then .ok (.py (.str (sE sep ss.reverse))) k else .no
noncomputable def I9 (c:Cx) (sc:Scope) (ρ:Rho) (ev:Expr→Nat→Out D) (o:Expr) (m:Str) (ap:Pos) (rv x:Str) (p:Pos) (k:Nat):Out D :=
 if ac m "join"&&bw o ap p []&&jY c.K sc rv&&bh x then wX ρ ev x o k else .no
noncomputable def vS {κ:Type}(d:D) (y z:Str) (k:κ):OutK κ D:=optK (fM d) fun x=>if sm x.length&&Nat.ble z.length 14 then .ok (.py (.str (Txt.replace x y z))) k else .no
noncomputable def HH (ev:Expr→Nat→Out D) (o:Expr) (m:Str) (ap:Pos) (y z:Str) (p:Pos) (k:Nat):Out D :=
 if ac m "replace"&&!ac y z&&bw o ap p []then(ev o k).bind fun d k=>vS d y z k else .no
noncomputable def jQ (z y n:Str):Bool:=sm z.length&&sm n.length&&!ac y n&&Nat.ble (z.length+(z.length+1)*n.length) 16777216
noncomputable def Kj {κ:Type}(d:D) (y c1 w c2:Str) (k:κ):OutK κ D:=optK (fM d) fun z=>if jQ z y (c1++w++c2)then .ok (.py (.str (Txt.replace z y (c1++w++c2)))) k else .no
noncomputable def Fj {κ ε:Type}(ρ:Rho) (ev:ε→κ→OutK κ D) (y c1 x c2:Str) (o:ε) (k:κ):OutK κ D:=optK ((aH ρ x).bind fM) fun w=>if Nat.blt 0 w.length then(ev o k).bind fun d k=>Kj d y c1 w c2 k else .no
noncomputable def Np (sc:Scope) (ρ:Rho) (ev:Expr→Nat→Out D) (o:Expr) (m:Str) (ap:Pos) (y c1 x c2:Str) (p:Pos) (k:Nat):Out D :=
 if ac m "replace"&&bw o ap p []&&bh x&&aO sc x .local&&Nat.blt 0 c1.length&&Nat.blt 0 c2.length then Fj ρ ev y c1 x c2 o k else .no
noncomputable def IK (c:Cx) (ev:Expr→Nat→Out D) (o:Expr) (m:Str) (ap:Pos) (args:List Expr) (p:Pos) (k:Nat):Out D :=
 if bw o ap p args then(ev o k).bind fun d k=>optK (sx c d m) fun _=>(evs ev args k).bind fun ds k=>Ct c d m ds k else .no
noncomputable def C8 (c:Cx) (sc:Scope) (ρ:Rho) (ev:Expr→Nat→Out D) (f:Expr) (args:List Expr) (p:Pos) (k:Nat):Out D :=
 orK (pZ f) (fun v=>orK (HD args) (fun w=>I9 c sc ρ ev v.1 v.2.1 v.2.2 w.1 w.2 p k)
  (orK (FK args) (fun w=>HH ev v.1 v.2.1 v.2.2 w.1 w.2 p k)
   (orK (Ki args) (fun w=>Np sc ρ ev v.1 v.2.1 v.2.2 w.1 w.2.1 w.2.2.1 w.2.2.2 p k) (IK c ev v.1 v.2.1 v.2.2 args p k))))
  (if noStar args then(ev f k).bind fun d k=>if wV c d then(evs ev args k).bind fun ds k=>rR c d ds k else .no else .no)
noncomputable def yP {κ:Type}(kvs:List (Int×Int)) (i:D) (k:κ):OutK κ D:=optK (intD i) fun j=>ofO ((sL j kvs).map fun v=>.py (.int v)) k
noncomputable def Ka (c:Cx) (sc:Scope) (ev:Expr→Nat→Out D) (ks:List (Option Expr)) (vs:List Expr) (i:Expr) (k:Nat):Out D:=optK (sS c sc ks vs) fun kvs =>
 if kH (kvs.map (·.1))&&Nat.ble kvs.length 15&&Nat.blt 0 kvs.length then(ev i k).bind fun i k=>yP kvs i k else .no
noncomputable def kD {κ ε:Type}(ev:ε→κ→OutK κ D) (o:Option ε) (k:κ):OutK κ (Option Int):=orK o (fun e=>(ev e k).bind fun x k=>optK (intD x) fun i=>.ok (some i) k) (.ok none k)
noncomputable def vG (ev:Expr→Nat→Out D) (v:Expr) (lo hi:Option Expr) (k:Nat):Out D:=(ev v k).bind fun d k=>(kD ev lo k).bind fun lo k=>(kD ev hi k).bind fun hi k=>kn d lo hi k
noncomputable def F2 (c:Cx) (sc:Scope) (ev:Expr→Nat→Out D) (v i:Expr) (k:Nat):Out D:=orK (C1 v) (fun w=>if qG i then Ka c sc ev w.1 w.2 i k else .no)
 (orK (vF i) (fun w=>vG ev v w.1 w.2 k) (if qG i then(ev v k).bind fun d k=>(ev i k).bind fun i k=>ofO (ah c.K c.dl d i) k else .no))
noncomputable def Iu (K:Frag) (ρ:Rho) (x:Str) (kd:NameKind):Option D:=match kd with
 |.globalImplicit=>d7 K x
 |.globalExplicit=>none
 |_=>aH ρ x
noncomputable def iQ (K:Frag) (sc:Scope) (ρ:Rho) (x:Str):Option D:=(jM sc.names x).bind (Iu K ρ x)
noncomputable def uB (c:Cx) (ev:Expr→Nat→Out D) (l:Expr) (ops:List CmpOp) (rs:List Expr) (k:Nat):Out D:=optK (one ops) fun op=>optK (one rs) fun r =>
 if cJ r then(ev l k).bind fun a k=>(ev r k).bind fun b k=>ofO ((gJ c.K c.dl op a b).map fun b=>.py (.bool b)) k else .no
noncomputable def hZ (sc':Scope) (t:Expr) (ifs:List Expr) (elt:Expr) (ρ0:Rho) (fb:Rho→Expr→Nat→Out Bool) (fe:Rho→Expr→Nat→Out D) (d:D) (k:Nat):Out (Option D):=optK (gq sc' 4 t d ρ0) fun ρ' =>
 (eG (fb ρ') true ifs k).bind fun b k=>if b then(fe ρ' elt k).bind fun y k=>.ok (some y) k else .ok none k
noncomputable def mP (sc':Scope) (t:Expr) (ifs:List Expr) (elt:Expr) (ρ0:Rho) (fb:Rho→Expr→Nat→Out Bool) (fe:Rho→Expr→Nat→Out D) (ev:Expr→Nat→Out D) (it:Expr) (k:Nat):Out D :=
 (ev it k).bind fun d k=>optK (hX d) fun ds=>(dH (hZ sc' t ifs elt ρ0 fb fe) ds k).bind fun ds k=>ofO ((eJ ds).map fun l=>.py (.list l)) k
noncomputable def yV (sc:Scope) (ρ:Rho) (ev:Expr→Nat→Out D) (fb:Rho→Expr→Nat→Out Bool) (fe:Rho→Expr→Nat→Out D) (elt:Expr) (gens:List Comprehension) (sc':Scope) (k:Nat):Out D:=optK (one gens) fun g =>
 if g.is_async==0&&gI sc sc' ρ&&cJ g.iter then mP sc' g.target g.ifs elt (gh sc' ρ) fb fe ev g.iter k else .no
mutual
noncomputable def evE (c:Cx) (sc:Scope):Nat→Rho→Expr→Nat→Out D
 |0,_,_,_=>.no
 |n+1,ρ,e,k=>match e with
  |.Constant v _ _=>ofO (rB v) k
  |.Name x _=>if bh x then ofO (iQ c.K sc ρ x) k else .no
  |.Attribute e a _=>if gX e then(evE c sc n ρ e k).bind fun d k=>ofO (gP c.toks a d k) k else .no
  |.Call f args kws p=>if kws.isEmpty then C8 c sc ρ (evE c sc n ρ) f args p k else .no
  |.Tuple es _ _=>(evs (evE c sc n ρ) es k).bind fun ds k=>if sm ds.length then ofO ((eJ ds).map fun l=>.py (.tuple l)) k else .no
  |.List es _=>(evs (evE c sc n ρ) es k).bind fun ds k=>if sm ds.length then ofO ((eJ ds).map fun l=>.py (.list l)) k else .no
  |.Subscript v i _=>F2 c sc (evE c sc n ρ) v i k
  |.Compare l ops rs _=>uB c (evE c sc n ρ) l ops rs k
  |.BoolOp op es _=>lH (evE c sc n ρ) (uF op) es k
  |.UnaryOp op e _=>if re op then(evE c sc n ρ e k).bind fun d k=>ofO ((bV d).map fun b=>.py (.bool !b)) k else .no
  |.BinOp l op r _=>(evE c sc n ρ l k).bind fun a k=>(evE c sc n ρ r k).bind fun b k=>ofO (aK op a b) k
  |.IfExp t b o _=>(evB c sc n ρ t k).bind fun b' k=>if b' then evE c sc n ρ b k else evE c sc n ρ o k
  |.Lambda ps body sc' pos=>EQ c sc ρ ps body sc' pos k
  |.ListComp elt gens sc' _=>yV sc ρ (evE c sc n ρ) (evB c sc' n) (evE c sc' n) elt gens sc' k
  |_=>.no
noncomputable def evB (c:Cx) (sc:Scope):Nat→Rho→Expr→Nat→Out Bool
 |0,_,_,_=>.no
 |n+1,ρ,e,k=>match e with
  |.BoolOp op es _=>eG (evB c sc n ρ) (uF op) es k
  |.UnaryOp op e _=>if re op then(evB c sc n ρ e k).bind fun b k=>.ok (!b) k else .no
  |.IfExp t a b _=>(evB c sc n ρ t k).bind fun q k=>if q then evB c sc n ρ a k else evB c sc n ρ b k
  |.Compare l ops rs _=>(uB c (evE c sc n ρ) l ops rs k).bind fun d k=>ofO (bV d) k
  |e=>(evE c sc n ρ e k).bind fun d k=>ofO (bV d) k
end
noncomputable abbrev SOK (κ:Type):=OutK κ (Option D×Rho)
noncomputable abbrev SO:=SOK Nat
noncomputable def fB {κ:Type}(test:Rho→κ→OutK κ Bool) (body:Rho→κ→SOK κ):Nat→Rho→κ→SOK κ
 |0,_,_=>.no
 |n+1,ρ,k=>(test ρ k).bind fun b k=>if b then(body ρ k).bind fun r k=>match r.1 with
  |none=>fB test body n r.2 k
  |some d=>.ok (some d,r.2) k
  else .ok (none,ρ) k
noncomputable def lu {κ:Type}(body:D→Rho→κ→SOK κ):List D→Rho→κ→SOK κ
 |[],ρ,k=>.ok (none,ρ) k
 |d::ds,ρ,k=>(body d ρ k).bind fun r k=>match r.1 with
  |none=>lu body ds r.2 k
  |some d=>.ok (some d,r.2) k
noncomputable def ut (sc:Scope) (t:Expr) (fs:Rho→Nat→SO) (d:D) (ρ:Rho) (k:Nat):SO:=optK (gq sc 4 t d ρ) fun ρ=>fs ρ k
noncomputable def exL {κ σ:Type}(f:σ→Rho→κ→SOK κ):List σ→Rho→κ→SOK κ
 |[],ρ,k=>.ok (none,ρ) k
 |s::r,ρ,k=>(f s ρ k).bind fun x k=>match x.1 with
  |none=>exL f r x.2 k
  |some d=>.ok (some d,x.2) k
noncomputable def eF:D→Bool
 |.lam _=>false
 |_=>true
noncomputable def blM (m:Str) (l:List PyData) (ds:List D):Option (List PyData):=match ds with
 |[.py p]=>if ac m "append" then(if sm l.length then some (l++[p])else none)
  else if ac m "extend" then(match p with | .list ps=>if sm l.length&&sm ps.length then some (l++ps)else none | _=>none)else none
 |[]=>if ac m "reverse" then(if sm l.length then some l.reverse else none)else none
 |_=>none
noncomputable def jy (m:Str):Bool:=ac m "append"||ac m "extend"||ac m "reverse"
noncomputable def wn (e:Expr):Option (Str×Pos):=(eE e).map (·.1)
noncomputable def nZ (e:Expr):Option ((Expr×Str×Pos)×List Expr×Pos):=(rW e).bind fun a=>(lJ a.1.2.2.1).bind fun _=>(pZ a.1.1).map fun v=>(v,a.1.2.1,a.1.2.2.2)
noncomputable def Cv (e:Expr):Option (List Expr):=(FD e).map (·.1.1)
noncomputable def FP (e:Expr):Option (List Expr×Nat×Pos):=(zh e).map (·.1)
noncomputable def qD {κ:Type}(ρ:Rho) (d:D) (k:κ):SOK κ:=if quiet d then .ok (none,ρ) k else .no
noncomputable def CS (c:Cx) (ev:Expr→Nat→Out D) (e:Expr) (ρ:Rho) (k:Nat):SO:=optK (nZ e) fun v=>optK (wn v.1.1) fun x=>orK ((aH ρ x.1).bind blV)
 (fun l=>if bh x.1&&bw (.Name x.1 x.2) v.1.2.2 v.2.2 v.2.1&&jy v.1.2.1 then(evs ev v.2.1 k).bind fun ds k=>(ofO (blM v.1.2.1 l ds) k).bind fun l k=>.ok (none,bP ρ x.1 (.bl l)) k else .no)
 ((ev e k).bind fun d k=>qD ρ d k)
noncomputable def MY (sc:Scope) (ev:Expr→Nat→Out D) (x:Str) (es:List Expr) (ρ:Rho) (k:Nat):SO :=
 if aO sc x .local then(evs ev es k).bind fun ds k=>if sm ds.length then(ofO (eJ ds) k).bind fun l k=>.ok (none,bP ρ x (.bl l)) k else .no else .no
noncomputable def oV (sc:Scope) (ρ:Rho) (x:Str) (d:D):Bool:=nb d&&(aO sc x .local||(aO sc x .cell&&eF d&&ρ.all fun p=>eF p.2))
noncomputable def Fq (sc:Scope) (ev:Expr→Nat→Out D) (x:Str) (e:Expr) (ρ:Rho) (k:Nat):SO :=
 (ev e k).bind fun d k=>if oV sc ρ x d then .ok (none,bP ρ x d) k else .no
noncomputable def MP (sc:Scope) (ts:List Expr) (tk:Nat) (tp:Pos) (x:Str) (xp:Pos) (m:Str) (mp cp:Pos) (ρ:Rho) (k:Nat):SO:=optK ((aH ρ x).bind blV) fun l =>
 if bh x&&bw (.Name x xp) mp cp []&&ac m "pop"&&sm l.length then optK l.getLast? fun d=>(ofO (gq sc 4 (.Tuple ts tk tp) (.py d) (bP ρ x (.bl l.dropLast))) k).bind fun ρ k=>.ok (none,ρ) k else .no
noncomputable def vx {κ:Type}(names:List Str) (ρ:Rho) (d:D) (k:κ):SOK κ:=optK (te d) fun l=>if Nat.beq names.length l.length then .ok (none,qw (names.reverse.zip l.reverse) ρ) k else .no
noncomputable def Lc (sc:Scope) (ev:Expr→Nat→Out D) (ts:List Expr) (tk:Nat) (tp:Pos) (e:Expr) (ρ:Rho) (k:Nat):SO:=optK (jE sc ts e) fun w =>
 orK w (fun names=>(ev e k).bind fun d k=>vx names ρ d k) ((ev e k).bind fun d k=>(ofO (gq sc 4 (.Tuple ts tk tp) d ρ) k).bind fun ρ k=>.ok (none,ρ) k)
noncomputable def atS (sc:Scope) (ev:Expr→Nat→Out D) (x a:Str) (e:Expr) (ρ:Rho) (k:Nat):SO:=if ac a "at"&&bh x&&aO sc x .local then
 optK (aH ρ x) fun r=>if pe r then(ev e k).bind fun d _=>optK (kI d) fun k'=>.ok (none,ρ) k' else .no else .no
noncomputable def Ig (e:Expr):Option ((Expr×Str×Pos)×(Str×Pos)×Pos):=(nZ e).bind fun v=>(lJ v.2.1).bind fun _=>(wn v.1.1).map fun x=>(v.1,x,v.2.2)
noncomputable def KE (sc:Scope) (ev:Expr→Nat→Out D) (t e:Expr) (ρ:Rho) (k:Nat):SO:=orK (so t) (fun x=>orK (Cv e) (fun es=>MY sc ev x es ρ k) (Fq sc ev x e ρ k))
 (orK (FP t) (fun w=>orK (Ig e) (fun v=>MP sc w.1 w.2.1 w.2.2 v.2.1.1 v.2.1.2 v.1.2.1 v.1.2.2 v.2.2 ρ k) (Lc sc ev w.1 w.2.1 w.2.2 e ρ k))
  (optK (pZ t) fun v=>optK (so v.1) fun x=>atS sc ev x v.2.1 e ρ k))
noncomputable def rm {κ:Type}(d:D) (as:κ→OutK κ (List D)) (k:κ):SOK κ:=if pe d then(as k).bind fun ds _=>if qF ds then .exc else .no else .no
noncomputable def Ia (ev:Expr→Nat→Out D) (e:Expr) (k:Nat):SO:=optK (nZ e) fun v =>
 if ac v.1.2.1 "fault"&&bw v.1.1 v.1.2.2 v.2.2 v.2.1 then(ev v.1.1 k).bind fun d k=>rm d (evs ev v.2.1) k else .no
noncomputable def exS (c:Cx) (sc:Scope):Nat→Stmt→Rho→Nat→SO
 |0,_,_,_=>.no
 |n+1,s,ρ,k=>match s with
  |.Pass _=>.ok (none,ρ) k
  |.Expr e _=>CS c (evE c sc n ρ) e ρ k
  |.Assign ts e _=>optK (one ts) fun t=>KE sc (evE c sc n ρ) t e ρ k
  |.If t b o _=>(evB c sc n ρ t k).bind fun q k=>if q then exL (exS c sc n) b ρ k else exL (exS c sc n) o ρ k
  |.While t b o _=>if o.isEmpty then fB (fun ρ k=>evB c sc n ρ t k) (exL (exS c sc n) b) 400 ρ k else .no
  |.For t it b o _=>if o.isEmpty&&cJ it then(evE c sc n ρ it k).bind fun d k=>optK (if nb d then hX d else none) fun ds=>lu (ut sc t (exL (exS c sc n) b)) ds ρ k else .no
  |.Return e _=>orK e (fun e=>(evE c sc n ρ e k).bind fun d k=>.ok (some (HG d),ρ) k) (.ok (some (.py .none),ρ) k)
  |.Raise e c' _=>if c'.isNone then optK e fun e=>Ia (evE c sc n ρ) e k else .no
  |_=>.no
noncomputable def C3 (K:Frag) (v:Value):Option (List Value):=match v with
 |.none=>some []
 |.ref T=>match K.lookup T with
  |some ⟨_,_,.seq vs _,_⟩=>some vs.toList
  |_=>none
 |_=>none
noncomputable def nB:List Str→Bool
 |[]=>true
 |x::r=>!b8 x r&&nB r
noncomputable def dk (K:Frag) (fd:FuncData) (args:List D):Option Rho:=match fd.params with
 |⟨[],as,none,[],_,none,_⟩=>match C3 K fd.defaults with
  |some dvs=>if nB (as.map (·.arg))then
   (if Nat.beq args.length as.length then some ((as.map (·.arg)).zip args)
   else if Nat.beq (args.length+1) as.length then match dvs.getLast? with
    |some dv=>some ((as.map (·.arg)).zip (args++[hY K dv]))
    |none=>none
   else none)else none
  |none=>none
 |_=>none
noncomputable def ir (K:Frag) (fd:FuncData):Bool :=
 Nat.beq fd.globals mainGlobals&&Nat.beq fd.builtins builtinsNs&&fd.closure.isEmpty&&codeIn K fd.code fd.qualname&&(match fd.scope.kind with | .function=>true | _=>false) &&
 !fd.scope.isGenerator&&!fd.scope.isCoroutine&&fd.scope.names.all (fun p=>match p.2 with | .free=>false | _=>true)&&fd.params.args.all fun a=>aO fd.scope a.arg .local||aO fd.scope a.arg .cell
noncomputable def hO (c:Cx) (f:Addr) (args:List D) (k:Nat):Out D:=match c.K.lookup f with
 |some ⟨_,_,.func fd,_⟩=>match dk c.K fd args,fd.body with
  |some ρ,.stmts b=>if ir c.K fd then
   (exL (exS c fd.scope 40) b ρ k).bind fun r k=>.ok (r.1.getD (.py .none)) k else .no
  |_,_=>.no
 |_=>.no
noncomputable def sY (K:Frag) (rc rs:Addr) (dl:List Addr) (tabs:List (Addr×Nat×Nat×Str)) (toks:List (Str×Str×Int)):Nat→Orc
 |0,_,_,_=>.no
 |n+1,f,args,k=>hO ⟨K,rc,rs,dl,tabs,toks,some f,sY K rc rs dl tabs toks n⟩ f args k
end Mine
end
section
namespace Mine
open PySem PySem.W PySem.Spec PySem.Calls PyProof.Rows Builtin.Str
noncomputable def Is {α:Type}(o:Option α) (r:α):Prop:=match o with
 |some x=>x=r
 |none=>False
theorem Jb {α:Type}{o:Option α}{r:α}(e:o=some r):Is o r:=e▸rfl
theorem nn {α:Type}{P:Prop}{x:α}(e:none=some x):P:=(Jb e).elim
theorem ft {P:Prop}(e:false=true):P:=Bool.noConfusion e
theorem si {α:Type}{x y:α}(e:some x=some y):x=y:=Jb e
noncomputable def OkP {κ α:Type}:OutK κ α→Prop
 |.ok _ _=>True
 |_=>False
theorem okP {κ α:Type}{o:OutK κ α}{a:α}{k:κ}(e:o=.ok a k):OkP o:=e▸trivial
theorem on {κ α:Type}{P:Prop}{a:α}{k:κ}(e:OutK.no=.ok a k):P:=(okP e).elim
theorem oe {κ α:Type}{P:Prop}{a:α}{k:κ}(e:OutK.exc=.ok a k):P:=(okP e).elim
theorem mc {α:Type}{P:α→Prop}{a:α}{l:List α}(ha:P a) (hl:∀ x∈l,P x):∀ x∈a::l,P x:=List.forall_mem_cons.mpr ⟨ha,hl⟩
theorem m0 {α:Type}{P:α→Prop}:∀ x∈([]:List α),P x:=fun _ h=>absurd h List.not_mem_nil
theorem cps {G:Prop}(h:∀ P:Prop,(G→P)→P):G:=h G id
noncomputable def Fx (h:Heap) (v:Value):PyData→Prop
 |.none=>v=.none
 |.bool b=>v=.bool b
 |.int i=>∃ t,v=.int i t
 |.str x=>∃ t,v=.str x t
 |.list l=>∃ a o vs n bs,v=.ref a∧h.get? a=some o∧o.cls=.type "list"∧o.data=.seq vs n∧ReadsAll h vs.toList l bs
 |.tuple l=>∃ a o vs n bs,v=.ref a∧h.get? a=some o∧o.cls=.type "tuple"∧o.data=.seq vs n∧ReadsAll h vs.toList l bs
 |_=>True
theorem jR {h:Heap}{v:Value}{p:PyData}{as:List Addr}:Reads h v p as→Fx h v p :=
 Reads.rec (motive_1:=fun v p _ _=>Fx h v p) (motive_2:=fun _ _ _ _=>True) rfl (fun _=>rfl) (fun _ t=>⟨t,rfl⟩) (fun _ t=>⟨t,rfl⟩)
  (fun e1 e2 e3 r _=>⟨_,_,_,_,_,rfl,e1,e2,e3,r⟩) (fun e1 e2 e3 r _=>⟨_,_,_,_,_,rfl,e1,e2,e3,r⟩) (fun _ _ _ _ _ _ _=>trivial) trivial (fun _ _ _ _=>trivial)
noncomputable def K3 (h:Heap):List Value→List PyData→Prop
 |[],[]=>True
 |v::vs,d::ds=>(∃ as,Reads h v d as)∧∃ bs,ReadsAll h vs ds bs
 |_,_=>False
theorem uJ {h:Heap}{vs:List Value}{ds:List PyData}{as:List Addr}:ReadsAll h vs ds as→K3 h vs ds :=
 ReadsAll.rec (motive_1:=fun _ _ _ _=>True) (motive_2:=fun vs ds as _=>K3 h vs ds) trivial (fun _=>trivial) (fun _ _=>trivial) (fun _ _=>trivial) (fun _ _ _ _ _=>trivial) (fun _ _ _ _ _=>trivial) (fun _ _ _ _ _ _ _=>trivial)
  trivial (fun r rs _ _=>⟨⟨_,r⟩,_,rs⟩)
theorem pg {h:Heap}{M:List Value→List PyData→Prop}(h0:M [] []) (h1:∀ v vs d ds as bs,Reads h v d as→ReadsAll h vs ds bs→M vs ds→M (v::vs) (d::ds)):∀{vs:List Value}{ds:List PyData}{as:List Addr},ReadsAll h vs ds as→M vs ds:=by
 intro vs
 induction vs with
 |nil=>intro ds as r;induction ds using List.casesOn with
  |nil=>exact h0
  |cons d ds=>exact(uJ r).elim
 |cons v vs ih=>intro ds as r;induction ds using List.casesOn with
  |nil=>exact(uJ r).elim
  |cons d ds=>obtain⟨⟨_,r⟩,_,rs⟩:=uJ r;exact h1 _ _ _ _ _ _ r rs (ih rs)
theorem de {h:Heap}{v:Value}{l:List PyData}{as:List Addr}(r:Reads h v (.list l) as):∃ a o vs n bs,v=.ref a∧h.get? a=some o∧o.cls=.type "list"∧o.data=.seq vs n∧ReadsAll h vs.toList l bs:=jR r
theorem dZ {h:Heap}{v:Value}{l:List PyData}{as:List Addr}(r:Reads h v (.tuple l) as):∃ a o vs n bs,v=.ref a∧h.get? a=some o∧o.cls=.type "tuple"∧o.data=.seq vs n∧ReadsAll h vs.toList l bs:=jR r
structure Sx where
 prog:Program
 w:World
 K:Frag
 p:Program
 loose:List Str
 mg:Str→Option Value
 mb:Str→Option Value
 H0:Heap
 X:K.In H0
 T:TopRead p loose mg mb H0
 last:∃ o,H0.get? (H0.objs.size-1)=some o
 rc:Addr
 tc:Addr
 gf:Addr
 rs:Addr
 dl:List Addr
 tabs:List (Addr×Nat×Nat×Str)
 bm:∃ bm o,mg "__builtins__"=some (.ref bm)∧bm≠builtinsNs∧bm≠mainGlobals∧H0.get? bm=some o∧o.cls=.type "module"∧o.dict=some builtinsNs∧o.data=.plain
structure Gh where
 rdr:Bool
 R:Addr
 RD:Addr
 TL:Addr
 toks:List (Str×Str×Int)
 V0:List Addr
 me:Option Addr
noncomputable def Gh.W (cx:Sx) (g:Gh):List Addr:=(match g.rdr with | true=>[g.RD] | false=>[])++cx.tabs.map (·.1)
theorem Gh.tabW {cx:Sx}(g:Gh) {a:Addr}(h:a∈cx.tabs.map (·.1)):a∈g.W cx:=List.mem_append_right _ h
theorem Gh.rdW {cx:Sx}{g:Gh}(h:g.rdr=true):g.RD∈g.W cx:=by unfold Gh.W;rw[h];exact .head _
structure Ext (W:List Addr) (h h':Heap):Prop where
 keep:∀ b o,b∉W→h.get? b=some o→h'.get? b=some o
theorem Ext.refl (W:List Addr) (h:Heap):Ext W h h:=⟨fun _ _ _ e=>e⟩
theorem Ext.trans {W:List Addr}{h₁ h₂ h₃:Heap}(x:Ext W h₁ h₂) (y:Ext W h₂ h₃):Ext W h₁ h₃ :=
 ⟨fun b o hb e=>y.keep b o hb (x.keep b o hb e)⟩
theorem Ext.of_keeps {W:List Addr}{h h':Heap}(k:∀ b o,h.get? b=some o→h'.get? b=some o):Ext W h h':=⟨fun b o _ e=>k b o e⟩
theorem Ext.push {W:List Addr}{h:Heap}(o:Obj):Ext W h (h.push o):=.of_keeps fun _ _ e=>Heap.get?_push_of_some _ e
theorem dG {V:List Addr}{h:Heap}{b:Addr}{o:Obj}(e:(hideAll h V).get? b=some o):h.get? b=some o∧b∉V :=
 ⟨of_hideAll V e,fun m=>by rw[hideAll_none V m]at e;injection e⟩
theorem Ext.hid {W V:List Addr}{h h':Heap}(x:Ext W h h') (hW:∀ a∈W,a∈V) (b:Addr) (o:Obj) (e:(hideAll h V).get? b=some o):(hideAll h' V).get? b=some o:=by
 obtain⟨e1,e2⟩:=dG e
 exact hideAll_get V (x.keep b o (fun m=>e2 (hW b m)) e1) e2
noncomputable def TokAt (h:Heap) (tc:Addr) (v:Value) (k w:Str) (_n:Int):Prop :=
 ∃ x dx es nn t1 t2 va,v=.ref x∧h.get? x=some (instObj tc dx)∧h.get? dx=some (dictOf es nn) ∧
  getL "kind" es=some (some (.str k t1))∧getL "worth" es=some (some (.str w t2))∧getL "at" es=some (some va)∧handedIn va=true
theorem TokAt.keeps {h h':Heap}{tc:Addr}{v:Value}{k w:Str}{n:Int}(x:TokAt h tc v k w n) (hk:∀ b o,h.get? b=some o→h'.get? b=some o):TokAt h' tc v k w n:=by
 obtain⟨a,dx,es,nn,t1,t2,va,e,e1,e2,r⟩:=x
 exact⟨a,dx,es,nn,t1,t2,va,e,hk _ _ e1,hk _ _ e2,r⟩
noncomputable def TokAll (h:Heap) (tc:Addr):List Value→List (Str×Str×Int)→Prop
 |[],[]=>True
 |v::vs,t::ts=>TokAt h tc v t.1 t.2.1 t.2.2∧TokAll h tc vs ts
 |_,_=>False
theorem TokAll.keeps {h h':Heap}{tc:Addr}(hk:∀ b o,h.get? b=some o→h'.get? b=some o):∀{vs:List Value}{ts:List (Str×Str×Int)},TokAll h tc vs ts→TokAll h' tc vs ts
 |[],[],_=>trivial
 |_::_,_::_,⟨x,r⟩=>⟨x.keeps hk,TokAll.keeps hk r⟩
 |[],_::_,x=>x.elim
 |_::_,[],x=>x.elim
theorem TokAll.length {h:Heap}{tc:Addr}:∀{vs:List Value}{ts:List (Str×Str×Int)},TokAll h tc vs ts→vs.length=ts.length
 |[],[],_=>rfl
 |_::_,_::_,⟨_,r⟩=>congrArg (·+1) (TokAll.length r)
 |[],_::_,x=>x.elim
 |_::_,[],x=>x.elim
theorem TokAll.get {h:Heap}{tc:Addr}:∀{vs:List Value}{ts:List (Str×Str×Int)}{i:Nat}{t:Str×Str×Int},TokAll h tc vs ts→ts[i]?=some t→∃ v,vs[i]?=some v∧TokAt h tc v t.1 t.2.1 t.2.2
 |v::_,_::_,0,_,⟨x,_⟩,e=>by obtain rfl:=si e;exact⟨v,rfl,x⟩
 |_::_,_::_,i+1,_,⟨_,r⟩,e=>by
  simp only[List.getElem?_cons_succ]at e ⊢
  exact TokAll.get r e
 |[],[],_,_,_,e=>by simp at e
 |[],_::_,_,_,x,_=>x.elim
 |_::_,[],_,_,x,_=>x.elim
noncomputable def rU (h:Heap) (a:Addr) (vs:List Value):Prop:=∃ o n,h.get? a=some o∧o.cls=.type "list"∧o.data=.seq vs.toArray n
noncomputable def LamCl (W:List Addr) (h:Heap) (cl:List (Str×Addr)) (x:Option Str) (d:Int):Prop:=match x with
 |some x=>∃ c tk,cl=[(x,c)]∧c∉W∧h.IsCell c (some (.int d tk))
 |none=>cl=[]∧d=1
inductive LamAt (cx:Sx) (W:List Addr) (h:Heap) (v:Value) (d:Int):Prop
 |mk (fa:Addr) (qual:Str) (ps:Arguments) (body:Expr) (sc':Scope) (cl:List (Str×Addr)) (pm:Value) (c':Addr) (ctv:Value) (i:Str) (x:Option Str) (e:v=.ref fa) (e1:fa∉W) (e2:h.get? fa=some (kla_obj "<lambda>" qual ps body sc' cl pm c' ctv))
  (e3:c'∉W) (e4:h.CodeRec (.ref c') qual) (e5:mB cx.K cx.rs ps body sc'=some (i,x)) (e6:LamCl W h cl x d)
inductive FnLike:Data→Prop
 |fn (fd:FuncData):FnLike (.func fd)
 |cell (w:Option Value):FnLike (.cell w)
 |code (vs:Array Value) (q:Str) (t:Tok):vs[1]?=some (.str q t)→FnLike (.fields vs)
theorem LamAt.map {cx:Sx}{W W':List Addr}{h h':Heap}{v:Value}{d:Int}(hk:∀ b o,b∉W→h.get? b=some o→FnLike o.data→b∉W'∧h'.get? b=some o) (r:LamAt cx W h v d):LamAt cx W' h' v d:=by
 obtain⟨fa,qual,ps,body,sc',cl,pm,c',ctv,i,x,e,e1,e2,e3,⟨c,o,vs,t,q1,q2,q3,q4⟩,e5,e6⟩:=r
 have q5:c'∉W'∧h'.get? c=some o:=by cases q1;exact hk _ _ e3 q2 (q3▸.code vs qual t q4)
 have n:=hk _ _ e1 e2 (.fn _)
 refine⟨fa,qual,ps,body,sc',cl,pm,c',ctv,i,x,e,n.1,n.2,q5.1,⟨c,o,vs,t,q1,q5.2,q3,q4⟩,e5,?_⟩
 induction x using Option.casesOn with
 |none=>exact e6
 |some x =>
  obtain⟨c,tk,a,b,o,d1,d2⟩:=e6
  have n:=hk _ _ b d1 (d2▸.cell _)
  exact⟨c,tk,a,n.1,o,n.2,d2⟩
noncomputable def K2 (_cx:Sx) (_h:Heap) (_v:Value):Prop:=False
noncomputable def KW (h:Heap) (v:Value) (a b:Int):Prop:=∃ r t u x,v=.ref r∧IsRange h r a b 1 t u x
noncomputable def Rep (cx:Sx) (g:Gh) (V:List Addr) (h:Heap) (v:Value):D→Prop
 |.py p=>∃ as,Reads (hideAll h V) v p as
 |.tok k w n=>TokAt (hideAll h V) cx.tc v k w n
 |.toks l=>∃ a vs,v=.ref a∧rU (hideAll h V) a vs∧TokAll (hideAll h V) cx.tc vs l
 |.rdr=>g.rdr=true∧v=.ref g.R
 |.exn=>K2 cx h v
 |.glob u=>v=u
 |.lam d=>LamAt cx (g.W cx) h v d
 |.rng a b=>KW (hideAll h V) v a b
 |.bl l=>∃ a vs n as,v=.ref a∧(a∈V∧a∉g.W cx∧a∉g.V0)∧h.get? a=some (listOf vs n)∧ReadsAll (hideAll h V) vs.toList l as
noncomputable def RepAll (cx:Sx) (g:Gh) (V:List Addr) (h:Heap):List Value→List D→Prop
 |[],[]=>True
 |v::vs,d::ds=>Rep cx g V h v d∧RepAll cx g V h vs ds
 |_,_=>False
theorem ar {h h':Heap}(hk:∀ b o,h.get? b=some o→h'.get? b=some o) {vs:List Value}{ds:List PyData}{as:List Addr}:ReadsAll h vs ds as→ReadsAll h' vs ds as :=
 ReadsAll.rec (motive_1:=fun _ _ _ _=>True) (motive_2:=fun vs ds as _=>ReadsAll h' vs ds as) trivial (fun _=>trivial) (fun _ _=>trivial) (fun _ _=>trivial) (fun _ _ _ _ _=>trivial) (fun _ _ _ _ _=>trivial) (fun _ _ _ _ _ _ _=>trivial)
  .nil (fun r _ _ ih=>.cons (Reads.keeps hk r) ih)
theorem Rep.map {cx:Sx}{g g':Gh}{V V':List Addr}{h h':Heap}{v:Value}{d:D}(hk:∀ b o,(hideAll h V).get? b=some o→(hideAll h' V').get? b=some o) (hl:∀ d',d=.lam d'→LamAt cx (g.W cx) h v d'→LamAt cx (g'.W cx) h' v d')
 (hr:g.rdr=true∧v=.ref g.R→g'.rdr=true∧v=.ref g'.R) (hb:∀ l,d=.bl l→Rep cx g V h v (.bl l)→Rep cx g' V' h' v (.bl l)) (r:Rep cx g V h v d):Rep cx g' V' h' v d:=by
 induction d using D.casesOn with
 |py p=>exact let⟨as,r⟩:=r;⟨as,Reads.keeps hk r⟩
 |tok k w n=>exact TokAt.keeps (n:=n) r hk
 |toks l=>exact let⟨a,vs,e,⟨o,n,q,q1⟩,t⟩:=r;⟨a,vs,e,⟨o,n,hk _ _ q,q1⟩,t.keeps hk⟩
 |rdr=>exact hr r
 |exn=>exact r
 |glob u=>exact r
 |lam d=>exact hl _ rfl r
 |rng a b=>exact let⟨q,t,u,y,e,e1⟩:=r;⟨q,t,u,y,e,hk _ _ e1⟩
 |bl l=>exact hb l rfl r
theorem Rep.ext {cx:Sx}{g:Gh}{V:List Addr}{h h':Heap}{v:Value}{d:D}(x:Ext (g.W cx) h h') (hW:∀ a∈g.W cx,a∈V) (r:Rep cx g V h v d):Rep cx g V h' v d :=
 r.map (x.hid hW) (fun _ _=>LamAt.map fun b o hb e _=>⟨hb,x.keep b o hb e⟩) id fun _ _ ⟨a,vs,n,as,e,hv,ha,r⟩=>⟨a,vs,n,as,e,hv,x.keep _ _ hv.2.1 ha,ar (x.hid hW) r⟩
noncomputable def kA (P:Params) (TL:Addr) (k:Nat) (tk t1 t2 t3 t4:Tok) (a1 a2:Addr):List DictEntry :=
 [⟨PyData.keyHash P "tokens",.str "tokens" t1,.ref TL⟩,⟨PyData.keyHash P "at",.str "at" t2,.int k tk⟩,⟨PyData.keyHash P "named",.str "named" t3,.ref a1⟩,⟨PyData.keyHash P "shared",.str "shared" t4,.ref a2⟩]
noncomputable def TabInv (tabs:List (Addr×Nat×Nat×Str)) (hv h:Heap):Prop:=∀ t∈tabs,∃ ps,h.get? t.1=some (tabObj ps) ∧
 (ps=#[]∨∃ c',ps=#[rawInt t.2.1,rawInt t.2.2.1,.ref c']∧hv.CodeRec (.ref c') t.2.2.2)
structure Good (cx:Sx) (g:Gh) (V:List Addr) (h:Heap) (k:Nat):Prop where
 keep:∀ b o,cx.H0.get? b=some o→h.get? b=some o
 alive:∀ a∈V,∃ o,h.get? a=some o
 WV:∀ a∈g.W cx,a∈V
 V0:∀ a∈V,cx.H0.get? a=none
 tabs:TabInv cx.tabs (hideAll h V) h
 rd:g.rdr=true→(hideAll h V).get? g.R=some (instObj cx.rc g.RD) ∧
  (∃ tk t1 t2 t3 t4 a1 a2 n,h.get? g.RD=some (dictOf (kA cx.w.params g.TL k tk t1 t2 t3 t4 a1 a2) n)) ∧
  ∃ vs,rU (hideAll h V) g.TL vs∧TokAll (hideAll h V) cx.tc vs g.toks
theorem Good.tab {cx:Sx}{g:Gh}{V V':List Addr}{h h':Heap}{k:Nat}(G:Good cx g V h k) (hk:∀ b o,(hideAll h V).get? b=some o→(hideAll h' V').get? b=some o) {t:Addr×Nat×Nat×Str}(m:t∈cx.tabs) (ht:∀ o,h.get? t.1=some o→h'.get? t.1=some o) :
 ∃ ps,h'.get? t.1=some (tabObj ps)∧(ps=#[]∨∃ c',ps=#[rawInt t.2.1,rawInt t.2.2.1,.ref c']∧(hideAll h' V').CodeRec (.ref c') t.2.2.2) :=
 let⟨ps,e,r⟩:=G.tabs t m
 ⟨ps,ht _ e,r.imp id fun⟨c',e1,e2⟩=>⟨c',e1,e2.keeps hk⟩⟩
theorem Good.mv {cx:Sx}{g:Gh}{V V' V0:List Addr}{me:Option Addr}{h h':Heap}{k:Nat}(G:Good cx g V h k) (hH:∀ b o,cx.H0.get? b=some o→h.get? b=some o→h'.get? b=some o)
 (hV:∀ b∈V',(∃ o,h'.get? b=some o)∧cx.H0.get? b=none) (hW:∀ b∈g.W cx,b∈V') (hk:∀ b o,(hideAll h V).get? b=some o→(hideAll h' V').get? b=some o)
 (ht:∀ b∈g.W cx,∀ o,h.get? b=some o→h'.get? b=some o):Good cx {g with V0:=V0,me:=me} V' h' k:=by
 refine⟨fun b o e=>hH b o e (G.keep b o e),fun b hb=>(hV b hb).1,hW,fun b hb=>(hV b hb).2,fun t m=>G.tab hk m fun o e=>ht _ (Gh.tabW _ (List.mem_map_of_mem m)) o e,fun hr=>?_⟩
 obtain⟨q1,⟨tk,t1,t2,t3,t4,a1,a2,n,q2⟩,vs,⟨o,nn,q3,q4⟩,q5⟩:=G.rd hr
 exact⟨hk _ _ q1,⟨tk,t1,t2,t3,t4,a1,a2,n,ht _ (Gh.rdW hr) _ q2⟩,vs,⟨o,nn,hk _ _ q3,q4⟩,q5.keeps hk⟩
theorem Good.none0 {cx:Sx}{g:Gh}{V:List Addr}{h:Heap}{k:Nat}(G:Good cx g V h k) {a:Addr}(m:h.get? a=none):cx.H0.get? a=none:=by
 induction q:cx.H0.get? a using Option.casesOn with
 |none=>rfl
 |some o=>exact nn (m.symm.trans (G.keep _ _ q))
theorem Good.sz {cx:Sx}{g:Gh}{V:List Addr}{h:Heap}{k:Nat}(G:Good cx g V h k):cx.H0.objs.size≤h.objs.size:=by
 obtain⟨o,e⟩:=cx.last
 have:@LT.lt Nat _ (cx.H0.objs.size-1) h.objs.size:=Heap.lt_size (G.keep _ _ e)
 omega
theorem Good.X {cx:Sx}{g:Gh}{V:List Addr}{h:Heap}{k:Nat}(G:Good cx g V h k):cx.K.In h:=cx.X.keeps G.keep
structure FlAt (cx:Sx) (W:List Addr) (l:List Env) (hr:Heap) (h':Heap) (x:Addr):Prop where
 tabs:TabInv cx.tabs hr hr
 keep0:∀ b o,cx.H0.get? b=some o→hr.get? b=some o
 ls:∃ ls:List Addr,(∀ L∈ls,(∃ o,hr.get? L=some o∧∀ vs,o.data≠.fields vs)∧L∉W∧cx.H0.get? L=none) ∧
  (((∀ b o,hr.get? b=some o→h'.get? b=some o)∧hr.get? x=none∧(∃ oe vs a0,h'.get? x=some oe∧oe.cls=.ref cx.gf∧oe.data=.fields vs∧vs[1]?=some .none∧vs[0]?=some a0)∧h'.FunFrames (hideAll hr ls) l) ∨
   ∃ a0,Heap.FlyingW (hideAll hr ls) l x (.ref cx.gf) a0 h'∧hr.UpToSlots h')
noncomputable def Fl (cx:Sx) (g:Gh) (l:List Env) (h:Heap) (h':Heap) (e:Value):Prop:=∃ hr x,Ext (g.W cx) h hr∧e=.ref x∧FlAt cx (g.W cx) l hr h' x
theorem Fl.trans {cx:Sx}{g:Gh}{l:List Env}{h h₁ h':Heap}{e:Value}(x:Ext (g.W cx) h h₁) (f:Fl cx g l h₁ h' e):Fl cx g l h h' e :=
 let⟨hr,a,y,r⟩:=f;⟨hr,a,x.trans y,r⟩
noncomputable def PO (cx:Sx) (g:Gh) (V:List Addr) (l:List Env) {α β:Type}(Rl:Heap→α→β→Prop) (o:Out β) (s:Shared) (Q:α→Shared→Prop) (E:Value→Shared→Prop):Prop:=match o with
 |.ok b k'=>∀ h' tk' a,1≤tk'→Ext (g.W cx) s.heap h'→Good cx g V h' k'→Rl h' a b→Q a {s with heap:=h',toks:=tk'}
 |.exc=>∀ h' tk' e,1≤tk'→Fl cx g l s.heap h' e→E e {s with heap:=h',toks:=tk'}
 |.no=>False
theorem PO.shift {cx:Sx}{g:Gh}{V:List Addr}{l:List Env}{α β:Type}{Rl:Heap→α→β→Prop}{o:Out β}{s:Shared}{Q:α→Shared→Prop}{E:Value→Shared→Prop}
 (hp:PO cx g V l Rl o s Q E) {h':Heap}{tk':Nat}(x:Ext (g.W cx) s.heap h'):PO cx g V l Rl o {s with heap:=h',toks:=tk'} Q E:=by
 induction o using OutK.casesOn with
 |ok b k'=>exact fun h'' tk'' a t x' G r=>hp h'' tk'' a t (x.trans x') G r
 |exc=>exact fun h'' tk'' e t f=>hp h'' tk'' e t (f.trans x)
 |no=>exact hp
theorem PO.bind {cx:Sx}{g:Gh}{V:List Addr}{l:List Env}{α β γ δ:Type}{Rl:Heap→α→β→Prop}{Rl':Heap→γ→δ→Prop}{o:Out β}{f:β→Nat→Out δ}{s:Shared}{Q:γ→Shared→Prop}{E:Value→Shared→Prop}{Q1:α→Shared→Prop}
 (hp:PO cx g V l Rl' (o.bind f) s Q E)
 (h:∀ b k',o=.ok b k'→∀ h' tk' a,1≤tk'→Ext (g.W cx) s.heap h'→Good cx g V h' k'→Rl h' a b→PO cx g V l Rl' (f b k') {s with heap:=h',toks:=tk'} Q E→Q1 a {s with heap:=h',toks:=tk'}):PO cx g V l Rl o s Q1 E:=by
 induction o using OutK.casesOn with
 |ok b k'=>exact fun h' tk' a t x G r=>h b k' rfl h' tk' a t x G r (PO.shift hp x)
 |exc=>exact hp
 |no=>exact hp.elim
section
variable {cx:Sx}{g:Gh}{V:List Addr}{l:List Env}{α β γ:Type}{Rl:Heap→α→β→Prop}{s:Shared}{Q:α→Shared→Prop}{E:Value→Shared→Prop}{P:Prop}
theorem bU {b:Bool}{o:Out β}(hp:PO cx g V l Rl (if b then o else .no) s Q E) (w:b=true→PO cx g V l Rl o s Q E→P):P:=by
 induction b using Bool.casesOn
 ·exact hp.elim
 ·exact w rfl hp
theorem cI {o:Option γ}{f:γ→Out β}(hp:PO cx g V l Rl (optK o f) s Q E) (w:∀ a,o=some a→PO cx g V l Rl (f a) s Q E→P):P:=by
 induction o using Option.casesOn
 ·exact hp.elim
 ·exact w _ rfl hp
theorem jJ {o:Option γ}{f:γ→Out β}{z:Out β}(hp:PO cx g V l Rl (orK o f z) s Q E) (w:∀ a,o=some a→PO cx g V l Rl (f a) s Q E→P) (w':o=none→PO cx g V l Rl z s Q E→P):P:=by
 induction o using Option.casesOn
 ·exact w' rfl hp
 ·exact w _ rfl hp
end
theorem bB {α:Type}{l:List α}{a:α}(h:one l=some a):l=[a]:=by
 induction l using List.casesOn with
 |nil=>exact nn h
 |cons x r=>induction r using List.casesOn with
  |nil=>exact congrArg (fun x=>[x]) (si h)
  |cons=>exact nn h
theorem oK {α:Type}{l:List α}{q:α×α}(h:two l=some q):l=[q.1,q.2]:=by
 induction l using List.casesOn with
 |nil=>exact nn h
 |cons a r =>
  have h:(one r).map (fun b=>(a,b))=some q:=h
  induction hb:one r using Option.casesOn with
  |none=>rw[hb]at h;exact nn h
  |some b=>rw[hb]at h;rw[bB hb,← si h]
theorem am {a b:Bool}(h:(a&&b)=true):a=true∧b=true:=Bool.and_eq_true_iff.mp h
theorem qH {a:Bool}(h:(!a)=true):a=false:=by induction a using Bool.casesOn<;>first | rfl | exact ft h
theorem zb (a b:Nat):Nat.beq a b=decide (a=b):=by
 by_cases h:a=b
 ·subst h;simp
 ·rw[decide_eq_false h];exact Bool.eq_false_iff.mpr fun q=>h (Nat.eq_of_beq_eq_true q)
theorem ie:∀(a b:List Nat),gs a b=true↔a=b
 |[],[]=>by simp[gs]
 |[],_::_=>by simp[gs]
 |_::_,[]=>by simp[gs]
 |a::l,b::r=>by
  unfold gs
  rw[zb]
  by_cases h:a=b
  ·subst h;simp[ie l r]
  ·simp[h]
theorem ay (a b:Str):ac a b=true↔a=b:=by
 unfold ac
 rw[ie]
 constructor
 ·intro h
  obtain⟨⟨a⟩⟩:=a
  obtain⟨⟨b⟩⟩:=b
  simp only at h
  rw[h]
 ·intro h;rw[h]
theorem lY (a b:Str):(a.cps.toList==b.cps.toList)=ac a b:=by
 have:=ie a.cps.toList b.cps.toList
 unfold ac
 induction h:gs a.cps.toList b.cps.toList using Bool.casesOn with
 |true=>simp[this.mp h]
 |false =>
  have n:¬ a.cps.toList=b.cps.toList:=fun q=>by rw[this.mpr q]at h;injection h
  exact beq_eq_false_iff_ne.mpr n
theorem db (a:Str):ac a a=true:=(ay a a).mpr rfl
theorem eO (a b:Str):ac a b=decide (a=b):=by
 by_cases h:a=b
 ·subst h;simp[db]
 ·rw[decide_eq_false h];exact Bool.eq_false_iff.mpr fun q=>h ((ay a b).mp q)
theorem eR {x:Str}(h:bh x=true):ac x "__debug__"=false∧ac x "__classdict__"=false:=Bool.or_eq_false_iff.mp (qH h)
theorem cL {x y:Str}(h:ac x y=false):(x==y)=false:=beq_eq_false_iff_ne.mpr fun q=>by rw[q,db]at h;exact ft h.symm
theorem AX {x:Str}(h:bh x=true):(x==("__debug__":Str))=false:=cL (eR h).1
theorem MQ {x:Str}(h:bh x=true):(x==("__classdict__":Str))=false:=cL (eR h).2
theorem iL {v:Value}{a:Addr}(h:tT v=some a):v=.ref a:=by
 induction v using Value.casesOn with
 |ref x=>exact congrArg _ (si h)
 |_=>exact nn h
theorem md {i:Int}{j:Nat}(h:qI i=some j):i=j:=by induction i using Int.casesOn with
 |ofNat n=>exact congrArg _ (si h)
 |negSucc n=>exact nn h
theorem fR:∀(l:List (Str×NameKind)) (x:Str),jM l x=l.lookup x
 |[],_=>rfl
 |p::r,x=>by
  unfold jM
  rw[List.lookup_cons,fR r x,eO]
  by_cases h:p.1=x
  ·subst h;simp
  ·have:(x==p.1)=false:=beq_eq_false_iff_ne.mpr fun q=>h q.symm
   simp[h,this]
theorem dK {n:Nat}(h:sm n=true):n≤100000:=Nat.le_of_ble_eq_true h
theorem cy {n:Nat}(h:sm n=true):n≤sizeLine:=Nat.le_trans (dK h) (by decide)
theorem vE {n:Nat}(h:sm n=true):¬ ((n:Nat):Int)≥2 ^ 63:=by have:=dK h;omega
theorem oZ {n:Nat}(h:sm n=true):((n:Nat):Int)<2 ^ 63:=by have:=dK h;omega
section
variable {cx:Sx}{g:Gh}{V:List Addr}{k:Nat}{s:Shared}{A:Around}{E:Value→Shared→Prop}
noncomputable def Keeps' (h h':Heap):Prop:=∀ b o,h.get? b=some o→h'.get? b=some o
theorem Keeps'.refl (h:Heap):Keeps' h h:=fun _ _ e=>e
theorem Keeps'.ext {W:List Addr}{h h':Heap}(x:Keeps' h h'):Ext W h h':=.of_keeps x
theorem Keeps'.push (h:Heap) (o:Obj):Keeps' h (h.push o):=fun _ _ e=>Heap.get?_push_of_some _ e
theorem Keeps'.trans {h₁ h₂ h₃:Heap}(x:Keeps' h₁ h₂) (y:Keeps' h₂ h₃):Keeps' h₁ h₃:=fun b o e=>y b o (x b o e)
theorem Good.keeps (G:Good cx g V s.heap k) {h':Heap}(x:Keeps' s.heap h'):Good cx g V h' k:=by
 exact G.mv (V0:=g.V0) (me:=g.me) (fun b o _ e=>x b o e) (fun b hb=>⟨let⟨o,e⟩:=G.alive b hb;⟨o,x _ _ e⟩,G.V0 b hb⟩) G.WV ((x.ext (W:=g.W cx)).hid G.WV) fun b _ o e=>x b o e
noncomputable def Pu (cx:Sx) (g:Gh) (V:List Addr) (s:Shared) (Q:Value→Shared→Prop) (d:D):Prop :=
 ∀ h' tk v,Keeps' s.heap h'→Rep cx g V h' v d→Q v {s with heap:=h',toks:=tk}
theorem Pu.here {Q:Value→Shared→Prop}{d:D}(h:Pu cx g V s Q d) {v:Value}(tk:Nat) (r:Rep cx g V s.heap v d):Q v {s with toks:=tk}:=h s.heap tk v (.refl _) r
theorem vU:Rep cx g V s.heap .none (.py .none):=⟨_,Reads.none⟩
theorem gw (b:Bool) {h:Heap}:Rep cx g V h (.bool b) (.py (.bool b)):=⟨_,Reads.bool b⟩
theorem ck (i:Int) (t:Tok) {h:Heap}:Rep cx g V h (.int i t) (.py (.int i)):=⟨_,Reads.int i t⟩
theorem bO (x:Str) (t:Tok) {h:Heap}:Rep cx g V h (.str x t) (.py (.str x)):=⟨_,Reads.str x t⟩
theorem pU {c:Const}{d:D}{kk:Nat}{pos:Pos}{env:Env}{Q:Value→Shared→Prop}{M:Model}(e:rB c=some d) (h:Pu cx g V s Q d):wpAny M A (eval (.Constant c kk pos) env) Q E s:=by
 induction c using Const.casesOn<;>try exact nn e
 ·exact wpAny_Constant_none (h.here s.toks (si e▸vU))
 ·exact wpAny_Constant_bool (h.here s.toks (si e▸gw _))
 ·exact wpAny_Constant_int (h.here _ (si e▸ck _ _))
 ·exact wpAny_Constant_str (h.here _ (si e▸bO _ _))
theorem readsAll_len {h:Heap}{vs:List Value}{ds:List PyData}{as:List Addr}:ReadsAll h vs ds as→vs.length=ds.length :=
 pg (M:=fun vs ds=>vs.length=ds.length) rfl fun _ _ _ _ _ _ _ _ ih=>congrArg (·+1) ih
theorem cz {h:Heap}{vs:List Value}{ds:List PyData}{as:List Addr}{i:Nat}{d:PyData}(r:ReadsAll h vs ds as):ds[i]?=some d→∃ v bs,vs[i]?=some v∧Reads h v d bs :=
 pg (M:=fun vs ds=>∀ i,ds[i]?=some d→∃ v bs,vs[i]?=some v∧Reads h v d bs) (fun _ e=>nn e)
  (fun v vs d' ds as bs r _ ih i=>match i with
   |0=>fun e=>⟨v,as,rfl,si e▸r⟩
   |i+1=>fun e=>ih i e) r i
theorem bE {h:Heap}{a:Addr}{o:Obj}{vs:Array Value}{n:Nat}(e1:h.get? a=some o) (e2:o.cls=.type "list") (e3:o.data=.seq vs n):h.IsList a vs:=⟨o,e1,e2,n,e3⟩
theorem dE {h:Heap}{a:Addr}{o:Obj}{vs:Array Value}{n:Nat}(e1:h.get? a=some o) (e2:o.cls=.type "tuple") (e3:o.data=.seq vs n):IsTup h a vs:=⟨o,e1,e2,n,e3⟩
theorem m8 {vs:Array Value}{h:Heap}{l:List PyData}{as:List Addr}(r:ReadsAll h vs.toList l as):(!vs.isEmpty)=!l.isEmpty:=by
 have:=readsAll_len r
 induction l using List.casesOn with
 |nil=>simp only[List.length_nil]at this;simp[Array.eq_empty_of_size_eq_zero (by simpa using this)]
 |cons a r=>simp only[List.length_cons,Array.length_toList]at this;simp only[List.isEmpty_cons,Bool.not_false];rw[Array.isEmpty_eq_false_iff.mpr (by intro q;rw[q]at this;simp at this)];rfl
theorem dq {h:Heap}{v:Value}{p:PyData}{as:List Addr}(r:Reads (hideAll h V) v p as):Reads h v p as:=Reads.keeps (fun _ _ e=>of_hideAll V e) r
theorem aP {α:Type}{b:Bool}{x y:α}(h:(if b then some x else none)=some y):b=true∧x=y:=by
 induction b using Bool.casesOn
 ·exact nn h
 ·exact⟨rfl,si h⟩
theorem eX {α:Type}{b:Bool}{x:Option α}{y:α}(h:(if b then x else none)=some y):b=true∧x=some y:=by
 induction b using Bool.casesOn
 ·exact nn h
 ·exact⟨rfl,h⟩
theorem wG {vs:Array Value}{h:Heap}{l:List PyData}{as:List Addr}(r:ReadsAll h vs.toList l as) (q:sm l.length=true):((vs.size:Nat):Int)<2 ^ 63:=(Array.length_toList▸readsAll_len r:vs.size=l.length)▸oZ q
theorem qg {v:Value}{b:Bool}{Q:Bool→Shared→Prop}(w:(∀ tk,Q b {s with toks:=tk})→wpAny (model cx.prog cx.w) A (truthy v) Q E s) (h:∀ tk,Q b {s with toks:=tk}):wpAny (model cx.prog cx.w) A (truthy v) Q E s:=w h
theorem j8 {a:Addr}{vs:Array Value}{h:Heap}{l:List PyData}{as:List Addr}{Q:Bool→Shared→Prop}(i:s.heap.IsList a vs) (r:ReadsAll h vs.toList l as) (q:sm l.length=true) (w:∀ tk,Q (!l.isEmpty) {s with toks:=tk}):wpAny (model cx.prog cx.w) A (truthy (.ref a)) Q E s :=
 wpAny_truthy_list i (wG r q) (m8 r▸w _)
theorem j9 {v:Value}{d:D}{b:Bool}{Q:Bool→Shared→Prop}(r:Rep cx g V s.heap v d) (e:bV d=some b) (h:∀ tk,Q b {s with toks:=tk}):wpAny (model cx.prog cx.w) A (truthy v) Q E s:=by
 refine qg (b:=b) ?_ h
 induction d using D.casesOn with
 |py p =>
  obtain⟨as,r⟩:=r
  replace r:=jR r
  induction p using PyData.casesOn with
  |none=>obtain rfl:=r;obtain rfl:=si e;exact fun h=>truthy_none (h s.toks)
  |bool=>obtain rfl:=r;obtain rfl:=si e;exact fun h=>wpAny_truthy_bool (h s.toks)
  |int=>obtain⟨t,r⟩:=r;obtain rfl:=r;obtain rfl:=si e;exact fun h=>PySem.P.truthy_int (h s.toks)
  |str=>obtain⟨t,r⟩:=r;obtain rfl:=r;obtain⟨q,e⟩:=aP e;obtain rfl:=e;exact fun h=>PySem.P.truthy_str (vE q) (h _)
  |list=>obtain⟨a,o,vs,n,bs,e0,e1,e2,e3,r⟩:=r;obtain⟨q,e⟩:=aP e;obtain rfl:=e;obtain rfl:=e0;exact j8 (bE (of_hideAll V e1) e2 e3) r q
  |tuple =>
   obtain⟨a,o,vs,n,bs,e0,e1,e2,e3,r⟩:=r;obtain⟨q,e⟩:=aP e;obtain rfl:=e;obtain rfl:=e0
   exact fun h=>PyProof.Rows.truthy_tuple (dE (of_hideAll V e1) e2 e3) (wG r q) (m8 r▸h _)
  |_=>exact nn e
 |bl l=>obtain⟨a,vs,n,as,e0,hv,ha,r⟩:=r;obtain⟨q,e⟩:=aP e;obtain rfl:=e;obtain rfl:=e0;exact j8 (bE ha rfl rfl) r q
 |_=>exact nn e
theorem mE {v:Value}{d:D}{b:Bool}(r:Rep cx g V s.heap v d) (e:j3 d=some b):(v==Value.none)=b:=by
 induction d using D.casesOn with
 |py p =>
  obtain⟨as,r⟩:=r
  revert e
  exact Reads.rec (motive_1:=fun v p _ _=>j3 (.py p)=some b→(v==Value.none)=b) (motive_2:=fun _ _ _ _=>True) si (fun _=>si) (fun _ _=>si) (fun _ _=>si) (fun _ _ _ _ _=>si) (fun _ _ _ _ _=>si) (fun _ _ _ _ _ _ _=>si) trivial (fun _ _ _ _=>trivial) r
 |tok=>obtain⟨x,_,_,_,_,_,_,e0,_⟩:=r;rw[e0];exact si e
 |_=>exact nn e
theorem eT {h:Heap}{vs:List Value}{l:List PyData}{as:List Addr}{ss:List Str}(r:ReadsAll h vs l as):cG l=some ss→StrsAre vs ss :=
 pg (M:=fun vs l=>∀ ss,cG l=some ss→StrsAre vs ss) (fun _ e=>si e▸.nil) (fun v vs d ds as bs r _ ih ss e=>by
  induction d using PyData.casesOn with
  |str x =>
   obtain⟨ss',e',rfl⟩:=Option.map_eq_some_iff.mp e
   obtain⟨t,e⟩:=jR r
   rw[e]
   exact .cons _ _ (ih _ e')
  |_=>exact nn e) r ss
noncomputable def og (x:Str) (v:Value):Bool:=match v with
 |.str y _=>ac y x
 |_=>false
theorem jB (x:Str) {vs:List Value}{ss:List Str}(hs:StrsAre vs ss):vs.any (og x)=b8 x ss:=by
 induction hs with
 |nil=>rfl
 |cons y t r ih =>
  unfold b8
  rw[List.any_cons,ih]
  simp only[og]
  induction ac y x using Bool.casesOn<;>rfl
theorem oR {vs:List Value}{ss:List Str}(hs:StrsAre vs ss):∀ y∈vs,∃ z t,y=.str z t:=by
 induction hs with
 |nil=>exact m0
 |cons x t r ih=>exact mc ⟨_,_,rfl⟩ ih
theorem lC {A:Around}{s:Shared}{x:Str}{t:Tok}{vs:Array Value}{ss:List Str}(hs:StrsAre vs.toList ss):∀ y,y∈vs→SeqAt.EqAt A s y (.str x t) (og x y):=fun y hy=>by
 obtain⟨z,t',rfl⟩:=oR hs y (Array.mem_toList_iff.mpr hy)
 have:=(eqGives_str z x t' t).at A s
 rw[show og x (.str z t')=(z==x)from by
  show ac z x=_
  rw[eO]
  by_cases h:z=x<;>simp[h]]
 exact this
theorem gV {p q:PyData}(h:(SeqAt.shaped p&&SeqAt.shaped q)=true):SeqAt.shaped p=true∧SeqAt.shaped q=true:=Bool.and_eq_true_iff.mp h
noncomputable def jC (cx:Sx) (a:Addr):Prop:=∃ es n,cx.K.lookup a=some ⟨.type "dict",none,.dict es n,#[]⟩∧KeysLit cx.w.params es.toList∧(a==sysModules)=false
theorem nu {K:Frag}{dl:List Addr}{a:Addr}{x:Str}{r:Option Value}(e:nsD K dl a x=some r):a∈dl∧nsIn K a x=some r:=by
 unfold nsD at e
 split at e
 ·rename_i q;exact⟨by simpa using q,e⟩
 ·first | exact nn e | exact ft e | exact on e | exact oe e | cases e
theorem cU {d:D}{p:PyData}(h:pyV d=some p):d=.py p:=by induction d using D.casesOn<;>first | exact nn h | exact congrArg _ (si h)
theorem eV {p:PyData}{x:Str}(h:jH p=some x):p=.str x:=by induction p using PyData.casesOn<;>first | exact nn h | exact congrArg _ (si h)
theorem ii {p:PyData}{x:Int}(h:se p=some x):p=.int x:=by induction p using PyData.casesOn<;>first | exact nn h | exact congrArg _ (si h)
theorem az {α β:Type}{o:Option α}{f:α→Option β}{b:β}{P:Prop}(h:o.bind f=some b) (w:∀ a,o=some a→f a=some b→P):P:=by
 induction o using Option.casesOn with
 |none=>exact nn h
 |some a=>exact w a rfl h
theorem cA {α β:Type}{o:Option α}{f:α→β}{b:β}{P:Prop}(h:o.map f=some b) (w:∀ a,o=some a→f a=b→P):P:=by
 induction o using Option.casesOn with
 |none=>exact nn h
 |some a=>exact w a rfl (si h)
theorem y9 {d:D}{l:List PyData}(h:blV d=some l):d=.bl l:=by
 induction d using D.casesOn with
 |bl l=>exact congrArg _ (si h)
 |_=>exact nn h
theorem yx {ρ:Rho}{x:Str}{l:List PyData}(h:(aH ρ x).bind blV=some l):aH ρ x=some (.bl l):=az h fun d h1 h2=>h1.trans (congrArg some (y9 h2))
theorem gT {d:D}{l:List PyData}(h:te d=some l):d=.py (.tuple l):=by
 induction d using D.casesOn with
 |py p=>induction p using PyData.casesOn with
  |tuple l=>exact congrArg _ (congrArg _ (si h))
  |_=>exact nn h
 |_=>exact nn h
theorem gW {d:D}(h:pe d=true):d=.rdr:=by
 induction d using D.casesOn with
 |rdr=>rfl
 |_=>exact ft h
theorem bD {d:D}{x:Str}(h:fM d=some x):d=.py (.str x):=az h fun _ h1 h2=>(cU h1).trans (congrArg _ (eV h2))
theorem bn {d:D}{x:Int}(h:intD d=some x):d=.py (.int x):=az h fun _ h1 h2=>(cU h1).trans (congrArg _ (ii h2))
theorem Iq {p:PyData}(h:(match p with | .none=>true | _=>false)=true):p=.none:=by induction p using PyData.casesOn<;>first | rfl | exact ft h
theorem kE {d:D}(h:sj d=true):d=.py .none:=by
 unfold sj at h
 induction hp:pyV d using Option.casesOn with
 |some p=>rw[hp]at h;exact(cU hp).trans (congrArg _ (Iq h))
 |none=>rw[hp]at h;exact ft h
theorem bL {h:Heap}{v:Value}{d d':D}(e:d=d') (r:Rep cx g V h v d):Rep cx g V h v d':=e▸r
theorem eK {h:Heap}{v:Value}{p:PyData}(r:Rep cx g V h v (.py p)):Fx (hideAll h V) v p:=let⟨_,r⟩:=r;jR r
theorem au {h:Heap}{v:Value}{i:Int}(r:Rep cx g V h v (.py (.int i))):∃ t,v=.int i t:=let⟨_,r⟩:=r;jR r
theorem av {h:Heap}{v:Value}{x:Str}(r:Rep cx g V h v (.py (.str x))):∃ t,v=.str x t:=let⟨_,r⟩:=r;jR r
theorem iK {h:Heap}{v:Value}(r:Rep cx g V h v (.py .none)):v=.none:=let⟨_,r⟩:=r;jR r
theorem iP {f:Int→Int→Bool}{a b:D}{r:Bool}{va vb:Value}{h:Heap}{P:Prop}(e:ub f a b=some r) (ra:Rep cx g V h va a) (rb:Rep cx g V h vb b) (w:∀ i j t u,va=.int i t→vb=.int j u→f i j=r→P):P:=by
 unfold ub at e
 induction h1:intD a using Option.casesOn with
 |none=>rw[h1]at e;exact nn e
 |some i =>
  induction h2:intD b using Option.casesOn with
  |none=>rw[h1,h2]at e;exact nn e
  |some j =>
   rw[h1,h2]at e
   obtain⟨t,e1⟩:=au (bn h1▸ra)
   obtain⟨u,e2⟩:=au (bn h2▸rb)
   exact w _ _ _ _ e1 e2 (si e)
theorem sR {h:Heap}{neg:Bool}{a b:Value}{p q:PyData}{r:Bool}{P:Prop}(ra:Rep cx g V h a (.py p)) (rb:Rep cx g V h b (.py q)) (e:eqP neg p q=some r)
 (w1:∀ x y t u,a=.str x t→b=.str y u→(ac x y^^neg)=r→P) (w2:(SeqAt.shaped p&&SeqAt.shaped q)=true→(AU p q^^neg)=r→P):P:=by
 have w3 (e:(if SeqAt.shaped p&&SeqAt.shaped q then some (AU p q^^neg)else none)=some r):P:=w2 (aP e).1 (aP e).2
 unfold eqP at e
 induction h1:jH p using Option.casesOn with
 |none=>rw[h1]at e;exact w3 e
 |some x =>
  induction h2:jH q using Option.casesOn with
  |none=>rw[h1,h2]at e;exact w3 e
  |some y =>
   rw[h1,h2]at e
   obtain⟨t,e1⟩:=av (eV h1▸ra)
   obtain⟨u,e2⟩:=av (eV h2▸rb)
   exact w1 _ _ _ _ e1 e2 (si e)
theorem E6 (hu:A.units+64<cLine) {a b:Value}{p q:PyData}{r:Bool}{Q:Value→Shared→Prop}(ra:Rep cx g V s.heap a (.py p)) (rb:Rep cx g V s.heap b (.py q)) (e:eqP false p q=some r)
 (h:Q (.bool r) s):wpAny (model cx.prog cx.w) A (compareOp .Eq a b) Q E s:=by
 refine sR ra rb e (fun x y t u e1 e2 e3=>?_) fun q e3=>?_
 ·obtain rfl:=e1;obtain rfl:=e2;obtain rfl:=e3
  exact PySem.P.eq_str (by rw[lY];rw[Bool.xor_false]at h;exact h)
 ·obtain rfl:=e3;rw[Bool.xor_false]at h
  obtain⟨_,ra⟩:=ra;obtain⟨_,rb⟩:=rb
  exact SeqAt.compareEq_shaped (dq ra) (dq rb) (gV q).1 (gV q).2 hu h
theorem Er (hu:A.units+64<cLine) {a b:Value}{p q:PyData}{r:Bool}{Q:Value→Shared→Prop}(ra:Rep cx g V s.heap a (.py p)) (rb:Rep cx g V s.heap b (.py q)) (e:eqP true p q=some r)
 (h:Q (.bool r) s):wpAny (model cx.prog cx.w) A (compareOp .NotEq a b) Q E s:=by
 refine sR ra rb e (fun x y t u e1 e2 e3=>?_) fun q e3=>?_
 ·obtain rfl:=e1;obtain rfl:=e2;obtain rfl:=e3
  exact PySem.P.ne_str (by rw[bne,lY];rw[Bool.xor_true]at h;exact h)
 ·obtain rfl:=e3;rw[Bool.xor_true]at h
  obtain⟨_,ra⟩:=ra;obtain⟨_,rb⟩:=rb
  exact SeqAt.compareNe_shaped (dq ra) (dq rb) (gV q).1 (gV q).2 hu h
theorem E7 (hu:A.units+64<cLine) {a b:Value}{d1 d2:D}{r:Bool}{Q:Value→Shared→Prop}(ra:Rep cx g V s.heap a d1) (rb:Rep cx g V s.heap b d2) (e:eqD d1 d2=some r)
 (h:Q (.bool r) s):wpAny (model cx.prog cx.w) A (compareOp .Eq a b) Q E s:=by
 unfold eqD at e
 induction hq:pyV d2 using Option.casesOn with
 |none=>rw[hq]at e;exact nn e
 |some q0 =>
 rw[hq]at e
 obtain rfl:=cU hq
 induction d1 using D.casesOn with
 |py p=>exact E6 hu ra rb e h
 |bl l =>
  obtain⟨x,vs,n,as,e0,hv,hx,ra⟩:=ra
  obtain⟨_,rb⟩:=rb
  obtain⟨q,e⟩:=aP e
  obtain rfl:=e;obtain rfl:=e0
  exact SeqAt.compareEq_shaped (reads_list_at hx rfl rfl (ar (fun _ _ e=>of_hideAll V e) ra)) (dq rb) (gV q).1 (gV q).2 hu h
 |_=>exact nn e
theorem Es (hu:A.units+64<cLine) {a b:Value}{d1 d2:D}{r:Bool}{Q:Value→Shared→Prop}(ra:Rep cx g V s.heap a d1) (rb:Rep cx g V s.heap b d2) (e:neD d1 d2=some r)
 (h:Q (.bool r) s):wpAny (model cx.prog cx.w) A (compareOp .NotEq a b) Q E s:=by
 unfold neD at e
 induction hq:pyV d2 using Option.casesOn with
 |none=>rw[hq]at e;exact nn e
 |some q0 =>
  induction hp:pyV d1 using Option.casesOn with
  |none=>rw[hq,hp]at e;exact nn e
  |some p0 =>
   rw[hq,hp]at e
   exact Er hu (cU hp▸ra) (cU hq▸rb) e h
noncomputable def om (i:Int) (y:Value):Bool:=match y with
 |.int j _=>j==i
 |_=>false
theorem intsAre_of {h:Heap}{i:Int}{vs:List Value}{l:List PyData}{as:List Addr}{is:List Int}(r:ReadsAll h vs l as) (e:ot l=some is) (A:Around) (s:Shared) (t:Tok):(∀ y∈vs,SeqAt.EqAt A s y (.int i t) (om i y))∧vs.any (om i)=is.any (·==i) :=
 pg (M:=fun vs l=>∀ is,ot l=some is→(∀ y∈vs,SeqAt.EqAt A s y (.int i t) (om i y))∧vs.any (om i)=is.any (·==i)) (fun _ e=>by obtain rfl:=si e;exact⟨fun _ h=>absurd h List.not_mem_nil,rfl⟩) (fun v vs d ds as bs r _ ih is e=>by
  induction d using PyData.casesOn with
  |int x =>
   refine cA e fun is' e' e2=>?_
   obtain rfl:=e2
   obtain⟨u,e⟩:=jR r
   obtain rfl:=e
   obtain⟨h1,h2⟩:=ih _ e'
   exact⟨List.forall_mem_cons.mpr ⟨(MeetsSeq.EqGives.int x i u t).at A s,h1⟩,by rw[List.any_cons,List.any_cons,h2];rfl⟩
  |_=>exact nn e) r is e
theorem pM {a b:Value}{d1 d2:D}{r:Bool}{neg:Bool}{Q:Value→Shared→Prop}(ra:Rep cx g V s.heap a d1) (rb:Rep cx g V s.heap b d2) (e:yt neg d1 d2=some r)
 (h:Q (.bool r) s):neg=false∧wpAny (model cx.prog cx.w) A (compareOp .In a b) Q E s:=by
 unfold yt at e
 induction h1:intD d1 using Option.casesOn with
 |none=>rw[h1]at e;exact nn e
 |some i =>
  induction h2:pyV d2 using Option.casesOn with
  |none=>rw[h1,h2]at e;exact nn e
  |some p =>
   rw[h1,h2]at e
   obtain⟨t,ea⟩:=au (bn h1▸ra)
   obtain⟨_,rb⟩:=(cU h2▸rb:Rep cx g V s.heap b (.py p))
   obtain rfl:=ea
   induction p using PyData.casesOn with
   |tuple l =>
    induction neg using Bool.casesOn with
    |true=>exact nn e
    |false =>
     refine cA e fun is e' e=>?_
     obtain rfl:=e
     obtain⟨x,o,vs,n,bs,eb,e1,e2,e3,rl⟩:=dZ rb
     rw[eb]
     exact⟨rfl,SeqAt.in_tupleAt _ (dE (of_hideAll V e1) e2 e3) (fun y hy=>(intsAre_of rl e' _ _ _).1 y (Array.mem_toList_iff.mpr hy)) (by rw[← Array.any_toList,(intsAre_of rl e' A s 0).2];exact h)⟩
   |_=>exact nn e
theorem EX (hd:∀ a∈cx.dl,jC cx a) (G:Good cx g V s.heap k) {a b:Value}{d1 d2:D}{r:Bool}{Q:Value→Shared→Prop}(ra:Rep cx g V s.heap a d1) (rb:Rep cx g V s.heap b d2) (e:inD cx.K cx.dl false d1 d2=some r)
 (h:∀ tk,Q (.bool r) {s with toks:=tk}):wpAny (model cx.prog cx.w) A (compareOp .In a b) Q E s:=by
 unfold inD at e
 induction hx:fM d1 using Option.casesOn with
 |none=>rw[hx]at e;exact(pM ra rb e (h s.toks)).2
 |some x =>
  rw[hx]at e
  obtain⟨t,ea⟩:=av (bD hx▸ra)
  obtain rfl:=ea
  induction d2 using D.casesOn with
  |py p =>
   obtain⟨_,rb⟩:=rb
   induction p using PyData.casesOn with
   |str y =>
    obtain⟨u,eb⟩:=jR rb
    obtain rfl:=((Bool.xor_false _).symm.trans (si e):kh x y=r)
    rw[eb]
    exact PySem.P.in_str (h s.toks)
   |tuple l =>
    refine cA e fun ss e' e=>?_
    obtain⟨x,o,vs,n,bs,eb,e1,e2,e3,rl⟩:=dZ rb
    rw[eb]
    have hs:=eT rl e'
    refine SeqAt.in_tupleAt _ (dE (of_hideAll V e1) e2 e3) (lC hs) ?_
    rw[← Array.any_toList,jB _ hs,(Bool.xor_false _).symm.trans e];exact h s.toks
   |list l =>
    refine cA (f:=b8 _) e fun ss e' e=>?_
    obtain⟨x,o,vs,n,bs,eb,e1,e2,e3,rl⟩:=de rb
    rw[eb]
    have hs:=eT rl e'
    refine SeqAt.in_listAt _ (bE (of_hideAll V e1) e2 e3) (lC hs) ?_
    rw[← Array.any_toList,jB _ hs,e];exact h s.toks
   |_=>exact nn e
  |glob v =>
   induction v using Value.casesOn with
   |ref a =>
    refine cA e fun q e' e=>?_
    obtain rfl:=rb
    obtain⟨hm,e'⟩:=nu e'
    obtain⟨es,n,hl,hk,lo⟩:=hd _ hm
    exact wpAny_in_of (strKind_is cx.prog cx.w _ _) lo (mapOf_K (prog:=cx.prog) G.X hl hk) (by rw[find_K hl e',(Bool.xor_false _).symm.trans e];exact h _)
   |_=>exact nn e
  |_=>exact nn e
theorem ud (hd:∀ a∈cx.dl,jC cx a) (G:Good cx g V s.heap k) {a b:Value}{d1 d2:D}{r:Bool}{Q:Value→Shared→Prop}(ra:Rep cx g V s.heap a d1) (rb:Rep cx g V s.heap b d2) (e:inD cx.K cx.dl true d1 d2=some r)
 (h:∀ tk,Q (.bool r) {s with toks:=tk}):wpAny (model cx.prog cx.w) A (compareOp .NotIn a b) Q E s:=by
 unfold inD at e
 induction hx:fM d1 using Option.casesOn with
 |none=>rw[hx]at e;exact ft (pM (A:=A) (E:=E) (s:=s) (Q:=fun _ _=>True) ra rb e trivial).1.symm
 |some x =>
  rw[hx]at e
  obtain⟨t,ea⟩:=av (bD hx▸ra)
  obtain rfl:=ea
  induction d2 using D.casesOn with
  |py p =>
   obtain⟨_,rb⟩:=rb
   induction p using PyData.casesOn with
   |str y =>
    obtain⟨u,eb⟩:=jR rb
    obtain rfl:=((Bool.xor_true _).symm.trans (si e):(!kh x y)=r)
    rw[eb]
    exact PySem.P.notIn_str (h s.toks)
   |tuple l =>
    refine cA e fun ss e' e=>?_
    obtain⟨x,o,vs,n,bs,eb,e1,e2,e3,rl⟩:=dZ rb
    rw[eb]
    have hs:=eT rl e'
    refine SeqAt.notIn_tupleAt _ (dE (of_hideAll V e1) e2 e3) (lC hs) ?_
    rw[← Array.any_toList,jB _ hs,(Bool.xor_true _).symm.trans e];exact h s.toks
   |_=>exact nn e
  |glob v =>
   induction v using Value.casesOn with
   |ref a =>
    refine cA e fun q e' e=>?_
    obtain rfl:=rb
    obtain⟨hm,e'⟩:=nu e'
    obtain⟨es,n,hl,hk,lo⟩:=hd _ hm
    exact wpAny_notIn_of (strKind_is cx.prog cx.w _ _) lo (mapOf_K (prog:=cx.prog) G.X hl hk) (by rw[find_K hl e',(Bool.xor_true _).symm.trans e];exact h _)
   |_=>exact nn e
  |_=>exact nn e
theorem yX (hd:∀ a∈cx.dl,jC cx a) (G:Good cx g V s.heap k) (hu:A.units+64<cLine) {op:CmpOp}{a b:Value}{d1 d2:D}{r:Bool}{Q:Value→Shared→Prop}(ra:Rep cx g V s.heap a d1) (rb:Rep cx g V s.heap b d2) (e:gJ cx.K cx.dl op d1 d2=some r)
 (h:∀ tk,Q (.bool r) {s with toks:=tk}):wpAny (model cx.prog cx.w) A (compareOp op a b) Q E s:=by
 induction op using CmpOp.casesOn with
 |Is =>
  obtain⟨hn,e⟩:=eX e
  rw[iK (bL (kE hn) rb)]
  exact is_none (mE ra e▸h s.toks)
 |IsNot =>
  obtain⟨hn,e⟩:=eX e
  rw[iK (bL (kE hn) rb)]
  exact cA e fun q e' e=>isNot_none (by rw[mE ra e',e];exact h s.toks)
 |Eq=>exact E7 hu ra rb e (h s.toks)
 |NotEq=>exact Es hu ra rb e (h s.toks)
 |Lt=>exact iP e ra rb fun i j t u e1 e2 e3=>by rw[e1,e2];exact PySem.P.lt_int (e3▸h s.toks)
 |LtE=>exact iP e ra rb fun i j t u e1 e2 e3=>by rw[e1,e2];exact PySem.P.le_int (e3▸h s.toks)
 |Gt=>exact iP e ra rb fun i j t u e1 e2 e3=>by rw[e1,e2];exact PySem.P.gt_int (e3▸h s.toks)
 |GtE=>exact iP e ra rb fun i j t u e1 e2 e3=>by rw[e1,e2];exact PySem.P.ge_int (e3▸h s.toks)
 |In=>exact EX hd G ra rb e h
 |NotIn=>exact ud hd G ra rb e h
theorem g4 {h h':Heap}(x:Keeps' h h') (V:List Addr):∀ b o,(hideAll h V).get? b=some o→(hideAll h' V).get? b=some o:=fun b o e=>by
 obtain⟨e1,e2⟩:=dG e
 exact hideAll_get V (x _ _ e1) e2
theorem Good.fresh (G:Good cx g V s.heap k) {a:Addr}(ha:s.heap.objs.size≤a):a∉V:=fun m=>by
 obtain⟨o,e⟩:=G.alive a m
 exact absurd (Heap.lt_size e) (Nat.not_lt.mpr ha)
theorem Good.fresh' (G:Good cx g V s.heap k) {h':Heap}(x:Keeps' s.heap h'):h'.objs.size∉V:=fun m=>by
 obtain⟨o,e⟩:=G.alive _ m
 exact Nat.lt_irrefl _ (Heap.lt_size (x _ _ e))
theorem Good.newList (G:Good cx g V s.heap k) {h':Heap}(x:Keeps' s.heap h') {a:Addr}{o:Obj}{vs:Array Value}{n:Nat}{l:List PyData}{as:List Addr}(ha:a∉V) (e1:h'.get? a=some o) (e2:o.cls=.type "list") (e3:o.data=.seq vs n) (r:ReadsAll (hideAll s.heap V) vs.toList l as) :
 Rep cx g V h' (.ref a) (.py (.list l)) :=
 ⟨_,reads_list_at (hideAll_get V e1 ha) e2 e3 (ar (g4 x V) r)⟩
theorem Good.newTup (G:Good cx g V s.heap k) {h':Heap}(x:Keeps' s.heap h') {a:Addr}{o:Obj}{vs:Array Value}{n:Nat}{l:List PyData}{as:List Addr}(ha:a∉V) (e1:h'.get? a=some o) (e2:o.cls=.type "tuple") (e3:o.data=.seq vs n) (r:ReadsAll (hideAll s.heap V) vs.toList l as) :
 Rep cx g V h' (.ref a) (.py (.tuple l)) :=
 ⟨_,reads_tuple_at (hideAll_get V e1 ha) e2 e3 (ar (g4 x V) r)⟩
theorem dr {h:Heap}{vs:List Value}{l:List PyData}{as:List Addr}{ws:List Value}{m:List PyData}{bs:List Addr}(r:ReadsAll h vs l as) (q:ReadsAll h ws m bs):∃ cs,ReadsAll h (vs++ws) (l++m) cs :=
 pg (M:=fun vs l=>∃ cs,ReadsAll h (vs++ws) (l++m) cs) ⟨_,q⟩ (fun _ _ _ _ _ _ r _ ih=>let⟨_,z⟩:=ih;⟨_,.cons r z⟩) r
theorem jK {p:PyData}{x:List PyData}(h:qE p=some x):p=.list x:=by induction p using PyData.casesOn<;>first | exact nn h | exact congrArg _ (si h)
theorem iq {d:D}{x:List PyData}(h:sy d=some x):d=.py (.list x):=az h fun _ h1 h2=>(cU h1).trans (congrArg _ (jK h2))
theorem rY {x:Str}(h:x.length=0):x=Str.empty:=by
 obtain⟨⟨x⟩⟩:=x
 induction x using List.casesOn with
 |nil=>rfl
 |cons a r=>cases h
theorem Fh {x y:Str}{t u:Tok}{Q:Value→Shared→Prop}(q:sm (x.length+y.length)=true) (h:Pu cx g V s Q (.py (.str (Fi x y)))):wpAny (model cx.prog cx.w) A (binaryOp .Add (.str x t) (.str y u)) Q E s:=by
 rw[BB]at h
 refine PySem.P.add_str ?_
 split
 ·rename_i hx
  show Q (.str y _) s
  rw[show x++y=y by rw[rY (eq_of_beq hx),Str.empty_append]]at h
  exact h.here s.toks (bO _ _)
 ·split
  ·rename_i hy
   show Q (.str x _) s
   rw[show x++y=x by rw[rY (eq_of_beq hy),Str.append_empty]]at h
   exact h.here s.toks (bO _ _)
  ·exact⟨by rw[Str.length_append];exact cy q,h.here _ (bO _ _)⟩
theorem BC (G:Good cx g V s.heap k) {a b:Value}{l m:List PyData}{Q:Value→Shared→Prop}(ra:Rep cx g V s.heap a (.py (.list l))) (rb:Rep cx g V s.heap b (.py (.list m))) (q:sm (l.length+m.length)=true) (h:Pu cx g V s Q (.py (.list (l++m)))):wpAny (model cx.prog cx.w) A (binaryOp .Add a b) Q E s:=by
 obtain⟨_,ra⟩:=ra;obtain⟨_,rb⟩:=rb
 obtain⟨x,o,vs,n,bs,rfl,e1,e2,e3,ra⟩:=de ra
 obtain⟨y,o',ws,n',bs',rfl,e1',e2',e3',rb⟩:=de rb
 obtain⟨cs,z⟩:=dr ra rb
 have h1:=of_hideAll V e1
 have h2:=of_hideAll V e1'
 obtain⟨cls,dd,data,sl⟩:=o
 obtain⟨cls2,dd2,data2,sl2⟩:=o'
 cases e2;cases e3;cases e2';cases e3'
 have l1:=readsAll_len ra
 have l2:=readsAll_len rb
 rw[Array.length_toList]at l1 l2
 refine concat_meets ⟨_,h1,rfl⟩ ⟨_,h2,rfl⟩ noFill_list_add seq_list_add PySem.F.slot_list_add PySem.F.entry_list_add (PySem.F.args_list_add_2 _ _) (list_addW x y vs ws n n' dd dd2 sl sl2 (by rw[l1,l2];exact cy q)) ⟨h1,h2,?_⟩
 exact h _ _ _ (.push _ _) (G.newList (.push _ _) (G.fresh (Nat.le_refl _)) (Heap.get?_push_size _ rfl) rfl rfl (by rw[Array.toList_append];exact z))
theorem Ft (G:Good cx g V s.heap k) {a b:Value}{d1 d2 d:D}{Q:Value→Shared→Prop}(ra:Rep cx g V s.heap a d1) (rb:Rep cx g V s.heap b d2) (e:Fu d1 d2=some d)
 (h:Pu cx g V s Q d):wpAny (model cx.prog cx.w) A (binaryOp .Add a b) Q E s:=by
 unfold Fu at e
 induction e1:intD d1 using Option.casesOn with
 |some i =>
  rw[e1]at e
  obtain⟨j,e2,e⟩:=Option.bind_eq_some_iff.mp e
  obtain rfl:=bn e1;obtain rfl:=bn e2;obtain rfl:=si e
  obtain⟨_,rfl⟩:=au ra;obtain⟨_,rfl⟩:=au rb
  exact PySem.P.add_int (h.here _ (ck _ _))
 |none =>
  rw[e1]at e
  induction e3:fM d1 using Option.casesOn with
  |some x =>
   rw[e3]at e
   obtain⟨y,e2,e⟩:=Option.bind_eq_some_iff.mp e
   obtain rfl:=bD e3;obtain rfl:=bD e2
   obtain⟨q,rfl⟩:=aP e
   obtain⟨_,rfl⟩:=av ra;obtain⟨_,rfl⟩:=av rb
   exact Fh q h
  |none =>
   rw[e3]at e
   obtain⟨x,e4,e⟩:=Option.bind_eq_some_iff.mp e
   obtain⟨y,e5,e⟩:=Option.bind_eq_some_iff.mp e
   obtain rfl:=iq e4;obtain rfl:=iq e5
   obtain⟨q,rfl⟩:=aP e
   exact BC G ra rb q h
theorem mG {f:Int→Int→Option D}{a b d:D}(e:ET f a b=some d):∃ i j,a=.py (.int i)∧b=.py (.int j)∧f i j=some d:=by
 obtain⟨i,e1,e⟩:=Option.bind_eq_some_iff.mp e
 obtain⟨j,e2,e⟩:=Option.bind_eq_some_iff.mp e
 exact⟨i,j,bn e1,bn e2,e⟩
theorem Fo (G:Good cx g V s.heap k) {op:Operator}{a b:Value}{d1 d2 d:D}{Q:Value→Shared→Prop}(ra:Rep cx g V s.heap a d1) (rb:Rep cx g V s.heap b d2) (e:aK op d1 d2=some d)
 (h:Pu cx g V s Q d):wpAny (model cx.prog cx.w) A (binaryOp op a b) Q E s:=by
 induction op using Operator.casesOn with
 |Add=>exact Ft G ra rb e h
 |Sub =>
  obtain⟨i,j,rfl,rfl,e⟩:=mG e
  obtain rfl:=si e
  obtain⟨_,rfl⟩:=au ra;obtain⟨_,rfl⟩:=au rb
  exact PySem.P.sub_int (h.here _ (ck _ _))
 |Mult =>
  obtain⟨i,j,rfl,rfl,e⟩:=mG e
  obtain⟨q,rfl⟩:=aP e
  obtain⟨_,rfl⟩:=au ra;obtain⟨_,rfl⟩:=au rb
  have q1:=dK (Bool.and_eq_true_iff.mp q).1
  have q2:=dK (Bool.and_eq_true_iff.mp q).2
  exact PySem.P.mul_int (h.here _ (ck _ _)) (.of_left (intBits_le_64 (by omega) (by omega)))
 |_=>first | exact nn e | exact ft e | exact on e | exact oe e | cases e
theorem Good.Xh (G:Good cx g V s.heap k):cx.K.In (hideAll s.heap V):=fun a o e=>hideAll_get V (G.X a o e) fun m=>by
 have:=cx.X a o e
 rw[G.V0 a m]at this
 injection this
theorem kX {h:Heap}{f:Value→Option PyData}:∀{vs:List Value}{l:List PyData},vs.mapM f=some l→(∀ v∈vs,∀ p,f v=some p→∃ as,Reads h v p as)→∃ as,ReadsAll h vs l as
 |[],l,e,_=>by simp at e;subst e;exact⟨_,.nil⟩
 |v::vs,l,e,hf=>by
  rw[List.mapM_cons]at e
  obtain⟨p,e1,e⟩:=Option.bind_eq_some_iff.mp e
  obtain⟨ps,e2,e⟩:=Option.bind_eq_some_iff.mp e
  obtain rfl:=si e
  obtain⟨as,r⟩:=hf v (.head _) p e1
  obtain⟨bs,rs⟩:=kX e2 fun w hw=>hf w (.tail _ hw)
  exact⟨_,.cons r rs⟩
theorem sI {n:String}{v:Value}(h:A8 n v=true):v=.type n:=by
 unfold A8 at h
 induction v using Value.casesOn with
 |type m=>obtain rfl:=eq_of_beq (show(m==n)=true from h);rfl
 |_=>exact ft h
theorem AH {d:Data}{vs:Array Value}(h:GD d=some vs):∃ n,d=.seq vs n:=by
 induction d using Data.casesOn with
 |seq x n=>exact⟨n,congrArg (Data.seq · n) (si h)⟩
 |_=>exact nn h
theorem sV {h:Heap}{v:Value}{p:PyData}(e:Ff v=some p):∃ as,Reads h v p as:=by
 induction v using Value.casesOn with
 |none=>exact si e▸⟨_,.none⟩
 |bool b=>exact si e▸⟨_,.bool b⟩
 |int i t=>exact si e▸⟨_,.int i t⟩
 |str x t=>exact si e▸⟨_,.str x t⟩
 |_=>exact nn e
theorem Bv {K:Frag}{h:Heap}(X:K.In h):∀(n:Nat) (v:Value) (p:PyData),yQ K n v=some p→∃ as,Reads h v p as:=by
 intro n
 induction n with
 |zero=>exact fun v p e=>sV e
 |succ n ih =>
  intro v p e
  unfold yQ at e
  induction hv:tT v using Option.casesOn with
  |none=>rw[hv]at e;exact sV e
  |some a =>
   rw[hv]at e
   refine az e fun o q e=>?_
   obtain⟨ht,e⟩:=eX e
   refine az e fun vs hs e=>cA e fun l e' ep=>?_
   obtain⟨nn,hs⟩:=AH hs
   obtain⟨as,r⟩:=kX e' fun w _ p e=>ih w p e
   exact ep▸iL hv▸⟨_,reads_tuple_at (X _ _ q) (sI ht) hs r⟩
theorem i0 (G:Good cx g V s.heap k) (v:Value):Rep cx g V s.heap v (hY cx.K v):=by
 unfold hY
 induction e:yQ cx.K 4 v using Option.casesOn with
 |some p=>exact Bv G.Xh 4 v p e
 |none=>rfl
noncomputable abbrev fO:=qG
theorem bW {sl:Expr}(h:fO sl=true) (o i:Value):subscripted sl false o i=operate [o,i] (getItem o i):=by
 induction sl using Expr.casesOn<;>first | rfl | exact ft h
theorem iH {j n:Nat}(h:j<n):seqIndex? (Int.ofNat j) n=some j:=by
 have h0:¬ (Int.ofNat j<0):=by simp
 unfold seqIndex?
 simp only[h0,if_false]
 have h1:(decide (0≤Int.ofNat j)&&decide (Int.ofNat j < ↑n))=true:=by simp[h]
 rw[if_pos (by simpa using h1)]
 rfl
theorem fP {d:D}{j:Nat}(h:kI d=some j):d=.py (.int (.ofNat j)):=by
 obtain⟨i,h1,h2⟩:=Option.bind_eq_some_iff.mp h
 obtain rfl:=bn h1
 induction i using Int.casesOn<;>cases h2;rfl
theorem l7 {d:D}{a:Addr}(h:vX d=some a):d=.glob (.ref a):=by
 induction d using D.casesOn<;>try cases h
 rename_i v
 induction v using Value.casesOn<;>cases h;rfl
theorem Ew (j:Nat):-(2 ^ 63)≤Int.ofNat j:=by simp
theorem wk {j:Nat}(q:sm j=true):Int.ofNat j<2 ^ 63:=by have:=dK q;simp;omega
theorem AZ {j:Nat}(q:sm j=true):(decide (Int.ofNat j < -2 ^ 63)||decide (Int.ofNat j≥2 ^ 63))=false:=by have:=dK q;simp;omega
theorem pJ {value slice:Expr}(hs:fO slice=true) {a:Addr}{o:Obj}{vs:List Value}{n:Nat}{j:Nat}{t:Tok}{v:Value}{Q:Value→Shared→Prop}(e1:s.heap.get? a=some o) (e2:o.cls=.type "list") (e3:o.data=.seq vs.toArray n) (q:sm j=true) (hv:vs[j]?=some v)
 (h:Q v s):wpAny (model cx.prog cx.w) A (subscriptTail value slice (.ref a) (.int (Int.ofNat j) t)) Q E s:=by
 have hl:=bE e1 e2 e3
 exact tail_any hl.typeIs slot_list_getitem.lookup (wpAny_getItem_list hl (by simp) (wk q) (by simpa using hv) h) (bW hs _ _)
theorem w7 {value slice:Expr}(hs:fO slice=true) {a:Value}{t:Tok}{d1 d:D}{j:Nat}{Q:Value→Shared→Prop}(ra:Rep cx g V s.heap a d1) (q:sm j=true) (e:Cz d1 j=some d) (h:Pu cx g V s Q d):wpAny (model cx.prog cx.w) A (subscriptTail value slice a (.int (Int.ofNat j) t)) Q E s:=by
 induction d1 using D.casesOn<;>try cases e
 case py p =>
  obtain⟨_,ra⟩:=ra
  induction p using PyData.casesOn<;>try cases e
  case tuple l =>
   obtain⟨p,e',rfl⟩:=Option.map_eq_some_iff.mp e
   obtain⟨x,o,vs,n,bs,rfl,e1,e2,e3,ra⟩:=dZ ra
   obtain⟨v,cs,hv,rv⟩:=cz ra e'
   exact item_tupleT (l:=vs.toList) (dE (of_hideAll V e1) e2 (by simpa using e3)) (Ew j) (wk q) (iH (List.getElem?_eq_some_iff.mp hv).1) hv (h.here s.toks ⟨_,rv⟩) (bW hs _ _)
  case list l =>
   obtain⟨p,e',rfl⟩:=Option.map_eq_some_iff.mp e
   obtain⟨x,o,vs,n,bs,rfl,e1,e2,e3,ra⟩:=de ra
   obtain⟨v,cs,hv,rv⟩:=cz ra e'
   exact pJ hs (of_hideAll V e1) e2 (vs:=vs.toList) e3 q hv (h.here s.toks ⟨_,rv⟩)
  case str x =>
   obtain⟨c,e',rfl⟩:=Option.map_eq_some_iff.mp e
   cases ra
   have hlt:=(List.getElem?_eq_some_iff.mp e').1
   rw[Array.length_toList]at hlt
   refine tail_any (typeIs_str s _ _) PySem.F.slot_str_getitem.lookup (PySem.P.getItem_str (c:=c) (AZ q) ?_ (h.here _ (bO _ _))) (bW hs _ _)
   rw[iH (n:=Str.length _) hlt]
   simpa using e'
 case toks l =>
  obtain⟨p,e',rfl⟩:=Option.map_eq_some_iff.mp e
  obtain⟨x,vs,rfl,⟨o,n,e1,e2,e3⟩,ra⟩:=ra
  obtain⟨v,hv,rv⟩:=TokAll.get ra e'
  exact pJ hs (of_hideAll V e1) e2 e3 q hv (h.here s.toks rv)
theorem sH (hd:∀ a∈cx.dl,jC cx a) (G:Good cx g V s.heap k) {value slice:Expr}(hs:fO slice=true) {a b:Value}{d1 d2 d:D}{Q:Value→Shared→Prop}(ra:Rep cx g V s.heap a d1) (rb:Rep cx g V s.heap b d2) (e:ah cx.K cx.dl d1 d2=some d)
 (h:Pu cx g V s Q d):wpAny (model cx.prog cx.w) A (subscriptTail value slice a b) Q E s:=by
 unfold ah at e
 induction en:kI d2 using Option.casesOn with
 |some j =>
  rw[en]at e
  obtain rfl:=fP en
  obtain⟨_,rfl⟩:=au rb
  obtain⟨q,e⟩:=eX e
  exact w7 hs ra q e h
 |none =>
  rw[en]at e
  obtain⟨x,e1,e⟩:=Option.bind_eq_some_iff.mp e
  obtain⟨c,e2,e⟩:=Option.bind_eq_some_iff.mp e
  obtain⟨o,q,e⟩:=Option.bind_eq_some_iff.mp e
  obtain⟨v,rfl,e⟩:=Option.bind_eq_some_iff.mp e
  obtain rfl:=si e;obtain rfl:=bD e1;obtain rfl:=l7 e2;obtain rfl:=ra
  obtain⟨_,rfl⟩:=av rb
  obtain⟨hm,q⟩:=nu q
  obtain⟨es,n,hl,hk,lo⟩:=hd _ hm
  have hm:=mapOf_K (prog:=cx.prog) G.X hl hk
  exact tail_any hm.typeIs slot_dict_getitem.lookup (wpAny_getItem_of (strKind_is cx.prog cx.w _ _) hm (find_K hl q) (h.here _ (i0 G v))) (bW hs _ _)
theorem sif {α:Type}{m b:Str}{x y:Option α}{r:α}{P:Prop}(e:(if ac m b then x else y)=some r) (w1:m=b→x=some r→P) (w2:y=some r→P):P:=by
 induction hb:ac m b using Bool.casesOn with
 |true=>rw[hb]at e;exact w1 ((ay _ _).mp hb) e
 |false=>rw[hb]at e;exact w2 e
theorem tR {h:Heap}{vs:List Value}{d:D}{P:Prop}(r:RepAll cx g V h vs [d]) (w:∀ v,vs=[v]→Rep cx g V h v d→P):P:=by
 induction vs using List.casesOn with
 |nil=>exact r.elim
 |cons v vs=>induction vs using List.casesOn with
  |nil=>exact w v rfl r.1
  |cons=>exact r.2.elim
theorem HI {h:Heap}{vs:List Value}{d e:D}{P:Prop}(r:RepAll cx g V h vs [d,e]) (w:∀ v u,vs=[v,u]→Rep cx g V h v d→Rep cx g V h u e→P):P:=by
 induction vs using List.casesOn with
 |nil=>exact r.elim
 |cons v vs=>induction vs using List.casesOn with
  |nil=>exact r.2.elim
  |cons u vs=>induction vs using List.casesOn with
   |nil=>exact w v u rfl r.1 r.2.1
   |cons=>exact r.2.2.elim
end
structure KF (cx:Sx):Prop where
 tabU:∀ t∈cx.tabs,∀ t'∈cx.tabs,t.1=t'.1→t=t'
 dict:∀ a∈cx.dl,jC cx a
 rG:∀ x,plainGet cx.K cx.rc x=true
 rD:hasDictIn cx.K cx.rc=true
 rAt:findIn cx.K (.ref cx.rc) "at"=some none
 rTk:findIn cx.K (.ref cx.rc) "tokens"=some none
 rS:findIn cx.K (.ref cx.rc) "__setattr__"=some (some (.builtin "object.__setattr__"))
 rO:plainOver cx.K cx.rc=true
 rT:takerIn cx.K cx.rc "at"=some none
 tG:∀ x,plainGet cx.K cx.tc x=true
 tD:hasDictIn cx.K cx.tc=true
 tK:findIn cx.K (.ref cx.tc) "kind"=some none
 tW:findIn cx.K (.ref cx.tc) "worth"=some none
 tA:findIn cx.K (.ref cx.tc) "at"=some none
section
variable {cx:Sx}{g:Gh}{V:List Addr}{k:Nat}{s:Shared}{A:Around}{E:Value→Shared→Prop}
theorem fV {x C dx:Addr}{es:List DictEntry}{n:Nat}{name:Str}{v:Value}{expr:Bool}{Q:Value→Shared→Prop}(X:cx.K.In s.heap) (h1:s.heap.get? x=some (instObj C dx)) (h2:s.heap.get? dx=some (dictOf es n))
 (hg:plainGet cx.K C name=true) (hh:hasDictIn cx.K C=true) (ha:findIn cx.K (.ref C) name=some none) (hl:getL name es=some (some v)) (hv:handedIn v=true) (h:Q v {s with toks:=s.toks+1}) :
 wpAny (model cx.prog cx.w) A (getAttr (.ref x) name expr) Q E s :=
 get_value X (od:=some (dictOf es n)) ⟨h1,rfl,rfl,h2⟩ (plainGet_of hg).1 (findObj_own hh ha rfl hl) hv h
theorem BM (F:KF cx) (G:Good cx g V s.heap k) {v:Value}{d r:D}{name:Str}{expr:Bool}{Q:Value→Shared→Prop}(rv:Rep cx g V s.heap v d) (e:gP g.toks name d k=some r) (h:Pu cx g V s Q r) :
 wpAny (model cx.prog cx.w) A (getAttr v name expr) Q E s:=by
 induction d using D.casesOn with
 |rdr =>
  obtain⟨hr,ev⟩:=rv
  obtain⟨h1,⟨tk,t1,t2,t3,t4,a1,a2,n,h2⟩,vs,hl⟩:=G.rd hr
  have h1:=of_hideAll V h1
  rw[ev]
  refine sif e (fun q e=>?_) fun e=>sif e (fun q e=>?_) nn
  ·rw[q];exact fV G.X h1 h2 (F.rG _) F.rD F.rAt rfl rfl (h.here _ (si e▸ck _ _))
  ·rw[q];exact fV G.X h1 h2 (F.rG _) F.rD F.rTk rfl rfl (h.here _ (si e▸⟨_,vs,rfl,hl.1,hl.2⟩))
 |tok =>
  obtain⟨x,dx,es,n,t1,t2,va,ev,h1,h2,k1,k2,k3,k4⟩:=rv
  have h1:=of_hideAll V h1
  have h2:=of_hideAll V h2
  rw[ev]
  refine sif e (fun q e=>?_) fun e=>sif e (fun q e=>?_) nn
  ·rw[q];exact fV G.X h1 h2 (F.tG _) F.tD F.tK k1 rfl (h.here _ (si e▸bO _ _))
  ·rw[q];exact fV G.X h1 h2 (F.tG _) F.tD F.tW k2 rfl (h.here _ (si e▸bO _ _))
 |_=>exact nn e
noncomputable def LstAt (V:List Addr) (h:Heap) (v:Value) (l:List PyData):Prop:=∃ a vs as,v=.ref a∧h.IsList a vs∧ReadsAll (hideAll h V) vs.toList l as
theorem n3 {h:Heap}{v:Value}{d:D}{l:List PyData}(rv:Rep cx g V h v d) (e:IN d=some l):LstAt V h v l:=by
 induction d using D.casesOn with
 |py p =>
  obtain rfl:=jK e
  obtain⟨a,o,vs,n,bs,ev,e1,e2,e3,r⟩:=eK rv
  exact⟨a,vs,bs,ev,bE (of_hideAll V e1) e2 e3,r⟩
 |bl l' =>
  obtain rfl:=si e
  obtain⟨a,vs,n,as,ev,_,ha,r⟩:=rv
  exact⟨a,vs,as,ev,bE ha rfl rfl,r⟩
 |_=>exact nn e
theorem iG {n m:Nat}(h:smO n=some m):sm n=true∧n=m:=aP h
theorem sB {v:Value}{l:List PyData}{n:Nat}{Q:Value→Shared→Prop}(r:LstAt V s.heap v l) (e:smO l.length=some n) (h:Pu cx g V s Q (.py (.int n))):wpAny (model cx.prog cx.w) A (call (.builtin "len") [v]) Q E s:=by
 obtain⟨a,vs,as,ev,hl,ra⟩:=r
 obtain⟨q,en⟩:=iG e
 have:=readsAll_len ra;rw[Array.length_toList]at this
 rw[ev]
 exact call_len_list hl (by rw[this];exact oZ q) (by rw[this,en];exact h.here _ (ck _ _))
theorem EK {v:Value}{d:D}{n:Nat}{Q:Value→Shared→Prop}(rv:Rep cx g V s.heap v d) (e:uk d=some n) (h:Pu cx g V s Q (.py (.int n))):wpAny (model cx.prog cx.w) A (call (.builtin "len") [v]) Q E s:=by
 induction d using D.casesOn with
 |py p=>induction p using PyData.casesOn with
  |str x =>
   obtain⟨t,ev⟩:=av rv
   obtain⟨q,en⟩:=iG e
   obtain rfl:=en
   rw[ev]
   exact PySem.P.len_str (vE q) (h.here _ (ck _ _))
  |list l=>exact sB (n3 rv rfl) e h
  |tuple l =>
   obtain⟨a,o,vs,m,bs,ev,e1,e2,e3,r⟩:=eK rv
   obtain⟨q,en⟩:=iG e
   have:=readsAll_len r;rw[Array.length_toList]at this
   rw[ev]
   exact PyProof.Rows.len_tuple (dE (of_hideAll V e1) e2 e3) (by rw[this];exact oZ q) (by rw[this,en];exact h.here _ (ck _ _))
  |_=>exact nn e
 |bl l=>exact sB (n3 rv rfl) e h
 |toks l =>
  obtain⟨a,vs,ev,⟨o,m,e1,e2,e3⟩,r⟩:=rv
  obtain⟨q,en⟩:=iG e
  have:=TokAll.length r
  rw[ev]
  exact call_len_list (bE (of_hideAll V e1) e2 e3) (by rw[List.size_toArray,this];exact oZ q) (by rw[List.size_toArray,this,en];exact h.here _ (ck _ _))
 |_=>exact nn e
theorem eif {α:Type}{m b:String}{x y:Option α}{r:α}{P:Prop}(e:(if m==b then x else y)=some r) (w1:m=b→x=some r→P) (w2:y=some r→P):P:=by
 induction hb:m==b using Bool.casesOn with
 |true=>rw[hb]at e;exact w1 (eq_of_beq hb) e
 |false=>rw[hb]at e;exact w2 e
theorem rJ {f:String}{vs:List Value}{ds:List D}{r:D}{Q:Value→Shared→Prop}(rv:RepAll cx g V s.heap vs ds) (e:aS f ds=some r) (h:Pu cx g V s Q r):wpAny (model cx.prog cx.w) A (call (.builtin f) vs) Q E s:=by
 refine az e fun d hd e=>?_
 obtain rfl:=bB hd
 refine tR rv fun v ev rv1=>?_
 rw[ev]
 refine eif e (fun q e=>?_) fun e=>eif e (fun q e=>?_) nn
 ·rw[q];exact cA e fun n e' er=>EK rv1 e' (er▸h)
 ·rw[q]
  refine cA e fun i hi er=>?_
  obtain⟨t,ev1⟩:=au (bL (bn hi) rv1)
  rw[ev1]
  exact call_abs_int fun u tk=>h.here tk (er▸ck _ _)
theorem uT (G:Good cx g V s.heap k) {v:Value}{l:List PyData}{Q:Value→Shared→Prop}(r:LstAt V s.heap v l) (q:sm l.length=true) (h:Pu cx g V s Q (.py (.tuple l))):wpAny (model cx.prog cx.w) A (call (.type "tuple") [v]) Q E s:=by
 obtain⟨a,vs,as,ev,hl,ra⟩:=r
 have:=readsAll_len ra;rw[Array.length_toList]at this
 rw[ev]
 refine call_tuple_list hl (fun h' hk=>?_) (by rw[this];exact cy q)
 have hk':Keeps' s.heap (h'.push {cls:=.type "tuple",data:=.seq vs}):=fun b o e=>Heap.get?_push_of_some _ (hk b o e)
 exact h _ _ _ hk' (G.newTup hk' (G.fresh' hk) (Heap.get?_push_size _ rfl) rfl rfl ra)
theorem uS (G:Good cx g V s.heap k) {f:String}{v:Value}{d:D}{r:D}{Q:Value→Shared→Prop}(rv:Rep cx g V s.heap v d) (e:uR f d=some r) (h:Pu cx g V s Q r):wpAny (model cx.prog cx.w) A (call (.type f) [v]) Q E s:=by
 refine eif e (fun q e=>?_) fun e=>eif e (fun q e=>?_) fun e=>eif e (fun q e=>?_) fun e=>eif e (fun q e=>?_) nn
 ·rw[q]
  refine az e fun l hl e=>?_
  obtain⟨hs,er⟩:=aP e
  exact uT G (n3 rv hl) hs (er▸h)
 ·rw[q]
  refine az e fun l hl e=>?_
  obtain⟨hs,er⟩:=aP e
  obtain⟨a,o,vs,n,bs,ev,e1,e2,e3,ra⟩:=eK (bL (gT hl) rv)
  have:=readsAll_len ra;rw[Array.length_toList]at this
  rw[ev]
  exact call_list_seq a (.inr rfl) (of_hideAll V e1) e2 e3 (fun h' c hk hx=>h _ _ _ hk (er▸G.newList hk (G.fresh (Nat.le_refl _)) hx rfl rfl ra)) (by rw[this];exact cy hs)
 ·rw[q]
  refine az e fun i hi e=>?_
  obtain⟨hs,er⟩:=aP e
  obtain⟨t,ev⟩:=au (bL (bn hi) rv)
  have:=dK hs
  rw[ev]
  exact PySem.P.str_of_int (by exact shown_abs (N:=100001) (by split<;>omega) (by decide +kernel)) (h.here _ (er▸bO _ _))
 ·rw[q]
  refine cA e fun i hi er=>?_
  obtain⟨t,ev⟩:=au (bL (bn hi) rv)
  rw[ev]
  exact call_range_1 (h _ _ _ (.push _ _) (er▸⟨_,_,_,_,rfl,hideAll_get V (Heap.get?_push_size _ rfl) (G.fresh (Nat.le_refl _))⟩))
theorem zj (G:Good cx g V s.heap k) {f:String}{vs:List Value}{ds:List D}{r:D}{Q:Value→Shared→Prop}(rv:RepAll cx g V s.heap vs ds) (e:gj f ds=some r) (h:Pu cx g V s Q r):wpAny (model cx.prog cx.w) A (call (.type f) vs) Q E s:=by
 unfold gj at e
 induction hd:one ds using Option.casesOn with
 |some d =>
  rw[hd]at e
  obtain rfl:=bB hd
  exact tR rv fun v ev rv1=>ev▸uS G rv1 e h
 |none =>
  rw[hd]at e
  refine eif e (fun q e=>?_) nn
  refine az e fun p hp e=>az e fun a ha e=>cA e fun b hb er=>?_
  obtain rfl:=oK hp
  refine HI rv fun v v' evs r1 r2=>?_
  obtain⟨t,e1⟩:=au (bL (bn ha) r1)
  obtain⟨u,e2⟩:=au (bL (bn hb) r2)
  rw[evs,q,e1,e2]
  exact call_range_2 (h _ _ _ (.push _ _) (er▸⟨_,_,_,_,rfl,hideAll_get V (Heap.get?_push_size _ rfl) (G.fresh (Nat.le_refl _))⟩))
theorem eZ {l:List Env}{M:Model}{t:Sem Value}{o:Option D}{Q:Value→Shared→Prop}(ht:1≤s.toks) (G:Good cx g V s.heap k) (hp:PO cx g V l (Rep cx g V) (ofO o k) s Q E)
 (h:∀ d Q' E',o=some d→Pu cx g V s Q' d→wpAny M A t Q' E' s):wpAny M A t Q E s:=by
 refine wpAny_with_toks ht ?_
 induction o using Option.casesOn with
 |none=>exact hp.elim
 |some d=>exact h d (fun v s'=>1≤s'.toks→Q v s') _ rfl fun h' tk v x r ht'=>hp h' tk v ht' x.ext (G.keeps x) r
end
noncomputable def Sx.C (cx:Sx) (g:Gh) (calls:Orc):Cx:=⟨cx.K,cx.rc,cx.rs,cx.dl,cx.tabs,g.toks,g.me,calls⟩
section
variable {cx:Sx}{g:Gh}{V:List Addr}{k:Nat}{s:Shared}{A:Around}{E:Value→Shared→Prop}{calls:Orc}
noncomputable def gi (M:Model) (h:Heap) (f:Value):Prop:=∃ k,(k=Keeper.frame∨k=Keeper.machine∨k=Keeper.boundFrame)∧Looks M h (keeperOf f) k
theorem dj {M:Model}{h:Heap}(b:String):gi M h (.builtin b):=⟨.machine,.inr (.inl rfl),Looks.of_pure rfl⟩
theorem k8 {M:Model}{h:Heap}(b:String):gi M h (.type b):=⟨.machine,.inr (.inl rfl),Looks.of_pure rfl⟩
theorem v8 {P:Params}{TL:Addr}{kk:Nat}{tk t1 t2 t3 t4:Tok}{a1 a2:Addr}{m:Str}(h:(ac m "tokens"||ac m "at"||ac m "named"||ac m "shared")=false):getL m (kA P TL kk tk t1 t2 t3 t4 a1 a2)=some none:=by
 simp only[Bool.or_eq_false_iff]at h
 obtain⟨⟨⟨h1,h2⟩,h3⟩,h4⟩:=h
 have f:∀ x:Str,ac m x=false→(x==m)=false:=fun x e=>beq_eq_false_iff_ne.mpr fun q=>by rw[← q,db]at e;injection e
 unfold getL
 have:(kA P TL kk tk t1 t2 t3 t4 a1 a2).find? (·.key.isStr m)=none:=by
  simp only[kA,List.find?_cons,Value.isStr,f _ h1,f _ h2,f _ h3,f _ h4,List.find?_nil]
 rw[this]
 rfl
theorem pz (F:KF cx) (G:Good cx g V s.heap k) (hr:g.rdr=true) {m:Str}{f:Addr}(e:dR cx.K cx.rc m=some f) {pl:Sem Bool}{Q:Value×List Value→Shared→Prop}(h:Q (.ref f,[.ref g.R]) s) :
 wpAny (model cx.prog cx.w) A (getMethod (.ref g.R) m pl) Q E s:=by
 obtain⟨hn,e⟩:=eX e
 refine az e fun o hf e=>az e fun f' ho e=>?_
 obtain⟨hi,e⟩:=aP e
 obtain rfl:=e
 refine az ho fun v ho ev=>?_
 obtain rfl:=ho;obtain rfl:=iL ev
 obtain⟨h1,⟨tk,t1,t2,t3,t4,a1,a2,n,h2⟩,vs,hl⟩:=G.rd hr
 exact method_fn G.X (od:=some (dictOf _ n)) ⟨of_hideAll V h1,rfl,rfl,h2⟩ (plainGet_of (F.rG m)).1 (plainGet_of (F.rG m)).2 hf (beq_iff_eq.mp hi) (by show(lookIn m (dictOf _ n)).map _=_;rw[lookIn_dict,v8 (qH hn)];rfl) h
theorem ty {m:Str}{fv:Value}{P:Str→Value→Prop}(e:rZ m=some fv) (w1:P "split" (.builtin "str.split")) (w2:P "startswith" (.builtin "str.startswith")) (w3:P "index" (.builtin "str.index")) (w4:P "join" (.builtin "str.join")) (w5:P "isdigit" (.builtin "str.isdigit")):P m fv:=by
 have step:∀{b:Str}{v:Value}{o:Option Value},(if ac m b then some v else o)=some fv→P b v→(o=some fv→P m fv)→P m fv:=fun {b v o} e w1 w2=>by
  induction hb:ac m b using Bool.casesOn with
  |true=>rw[hb]at e;rw[← si e,(ay _ _).mp hb];exact w1
  |false=>rw[hb]at e;exact w2 e
 exact step e w1 fun e=>step e w2 fun e=>step e w3 fun e=>step e w4 fun e=>step e w5 fun e=>nn e
theorem mu {c:Cx}{d:D}{m:Str}{v:Value}{P:Prop}(h:sx c d m=some v) (w1:d=.rdr→(∀ f,dR c.K c.rc m=some f→keepIn c.K (.ref f)=true→v=.ref f→P)) (w2:∀ x,d=.py (.str x)→rZ m=some v→P) (w3:∀ a,d=.glob (.ref a)→m="get"→c.dl.contains a=true→v=.builtin "dict.get"→P):P:=by
 induction d using D.casesOn with
 |rdr=>exact az h fun f hf e=>w1 rfl f hf (aP e).1 (aP e).2.symm
 |py p=>induction p using PyData.casesOn with
  |str x=>exact w2 x rfl h
  |_=>exact nn h
 |glob u=>induction u using Value.casesOn with
  |ref a =>
   obtain⟨q,e⟩:=aP (show(if ac m "get"&&c.dl.contains a then some (Value.builtin "dict.get")else none)=some v from h)
   exact w3 a rfl ((ay _ _).mp (am q).1) (am q).2 e.symm
  |_=>exact nn h
 |_=>exact nn h
theorem wz (F:KF cx) (G:Good cx g V s.heap k) {v:Value}{d:D}{m:Str}{fv:Value}(rv:Rep cx g V s.heap v d) (e:sx (cx.C g calls) d m=some fv) {pl:Sem Bool}{Q:Value×List Value→Shared→Prop}
 (h:(∀ h',cx.K.In h'→gi (model cx.prog cx.w) h' fv)→Q (fv,[v]) s):wpAny (model cx.prog cx.w) A (getMethod v m pl) Q E s:=by
 refine mu e (fun ed f hf q ef=>?_) (fun x ed e=>?_) fun a ed em q ef=>?_
 ·obtain rfl:=ed;obtain rfl:=ef
  obtain⟨hr,e⟩:=rv
  rw[e]at h ⊢
  exact pz F G hr hf (h fun h' X=>keeps_K q h' X)
 ·obtain rfl:=ed
  obtain⟨_,ev⟩:=av rv
  rw[ev]at h ⊢
  exact ty (P:=fun m fv=>((∀ h',cx.K.In h'→gi (model cx.prog cx.w) h' fv)→Q (fv,_) s)→wpAny (model cx.prog cx.w) A (getMethod _ m pl) Q E s) e (fun h=>GM.split (h fun _ _=>dj _)) (fun h=>GM.startswith (h fun _ _=>dj _)) (fun h=>GM.index (h fun _ _=>dj _))
   (fun h=>GM.join (h fun _ _=>dj _)) (fun h=>GM.isdigit (h fun _ _=>dj _)) h
 ·obtain rfl:=ed;obtain rfl:=ef;obtain rfl:=em
  obtain rfl:=(show v=.ref a from rv)
  obtain⟨es,n,hl,hk,lo⟩:=F.dict a (List.contains_iff_mem.mp q)
  have hm:=mapOf_K (prog:=cx.prog) G.X hl hk
  exact getMethod_builtin hm.typeIs PySem.F.plainAttrs_dict PySem.F.slot_dict_get PySem.F.type_dict_get hm.noDict (h fun _ _=>dj _)
theorem lq (F:KF cx) (G:Good cx g V s.heap k) {a:Addr}{x:Str}{t:Tok}{z:Value}{r:Option Value}{Q:Value→Shared→Prop}(e:nsD cx.K cx.dl a x=some r) (h:Q (r.getD z) {s with toks:=s.toks+1}) :
 wpAny (model cx.prog cx.w) A (call (.builtin "dict.get") [.ref a,.str x t,z]) Q E s:=by
 obtain⟨hm,e'⟩:=nu e
 obtain⟨es,n,hl,hk,lo⟩:=F.dict _ hm
 have hM:=mapOf_K (prog:=cx.prog) G.X hl hk
 refine call_meetsIn PySem.F.slot_dict_get hM.typeIs PySem.F.entry_dict_get (PySem.F.args_dict_get_3 _ _ _) (meets_dict_get_default _ a (strKind_is cx.prog cx.w x t) lo z) ⟨_,hM,?_⟩
 rw[find_K hl e']
 exact h
theorem fK {l:List PyData}{h:Heap}{vs:List Value}{as:List Addr}{ss:List Str}(r:ReadsAll h vs l as) (e:cG l=some ss):∃ q:List (Str×Tok),vs=strValues q∧q.map (·.1)=ss:=by
 have hs:=eT r e
 clear r e
 induction hs with
 |nil=>exact⟨[],rfl,rfl⟩
 |cons x t _ ih=>obtain⟨q,e1,e2⟩:=ih;exact⟨(x,t)::q,by rw[e1];rfl,by simp[e2]⟩
theorem hU (h:Heap):∀ l:List (Str×Tok),ReadsAll h (strValues l) ((l.map (·.1)).map PyData.str) []
 |[]=>.nil
 |p::r=>.cons (as:=[]) (.str p.1 p.2) (hU h r)
theorem vC (G:Good cx g V s.heap k) {x y:Str}{t u:Tok}{Q:Value→Shared→Prop}(hy:y.length≠0) (hx:sm x.length=true) (h:Pu cx g V s Q (.py (.list ((Txt.split x y).map .str)))) :
 wpAny (model cx.prog cx.w) A (call (.builtin "str.split") [.str x t,.str y u]) Q E s:=by
 have hx:=dK hx
 have hL:(100000:Nat)+2≤sizeLine:=by decide
 have fin:∀(l:List (Str×Tok)) tk,l.map (·.1)=Txt.split x y→Q (.ref s.heap.objs.size) {s with heap:=s.heap.push {cls:=.type "list",data:=.seq (strValues l).toArray},toks:=tk}:=fun l tk e =>
  h _ _ _ (.push _ _) (G.newList (.push _ _) (G.fresh (Nat.le_refl _)) (Heap.get?_push_size _ rfl) rfl rfl (by rw[← e];exact hU _ l))
 have hn:(partsBetween x (occurrences x y 0 x.length (x.length+1)) y.length).length≤sizeLine:=by
  have e1:=StrLaws.occ_length_le x y 0 x.length (x.length+1)
  rw[length_partsBetween];omega
 have hy':(y.length==0)=false:=by simpa using hy
 induction h1:(decide (x.length<y.length)||decide (strKind x<strKind y))using Bool.casesOn
 ·induction hf:(occurrences x y 0 x.length (x.length+1)).isEmpty using Bool.casesOn
  ·refine call_meets PySem.F.slot_str_split (typeIs_str _ _ _) PySem.F.entry_str_split (PySem.F.args_str_split_2 _ _) (meets_str_split_sep x y t u h1 hy' hf (by omega) hn) ?_
   show wants Q E _ {s with toks:=_,heap:=s.heap.push {cls:=.type "list",data:=.seq (strsFrom s.toks (partsBetween x (occurrences x y 0 x.length (x.length+1)) y.length)).toArray}}
   rw[strsFrom_eq]
   exact fin (numbered s.toks _) _ ((numbered_texts _ _).trans ((if_neg (ne_true_of_eq_false h1)).trans (if_neg (ne_true_of_eq_false hf))).symm)
  ·exact call_meets PySem.F.slot_str_split (typeIs_str _ _ _) PySem.F.entry_str_split (PySem.F.args_str_split_2 _ _) (meets_str_split_not_found x y t u h1 hy' hf)
    (fin [(x,t)] s.toks ((if_neg (ne_true_of_eq_false h1)).trans (if_pos hf)).symm)
 ·exact call_meets PySem.F.slot_str_split (typeIs_str _ _ _) PySem.F.entry_str_split (PySem.F.args_str_split_2 _ _) (meets_str_split_cannot_occur x y t u h1)
   (fin [(x,t)] s.toks (if_pos h1).symm)
theorem zr (G:Good cx g V s.heap k) {x:Str}{t:Tok}{m:Str}{fv:Value}{vs:List Value}{ds:List D}{r:D}{Q:Value→Shared→Prop}(hm:rZ m=some fv) (rv:RepAll cx g V s.heap vs ds)
 (e:oS x m ds=some r) (h:Pu cx g V s Q r):wpAny (model cx.prog cx.w) A (call fv (.str x t::vs)) Q E s:=by
 induction ds using List.casesOn with
 |nil =>
  match vs,rv with
  |[],_ =>
  refine sif e (fun em e=>?_) nn
  obtain rfl:=em;obtain rfl:=si hm;obtain rfl:=si e
  exact SC.isdigit (h.here s.toks (gw _))
 |cons a rest =>
  obtain⟨hr,e⟩:=eX e
  induction rest using List.casesOn with
  |cons=>exact ft hr
  |nil =>
  refine tR rv fun v ev rv1=>?_
  obtain rfl:=ev
  replace e:vz x m a=some r:=e
  unfold vz at e
  induction hs:fM a using Option.casesOn with
  |some y =>
   rw[hs]at e
   obtain⟨_,ev⟩:=av (bL (bD hs) rv1)
   rw[ev]
   refine sif e (fun em e=>?_) fun e=>sif e (fun em e=>?_) fun e=>sif e (fun em e=>?_) nn
   ·obtain rfl:=em;obtain rfl:=si hm
    obtain⟨q,e⟩:=aP e
    obtain rfl:=e
    exact vC G (bne_iff_ne.mp (am (am q).1).1) (am (am q).1).2 h
   ·obtain rfl:=em;obtain rfl:=si hm;obtain rfl:=si e
    exact SC.startswith (h.here s.toks (gw _))
   ·obtain rfl:=em;obtain rfl:=si hm
    refine cA e fun i ho e=>?_
    obtain rfl:=e
    obtain⟨l,ho⟩:=List.head?_eq_some_iff.mp ho
    exact SC.index ho (h.here _ (ck _ _))
  |none =>
   rw[hs]at e
   refine az e fun l hl e=>sif e (fun em e=>?_) nn
   obtain rfl:=em;obtain rfl:=si hm
   refine az e fun ss e1 e=>?_
   obtain⟨q,e⟩:=aP e
   obtain rfl:=e
   rw[pH]at h
   obtain⟨a,o,vs,n,bs,e0,h1,h2,h3,rl⟩:=eK (bL (iq hl) rv1)
   obtain⟨ql,hq,e2⟩:=fK rl e1
   rw[e0]
   exact SC.join (l:=ql) (bE (of_hideAll V h1) h2 (by rw[h3,← hq])) e2 q fun t' k=>h.here _ (bO _ _)
end
end Mine
end
section
namespace Mine
open PySem PySem.W PySem.Spec PySem.Calls PyProof.Rows
theorem gO {fd:FuncData}{as:List Arg}{kd:List (Option Expr)}{df:List Expr}(hp:fd.params=⟨[],as,none,[],kd,none,df⟩) (vals:List Value) (hlen:vals.length≤as.length) {M:Model}{A:Around}{E:Value→Shared→Prop}{s:Shared}
 {Q:List (Str×Value)→Shared→Prop}{dvs:List Value}(hd:∀(Q:Option (Array Value)→Shared→Prop),(∀ o:Option (Array Value),(o.getD #[]).toList=dvs→Q o s)→wpAny M A (seqItems? fd.defaults) Q E s)
 (hm:(((as.map (·.arg)).take (as.length-(dvs.drop (dvs.length-as.length)).length)).filter fun n=>(((as.map (·.arg)).zip vals).lookup n).isNone)=[])
 {slots:List (Str×Value)}(hf:(forIn (((as.map (·.arg)).drop (as.length-(dvs.drop (dvs.length-as.length)).length)).zip (dvs.drop (dvs.length-as.length))) ((as.map (·.arg)).zip vals) (fun x slots =>
  if(slots.lookup x.1).isNone=true then pure (ForInStep.yield (slots++[(x.1,x.2)]))else pure (ForInStep.yield slots)):Sem _)=pure slots)
 (h:Q ((as.map (·.arg)).filterMap fun n=>(slots.lookup n).map (n,·)) s) :
 wpAny M A (bindArgs fd ⟨vals,[]⟩) Q E s:=by
 obtain⟨name,qual,params,body,scope,gl,cl,dfl,kwd,doc,pm,an,cd,ct,bi⟩:=fd
 cases hp
 simp only[bindArgs,List.map_nil,List.nil_append,List.append_nil,List.forIn_nil,pure_bind]
 refine wpAny_bind (hd _ fun o ho=>?_)
 subst ho
 simp only[List.length_map,hm,List.isEmpty_nil,Bool.not_true,Bool.false_eq_true,if_false,pure_bind]
 rw[if_neg (by simp;omega)]
 rw[hf]
 exact wpAny_bind (wpAny_pure (wpAny_pure h))
theorem ll (x:Str):∀ l:List Str,b8 x l=true↔x∈l
 |[]=>by simp[b8]
 |y::l=>by
  unfold b8
  rw[eO]
  by_cases h:y=x
  ·subst h;simp
  ·have h':x≠y:=fun q=>h q.symm
   simp[h,h',ll x l]
theorem kF:∀{l:List Str},nB l=true→l.Nodup
 |[],_=>List.nodup_nil
 |x::r,h=>by
  unfold nB at h
  simp only[Bool.and_eq_true,Bool.not_eq_true']at h
  refine List.nodup_cons.mpr ⟨fun m=>?_,kF h.2⟩
  rw[(ll x r).mpr m]at h
  exact absurd h.1 (by simp)
theorem gm {β:Type}{n:Str}:∀{ns:List Str}{vs:List β},n∉ns→(ns.zip vs).lookup n=none
 |[],_,_=>rfl
 |_::_,[],_=>rfl
 |m::ns,v::vs,h=>by
  rw[List.zip_cons_cons,List.lookup_cons]
  have:(n==m)=false:=beq_eq_false_iff_ne.mpr fun q=>h (q▸.head _)
  rw[this]
  exact gm fun m=>h (.tail _ m)
theorem gE {α γ:Type}{p q:α→Option γ}:∀{l:List α},(∀ x∈l,p x=q x)→l.filterMap p=l.filterMap q
 |[],_=>rfl
 |x::r,h=>by
  rw[List.filterMap_cons,List.filterMap_cons,h x (.head _),gE fun y hy=>h y (.tail _ hy)]
theorem fG {β:Type}:∀{ns:List Str}{vs:List β},ns.Nodup→vs.length=ns.length→ns.filterMap (fun n=>((ns.zip vs).lookup n).map (n,·))=ns.zip vs
 |[],[],_,_=>rfl
 |n::ns,v::vs,nd,hl=>by
  obtain⟨h1,h2⟩:=List.nodup_cons.mp nd
  rw[List.zip_cons_cons,List.filterMap_cons,List.lookup_cons]
  simp only[BEq.rfl,Option.map_some,List.cons.injEq,true_and]
  refine(gE fun m hm=>?_).trans (fG (vs:=vs) h2 (by simpa using hl))
  rw[List.lookup_cons]
  have:(m==n)=false:=beq_eq_false_iff_ne.mpr fun q=>h1 (q▸hm)
  rw[this]
 |[],_::_,_,hl=>by simp at hl
 |_::_,[],_,hl=>by simp at hl
theorem c7 {β:Type}{n:Str}:∀{ns:List Str}{vs:List β},n∈ns→ns.length≤vs.length→((ns.zip vs).lookup n).isSome=true
 |m::ns,v::vs,h,hl=>by
  rw[List.zip_cons_cons,List.lookup_cons]
  induction hb:n==m using Bool.casesOn with
  |true=>rfl
  |false =>
   refine c7 ?_ (by simpa using hl)
   rcases List.mem_cons.mp h with q | q
   ·subst q;simp at hb
   ·exact q
 |_::_,[],_,hl=>by simp at hl
theorem mx:∀(l:List (Str×Value)) (slots:List (Str×Value)),(∀ x∈l,(slots.lookup x.1).isSome=true) →
 (forIn l slots (fun x slots=>if(slots.lookup x.1).isNone=true then pure (ForInStep.yield (slots++[(x.1,x.2)]))else pure (ForInStep.yield slots)):Sem _)=pure slots
 |[],_,_=>rfl
 |x::r,slots,h=>by
  rw[List.forIn_cons]
  have:=h x (.head _)
  rw[if_neg (by rw[Option.isNone_iff_eq_none];intro q;first | exact nn (q.symm.trans this) | (rw[q]at this;injection this)),pure_bind]
  exact mx r slots fun y hy=>h y (.tail _ hy)
theorem pB:∀(l:List (Str×Value)) (slots:List (Str×Value)) (z:Str) (v:Value),(∀ x∈l,(slots.lookup x.1).isSome=true)→slots.lookup z=none →
 (forIn (l++[(z,v)]) slots (fun x slots=>if(slots.lookup x.1).isNone=true then pure (ForInStep.yield (slots++[(x.1,x.2)]))else pure (ForInStep.yield slots)):Sem _)=pure (slots++[(z,v)])
 |[],slots,z,v,_,hz=>by
  rw[List.nil_append,List.forIn_cons,if_pos (by rw[hz];rfl),pure_bind]
  rfl
 |x::r,slots,z,v,h,hz=>by
  rw[List.cons_append,List.forIn_cons]
  have:=h x (.head _)
  rw[if_neg (by rw[Option.isNone_iff_eq_none];intro q;first | exact nn (q.symm.trans this) | (rw[q]at this;injection this)),pure_bind]
  exact pB r slots z v (fun y hy=>h y (.tail _ hy)) hz
theorem mY {fd:FuncData}{as:List Arg}{kd:List (Option Expr)}{df:List Expr}(hp:fd.params=⟨[],as,none,[],kd,none,df⟩) (nd:(as.map (·.arg)).Nodup) (vals:List Value) (hlen:vals.length=as.length) {s:Shared}
 {dvs:List Value}(hd:∀(M:Model) (A:Around) (E:Value→Shared→Prop) (Q:Option (Array Value)→Shared→Prop),(∀ o:Option (Array Value),(o.getD #[]).toList=dvs→Q o s)→wpAny M A (seqItems? fd.defaults) Q E s) :
 BindsTo s fd ⟨vals,[]⟩ ((as.map (·.arg)).zip vals):=fun M A E Q hq=>by
 refine gO hp vals (Nat.le_of_eq hlen) (hd M A E) ?_ (mx _ _ fun x hx=>?_) ?_
 ·rw[List.filter_eq_nil_iff]
  intro n hn q
  have:=c7 (vs:=vals) (List.mem_of_mem_take hn) (by simp[hlen])
  rw[Option.isNone_iff_eq_none]at q
  first | exact nn (q.symm.trans this) | (rw[q]at this;injection this)
 ·exact c7 (List.mem_of_mem_drop (List.of_mem_zip hx).1) (by simp[hlen])
 ·rw[fG nd (by simp[hlen])];exact hq
theorem iA {β:Type}(z:Str) (v:β):∀{ns:List Str}{vs:List β},vs.length=ns.length→(ns++[z]).zip (vs++[v])=ns.zip vs++[(z,v)]
 |[],[],_=>rfl
 |n::ns,w::vs,h=>by
  rw[List.cons_append,List.cons_append,List.zip_cons_cons,List.zip_cons_cons,iA z v (by simpa using h),List.cons_append]
 |[],_::_,h=>by simp at h
 |_::_,[],h=>by simp at h
theorem lW {β:Type}(z:Str):∀{ns:List Str}{vs:List β},vs.length=ns.length→(ns++[z]).zip vs=ns.zip vs
 |[],[],_=>rfl
 |n::ns,w::vs,h=>by
  rw[List.cons_append,List.zip_cons_cons,List.zip_cons_cons,lW z (by simpa using h)]
 |[],_::_,h=>by simp at h
 |_::_,[],h=>by simp at h
theorem rL {fd:FuncData}{as:List Arg}{kd:List (Option Expr)}{df:List Expr}(hp:fd.params=⟨[],as,none,[],kd,none,df⟩) (nd:(as.map (·.arg)).Nodup) (vals:List Value) (hlen:vals.length+1=as.length) {s:Shared}
 {dvs:List Value}{dv:Value}(hl:dvs.getLast?=some dv) (hd:∀(M:Model) (A:Around) (E:Value→Shared→Prop) (Q:Option (Array Value)→Shared→Prop),(∀ o:Option (Array Value),(o.getD #[]).toList=dvs→Q o s)→wpAny M A (seqItems? fd.defaults) Q E s) :
 BindsTo s fd ⟨vals,[]⟩ ((as.map (·.arg)).zip (vals++[dv])):=fun M A E Q hq=>by
 have hne:(as.map (·.arg))≠[]:=by intro q;have:=congrArg List.length q;simp at this;subst this;simp at hlen
 obtain⟨ns,z,e⟩:∃ ns z,as.map (·.arg)=ns++[z]:=⟨_,_,(List.dropLast_concat_getLast hne).symm⟩
 have hns:ns.length=vals.length:=by have:=congrArg List.length e;simp at this;omega
 have has:as.length=ns.length+1:=by omega
 obtain⟨ds,rfl⟩:∃ ds,dvs=ds++[dv]:=by
  have hn:dvs≠[]:=by intro q;first | exact nn (q.symm.trans hl) | (rw[q]at hl;injection hl)
  refine⟨dvs.dropLast,?_⟩
  rw[List.getLast?_eq_getLast hn]at hl
  obtain rfl:=si hl
  exact(List.dropLast_concat_getLast hn).symm
 have e1:(ds++[dv]).drop ((ds++[dv]).length-as.length)=ds.drop ((ds++[dv]).length-as.length)++[dv]:=List.drop_append_of_le_length (by simp;omega)
 obtain⟨es,he,hel⟩:∃ es,ds.drop ((ds++[dv]).length-as.length)=es∧es.length≤ns.length:=⟨_,rfl,by simp;omega⟩
 rw[he]at e1
 rw[e]at nd
 have hz:z∉ns:=fun m=>by
  have:=(List.nodup_append.mp nd).2.2 z m z (by simp)
  exact this rfl
 have hzip:(ns++[z]).zip vals=ns.zip vals:=lW z hns.symm
 have e2:as.length-(es++[dv]).length=ns.length-es.length:=by simp;omega
 have hsome:∀ n∈ns,((ns.zip vals).lookup n).isSome=true:=fun n hn=>c7 hn (Nat.le_of_eq hns)
 have hdrop:((ns++[z]).drop (ns.length-es.length)).zip (es++[dv])=(ns.drop (ns.length-es.length)).zip es++[(z,dv)]:=by
  rw[List.drop_append_of_le_length (by omega),iA z dv (by simp;omega)]
 refine gO hp vals (by omega) (hd M A E) ?_ (slots:=ns.zip vals++[(z,dv)]) ?_ ?_
 ·rw[e1,e2,e,hzip,List.filter_eq_nil_iff]
  intro n hn q
  rw[List.take_append_of_le_length (by omega)]at hn
  have:=hsome n (List.mem_of_mem_take hn)
  rw[Option.isNone_iff_eq_none]at q
  first | exact nn (q.symm.trans this) | (rw[q]at this;injection this)
 ·rw[e1,e2,e,hzip,hdrop]
  exact pB _ _ z dv (fun x hx=>hsome x.1 (List.mem_of_mem_drop (List.of_mem_zip hx).1)) (gm hz)
 ·have:=fG (vs:=vals++[dv]) nd (by simp;omega)
  rw[iA z dv hns.symm]at this
  rw[e,this,← iA z dv hns.symm,← e]
  exact hq
end Mine
end
section
namespace Mine
open PySem PySem.W PySem.Spec PySem.Calls PyProof.Rows Builtin.Str
structure AOk (A:Around) (n:Nat) (l:List Env):Prop where
 handled:A.handled=none
 frames:A.frames=some l
 depth:A.depth+2*n+20≤1000
 units:A.units+8*n+300≤9800
noncomputable def Chain (cx:Sx) (g:Gh) (l:List Env) (h:Heap):Prop:=∀ env∈l,env.scope.kind≠.module∧∃ L o,env.frame=some L∧L∉g.W cx∧cx.H0.get? L=none∧h.get? L=some o∧∃ es n,o.data=.dict es n
theorem Chain.ext {cx:Sx}{g:Gh}{l:List Env}{h h':Heap}(c:Chain cx g l h) (x:Ext (g.W cx) h h'):Chain cx g l h':=fun env he=>by
 obtain⟨k,L,o,f,w,z,a,b⟩:=c env he
 exact⟨k,L,o,f,w,z,x.keep _ _ w a,b⟩
structure FrS (cx:Sx) (g:Gh) (V:List Addr) (env:Env) (ρ:Rho) (h:Heap):Prop where
 kind:env.scope.kind=.function
 gl:env.globals=mainGlobals
 bi:env.builtins=builtinsNs
 LV:env.locals∈V
 LW:env.locals∉g.W cx
 loc:∃ m,h.Ns env.locals m∧(∀ x d,aH ρ x=some d→env.kindOf x=some .local→∃ v,m x=some v∧Rep cx g V h v d) ∧
  ∀ x y l l',aH ρ x=some (.bl l)→aH ρ y=some (.bl l')→x≠y→m x≠m y
 cel:∀ x d,aH ρ x=some d→(env.kindOf x=some .cell∨env.kindOf x=some .free)→∃ c v,env.cells.lookup x=some c∧c∉g.W cx∧h.IsCell c (some v)∧Rep cx g V h v d∧nb d=true
 cd:∀ me,g.me=some me→∃ c dd fd sl,cx.K.lookup me=some ⟨c,dd,.func fd,sl⟩∧env.code=fd.code∧env.qual=fd.qualname++".<locals>."
 blk:∀ x l,aH ρ x=some (.bl l)→env.kindOf x=some .local
theorem nt {W:List Addr}{h h':Heap}{L:Addr}{m:Str→Option Value}(x:Ext W h h') (hL:L∉W) (n:h.Ns L m):h'.Ns L m :=
 let⟨o,es,ep,e,r⟩:=n;⟨o,es,ep,x.keep _ _ hL e,r⟩
theorem i7 {W:List Addr}{h h':Heap}{c:Addr}{v:Option Value}(x:Ext W h h') (hc:c∉W) (n:h.IsCell c v):h'.IsCell c v :=
 let⟨o,e,r⟩:=n;⟨o,x.keep _ _ hc e,r⟩
theorem FrS.ext {cx:Sx}{g:Gh}{V:List Addr}{env:Env}{ρ:Rho}{h h':Heap}(f:FrS cx g V env ρ h) (hW:∀ a∈g.W cx,a∈V) (x:Ext (g.W cx) h h'):FrS cx g V env ρ h' where
 kind:=f.kind
 gl:=f.gl
 bi:=f.bi
 LV:=f.LV
 LW:=f.LW
 loc:=let⟨m,n,a,b⟩:=f.loc;⟨m,nt x f.LW n,fun y d e k=>let⟨v,e1,r⟩:=a y d e k;⟨v,e1,r.ext x hW⟩,b⟩
 cel:=fun y d e k=>let⟨c,v,e1,e2,e3,r,e4⟩:=f.cel y d e k;⟨c,v,e1,e2,i7 x e2 e3,r.ext x hW,e4⟩
 cd:=f.cd
 blk:=f.blk
noncomputable def bI (sc:Scope) (env:Env):Prop:=∀ x k,sc.names.lookup x=some k→env.kindOf x=some k∨(k=.free∧env.kindOf x=some .cell)
structure St (cx:Sx) (g:Gh) (V:List Addr) (l:List Env) (n:Nat) (A:Around) (env:Env) (ρ:Rho) (k:Nat) (s:Shared):Prop where
 ao:AOk A n l
 ch:Chain cx g l s.heap
 fr:FrS cx g V env ρ s.heap
 good:Good cx g V s.heap k
 tk:1≤s.toks
theorem St.step {cx:Sx}{g:Gh}{V:List Addr}{l:List Env}{n:Nat}{A:Around}{env:Env}{ρ:Rho}{k k':Nat}{s:Shared}(x:St cx g V l n A env ρ k s) {h':Heap}{tk':Nat}(t:1≤tk') (e:Ext (g.W cx) s.heap h') (G:Good cx g V h' k') :
 St cx g V l n A env ρ k' {s with heap:=h',toks:=tk'}:=⟨x.ao,x.ch.ext e,x.fr.ext x.good.WV e,G,t⟩
noncomputable def Gh.at (g:Gh) (V0:List Addr) (me:Option Addr):Gh:={g with V0:=V0,me:=me}
noncomputable def OOk (cx:Sx) (g:Gh) (calls:Orc) (n:Nat):Prop :=
 ∀(V0 V:List Addr) (me:Option Addr) (f:Addr) (args:List D) (vs:List Value) (k:Nat) (s:Shared) (A:Around) (l:List Env) (Q:Value→Shared→Prop) (E:Value→Shared→Prop),
  AOk A n l→Chain cx g l s.heap→Good cx (g.at V0 me) V s.heap k→1≤s.toks→args.all nb=true→RepAll cx (g.at V0 me) V s.heap vs args →
  PO cx (g.at V0 me) V l (Rep cx (g.at V0 me) V) (nbO (calls f args k)) s Q E→wpAny (model cx.prog cx.w) A (call (.ref f) vs) Q E s
section
variable {cx:Sx}{g:Gh}{V:List Addr}{l:List Env}{n:Nat}{A:Around}{env:Env}{ρ:Rho}{k:Nat}{s:Shared}{Q:Value→Shared→Prop}{E:Value→Shared→Prop}
theorem cr (x0:St cx g V l n A env ρ k s) {x:Str}{pos:Pos}{d:D}(hk:env.kindOf x=some .globalImplicit) (hd:ac x "__debug__"=false) (e:d7 cx.K x=some d) (h:∀ v,Rep cx g V s.heap v d→Q v s) :
 wpAny (model cx.prog cx.w) A (eval (.Name x pos) env) Q E s:=by
 refine Name_function_global x0.fr.kind hk ?_ (cL hd)
 have hg:s.heap.Ns env.globals cx.mg:=x0.fr.gl▸cx.T.g.keeps x0.good.keep
 refine az e fun o hv e=>?_
 induction o using Option.casesOn with
 |some v=>exact loadGlobal_global hg (mg_of cx.X cx.T.g hv) (h _ (si e▸i0 x0.good v))
 |none =>
  have hB:s.heap.Ns env.builtins cx.mb:=x0.fr.bi▸cx.T.b.keeps x0.good.keep
  replace e:(if ac x "__name__" then none else(bootBuiltins x).map .glob)=some d:=e
  induction hn:ac x "__name__" using Bool.casesOn with
  |true=>rw[hn]at e;exact nn e
  |false =>
   rw[hn]at e
   refine cA (show(bootBuiltins x).map D.glob=some d from e) fun v hb ed=>?_
   have hn':x≠"__name__":=fun q=>by rw[q,db]at hn;exact ft hn.symm
   exact loadGlobal_builtin hg (mg_none_of cx.X cx.T.g hv) hB ((cx.T.builtins x hn').trans hb) (h _ (ed▸rfl))
theorem Iv (x0:St cx g V l n A env ρ k s) {x:Str}{pos:Pos}{d:D}(hk:env.kindOf x=some .globalImplicit) (hd:ac x "__debug__"=false) (e:d7 cx.K x=some d) (h:Pu cx g V s Q d) :
 wpAny (model cx.prog cx.w) A (eval (.Name x pos) env) Q E s:=cr x0 hk hd e fun v r=>h.here s.toks r
theorem wB (x0:St cx g V l n A env ρ k s) {x:Str}{pos:Pos}{d:D}(hk:env.kindOf x=some .local) (ok:bh x=true) (e:aH ρ x=some d) (h:∀ v,Rep cx g V s.heap v d→Q v s):wpAny (model cx.prog cx.w) A (eval (.Name x pos) env) Q E s:=by
 obtain⟨m,hn,a,_⟩:=x0.fr.loc
 obtain⟨v,e1,r⟩:=a x d e hk
 exact wpAny_Name (wpAny_loadName_local x0.fr.kind hk hn e1 (h v r)) (AX ok)
theorem yZ (x0:St cx g V l n A env ρ k s) {x:Str}{pos:Pos}{d:D}(hk:env.kindOf x=some .cell∨env.kindOf x=some .free) (ok:bh x=true) (e:aH ρ x=some d) (h:∀ v,Rep cx g V s.heap v d→Q v s):wpAny (model cx.prog cx.w) A (eval (.Name x pos) env) Q E s:=by
 obtain⟨c,v,e1,_,e3,r,_⟩:=x0.fr.cel x d e hk
 exact hk.elim (fun hl=>wpAny_Name (wpAny_loadName_cell x0.fr.kind hl e1 e3 (h v r)) (AX ok)) fun hl=>wpAny_Name (wpAny_loadName_free x0.fr.kind hl e1 e3 (h v r) (MQ ok)) (AX ok)
theorem dn {sc:Scope}(hs:bI sc env) {x:Str}{kd:NameKind}(e:sc.names.lookup x=some kd) (h:kd≠.free):env.kindOf x=some kd:=(hs x _ e).elim id fun q=>absurd q.1 h
theorem sk {sc:Scope}(hs:bI sc env) (x0:St cx g V l n A env ρ k s) {x:Str}{pos:Pos}(ok:bh x=true) (hp:PO cx g V l (Rep cx g V) (ofO (iQ cx.K sc ρ x) k) s Q E):wpAny (model cx.prog cx.w) A (eval (.Name x pos) env) Q E s:=by
 refine eZ x0.tk x0.good hp fun d Q' E' e h=>az e fun kd hk e=>?_
 rw[fR]at hk
 have w:∀ v,Rep cx g V s.heap v d→Q' v s:=fun v r=>h.here s.toks r
 induction kd using NameKind.casesOn with
 |«local»=>exact wB x0 (dn hs hk nofun) ok e w
 |cell=>exact yZ x0 (.inl (dn hs hk nofun)) ok e w
 |free=>exact yZ x0 ((hs x _ hk).elim .inr fun q=>.inl q.2) ok e w
 |globalImplicit=>exact cr x0 (dn hs hk nofun) (eR ok).1 e w
 |globalExplicit=>exact nn e
end
section
variable {cx:Sx}{g:Gh}{V:List Addr}{l:List Env}{n:Nat}{A:Around}{env:Env}{ρ:Rho}{k:Nat}{s:Shared}{Q:Value→Shared→Prop}{E:Value→Shared→Prop}{calls:Orc}
 {f:Expr→Nat→Out D}{fb:Expr→Nat→Out Bool}
noncomputable def bC (cx:Sx) (g:Gh) (V:List Addr) (l:List Env) (n:Nat) (A:Around) (env:Env) (ρ:Rho) (f:Expr→Nat→Out D):Prop :=
 ∀ e k s (Q:Value→Shared→Prop) (E:Value→Shared→Prop),St cx g V l n A env ρ k s→PO cx g V l (Rep cx g V) (f e k) s Q E→wpAny (model cx.prog cx.w) A (eval e env) Q E s
noncomputable def iz (cx:Sx) (g:Gh) (V:List Addr) (l:List Env) (n:Nat) (A:Around) (env:Env) (ρ:Rho) (f:Expr→Nat→Out Bool):Prop :=
 ∀ e k s (Q:Bool→Shared→Prop) (E:Value→Shared→Prop),St cx g V l n A env ρ k s→PO cx g V l (fun _ a b=>a=b) (f e k) s Q E→wpAny (model cx.prog cx.w) A (isTrue e env (eval e env)) Q E s
theorem b9 {α β:Type}{Rl:Heap→α→β→Prop}{P:Value→Shared→Prop}{Q:α→Shared→Prop}(Hf:bC cx g V l n A env ρ f) (x0:St cx g V l n A env ρ k s) {e:Expr}{F:D→Nat→Out β}(hp:PO cx g V l Rl ((f e k).bind F) s Q E)
 (h:∀ d k' h' tk' v,St cx g V l n A env ρ k' {s with heap:=h',toks:=tk'}→Ext (g.W cx) s.heap h'→Rep cx g V h' v d→PO cx g V l Rl (F d k') {s with heap:=h',toks:=tk'} Q E→P v {s with heap:=h',toks:=tk'}) :
 wpAny (model cx.prog cx.w) A (eval e env) P E s :=
 Hf e k s P E x0 (PO.bind hp fun d k' _ h' tk' v tt x G r hp'=>h d k' h' tk' v (x0.step tt x G) x r hp')
theorem jz {α β:Type}{Rl:Heap→α→β→Prop}{P:Bool→Shared→Prop}{Q:α→Shared→Prop}(Hb:iz cx g V l n A env ρ fb) (x0:St cx g V l n A env ρ k s) {e:Expr}{F:Bool→Nat→Out β}(hp:PO cx g V l Rl ((fb e k).bind F) s Q E)
 (h:∀ b k' h' tk',St cx g V l n A env ρ k' {s with heap:=h',toks:=tk'}→Ext (g.W cx) s.heap h'→PO cx g V l Rl (F b k') {s with heap:=h',toks:=tk'} Q E→P b {s with heap:=h',toks:=tk'}) :
 wpAny (model cx.prog cx.w) A (isTrue e env (eval e env)) P E s :=
 Hb e k s P E x0 (PO.bind hp fun d k' _ h' tk' v tt x G r hp'=>by subst r;exact h v k' h' tk' (x0.step tt x G) x hp')
theorem oU {e:Expr}(h:cP e=true):∃ x p,e=.Starred x p:=by
 induction e using Expr.casesOn with
 |Starred x p=>exact⟨x,p,rfl⟩
 |_=>exact ft h
theorem bG {e:Expr}{r:List Expr}(h:noStar (e::r)=true):cP e=false∧noStar r=true:=(am h).imp qH id
theorem dp {e:Expr}{rest:List Expr}(h:cP e=false):starEach (e::rest) env=(false,eval e env)::starEach rest env:=by
 induction e using Expr.casesOn<;>first | rfl | exact ft h.symm
theorem cQ {e:Expr}{rest:List Expr}(h:∀ x p,e≠.Starred x p):starEach (e::rest) env=(false,eval e env)::starEach rest env :=
 dp (by induction hs:cP e using Bool.casesOn with
  |false=>rfl
  |true=>obtain⟨x,p,e⟩:=oU hs;exact absurd e (h x p))
theorem jq (Hf:bC cx g V l n A env ρ f) (hstar:∀ x p k,f (.Starred x p) k=.no) {pos:Pos}:∀(es:List Expr) (k:Nat) (s:Shared) (Q:List Value→Shared→Prop),St cx g V l n A env ρ k s →
 PO cx g V l (RepAll cx g V) (evs f es k) s Q E→wpAny (model cx.prog cx.w) A (spliced (backTo pos (starEach es env))) Q E s
 |[],k,s,Q,x0,hp=>wpAny_items_nil (by
  have:=hp s.heap s.toks [] x0.tk (.refl _ _) x0.good trivial
  exact this)
 |e::r,k,s,Q,x0,hp=>by
  by_cases hs:∃ x p,e=.Starred x p
  ·obtain⟨x,p,rfl⟩:=hs
   unfold evs at hp
   rw[hstar]at hp
   exact hp.elim
  ·have hs':∀ x p,e≠.Starred x p:=fun x p q=>hs ⟨x,p,q⟩
   refine wpAny_items_cons (Hf e k s _ E x0 (PO.bind hp fun d k' _ h' tk' v t x G rv hp'=>?_)) (cQ hs')
   refine jq Hf hstar r k' _ _ (x0.step t x G) (PO.bind hp' fun ds k'' _ h'' tk'' vs t' x' G' rs hp''=>?_)
   exact hp'' h'' tk'' (v::vs) t' (.refl _ _) G' ⟨rv.ext x' G.WV,rs⟩
theorem cR:∀{vs:List Value}{ds:List D}{h:Heap},RepAll cx g V h vs ds→vs.length=ds.length
 |[],[],_,_=>rfl
 |_::_,_::_,_,⟨_,r⟩=>congrArg (·+1) (cR r)
 |[],_::_,_,x=>x.elim
 |_::_,[],_,x=>x.elim
theorem jW:∀{vs:List Value}{ds:List D}{ps:List PyData}{h:Heap},RepAll cx g V h vs ds→eJ ds=some ps→∃ as,ReadsAll (hideAll h V) vs ps as
 |[],[],_,_,_,e=>by obtain rfl:=si e;exact⟨_,.nil⟩
 |v::vs,d::ds,ps,h,⟨rv,rs⟩,e=>by
  induction d using D.casesOn with
  |py p =>
   simp only[eJ,Option.map_eq_some_iff]at e
   obtain⟨qs,e',rfl⟩:=e
   obtain⟨as,r⟩:=rv
   obtain⟨bs,r'⟩:=jW rs e'
   exact⟨_,.cons r r'⟩
  |_=>first | exact nn e | (simp[eJ]at e)
 |[],_::_,_,_,x,_=>x.elim
 |_::_,[],_,_,x,_=>x.elim
theorem oM:∀{ds:List D}{ps:List PyData},eJ ds=some ps→ds.length=ps.length
 |[],_,e=>by obtain rfl:=si e;rfl
 |d::ds,ps,e=>by
  induction d using D.casesOn with
  |py p =>
   simp only[eJ,Option.map_eq_some_iff]at e
   obtain⟨qs,e',rfl⟩:=e
   exact congrArg (·+1) (oM e')
  |_=>first | exact nn e | (simp[eJ]at e)
theorem ga {α β:Type}{Rl:Heap→α→β→Prop}{Q:α→Shared→Prop}{o:Option β}(hp:PO cx g V l Rl (ofO o k) s Q E):∃ b,o=some b∧PO cx g V l Rl (.ok b k) s Q E:=by
 induction o using Option.casesOn with
 |none=>exact hp.elim
 |some b=>exact⟨b,rfl,hp⟩
theorem zk (Hf:bC cx g V l n A env ρ f) (hstar:∀ x p k,f (.Starred x p) k=.no) (x0:St cx g V l n A env ρ k s) {es:List Expr}{q:Nat}{pos:Pos}
 (hp:PO cx g V l (Rep cx g V) ((evs f es k).bind fun ds k=>if sm ds.length then ofO ((eJ ds).map fun l=>.py (.tuple l)) k else .no) s Q E):wpAny (model cx.prog cx.w) A (eval (.Tuple es q pos) env) Q E s:=by
 refine wpAny_Tuple (jq Hf hstar es k s _ x0 (PO.bind hp fun ds k' _ h' tk' vs t x G rs hp'=>?_))
 refine bU hp' fun hsm hp'=>?_
 ·obtain⟨b,e,hp'⟩:=ga hp'
  obtain⟨ps,e',rfl⟩:=Option.map_eq_some_iff.mp e
  obtain⟨as,ra⟩:=jW rs e'
  refine⟨by rw[cR rs];exact cy hsm,?_⟩
  refine hp' (h'.push _) tk' _ t (.push _) (G.keeps (s:={s with heap:=h',toks:=tk'}) (.push _ _)) ?_
  exact G.newTup (s:={s with heap:=h',toks:=tk'}) (.push _ _) (G.fresh (s:={s with heap:=h',toks:=tk'}) (Nat.le_refl _)) (Heap.get?_push_size _ rfl) rfl rfl ra
theorem EJ (Hf:bC cx g V l n A env ρ f) (hstar:∀ x p k,f (.Starred x p) k=.no) (x0:St cx g V l n A env ρ k s) {es:List Expr}{pos:Pos}
 (hp:PO cx g V l (Rep cx g V) ((evs f es k).bind fun ds k=>if sm ds.length then ofO ((eJ ds).map fun l=>.py (.list l)) k else .no) s Q E):wpAny (model cx.prog cx.w) A (eval (.List es pos) env) Q E s:=by
 refine wpAny_List (jq Hf hstar es k s _ x0 (PO.bind hp fun ds k' _ h' tk' vs t x G rs hp'=>?_))
 refine bU hp' fun hsm hp'=>?_
 ·obtain⟨b,e,hp'⟩:=ga hp'
  obtain⟨ps,e',rfl⟩:=Option.map_eq_some_iff.mp e
  obtain⟨as,ra⟩:=jW rs e'
  refine⟨by rw[cR rs];exact cy hsm,?_⟩
  refine hp' (h'.push _) tk' _ t (.push _) (G.keeps (s:={s with heap:=h',toks:=tk'}) (.push _ _)) ?_
  exact G.newList (s:={s with heap:=h',toks:=tk'}) (.push _ _) (G.fresh (s:={s with heap:=h',toks:=tk'}) (Nat.le_refl _)) (Heap.get?_push_size _ rfl) rfl rfl ra
theorem eH {o:Expr}{attr:Str}{whole:Sem Value}(h:gX o=true):attributeBase o attr env whole=whole:=by
 unfold attributeBase
 split
 ·first | exact nn h | exact ft h | exact on h | exact oe h | cases h
 ·rfl
theorem Fp (F:KF cx) (Hf:bC cx g V l n A env ρ f) (x0:St cx g V l n A env ρ k s) {e:Expr}{a:Str}{pos:Pos}(hb:gX e=true)
 (hp:PO cx g V l (Rep cx g V) ((f e k).bind fun d k=>ofO (gP g.toks a d k) k) s Q E):wpAny (model cx.prog cx.w) A (eval (.Attribute e a pos) env) Q E s:=by
 refine Attribute_any_ (b9 Hf x0 hp fun d k' h' tk' v x1 _ rv hp'=>eZ x1.tk x1.good hp' fun r Q' E' e' hq=>BM F x1.good rv e' hq) ?_
 show(do
  let o ← attributeBase e a env (eval e env)
  standAt pos.atName
  let r ← holding [o] (getAttr o a true)
  letTemporaryGo e o r
  pure r)=_
 rw[eH hb]
theorem F1 (F:KF cx) (Hf:bC cx g V l n A env ρ f) (x0:St cx g V l n A env ρ k s) {e i:Expr}{pos:Pos}(hs:fO i=true)
 (hp:PO cx g V l (Rep cx g V) ((f e k).bind fun d k=>(f i k).bind fun i k=>ofO (ah cx.K cx.dl d i) k) s Q E):wpAny (model cx.prog cx.w) A (eval (.Subscript e i pos) env) Q E s:=by
 exact Subscript_ (b9 Hf x0 hp fun d k1 h1 tk1 v x1 ex1 rv hp1=>b9 Hf x1 hp1 fun d2 k2 h2 tk2 v2 x2 ex2 rv2 hp2 =>
  eZ x2.tk x2.good hp2 fun r Q' E' e' hq=>sH F.dict x2.good hs (rv.ext ex2 x1.good.WV) rv2 e' hq)
theorem C9 (Hf:bC cx g V l n A env ρ f) (x0:St cx g V l n A env ρ k s) {a b:Expr}{op:Operator}{pos:Pos}
 (hp:PO cx g V l (Rep cx g V) ((f a k).bind fun a k=>(f b k).bind fun b k=>ofO (aK op a b) k) s Q E):wpAny (model cx.prog cx.w) A (eval (.BinOp a op b pos) env) Q E s :=
 wpAny_BinOp (b9 Hf x0 hp fun d k1 h1 tk1 v x1 ex1 rv hp1=>b9 Hf x1 hp1 fun d2 k2 h2 tk2 v2 x2 ex2 rv2 hp2 =>
  eZ x2.tk x2.good hp2 fun r Q' E' e' hq=>Fo x2.good (rv.ext ex2 x1.good.WV) rv2 e' hq)
theorem ja {op:CmpOp}{r:Expr}(h:cJ r=true):behindInMarks op r=false:=by
 induction r using Expr.casesOn<;>first | rfl | injection h
theorem AOk.cl (x:AOk A n l):A.units+64<cLine:=by have:=x.units;show _<9900;omega
theorem Ke (F:KF cx) (Hf:bC cx g V l n A env ρ f) (x0:St cx g V l n A env ρ k s) {a b:Expr}{op:CmpOp}{pos:Pos}(hr:cJ b=true)
 (hp:PO cx g V l (Rep cx g V) ((f a k).bind fun a k=>(f b k).bind fun b k=>ofO ((gJ cx.K cx.dl op a b).map fun b=>.py (.bool b)) k) s Q E):wpAny (model cx.prog cx.w) A (eval (.Compare a [op] [b] pos) env) Q E s :=
 wpAny_Compare1 (b9 Hf x0 hp fun d k1 h1 tk1 v x1 ex1 rv hp1=>b9 Hf x1 hp1 fun d2 k2 h2 tk2 v2 x2 ex2 rv2 hp2 =>
  eZ x2.tk x2.good hp2 fun r Q' E' e' hq=>by
   obtain⟨q,e2,rfl⟩:=Option.map_eq_some_iff.mp e'
   exact yX F.dict x2.good x2.ao.cl (rv.ext ex2 x1.good.WV) rv2 e2 fun tk=>hq.here tk (gw _)) (ja hr)
theorem Bb (Hf:bC cx g V l n A env ρ f) (Hb:iz cx g V l n A env ρ fb) (x0:St cx g V l n A env ρ k s) {t b o:Expr}{pos:Pos}
 (hp:PO cx g V l (Rep cx g V) ((fb t k).bind fun b' k=>if b' then f b k else f o k) s Q E):wpAny (model cx.prog cx.w) A (eval (.IfExp t b o pos) env) Q E s :=
 wpAny_IfExp (jz Hb x0 hp fun b' k1 h1 tk1 x1 ex1 hp1=>by
  induction b' using Bool.casesOn
  ·exact Hf _ _ _ _ _ x1 hp1
  ·exact Hf _ _ _ _ _ x1 hp1)
theorem JH {d:D}{o:Option Bool}{Q:Bool→Shared→Prop}{t:Sem Bool}(x0:St cx g V l n A env ρ k s) (hp:PO cx g V l (fun _ a b=>a=b) (ofO o k) s Q E)
 (h:∀ b Q' E',o=some b→(∀ tk,Q' b {s with toks:=tk})→wpAny (model cx.prog cx.w) A t Q' E' s):wpAny (model cx.prog cx.w) A t Q E s:=by
 refine wpAny_with_toks x0.tk ?_
 obtain⟨b,rfl,hp⟩:=ga hp
 exact h b (fun v s'=>1≤s'.toks→Q v s') _ rfl fun tk ht=>hp s.heap tk b ht (.refl _ _) x0.good rfl
theorem Ip (Hf:bC cx g V l n A env ρ f) (x0:St cx g V l n A env ρ k s) {e:Expr}{pos:Pos}
 (hp:PO cx g V l (Rep cx g V) ((f e k).bind fun d k=>ofO ((bV d).map fun b=>.py (.bool !b)) k) s Q E):wpAny (model cx.prog cx.w) A (eval (.UnaryOp .Not e pos) env) Q E s :=
 wpAny_UnaryOp (b9 Hf x0 hp fun d k1 h1 tk1 v x1 ex1 rv hp1=>eZ x1.tk x1.good hp1 fun r Q' E' e' hq=>by
  obtain⟨b,e2,rfl⟩:=Option.map_eq_some_iff.mp e'
  exact not_value (j9 rv e2 fun tk=>hq.here tk (gw _)))
theorem jx (Hf:bC cx g V l n A env ρ f) {op:BoolOp}{pos:Pos}:∀(es:List Expr) (k:Nat) (s:Shared) (Q:Value→Shared→Prop),St cx g V l n A env ρ k s →
 PO cx g V l (Rep cx g V) (lH f (uF op) es k) s Q E→wpAny (model cx.prog cx.w) A (boolOp pos op (evalEach es env)) Q E s
 |[],k,s,Q,x0,hp=>hp.elim
 |[e],k,s,Q,x0,hp=>Hf e k s Q E x0 hp
 |e::e2::r,k,s,Q,x0,hp=>by
  show wpAny _ A (do
   let v ← eval e env
   standAt pos
   let t ← holding [v] (truthy v)
   match op,t with
   |.And,false | .Or,true=>pure v
   |_,_=>boolOp pos op (evalEach (e2::r) env)) Q E s
  refine wpAny_bind (b9 Hf x0 hp fun d k1 h1 tk1 v x1 ex1 rv hp1=>?_)
  refine wpAny_bind (wpAny_standAt (wpAny_bind (wpAny_holding ?_)))
  induction ht:bV d using Option.casesOn with
  |none=>rw[ht]at hp1;exact hp1.elim
  |some b =>
   rw[ht]at hp1
   have hp1:PO cx g V l (Rep cx g V) (if(b==(uF op))=true then lH f (uF op) (e2::r) k1 else .ok d k1) {s with heap:=h1,toks:=tk1} Q E:=hp1
   refine wpAny_with_toks x1.tk (j9 rv ht fun tk ht'=>?_)
   have ht':1≤tk:=ht'
   have x2:St cx g V l n A env ρ k1 {s with heap:=h1,toks:=tk}:=⟨x1.ao,x1.ch,x1.fr,x1.good,ht'⟩
   induction op using BoolOp.casesOn<;>induction b using Bool.casesOn
   ·exact wpAny_pure (hp1 h1 tk v ht' (.refl _ _) x1.good rv)
   ·exact jx Hf (e2::r) k1 _ Q x2 (PO.shift hp1 (.refl _ _))
   ·exact jx Hf (e2::r) k1 _ Q x2 (PO.shift hp1 (.refl _ _))
   ·exact wpAny_pure (hp1 h1 tk v ht' (.refl _ _) x1.good rv)
theorem iy (Hb:iz cx g V l n A env ρ fb) {op:BoolOp}:∀(es:List Expr) (k:Nat) (s:Shared) (Q:Bool→Shared→Prop),St cx g V l n A env ρ k s →
 PO cx g V l (fun _ a b=>a=b) (eG fb (uF op) es k) s Q E→wpAny (model cx.prog cx.w) A (allTrue op es env) Q E s
 |[],k,s,Q,x0,hp=>by
  induction op using BoolOp.casesOn
  ·exact wpAny_allTrue_And_nil (hp s.heap s.toks true x0.tk (.refl _ _) x0.good rfl)
  ·exact wpAny_allTrue_Or_nil (hp s.heap s.toks false x0.tk (.refl _ _) x0.good rfl)
 |e::r,k,s,Q,x0,hp=>by
  induction op using BoolOp.casesOn
  ·refine wpAny_allTrue_And_cons (jz Hb x0 hp fun b k1 h1 tk1 x1 ex1 hp1=>?_)
   induction b using Bool.casesOn
   ·exact hp1 h1 tk1 false x1.tk (.refl _ _) x1.good rfl
   ·exact iy Hb (op:=.And) r k1 _ Q x1 hp1
  ·refine wpAny_allTrue_Or_cons (jz Hb x0 hp fun b k1 h1 tk1 x1 ex1 hp1=>?_)
   induction b using Bool.casesOn
   ·exact iy Hb (op:=.Or) r k1 _ Q x1 hp1
   ·exact hp1 h1 tk1 true x1.tk (.refl _ _) x1.good rfl
theorem Bc (Hb:iz cx g V l n A env ρ fb) (x0:St cx g V l n A env ρ k s) {t b o:Expr}{pos:Pos}{whole:Sem Value}{Q:Bool→Shared→Prop}
 (hp:PO cx g V l (fun _ a b=>a=b) ((fb t k).bind fun b' k=>if b' then fb b k else fb o k) s Q E):wpAny (model cx.prog cx.w) A (isTrue (.IfExp t b o pos) env whole) Q E s:=by
 rw[arm_isTrue_IfExp]
 refine wpAny_bind (jz Hb x0 hp fun b' k1 h1 tk1 x1 ex1 hp1=>?_)
 induction b' using Bool.casesOn
 ·exact Hb _ _ _ _ _ x1 hp1
 ·exact Hb _ _ _ _ _ x1 hp1
theorem Fz (x0:St cx g V l n A env ρ k s) {e:Expr}{Q:Bool→Shared→Prop}(Hf:bC cx g V l n A env ρ f)
 (hp:PO cx g V l (fun _ a b=>a=b) ((f e k).bind fun d k=>ofO (bV d) k) s Q E)
 (he:isTrue e env (eval e env)=(do let v ← eval e env;standAt e.pos;holding [v] (truthy v))):wpAny (model cx.prog cx.w) A (isTrue e env (eval e env)) Q E s:=by
 refine wpAny_isTrue_value (b9 Hf x0 hp fun d k1 h1 tk1 v x1 ex1 rv hp1=>?_) he
 exact JH (d:=d) x1 hp1 fun b Q' E' e' hq=>j9 rv e' hq
theorem Kf (F:KF cx) (x0:St cx g V l n A env ρ k s) {a b:Expr}{op:CmpOp}{pos:Pos}{whole:Sem Value}{Q:Bool→Shared→Prop}(Hf:bC cx g V l n A env ρ f) (hr:cJ b=true)
 (hp:PO cx g V l (fun _ a b=>a=b) (((f a k).bind fun a k=>(f b k).bind fun b k=>ofO ((gJ cx.K cx.dl op a b).map fun b=>D.py (.bool b)) k).bind fun d k=>ofO (bV d) k) s Q E) :
 wpAny (model cx.prog cx.w) A (isTrue (.Compare a [op] [b] pos) env whole) Q E s:=by
 have hp:PO cx g V l (fun _ a b=>a=b) ((f a k).bind fun a k=>(f b k).bind fun b k=>ofO (gJ cx.K cx.dl op a b) k) s Q E:=by
  revert hp
  induction f a k using OutK.casesOn with
  |no=>exact id
  |exc=>exact id
  |ok d k1 =>
   show PO cx g V l (fun _ a b=>a=b) (((f b k1).bind fun b k=>ofO ((gJ cx.K cx.dl op d b).map fun b=>D.py (.bool b)) k).bind fun d k=>ofO (bV d) k) s Q E →
    PO cx g V l (fun _ a b=>a=b) ((f b k1).bind fun b k=>ofO (gJ cx.K cx.dl op d b) k) s Q E
   induction f b k1 using OutK.casesOn with
   |no=>exact id
   |exc=>exact id
   |ok d2 k2 =>
    show PO cx g V l (fun _ a b=>a=b) ((ofO ((gJ cx.K cx.dl op d d2).map fun b=>D.py (.bool b)) k2).bind fun d k=>ofO (bV d) k) s Q E→PO cx g V l (fun _ a b=>a=b) (ofO (gJ cx.K cx.dl op d d2) k2) s Q E
    induction gJ cx.K cx.dl op d d2 using Option.casesOn with
    |none=>exact id
    |some b=>exact id
 exact wpAny_isTrue_Compare1 (b9 Hf x0 hp fun d k1 h1 tk1 v x1 ex1 rv hp1=>b9 Hf x1 hp1 fun d2 k2 h2 tk2 v2 x2 ex2 rv2 hp2 =>
  wpAny_with_toks x2.tk (by
   obtain⟨b,e',hp3⟩:=ga hp2
   exact yX F.dict x2.good x2.ao.cl (rv.ext ex2 x1.good.WV) rv2 e' fun tk ht=>wpAny_truthy_bool (hp3 h2 tk b ht (.refl _ _) x2.good rfl))) (ja hr)
theorem Ep {es:List Expr}:noStar es=true→(starEach es env).all (!·.1)=true:=by
 induction es with
 |nil=>exact fun _=>rfl
 |cons e r ih=>exact fun h=>by rw[dp (bG h).1,List.all_cons];exact ih (bG h).2
theorem f4 {pos:Pos}{es:List Expr}:noStar es=true→(backTo pos (starEach es env)).any (·.1)=false:=by
 induction es with
 |nil=>exact fun _=>rfl
 |cons e r ih=>exact fun h=>by rw[dp (bG h).1];exact ih (bG h).2
theorem gM (Hf:bC cx g V l n A env ρ f) (hstar:∀ x p k,f (.Starred x p) k=.no) (x0:St cx g V l n A env ρ k s) {pos:Pos}{fv:Value}{first:List Value}{es:List Expr}{F:List D→Nat→Out D}(hs:noStar es=true)
 (hk:∀ h',cx.K.In h'→Ext (g.W cx) s.heap h'→gi (model cx.prog cx.w) h' fv) (hp:PO cx g V l (Rep cx g V) ((evs f es k).bind F) s Q E)
 (h:∀ ds k' h' tk' vs,St cx g V l n A env ρ k' {s with heap:=h',toks:=tk'}→Ext (g.W cx) s.heap h'→RepAll cx g V h' vs ds→PO cx g V l (Rep cx g V) (F ds k') {s with heap:=h',toks:=tk'} Q E →
  wpAny (model cx.prog cx.w) A (call fv (first++vs)) Q E {s with heap:=h',toks:=tk'}) :
 wpAny (model cx.prog cx.w) A (callWith pos fv first (backTo pos (starEach es env)) []) Q E s:=by
 refine callWith_of (P:=fun h'=>cx.K.In h'∧Ext (g.W cx) s.heap h') (by rw[f4 hs];rfl) (fun h' X=>hk h' X.1 X.2) ?_
 have key:wpAny (model cx.prog cx.w) A (spliced (backTo pos (starEach es env))) (fun vs s₁=>(cx.K.In s₁.heap∧Ext (g.W cx) s.heap s₁.heap)∧wpAny (model cx.prog cx.w) A (call fv (first++vs)) Q E s₁) E s :=
  jq Hf hstar es k s _ x0 (PO.bind hp fun ds k' _ h' tk' vs t x G rs hp'=>⟨⟨G.X,x⟩,h ds k' h' tk' vs (x0.step t x G) x rs hp'⟩)
 induction es using List.casesOn with
 |nil =>
  refine evalArgs_nil3 ?_
  have:=(hp:PO cx g V l (Rep cx g V) (F [] k) s Q E)
  exact⟨⟨x0.good.X,.refl _ _⟩,h [] k s.heap s.toks [] x0 (.refl _ _) trivial this⟩
 |cons e r =>
  have he:starEach (e::r) env=(false,eval e env)::starEach r env:=cQ fun x p q=>by subst q;injection hs
  rw[he]at key ⊢
  exact evalArgs_plain key
end
noncomputable def AB (A:Around) (n:Nat):Prop:=A.depth+2*n+21≤1000∧A.units+8*n+304≤9800
noncomputable def LOk (cx:Sx) (g:Gh) (calls:Orc) (n:Nat):Prop :=
 ∀(V0 V:List Addr) (me:Option Addr) (d:Int) (v:Value) (k:Nat) (s:Shared) (A:Around) (l:List Env) (Q:Value→Shared→Prop) (E:Value→Shared→Prop),
  AOk A n l→AB A n→Chain cx g l s.heap→Good cx (g.at V0 me) V s.heap k→1≤s.toks→g.rdr=true→LamAt cx (g.W cx) s.heap v d →
  PO cx (g.at V0 me) V l (Rep cx (g.at V0 me) V) (nbO (calls cx.rs [.rdr,.py (.int (d+1))] k)) s Q E→wpAny (model cx.prog cx.w) A (call v [.ref g.R]) Q E s
theorem A6 {cx:Sx}{W:List Addr}{h:Heap}{v:Value}{d:Int}(r:LamAt cx W h v d):gi (model cx.prog cx.w) h v:=by
 obtain⟨fa,_,_,_,_,_,_,_,_,_,_,e,_,e2⟩:=r
 exact e▸⟨.frame,.inl rfl,(Looks.ld (part:=none) e2).andThen .now⟩
section
variable {cx:Sx}{g:Gh}{V:List Addr}{l:List Env}{n:Nat}{A:Around}{env:Env}{ρ:Rho}{k:Nat}{s:Shared}{Q:Value→Shared→Prop}{E:Value→Shared→Prop}{calls:Orc}
 {f:Expr→Nat→Out D}{fb:Expr→Nat→Out Bool}
theorem bx {o:Expr}{m:Str}{ap p:Pos}{args:List Expr}(hc:bw o ap p args=true):eval (.Call (.Attribute o m ap) args [] p) env=(do
 let ov ← eval o env
 standAt ap.atName
 let(f,first) ← holding [ov] (getMethod ov m (do return (← importBound o env).getD true))
 callWith p f first (backTo p (starEach args env)) (backToKw p (keywordEach [] env))):=by
 unfold bw at hc
 simp only[Bool.and_eq_true]at hc
 obtain⟨⟨⟨h1,h2⟩,h3⟩,h4⟩:=hc
 have h3':args.length<30:=Nat.lt_of_lt_of_le (Nat.blt_eq.mp h3) (by decide)
 have hst:(backTo p (starEach args env)).all (!·.1)=true:=by
  have:=f4 (env:=env) (pos:=p) h1
  rw[List.all_eq_not_any_not]
  simpa using this
 show(do
  let ov ← attributeBase o m env (eval o env)
  standAt ap.atName
  methodCall o m ap p env ov (args.length+0) (backTo p (starEach args env)) (backToKw p (keywordEach [] env)))=_
 rw[eH h4]
 have hform:methodCallForm (args.length+0) (backTo p (starEach args env)) (backToKw p (keywordEach [] env))=true:=by
  unfold methodCallForm
  rw[hst]
  show(true&&true&&decide (args.length+0+(if true=true then 0 else 1)<30))=true
  simp only[if_true,Bool.true_and,decide_eq_true_eq]
  omega
 have hpos:methodCallPos true o env ap p=pure p:=by
  unfold methodCallPos
  have:(ap.endLine==p.line)=true:=by have:=Nat.eq_of_beq_eq_true h2;simpa using this
  rw[this]
  rfl
 have:∀ ov,methodCall o m ap p env ov (args.length+0) (backTo p (starEach args env)) (backToKw p (keywordEach [] env))=(do
  let(f,first) ← holding [ov] (getMethod ov m (do return (← importBound o env).getD true))
  callWith p f first (backTo p (starEach args env)) (backToKw p (keywordEach [] env))):=fun ov=>by
  unfold methodCall
  rw[hform,hpos]
  rfl
 simp only[this]
theorem Bu (F:KF cx) (x2:St cx g V l n A env ρ k s) {a:Addr}{vs:List Value}{ds:List D}(rs:RepAll cx g V s.heap vs ds) (hp:PO cx g V l (Rep cx g V) (ofO (sU cx.K cx.dl a ds) k) s Q E) :
 wpAny (model cx.prog cx.w) A (call (.builtin "dict.get") (.ref a::vs)) Q E s:=by
 obtain⟨b,e,hp3⟩:=ga hp
 refine az e fun q hq e=>az e fun x hx e=>cA e fun o hw e=>?_
 obtain rfl:=oK hq
 refine HI rs fun v1 v2 evs r1 r2=>?_
 obtain⟨_,e1⟩:=av (bL (bD hx) r1)
 rw[evs,e1]
 refine wpAny_with_toks x2.tk ?_
 induction o using Option.casesOn with
 |some w=>exact lq F x2.good hw fun ht=>hp3 s.heap _ _ ht (.refl _ _) x2.good (e▸i0 x2.good w)
 |none=>exact lq F x2.good hw fun ht=>hp3 s.heap _ _ ht (.refl _ _) x2.good (e▸r2)
theorem EH (F:KF cx) (O:OOk cx g calls n) (Hf:bC cx g V l n A env ρ f) (hstar:∀ x p k,f (.Starred x p) k=.no) (x0:St cx g V l n A env ρ k s) {o:Expr}{m:Str}{ap p:Pos}{args:List Expr}(hc:bw o ap p args=true)
 (hp:PO cx g V l (Rep cx g V) ((f o k).bind fun d k=>optK (sx (cx.C g calls) d m) fun _=>(evs f args k).bind fun ds k=>Ct (cx.C g calls) d m ds k) s Q E):wpAny (model cx.prog cx.w) A (eval (.Call (.Attribute o m ap) args [] p) env) Q E s:=by
 refine methodCall_KW (b9 Hf x0 hp fun d k1 h1 tk1 v x1 ex1 rv hp1=>cI hp1 fun fv hm hp1=>?_) (bx hc)
 refine wz F x1.good rv hm fun hk=>gM Hf hstar x1 (am (am (am hc).1).1).1 (fun h' X _=>hk h' X) hp1 fun ds k2 h2 tk2 vs x2 ex2 rs hp2=>?_
 have rv2:=rv.ext ex2 x1.good.WV
 show wpAny _ A (call fv (v::vs)) Q E _
 refine mu hm (fun ed f hf _ ef=>?_) (fun x ed hm=>?_) fun a ed _ _ ef=>?_
 ·obtain rfl:=ed
  obtain⟨hr,e⟩:=rv2
  refine cI hp2 fun f' hf' hp2=>bU hp2 fun hnb hp2=>?_
  obtain rfl:=si (hf.symm.trans hf')
  rw[e,ef]
  exact O g.V0 V g.me f (.rdr::ds) (.ref g.R::vs) k2 _ A l Q E x2.ao x2.ch x2.good x2.tk hnb ⟨⟨hr,rfl⟩,rs⟩ hp2
 ·obtain rfl:=ed
  obtain⟨_,e⟩:=av rv2
  rw[e]
  exact eZ x2.tk x2.good hp2 fun r Q' E' e' hq=>zr x2.good hm rs e' hq
 ·obtain rfl:=ed
  rw[show v=_ from rv2,ef]
  exact Bu F x2 rs hp2
theorem wU (F:KF cx) {v:Value}{d:D}{h:Heap}(hk:wV (cx.C g calls) d=true) (rv:Rep cx g V h v d) (h':Heap) (X:cx.K.In h') (he:Ext (g.W cx) h h') (hW:∀ a∈g.W cx,a∈V):gi (model cx.prog cx.w) h' v:=by
 induction d using D.casesOn with
 |glob u=>obtain rfl:=(show v=u from rv);induction v using Value.casesOn with
  |ref a=>exact keeps_K (show keepIn cx.K (.ref a)=true from hk) h' X
  |builtin=>exact dj _
  |type=>exact k8 _
  |_=>exact ft hk
 |lam=>exact A6 (rv.ext he hW:Rep cx g V h' v (.lam _))
 |_=>exact ft hk
theorem aU {fe:Expr}{args:List Expr}{p:Pos}(h:∀ o m ap,fe≠.Attribute o m ap):eval (.Call fe args [] p) env=(do callWith p (← eval fe env) [] (backTo p (starEach args env)) (backToKw p (keywordEach [] env))):=by
 induction fe using Expr.casesOn<;>first | rfl | exact absurd rfl (h _ _ _)
theorem zc (F:KF cx) (O:OOk cx g calls n) (LO:LOk cx g calls n) (hab:AB A n) (x0:St cx g V l n A env ρ k s) {v:Value}{d:D}{vs:List Value}{ds:List D}(rv:Rep cx g V s.heap v d) (rs:RepAll cx g V s.heap vs ds)
 (hp:PO cx g V l (Rep cx g V) (rR (cx.C g calls) d ds k) s Q E):wpAny (model cx.prog cx.w) A (call v vs) Q E s:=by
 induction d using D.casesOn with
 |glob u =>
  obtain rfl:=(show v=u from rv)
  induction v using Value.casesOn with
  |ref a=>exact bU hp fun hnb hp=>O g.V0 V g.me a ds vs k s A l Q E x0.ao x0.ch x0.good x0.tk hnb rs hp
  |builtin=>exact eZ x0.tk x0.good hp fun r Q' E' e' hq=>rJ rs e' hq
  |type=>exact eZ x0.tk x0.good hp fun r Q' E' e' hq=>zj x0.good rs e' hq
  |_=>exact hp.elim
 |lam d =>
  refine cI hp fun d1 h1 hp=>bU hp fun h2 hp=>?_
  obtain rfl:=bB h1
  obtain rfl:=gW h2
  refine tR rs fun v1 ev r=>?_
  rw[ev,r.2]
  exact LO g.V0 V g.me _ v k s A l Q E x0.ao hab x0.ch x0.good x0.tk r.1 rv hp
 |_=>exact hp.elim
theorem Fm (F:KF cx) (O:OOk cx g calls n) (LO:LOk cx g calls n) (hab:AB A n) (Hf:bC cx g V l n A env ρ f) (hstar:∀ x p k,f (.Starred x p) k=.no) (x0:St cx g V l n A env ρ k s) {fe:Expr}{p:Pos}{args:List Expr}(hne:∀ o m ap,fe≠.Attribute o m ap) (hns:noStar args=true)
 (hp:PO cx g V l (Rep cx g V) ((f fe k).bind fun d k=>if wV (cx.C g calls) d then(evs f args k).bind fun ds k=>rR (cx.C g calls) d ds k else .no) s Q E):wpAny (model cx.prog cx.w) A (eval (.Call fe args [] p) env) Q E s:=by
 rw[aU hne]
 refine wpAny_bind (b9 Hf x0 hp fun d k1 h1 tk1 v x1 ex1 rv hp1=>?_)
 refine bU hp1 fun hk hp1=>?_
 ·refine gM Hf hstar x1 hns (fun h' X ex=>wU F hk rv h' X ex x1.good.WV) hp1 fun ds k2 h2 tk2 vs x2 ex2 rs hp2=>?_
  exact zc F O LO hab x2 (rv.ext ex2 x1.good.WV) rs hp2
theorem jw {o:Expr}{ap p:Pos}{args:List Expr}(h:bw o ap p []=true) (h1:noStar args=true) (h2:Nat.blt args.length 29=true):bw o ap p args=true :=
 Bool.and_eq_true_iff.mpr ⟨Bool.and_eq_true_iff.mpr ⟨Bool.and_eq_true_iff.mpr ⟨h1,(am (am (am h).1).1).2⟩,h2⟩,(am h).2⟩
theorem tQ (Hf:bC cx g V l n A env ρ f) (x0:St cx g V l n A env ρ k s) {o:Expr}{ap p p1 p2:Pos}{k1 k2:Nat}{y z:Str}(hc:bw o ap p []=true) (hyz:ac y z=false)
 (hp:PO cx g V l (Rep cx g V) ((f o k).bind fun d k=>vS d y z k) s Q E):wpAny (model cx.prog cx.w) A (eval (.Call (.Attribute o "replace" ap) [.Constant (.str y) k1 p1,.Constant (.str z) k2 p2] [] p) env) Q E s:=by
 refine methodCall_KW (b9 Hf x0 hp fun d k1 h1 tk1 v x1 ex1 rv hp1=>cI hp1 fun x hx hp1=>bU hp1 fun q hp1=>?_) (bx (jw hc rfl rfl))
 obtain⟨_,e⟩:=av (bL (bD hx) rv)
 rw[e]
 refine GM.replace (callWith_of (P:=fun _=>True) rfl (fun h' _=>dj _) (evalArgs_plain ?_))
 refine wpAny_items_cons (wpAny_Constant_str (wpAny_items_cons (wpAny_Constant_str (wpAny_items_nil ⟨trivial,?_⟩))))
 have ht:1≤tk1:=x1.tk
 refine wpAny_with_toks (show 1≤(tk1+1)+1 by omega) ?_
 exact SC.replaceW (by show tk1≠0;omega) (by show tk1+1≠0;omega) (by show tk1≠tk1+1;omega) (cL hyz) (Nat.le_trans (dK (am q).1) (by decide)) (Nat.le_of_ble_eq_true (am q).2) fun t' k ht'=>hp1 h1 k _ ht' (.refl _ _) x1.good (bO _ _)
theorem s6 {x y:Str}{t u:Tok}{Q:Value→Shared→Prop}{M:Program}{W:World}(hx:0<x.length) (hy:0<y.length) (hl:x.length+y.length≤sizeLine) (h:Q (.str (x++y) s.toks) {s with toks:=s.toks+1}):wpAny (model M W) A (binaryOp .Add (.str x t) (.str y u)) Q E s:=by
 refine PySem.P.add_str ?_
 rw[if_neg (by simp;omega),if_neg (by simp;omega)]
 exact⟨by rw[Str.length_append];exact hl,h⟩
theorem Kh (Hf:bC cx g V l n A env ρ f) (x0:St cx g V l n A env ρ k s) {o:Expr}{ap p p1 p2 p3 p4 p5 p6:Pos}{k1 k2 k3:Nat}{y c1 x c2:Str}(hc:bw o ap p []=true) (hk:env.kindOf x=some .local) (ok:bh x=true) (h1:0<c1.length) (h2:0<c2.length)
 (hp:PO cx g V l (Rep cx g V) (Fj ρ f y c1 x c2 o k) s Q E) :
 wpAny (model cx.prog cx.w) A (eval (.Call (.Attribute o "replace" ap) [.Constant (.str y) k1 p1,.BinOp (.BinOp (.Constant (.str c1) k2 p2) .Add (.Name x p3) p4) .Add (.Constant (.str c2) k3 p5) p6] [] p) env) Q E s:=by
 refine cI hp fun w hw hp=>bU hp fun h3 hp=>?_
 refine az hw fun d hx hw=>?_
 obtain rfl:=bD hw
 replace h3:=Nat.blt_eq.mp h3
 refine methodCall_KW (b9 Hf x0 hp fun d k1 hh1 tk1 v x1 ex1 rv hp1=>cI hp1 fun z hz hp1=>bU hp1 fun q hp1=>?_) (bx (jw hc rfl rfl))
 obtain⟨_,e⟩:=av (bL (bD hz) rv)
 rw[e]
 obtain⟨q,q4⟩:=am q
 obtain⟨q,q3⟩:=am q
 have q2:=dK (am q).2
 rw[Str.length_append,Str.length_append]at q2
 have hL:(100000:Nat)≤sizeLine:=by decide
 have ht:1≤tk1:=x1.tk
 refine GM.replace (callWith_of (P:=fun _=>True) rfl (fun h' _=>dj _) (evalArgs_plain ?_))
 obtain⟨m,hn,a,_⟩:=x1.fr.loc
 obtain⟨vw,e1,rw'⟩:=a x _ hx hk
 obtain⟨_,e2⟩:=av rw'
 refine wpAny_items_cons (wpAny_Constant_str (wpAny_items_cons (wpAny_BinOp (wpAny_BinOp (wpAny_Constant_str (wpAny_Name (wpAny_loadName_local x1.fr.kind hk hn (e2▸e1) (s6 h1 h3 (by omega) (wpAny_Constant_str (s6 (by rw[Str.length_append];omega) h2 (by rw[Str.length_append];omega) (wpAny_items_nil ⟨trivial,?_⟩))))) (AX ok)))))))
 refine wpAny_with_toks (show 1≤tk1+1+1+1+1+1 by omega) ?_
 exact SC.replace (by show tk1≠0;omega) (by show tk1+1+1+1+1≠0;omega) (by show tk1≠tk1+1+1+1+1;omega) (cL (qH q3)) (Nat.le_of_ble_eq_true q4) fun t' k ht'=>hp1 hh1 k _ ht' (.refl _ _) x1.good (bO _ _)
theorem wd {α β γ:Type}{Rl:Heap→α→β→Prop}{o:Out γ}{δ:Type}{G:γ→Nat→Out δ}{F:δ→Nat→Out β}{Q:α→Shared→Prop}(hp:PO cx g V l Rl ((o.bind G).bind F) s Q E):PO cx g V l Rl (o.bind fun a k=>(G a k).bind F) s Q E:=by
 induction o using OutK.casesOn<;>exact hp
theorem o0 (x0:St cx g V l n A env ρ k s) (Hf:bC cx g V l n A env ρ f) {α β:Type}{Rl:Heap→α→β→Prop}{e:Option Expr}{F:Option Int→Nat→Out β}{P:Value→Shared→Prop}{Q:α→Shared→Prop}
 (hp:PO cx g V l Rl ((kD f e k).bind F) s Q E)
 (h:∀(o:Option (Int×Tok)) k' h' tk',St cx g V l n A env ρ k' {s with heap:=h',toks:=tk'}→Ext (g.W cx) s.heap h'→PO cx g V l Rl (F (o.map (·.1)) k') {s with heap:=h',toks:=tk'} Q E→P (partValue o) {s with heap:=h',toks:=tk'}) :
 wpAny (model cx.prog cx.w) A (evalPart e env) P E s:=by
 induction e using Option.casesOn with
 |none =>
  rw[evalPart_none]
  exact wpAny_pure (h none k s.heap s.toks x0 (.refl _ _) hp)
 |some e =>
  rw[evalPart_some]
  refine b9 Hf x0 (wd hp) fun d k1 h1 tk1 v x1 ex1 rv hp1=>?_
  induction hi:intD d using Option.casesOn with
  |none=>rw[hi]at hp1;exact hp1.elim
  |some i =>
   rw[hi]at hp1
   obtain⟨t,e⟩:=au (bL (bn hi) rv)
   rw[e]
   exact h (some (i,t)) k1 h1 tk1 x1 ex1 hp1
theorem lN {h:Heap}{i:Nat}{vs:List Value}{ds:List PyData}{as:List Addr}(r:ReadsAll h vs ds as):∃ bs,ReadsAll h (vs.drop i) (ds.drop i) bs :=
 pg (M:=fun vs ds=>∀ i,∃ bs,ReadsAll h (vs.drop i) (ds.drop i) bs) (fun i=>by rw[List.drop_nil,List.drop_nil];exact⟨_,.nil⟩) (fun _ _ _ _ _ _ r rs ih i=>match i with
  |0=>⟨_,.cons r rs⟩
  |i+1=>ih i) r i
theorem kl {v:Expr}{sl:Expr}{T id:String}{o i:Value}(hl:typeLookup (.type T) "__getitem__"=pure (some (.builtin id))) (hT:s.TypeIs o T) {lo hi:Option Expr}{p:Pos}(hg:wpAny (model cx.prog cx.w) A (getItem o i) Q E s) :
 wpAny (model cx.prog cx.w) A (subscriptTail v (.Slice lo hi none p) o i) Q E s:=by
 unfold subscriptTail
 refine wpAny_bind ?_
 rw[getitemInPython_of_ne hT.not_modules]
 refine wpAny_bind (wpAny_specialOf hT hl ?_)
 have fin:wpAny (model cx.prog cx.w) A (operate [i,o] (getItem o i)) (fun r s₃=>wpAny (model cx.prog cx.w) A (letTemporaryGo v o r >>= fun _=>pure r) Q E s₃) E s :=
  wpAny_operating (wpAny_mono hg (fun r s₃ h₃=>wpAny_bind (wpAny_letTemporaryGo (wpAny_pure h₃))) fun _ _ x=>x)
 first
  |exact wpAny_pure (wpAny_bind fin)
  |exact wpAny_bind (wpAny_pure (wpAny_bind fin))
  |exact wpAny_bind fin
theorem o5 (G:Good cx g V s.heap k) (ht:1≤s.toks) {x:Str}{t:Tok}{lo hi:Option (Int×Tok)}(q:sm x.length=true)
 (hp:PO cx g V l (Rep cx g V) (.ok (.py (.str (Txt.slice x (lo.map (·.1)) (hi.map (·.1))))) k) s Q E) :
 wpAny (model cx.prog cx.w) A (getItem (.str x t) (.ref s.heap.objs.size)) Q E {s with heap:=s.heap.push {cls:=.type "slice",data:=.fields #[partValue lo,partValue hi,.none]}}:=by
 refine wpAny_with_toks (s:={s with heap:=s.heap.push {cls:=.type "slice",data:=.fields #[partValue lo,partValue hi,.none]}}) ht ?_
 refine wpAny_getItem_str_slice (l:=lo) (u:=hi) (st:=none) ⟨_,Heap.get?_push_size _ rfl,rfl,rfl⟩ rfl ?_
 refine post_val_or_str ⟨Nat.le_trans (Txt.slice_le x _ _) (cy q),fun t' k' ht'=>?_⟩
 exact hp _ k' _ ht' (.push _) (G.keeps (.push _ _)) (bO _ _)
theorem nj (G:Good cx g V s.heap k) (ht:1≤s.toks) {a:Addr}{vs:Array Value}{xs:List PyData}{bs:List Addr}{i:Nat}{lt:Tok}(hl:s.heap.IsList a vs) (ra:ReadsAll (hideAll s.heap V) vs.toList xs bs) (q:sm xs.length=true)
 (hp:PO cx g V l (Rep cx g V) (.ok (.py (.list (xs.drop i))) k) s Q E) :
 wpAny (model cx.prog cx.w) A (getItem (.ref a) (.ref s.heap.objs.size)) Q E {s with heap:=s.heap.push {cls:=.type "slice",data:=.fields #[.int (Int.ofNat i) lt,.none,.none]}}:=by
 have hlen:=readsAll_len ra
 rw[Array.length_toList]at hlen
 refine wpAny_getItem_list_slice (lo:=some (Int.ofNat i)) (hi:=none) (st:=none) (hl.push _) (Heap.IsSliceOf.new ..) (.int _ _) .none .none (by simp) ?_ (by rw[hlen];exact cy q)
 have hk2:Keeps' s.heap ((s.heap.push {cls:=.type "slice",data:=.fields #[.int (Int.ofNat i) lt,.none,.none]}).push {cls:=.type "list",data:=.seq (slicePick vs (some (Int.ofNat i)) none none)}):=(Keeps'.push _ _).trans (.push _ _)
 obtain⟨cs,rd⟩:=lN (i:=i) ra
 have hd:(slicePick vs (some (Int.ofNat i)) none none).toList=vs.toList.drop i:=by
  have:=slicePick_from' vs i
  rw[show(Int.ofNat i)=((i:Nat):Int)from rfl,this]
 exact hp _ s.toks _ ht hk2.ext (G.keeps hk2) (G.newList hk2 (G.fresh (by show _≤(s.heap.push _).objs.size;rw[Heap.size_push];exact Nat.le_succ _)) (Heap.get?_push_size _ rfl) rfl rfl (by rw[hd];exact rd))
theorem tE (G:Good cx g V s.heap k) (ht:1≤s.toks) {v:Expr}{lo' hi':Option Expr}{p:Pos}{o:Value}{d:D}{lo hi:Option (Int×Tok)}(rv:Rep cx g V s.heap o d)
 (hp:PO cx g V l (Rep cx g V) (kn d (lo.map (·.1)) (hi.map (·.1)) k) s Q E) :
 wpAny (model cx.prog cx.w) A (subscriptTail v (.Slice lo' hi' none p) o (.ref s.heap.objs.size)) Q E {s with heap:=s.heap.push {cls:=.type "slice",data:=.fields #[partValue lo,partValue hi,.none]}}:=by
 induction d using D.casesOn with
 |py pd =>
  induction pd using PyData.casesOn with
  |str x =>
   obtain⟨_,e⟩:=av rv
   rw[e]
   exact bU hp fun q hp=>kl (sl:=v) PySem.F.slot_str_getitem.lookup (typeIs_str _ _ _) (o5 G ht q hp)
  |list xs =>
   obtain⟨a,ob,vs,n',bs,e0,e1,e2,e3,ra⟩:=eK rv
   rw[e0]
   refine bU hp fun q hp=>?_
   obtain⟨b,e,hp⟩:=ga hp
   refine cA e fun ys e' eb=>?_
   have hl:s.heap.IsList a vs:=bE (of_hideAll _ e1) e2 e3
   induction hi using Option.casesOn with
   |some _=>exact nn e'
   |none =>
    refine cA e' fun i hi ey=>az hi fun li hlo hi=>?_
    obtain rfl:=md hi
    induction lo using Option.casesOn with
    |none=>exact nn hlo
    |some lt =>
     obtain⟨li,t⟩:=lt
     cases si hlo
     obtain rfl:=ey;obtain rfl:=eb
     exact kl (sl:=v) list_getitem_lookup (hl.push _).typeIs (nj G ht hl ra q hp)
  |_=>exact hp.elim
 |_=>exact hp.elim
theorem zs (Hf:bC cx g V l n A env ρ f) (x0:St cx g V l n A env ρ k s) {v:Expr}{lo hi:Option Expr}{p pos:Pos}
 (hp:PO cx g V l (Rep cx g V) (vG f v lo hi k) s Q E):wpAny (model cx.prog cx.w) A (eval (.Subscript v (.Slice lo hi none p) pos) env) Q E s:=by
 refine Subscript_ (b9 Hf x0 hp fun d k1 h1 tk1 o x1 ex1 rv hp1=>wpAny_Slice (o0 x1 Hf hp1 fun lo' k2 h2 tk2 x2 ex2 hp2=>o0 x2 Hf hp2 fun hi' k3 h3 tk3 x3 ex3 hp3=>?_))
 rw[evalPart_none]
 exact wpAny_pure (tE x3.good x3.tk ((rv.ext ex2 x1.good.WV).ext ex3 x2.good.WV) hp3)
end
section
variable {cx:Sx}{g:Gh}{V:List Addr}{l:List Env}{n:Nat}{A:Around}{env:Env}{ρ:Rho}{k:Nat}{s:Shared}{Q:Value→Shared→Prop}{E:Value→Shared→Prop}{calls:Orc}
 {f:Expr→Nat→Out D}{fb:Expr→Nat→Out Bool}
theorem ki {hr h':Heap}{ls:List Addr}(k:∀ b o,hr.get? b=some o→h'.get? b=some o):(hideAll hr ls).StaysIn h':=fun b o e=>k b o (of_hideAll ls e)
theorem g6 {hr:Heap}{ls:List Addr}{x:Addr}(k:hr.get? x=none):(hideAll hr ls).get? x=none:=by
 induction q:(hideAll hr ls).get? x using Option.casesOn with
 |none=>rfl
 |some o=>rw[of_hideAll _ q]at k;injection k
theorem pC {M:Model}{h h':Heap}{e:Value}{L:Addr}{outer:List Env}{Q:Unit→Shared→Prop}(hfr:A.frames=some (env::outer)) (hf:env.frame=some L) (x:Fl cx g (env::outer) h h' e)
 (hQ:∀ h'',Fl cx g outer h h'' e→Q () {s with heap:=h''}):wpAny M A (leaving env e) Q E {s with heap:=h'}:=by
 obtain⟨hr,a,ex,rfl,⟨t,k0,ls,hls,m | fl⟩⟩:=x
 ·obtain⟨k,hn,⟨oe,vs,a0,he,hc,hd,h1,h0⟩,ff⟩:=m
  refine wpAny_leaving_firstW (s:={s with heap:=h'}) hfr ff hf he (ki k) (g6 hn) hd h1 h0 fun h'' ⟨l1,l2,l3,l4⟩=>hQ h'' ⟨hr,a,ex,rfl,⟨t,k0,ls,hls,.inr ⟨a0,⟨l1,g6 hn,l2.2.2,hc▸l3⟩,?_⟩⟩⟩
  exact(Heap.UpToSlots.of_keeps k).trans l4
 ·obtain⟨a0,fl,u⟩:=fl
  exact wpAny_leaves_onW (s:={s with heap:=h'}) hfr hf fl fun h'' f2 u2=>hQ h'' ⟨hr,a,ex,rfl,⟨t,k0,ls,hls,.inr ⟨a0,f2,u.trans u2⟩⟩⟩
noncomputable def ev1 (c:Cx) (sc:Scope) (ρ:Rho) (e:Expr) (k:Nat):Out D:=orK (jd e) (fun q=>ofO (rB q.1.1) k) (optK (eE e) fun q=>if bh q.1.1 then ofO (iQ c.K sc ρ q.1.1) k else .no)
noncomputable def ev2 (c:Cx) (sc:Scope) (ρ:Rho) (e:Expr) (k:Nat):Out D:=orK (FF e) (fun q=>(ev1 c sc ρ q.1.1 k).bind fun a k=>(ev1 c sc ρ q.1.2.2.1 k).bind fun b k=>ofO (aK q.1.2.1 a b) k) (ev1 c sc ρ e k)
theorem yN {sc:Scope}(hs:bI sc env):bC cx g V l n A env ρ (ev1 (cx.C g calls) sc ρ):=fun e k s Q E x0 hp=>by
 refine jJ hp (fun q _ hp=>?_) fun _ hp=>cI hp fun q _ hp=>bU hp fun ok hp=>?_
 ·obtain⟨q,rfl⟩:=q
  exact eZ x0.tk x0.good hp fun d Q' E' e h=>pU e h
 ·obtain⟨q,rfl⟩:=q
  exact sk hs x0 ok hp
theorem yM {sc:Scope}(hs:bI sc env):bC cx g V l n A env ρ (ev2 (cx.C g calls) sc ρ):=fun e k s Q E x0 hp=>by
 refine jJ hp (fun q _ hp=>?_) fun _ hp=>yN hs _ _ _ _ _ x0 hp
 obtain⟨q,rfl⟩:=q
 exact C9 (yN hs) x0 hp
theorem yL (c:Cx) (sc:Scope) (ρ:Rho):∀ x p k,ev2 c sc ρ (.Starred x p) k=.no:=fun _ _ _=>rfl
theorem cj {V V':List Addr}{h h':Heap}(x:Keeps' h h') (hV:∀ a∈V',a∈V∨h.get? a=none) (b:Addr) (o:Obj) (e:(hideAll h V).get? b=some o):(hideAll h' V').get? b=some o:=by
 obtain⟨e1,e2⟩:=dG e
 exact hideAll_get V' (x b o e1) fun m=>(hV b m).elim e2 fun q=>by first | exact nn (q.symm.trans e1) | (rw[q]at e1;cases e1)
theorem yG {W V V':List Addr}{h h':Heap}(x:Ext W h h') (hW:∀ a∈W,a∈V) (hV:∀ a∈V',a∈V∨h.get? a=none) (b:Addr) (o:Obj) (e:(hideAll h V).get? b=some o):(hideAll h' V').get? b=some o:=by
 obtain⟨e1,e2⟩:=dG e
 exact hideAll_get V' (x.keep b o (fun m=>e2 (hW b m)) e1) fun m=>(hV b m).elim e2 fun q=>by first | exact nn (q.symm.trans e1) | (rw[q]at e1;cases e1)
theorem fT {V V':List Addr}{h:Heap}(hV:∀ a∈V,a∈V') (b:Addr) (o:Obj) (e:(hideAll h V').get? b=some o):(hideAll h V).get? b=some o:=by
 obtain⟨e1,e2⟩:=dG e
 exact hideAll_get V e1 fun m=>e2 (hV b m)
theorem Rep.move {g':Gh}{V V':List Addr}{h h':Heap}{v:Value}{d:D}(hg:g'.W cx=g.W cx∧g'.rdr=g.rdr∧g'.R=g.R) (hnb:nb d=true) (ext:Ext (g.W cx) h h')
 (hk:∀ b o,(hideAll h V).get? b=some o→(hideAll h' V').get? b=some o) (r:Rep cx g V h v d):Rep cx g' V' h' v d:=by
 exact r.map hk (fun _ _=>hg.1.symm▸LamAt.map fun b o hb e _=>⟨hb,ext.keep b o hb e⟩) (fun r=>⟨hg.2.1.trans r.1,hg.2.2.symm▸r.2⟩) fun l e _=>by obtain rfl:=e;exact ft hnb
theorem RepAll.move {g':Gh}{V V':List Addr}{h h':Heap}(hg:g'.W cx=g.W cx∧g'.rdr=g.rdr∧g'.R=g.R) (ext:Ext (g.W cx) h h')
 (hk:∀ b o,(hideAll h V).get? b=some o→(hideAll h' V').get? b=some o):∀{vs:List Value}{ds:List D},ds.all nb=true→RepAll cx g V h vs ds→RepAll cx g' V' h' vs ds
 |[],[],_,_=>trivial
 |_::_,_::_,hn,⟨r,rs⟩=>by
  simp only[List.all_cons,Bool.and_eq_true]at hn
  exact⟨r.move hg hn.1 ext hk,RepAll.move hg ext hk hn.2 rs⟩
 |[],_::_,_,x=>x.elim
 |_::_,[],_,x=>x.elim
theorem Good.grow (G:Good cx g V s.heap k) {h':Heap}{V':List Addr}{V0:List Addr}{me:Option Addr}(x:Keeps' s.heap h') (hV:∀ a∈V,a∈V') (hV':∀ a∈V',a∈V∨(s.heap.get? a=none∧∃ o,h'.get? a=some o)):Good cx (g.at V0 me) V' h' k:=by
 exact G.mv (fun b o _ e=>x b o e) (fun a ha=>⟨(hV' a ha).elim (fun m=>let⟨o,e⟩:=G.alive a m;⟨o,x _ _ e⟩) (·.2),(hV' a ha).elim (G.V0 a) fun m=>G.none0 m.1⟩) (fun a ha=>hV a (G.WV a ha))
  (cj x fun a ha=>(hV' a ha).imp id (·.1)) fun b _ o e=>x b o e
theorem Good.shrink {V':List Addr}{V0:List Addr}{me:Option Addr}{h:Heap}(G:Good cx (g.at V0 me) V' h k) (hV:∀ a∈V,a∈V') (hW:∀ a∈g.W cx,a∈V):Good cx g V h k:=by
 exact G.mv (g:=g.at V0 me) (V0:=g.V0) (me:=g.me) (fun _ _ _ e=>e) (fun a ha=>⟨G.alive a (hV a ha),G.V0 a (hV a ha)⟩) hW (fT hV) fun _ _ _ e=>e
theorem Good.to {h:Heap}(G:Good cx g V h k) (V0:List Addr) (me:Option Addr):Good cx (g.at V0 me) V h k:=⟨G.keep,G.alive,G.WV,G.V0,G.tabs,G.rd⟩
theorem bv {h:Heap}{a:Addr}(ha:h.objs.size≤a):h.get? a=none:=Heap.get?_none_of_le ha
theorem Chain.cons {h:Heap}{L:Addr}{m:Str→Option Value}(c:Chain cx g l h) (hk:env.scope.kind≠.module) (hf:env.frame=some L) (hn:h.Ns L m) (hw:L∉g.W cx) (hz:cx.H0.get? L=none):Chain cx g (env::l) h:=fun e he=>by
 rcases List.mem_cons.mp he with rfl | he
 ·obtain⟨o,es,ep,ho,hd,_⟩:=hn
  exact⟨hk,L,o,hf,hw,hz,ho,es,ep,hd⟩
 ·exact c e he
theorem AOk.deep (x:AOk A (n+1) l) (env:Env):AOk (A.deeper env) n (env::l)∧(A.deeper env).depth+2*n+21≤1000∧(A.deeper env).units+8*n+304≤9800:=by
 have h1:=x.depth
 have h2:=x.units
 have e1:(A.deeper env).depth=A.depth+1:=rfl
 have e2:(A.deeper env).units=A.units+3:=rfl
 refine⟨⟨x.handled,Around.frames_deeper x.frames,?_,?_⟩,?_,?_⟩<;>omega
theorem aY (x:Str) (d:D) (r:Rho) (y:Str):aH ((x,d)::r) y=if x=y then some d else aH r y:=by
 show(match ac x y with | true=>some d | false=>aH r y)=_
 rw[eO]
 by_cases h:x=y<;>simp[h]
theorem bc {sc:Scope}{x:Str}{kd:NameKind}(h:aO sc x kd=true):sc.names.lookup x=some kd:=by
 unfold aO at h
 rw[fR]at h
 revert h
 induction sc.names.lookup x using Option.casesOn with
 |none=>exact ft
 |some k'=>induction k' using NameKind.casesOn<;>induction kd using NameKind.casesOn<;>first | exact fun _=>rfl | exact ft
theorem K7 {qual:Str}{ps:Arguments}{sc':Scope}{cl:List (Str×Addr)}{c' fa L:Addr}:True:=trivial
theorem Eu {o:Out D}{d:D}{k':Nat}(e:nbO o=.ok d k'):nb d=true:=by
 unfold nbO at e
 split at e
 ·split at e
  ·cases e;assumption
  ·first | exact nn e | exact ft e | exact on e | exact oe e | cases e
 ·rename_i h
  subst e
  exact absurd rfl (h d k')
theorem PO.enter {V' V0:List Addr}{me me':Option Addr}{out:Out D}{h₁:Heap}{tk:Nat}{X:Value→Shared→Prop}{A':Around}{M:Model}{L:Addr}(G:Good cx (g.at V0 me) V s.heap k) (hfr:A'.frames=some (env::l)) (hf:env.frame=some L)
 (hnb:∀ d k',out=.ok d k'→nb d=true) (hV:∀ a∈V,a∈V') (hk:Keeps' s.heap h₁) (hp:PO cx (g.at V0 me) V l (Rep cx (g.at V0 me) V) out s Q E) :
 PO cx (g.at V me') V' (env::l) (Rep cx (g.at V me') V') out {s with heap:=h₁,toks:=tk} Q (fun e s'=>wpAny M A' (leaving env e) (fun _ s''=>E e s'') X s'):=by
 induction out using OutK.casesOn with
 |ok d k' =>
  intro h' tk' a t x G' r
  exact hp h' tk' a t ((hk.ext).trans x) ((G'.shrink (V0:=V) (me:=me') hV G.WV).to V0 me) (Rep.move (g:=g.at V me') (g':=g.at V0 me) ⟨rfl,rfl,rfl⟩ (hnb d k' rfl) (.refl _ _) (fT hV) r)
 |exc =>
  intro h' tk' e t fl
  exact pC (s:={s with heap:=h',toks:=tk'}) (cx:=cx) (g:=g) (h:=h₁) (h':=h') hfr hf fl fun h'' fl'=>hp h'' tk' e t (Fl.trans (g:=g) hk.ext fl')
 |no=>exact hp
theorem mD {α:Type}{P:Prop} [Decidable P] {x y:α}(h:(if P then some x else none)=some y):P∧x=y:=by
 by_cases q:P
 ·rw[if_pos q]at h;exact⟨q,si h⟩
 ·rw[if_neg q]at h;exact nn h
theorem NC {α:Type}{P:α→Prop}{o:Option {q:α // P q}}{R:Prop}{β:Type}{f:{q:α // P q}→Option β}{b:β}(h:o.bind f=some b) (w:∀ q (hq:P q),f ⟨q,hq⟩=some b→R):R:=az h fun a _ e=>w a.1 a.2 e
theorem q9 {e:Expr}(h:sJ e=true):∃ a p,e=.Constant (.int 1) a p:=by
 unfold sJ at h
 induction hv:jd e using Option.casesOn with
 |none=>rw[hv]at h;exact ft h
 |some q =>
  rw[hv]at h
  obtain⟨⟨c,a,p⟩,rfl⟩:=q
  replace h:(match(rV c).bind fun i=>qI i.1 with | some j=>Nat.beq j 1 | none=>false)=true:=h
  induction hc:rV c using Option.casesOn with
  |none=>rw[hc]at h;exact ft h
  |some i =>
   rw[hc]at h
   obtain⟨i,rfl⟩:=i
   replace h:(match qI i with | some j=>Nat.beq j 1 | none=>false)=true:=h
   induction hj:qI i using Option.casesOn with
   |none=>rw[hj]at h;exact ft h
   |some j=>rw[hj]at h;obtain rfl:=md hj;obtain rfl:=Nat.eq_of_beq_eq_true h;exact⟨a,p,rfl⟩
theorem q8 {o:Option D}(h:w8 o=true):o=some (.py (.int 2)):=by
 unfold w8 at h
 induction o using Option.casesOn with
 |none=>exact ft h
 |some d =>
  replace h:(match kI d with | some j=>Nat.beq j 2 | none=>false)=true:=h
  induction hj:kI d using Option.casesOn with
  |none=>rw[hj]at h;exact ft h
  |some j=>rw[hj]at h;obtain rfl:=Nat.eq_of_beq_eq_true h;rw[fP hj];rfl
theorem oh {o:Option D}{a:Addr}(h:oj a o=true):o=some (.glob (.ref a)):=by
 unfold oj at h
 induction o using Option.casesOn with
 |none=>exact ft h
 |some d =>
  replace h:(match vX d with | some q=>Nat.beq q a | none=>false)=true:=h
  induction hj:vX d using Option.casesOn with
  |none=>rw[hj]at h;exact ft h
  |some j=>rw[hj]at h;obtain rfl:=Nat.eq_of_beq_eq_true h;rw[l7 hj]
theorem sQ {c:Cx}{sc:Scope}{ρ:Rho}{y:Str}{p:Pos}{k:Nat}{d:D}(h:bh y=true) (hk:aO sc y .local=true∨aO sc y .free=true) (e:aH ρ y=some d):ev1 c sc ρ (.Name y p) k=.ok d k:=by
 have:iQ c.K sc ρ y=some d:=by
  unfold iQ
  rw[fR]
  exact hk.elim (fun hk=>by rw[bc hk];exact e) fun hk=>by rw[bc hk];exact e
 show(if bh y then ofO (iQ c.K sc ρ y) k else .no)=_
 rw[h,this];rfl
theorem pT {c:Cx}{sc:Scope}{ρ:Rho}{y:Str}{p:Pos}{k:Nat}{d:D}(h:pN sc y=true) (e:d7 c.K y=some d):ev1 c sc ρ (.Name y p) k=.ok d k:=by
 have:iQ c.K sc ρ y=some d:=by
  unfold iQ
  rw[fR,bc (am h).2]
  exact e
 show(if bh y then ofO (iQ c.K sc ρ y) k else .no)=_
 rw[(am h).1,this];rfl
noncomputable def qd (ρ:Rho) (x:Option Str) (d:Int):Prop:=match x with
 |some y=>aH ρ y=some (.py (.int d))
 |none=>d=1
theorem qY {sc:Scope}{i:Str}{e:Expr}{x:Option Str}{c:Cx}{ρ:Rho}{d:Int}{k:Nat}(h:n7 c.K sc i e=some x) (cp:qd ρ x d):ev2 c sc ρ e k=.ok (.py (.int (d+1))) k∧cP e=false:=by
 unfold n7 at h
 induction hb:zi e using Option.casesOn with
 |some b =>
  rw[hb]at h
  obtain⟨⟨bl,br,bp⟩,rfl⟩:=b
  replace h:((eE bl).bind fun y=>if sJ br&&bh y.1.1&&aO sc y.1.1 .free&&!ac i y.1.1 then some (some y.1.1)else none)=some x:=h
  refine az h fun y _ h=>?_
  obtain⟨⟨y,p⟩,rfl⟩:=y
  obtain⟨q,rfl⟩:=aP h
  obtain⟨ka,pa,rfl⟩:=q9 (am (am (am q).1).1).1
  refine⟨?_,rfl⟩
  show((ev1 c sc ρ (.Name y p) k).bind _)=_
  rw[sQ (p:=p) (am (am (am q).1).1).2 (.inr (am (am q).1).2) cp];rfl
 |none =>
  rw[hb]at h
  refine az h fun y _ h=>?_
  obtain⟨⟨y,p⟩,rfl⟩:=y
  obtain⟨q,rfl⟩:=aP h
  obtain rfl:=(show d=1 from cp)
  exact⟨pT (p:=p) (am q).1 (q8 (am q).2),rfl⟩
theorem qZ {sc:Scope}{i:Str}{a1 a2:Expr}{x:Option Str}{c:Cx}{ρ:Rho}{d:Int}{k:Nat}(h:n8 c.K sc i a1 a2=some x) (hi:bh i=true) (hl:aO sc i .local=true) (er:aH ρ i=some .rdr) (cp:qd ρ x d) :
 noStar [a1,a2]=true∧evs (ev2 c sc ρ) [a1,a2] k=.ok [.rdr,.py (.int (d+1))] k:=by
 unfold n8 at h
 induction hn:eE a1 using Option.casesOn with
 |none=>rw[hn]at h;exact nn h
 |some n1 =>
  rw[hn]at h
  obtain⟨⟨i',p1⟩,rfl⟩:=n1
  obtain⟨hs,h2⟩:=eX h
  obtain rfl:i=i':=(ay _ _).mp hs
  obtain⟨hv,hst⟩:=qY (k:=k) h2 cp
  refine⟨?_,?_⟩
  ·show(true&&(!cP a2&&true))=true;rw[hst];rfl
  ·show((ev2 c sc ρ (.Name i p1) k).bind _)=_
   rw[show ev2 c sc ρ (.Name i p1) k=_ from sQ (p:=p1) hi (.inl hl) er]
   show(((ev2 c sc ρ a2 k).bind _).bind _)=_
   rw[hv];rfl
theorem qX {sc:Scope}{i:Str}{args:List Expr}{x:Option Str}{c:Cx}{ρ:Rho}{d:Int}{k:Nat}(h:j2 c.K sc i args=some x) (hi:bh i=true) (hl:aO sc i .local=true) (er:aH ρ i=some .rdr) (cp:qd ρ x d) :
 noStar args=true∧evs (ev2 c sc ρ) args k=.ok [.rdr,.py (.int (d+1))] k:=by
 unfold j2 at h
 induction hq:vL2 args using Option.casesOn with
 |none=>rw[hq]at h;exact nn h
 |some q=>rw[hq]at h;rw[q.2];exact qZ h hi hl er cp
structure LamS (K:Frag) (rs:Addr) (ps:Arguments) (body:Expr) (sc:Scope) (i:Str) (x:Option Str):Prop where
 ps:∃ a:Arg,ps=⟨[],[a],none,[],[],none,[]⟩∧a.arg=i
 kind:sc.kind=.function
 gen:sc.isGenerator=false
 co:sc.isCoroutine=false
 cell:∀ y∈sc.names,y.2≠.cell
 oki:bh i=true
 loc:aO sc i .local=true
 bd:∃ rn p1 args p,body=.Call (.Name rn p1) args [] p∧pN sc rn=true∧d7 K rn=some (.glob (.ref rs))∧j2 K sc i args=some x
 kp:keepIn K (.ref rs)=true
 fr:jP sc.names=x.toList
 fre:∀ y,x=some y→aO sc y .free=true
theorem uu {sc:Scope}(h:rh sc=true):sc.kind=.function:=by
 unfold rh at h
 revert h
 induction sc.kind using ScopeKind.casesOn<;>first | exact fun _=>rfl | exact ft
theorem ur {x:Option Str}{l:List Str}(h:yy x l=true):l=x.toList:=by
 induction x using Option.casesOn with
 |none=>exact List.isEmpty_iff.mp h
 |some x =>
  induction l using List.casesOn with
  |nil=>exact ft h
  |cons z r=>obtain rfl:=(ay _ _).mp (am h).1;obtain rfl:=List.isEmpty_iff.mp (am h).2;rfl
theorem wR {K:Frag}{rs:Addr}{a:Arg}{rn:Str}{p1 p:Pos}{args:List Expr}{sc:Scope}{x:Option Str}(h:Cw K rs sc a.arg rn args=some x):LamS K rs ⟨[],[a],none,[],[],none,[]⟩ (.Call (.Name rn p1) args [] p) sc a.arg x:=by
 obtain⟨q,h⟩:=eX h
 refine az h fun x' hx h=>?_
 obtain⟨hf,rfl⟩:=aP h
 obtain⟨q,q6⟩:=am q
 obtain⟨q,q5⟩:=am q
 obtain⟨q,q4⟩:=am q
 obtain⟨q,q3⟩:=am q
 obtain⟨q1,q2⟩:=am q
 obtain⟨q1,r4⟩:=am q1
 obtain⟨q1,r3⟩:=am q1
 obtain⟨r1,r2⟩:=am q1
 refine⟨⟨a,rfl,rfl⟩,uu r1,qH r2,qH r3,fun y hy q=>?_,q2,q3,⟨rn,p1,args,p,rfl,q4,oh q5,hx⟩,q6,ur (am hf).1,fun y e=>by obtain rfl:=e;exact(am hf).2⟩
 have:=List.all_eq_true.mp r4 y hy
 unfold sg at this
 rw[q]at this;exact ft this
theorem pF {K:Frag}{rs:Addr}{ps:Arguments}{body:Expr}{sc:Scope}{i:Str}{x:Option Str}(h:mB K rs ps body sc=some (i,x)):LamS K rs ps body sc i x:=by
 unfold mB at h
 induction ha:BO ps using Option.casesOn with
 |none=>rw[ha]at h;exact nn h
 |some a =>
 induction hb:rW body using Option.casesOn with
 |none=>rw[ha,hb]at h;exact nn h
 |some b =>
 rw[ha,hb]at h
 obtain⟨a,rfl⟩:=a
 obtain⟨⟨f,args,kws,p⟩,rfl⟩:=b
 refine cA (show(wS K rs sc a.arg f args kws).map _=_ from h) fun x' h e=>?_
 cases e
 unfold wS at h
 induction hk:lJ kws using Option.casesOn with
 |none=>rw[hk]at h;exact nn h
 |some z =>
 induction hn:eE f using Option.casesOn with
 |none=>rw[hk,hn]at h;exact nn h
 |some rn =>
 rw[hk,hn]at h
 obtain⟨rfl⟩:=z
 obtain⟨⟨rn,p1⟩,rfl⟩:=rn
 exact wR h
theorem EP {i:Str}{x:Option Str}{d:Int}{g1:Gh}{V':List Addr}{h₁:Heap}{env:Env}{sc:Scope}{cl:List (Str×Addr)}{m:Str→Option Value}(hm:g1.me=none) (kind:env.scope.kind=.function) (gl:env.globals=mainGlobals) (bi:env.builtins=builtinsNs) (LV:env.locals∈V') (LW:env.locals∉g1.W cx)
 (hns:h₁.Ns env.locals m) (mi:m i=some (.ref g1.R)) (hr:g1.rdr=true) (hkof:∀ y,env.kindOf y=sc.names.lookup y) (hi:sc.names.lookup i=some .local) (hx:∀ y,x=some y→sc.names.lookup y=some .free) (hcl:env.cells=cl) (cp:LamCl (g1.W cx) h₁ cl x d) :
 ∃ ρ,FrS cx g1 V' env ρ h₁∧aH ρ i=some .rdr∧qd ρ x d:=by
 induction x using Option.casesOn with
 |none =>
  have R:∀{y e},aH [(i,D.rdr)] y=some e→i=y∧.rdr=e:=fun {y e} h=>mD (aY i .rdr [] y▸h)
  refine⟨[(i,.rdr)],⟨kind,gl,bi,LV,LW,⟨m,hns,fun y e h _=>?_,fun y z l l' h=>?_⟩,fun y e h kk=>?_,fun me q=>nn (hm.symm.trans q),fun y l h=>?_⟩,by rw[aY,if_pos rfl],cp.2⟩
  ·obtain⟨rfl,rfl⟩:=R h;exact⟨_,mi,hr,rfl⟩
  ·exact nomatch (R h).2
  ·obtain⟨rfl,rfl⟩:=R h;rw[hkof,hi]at kk;rcases kk with kk | kk<;>exact nomatch kk
  ·exact nomatch (R h).2
 |some x =>
  obtain⟨c,tk,ecl,hcW,hc⟩:=cp
  have hx:=hx x rfl
  have hne:x≠i:=fun q=>by first | exact nn (hi.symm.trans (q▸hx)) | (rw[q,hi]at hx;cases hx)
  have R:∀{y e},aH [(i,D.rdr),(x,.py (.int d))] y=some e→(i=y∧.rdr=e)∨(x=y∧.py (.int d)=e):=fun {y e} h=>by
   rw[aY]at h
   by_cases q:i=y
   ·rw[if_pos q]at h;exact .inl ⟨q,si h⟩
   ·rw[if_neg q,aY]at h;exact .inr (mD h)
  refine⟨[(i,.rdr),(x,.py (.int d))],⟨kind,gl,bi,LV,LW,⟨m,hns,fun y e h kk=>?_,fun y z l l' h=>?_⟩,fun y e h kk=>?_,fun me q=>nn (hm.symm.trans q),fun y l h=>?_⟩,by rw[aY,if_pos rfl],?_⟩
  ·rcases R h with⟨rfl,rfl⟩ | ⟨rfl,rfl⟩
   ·exact⟨_,mi,hr,rfl⟩
   ·rw[hkof,hx]at kk;exact nomatch kk
  ·rcases R h with q | q<;>exact nomatch q.2
  ·rcases R h with⟨rfl,rfl⟩ | ⟨rfl,rfl⟩
   ·rw[hkof,hi]at kk;rcases kk with kk | kk<;>exact nomatch kk
   ·exact⟨c,_,by rw[hcl,ecl,List.lookup_cons,beq_self_eq_true],hcW,hc,ck _ _,rfl⟩
  ·rcases R h with q | q<;>exact nomatch q.2
  ·show aH _ x=_
   rw[aY,if_neg hne.symm,aY,if_pos rfl]
theorem wP (O:OOk cx g calls n) {sc':Scope}(hsc:bI sc' env) {R:Value→Shared→Prop}{W':Value→Shared→Prop}{i:Str}{x:Option Str}{d:Int}{h₁:Heap}{tk:Nat}(x1:St cx (g.at V0 none) V (env::l) n A env ρ k {s with heap:=h₁,toks:=tk}) {ps:Arguments}{body:Expr}
 (LS:LamS cx.K cx.rs ps body sc' i x) (er:aH ρ i=some .rdr) (cp:qd ρ x d)
 (hp:PO cx (g.at V0 none) V (env::l) (Rep cx (g.at V0 none) V) (nbO (calls cx.rs [.rdr,.py (.int (d+1))] k)) {s with heap:=h₁,toks:=tk} R W') :
 wpAny (model cx.prog cx.w) A (eval body env) R W' {s with heap:=h₁,toks:=tk}:=by
 obtain⟨rn,p1,args,p,rfl,hg,hn,ha⟩:=LS.bd
 obtain⟨hns,hev⟩:=qX (c:=cx.C (g.at V0 none) calls) (k:=k) ha LS.oki LS.loc er cp
 rw[aU (by intro _ _ _;nofun)]
 have he1:ev2 (cx.C (g.at V0 none) calls) sc' ρ (.Name rn p1) k=.ok (.glob (.ref cx.rs)) k:=pT (p:=p1) hg hn
 have hp2:PO cx (g.at V0 none) V (env::l) (Rep cx (g.at V0 none) V) ((ev2 (cx.C (g.at V0 none) calls) sc' ρ (.Name rn p1) k).bind fun d k=>(evs (ev2 (cx.C (g.at V0 none) calls) sc' ρ) args k).bind fun ds k=>if ds.all nb then nbO (calls cx.rs ds k)else .no) {s with heap:=h₁,toks:=tk} R W':=by
  rw[he1]
  show PO _ _ _ _ _ ((evs (ev2 (cx.C (g.at V0 none) calls) sc' ρ) args k).bind _) _ _ _
  rw[hev]
  exact hp
 refine wpAny_bind (yM hsc _ k _ _ _ x1 (PO.bind hp2 fun d k' he h' tk' v tt ex Gx rv hp3=>?_))
 rw[he1]at he
 cases he
 rw[show v=_ from rv]
 refine gM (yM hsc) (yL _ _ _) (x1.step tt ex Gx) hns (fun h' X _=>keeps_K LS.kp h' X) hp3 fun ds k2 h2 tk2 vs x3 ex3 rs hp4=>?_
 by_cases hnb:ds.all nb=true
 ·rw[if_pos hnb]at hp4
  exact O V0 V none cx.rs ds vs k2 _ _ _ _ _ x3.ao x3.ch x3.good x3.tk hnb rs hp4
 ·rw[if_neg hnb]at hp4
  exact hp4.elim
theorem wQ (F:KF cx) (O:OOk cx g calls n):LOk cx g calls n:=by
 intro V0 V me d v k s A l Q E ao ⟨a1,a2⟩ ch G ht hr hl hp
 obtain⟨fa,qual,ps,body,sc',cl,pm,c',ctv,i,x,e,e1,e2,e3,hcd,hok,hcl⟩:=hl
 have LS:=pF hok
 obtain⟨a,eps,ei⟩:=LS.ps
 obtain rfl:=e;obtain rfl:=eps;obtain rfl:=ei
 have hloc:=bc LS.loc
 refine wpAny_call (kla_callFunE (fd:=kla_fn "<lambda>" qual ⟨[],[a],none,[],[],none,[]⟩ body sc' cl pm (.ref c') ctv) (by show A.depth<1000;omega) e2 rfl LS.co LS.gen rfl hcd ?_)
 refine mY (fd:=kla_fn "<lambda>" qual ⟨[],[a],none,[],[],none,[]⟩ body sc' cl pm (.ref c') ctv) rfl (by simp) [.ref g.R] rfl (dvs:=[]) (fun M A E Q h=>wpAny_pure (h none rfl)) _ _ _ _ ?_
 refine wpAny_newFunctionEnv LS.cell (fun y hy=>by obtain rfl:=List.mem_singleton.mp hy;exact hloc) (fun h₁ hns hsb=>⟨((cx.T.nolimit).keeps G.keep).fresh _ hsb,kla_codeExpr ?_⟩) LS.kind
 have hk₁:Keeps' s.heap h₁:=fun b o e=>hsb.extBut b o (Nat.ne_of_lt (Heap.lt_size e)) (Heap.get?_push_of_some _ e)
 have hLn:s.heap.get? s.heap.objs.size=none:=bv (Nat.le_refl _)
 have hLo:∃ o,h₁.get? s.heap.objs.size=some o:=let⟨o,_,_,e,_⟩:=hns;⟨o,e⟩
 generalize hen:newEnv sc' s.heap.objs.size mainGlobals cl (qual++".<locals>.") (some fa) (.ref c') none builtinsNs=env at *
 have hLW:s.heap.objs.size∉g.W cx:=fun m=>let⟨o,e⟩:=G.alive _ (G.WV _ m);nn (hLn.symm.trans e)
 have hV':∀ b∈s.heap.objs.size::V,b∈V∨(s.heap.get? b=none∧∃ o,h₁.get? b=some o):=fun b hb=>(List.mem_cons.mp hb).elim (fun e=>.inr (e▸⟨hLn,hLo⟩)) .inl
 have G':Good cx (g.at V none) (s.heap.objs.size::V) h₁ k:=G.grow (V0:=V) (me:=none) hk₁ (fun b hb=>.tail _ hb) hV'
 have hkof:∀ y,env.kindOf y=sc'.names.lookup y:=fun y=>hen▸rfl
 have hlocs:env.locals=s.heap.objs.size:=hen▸rfl
 have hfrm:env.frame=some s.heap.objs.size:=hen▸rfl
 have hkd:env.scope.kind=.function:=hen▸LS.kind
 have ao':AOk (A.deeper env) n (env::l):=⟨ao.handled,Around.frames_deeper ao.frames,by show A.depth+1+2*n+20≤1000;omega,by show A.units+3+8*n+300≤9800;omega⟩
 have ch':Chain cx (g.at V none) (env::l) h₁:=Chain.cons (L:=s.heap.objs.size) (ch.ext (.of_keeps hk₁)) (by rw[hkd];decide) hfrm hns hLW (G.none0 hLn)
 obtain⟨ρ,fr,er,cp⟩:=EP (i:=a.arg) (g1:=g.at V none) (V':=s.heap.objs.size::V) (sc:=sc') rfl hkd (hen▸rfl) (hen▸rfl) (hlocs▸.head _) (hlocs▸hLW) (hlocs▸hns) (show List.lookup a.arg [(a.arg,Value.ref g.R)]=some (.ref g.R)by rw[List.lookup_cons,beq_self_eq_true]) hr hkof hloc (fun y e=>bc (LS.fre y e)) (hen▸rfl)
  (show LamCl (g.W cx) h₁ cl x d by
   induction x using Option.casesOn with
   |none=>exact hcl
   |some x=>obtain⟨c,tk,ec,hcW,hc⟩:=hcl;exact⟨c,tk,ec,hcW,hc.keeps hk₁⟩)
 exact wP O (fun y kd e=>.inl ((hkof y).trans e)) ⟨ao',ch',fr,G',Nat.le_add_left _ _⟩ LS er cp
  (PO.enter (cx:=cx) (g:=g) (V':=s.heap.objs.size::V) (me':=none) (A':=A.deeper env) (M:=model cx.prog cx.w) (tk:=s.toks+1) (X:=fun e' s''=>E e' s'') G (Around.frames_deeper ao.frames) hfrm (fun d k' e=>Eu e) (fun b hb=>.tail _ hb) hk₁ hp)
end
section
variable {cx:Sx}{g:Gh}{V:List Addr}{l:List Env}{n:Nat}{A:Around}{env:Env}{ρ:Rho}{k:Nat}{s:Shared}{Q:Value→Shared→Prop}{E:Value→Shared→Prop}{calls:Orc}
 {f:Expr→Nat→Out D}{fb:Expr→Nat→Out Bool}
noncomputable def dN (cells:List (Str×Addr)):List (Str×NameKind)→List (Str×Addr)→List (Str×Addr)
 |[],acc=>acc
 |(x,.free)::r,acc=>dN cells r ((x,(cells.lookup x).getD 0)::acc)
 |_::r,acc=>dN cells r acc
theorem fH (f:Str×NameKind→List (Str×Addr)→Sem (ForInStep (List (Str×Addr)))) (hf:∀ name kind cs,f (name,kind) cs=if(kind==NameKind.free)=true then(do let a ← cellOf env name;pure (.yield ((name,a)::cs)))else pure (.yield cs)) :
 ∀(names:List (Str×NameKind)) (acc:List (Str×Addr)),(∀ x,(x,NameKind.free)∈names→(env.cells.lookup x).isSome=true)→forIn names acc f=pure (dN env.cells names acc)
 |[],acc,_=>rfl
 |(x,kd)::r,acc,h=>by
  rw[List.forIn_cons,hf]
  have hr:∀ y,(y,NameKind.free)∈r→(env.cells.lookup y).isSome=true:=fun y hy=>h y (.tail _ hy)
  induction kd using NameKind.casesOn with
  |free =>
   obtain⟨c,hc⟩:=Option.isSome_iff_exists.mp (h x (.head _))
   have:cellOf env x=pure c:=by unfold cellOf;rw[hc]
   rw[if_pos (by rfl),this,pure_bind,pure_bind]
   show forIn r ((x,c)::acc) f=_
   rw[fH f hf r _ hr]
   show _=pure (dN env.cells r ((x,(env.cells.lookup x).getD 0)::acc))
   rw[hc];rfl
  |_=>rw[if_neg (by decide),pure_bind];exact fH f hf r acc hr
theorem dX {sc:Scope}(h:∀ x,(x,NameKind.free)∈sc.names→(env.cells.lookup x).isSome=true):closureFor sc env=pure (dN env.cells sc.names []):=by
 simp only[closureFor]
 rw[fH (env:=env) _ (fun name kind cs=>rfl) sc.names [] h]
 rfl
theorem g8:∀{names:List (Str×NameKind)}{x:Str},(x,NameKind.free)∈names→x∈jP names
 |(y,kd)::r,x,h=>by
  rcases List.mem_cons.mp h with e | h
  ·cases e;exact .head _
  ·have:=g8 h
   induction kd using NameKind.casesOn<;>first | exact .tail _ this | exact this
theorem fc (cells:List (Str×Addr)):∀(names:List (Str×NameKind)) (acc:List (Str×Addr)),dN cells names acc=((jP names).map fun x=>(x,(cells.lookup x).getD 0)).reverse++acc
 |[],acc=>rfl
 |(x,kd)::r,acc=>by
  induction kd using NameKind.casesOn with
  |free =>
   show dN cells r _=_
   rw[fc cells r]
   show _=((x,(cells.lookup x).getD 0)::(jP r).map _).reverse++acc
   rw[List.reverse_cons,List.append_assoc];rfl
  |_=>exact fc cells r acc
theorem pK {v:Value}(h:pL v=true):∃ x t,v=.str x t:=by
 induction v using Value.casesOn with
 |str x t=>exact⟨x,t,rfl⟩
 |_=>exact ft h
theorem jO {v:Value}(h:la v=true):∃ x t,v=.int x t:=by
 induction v using Value.casesOn with
 |int x t=>exact⟨x,t,rfl⟩
 |_=>exact ft h
theorem oo {v:Value}(h:mF v=true):∃ x,v=.bool x:=by
 induction v using Value.casesOn with
 |bool x=>exact⟨x,rfl⟩
 |_=>exact ft h
theorem Bj {v:Data}{a:Array Value}(h:JG v=some a):v=.fields a:=by
 induction v using Data.casesOn with
 |fields x=>exact congrArg _ (si h)
 |_=>exact nn h
theorem K8 {v:Data}{a:FuncData}(h:Jf v=some a):v=.func a:=by
 induction v using Data.casesOn with
 |func x=>exact congrArg _ (si h)
 |_=>exact nn h
theorem uA {c P:Addr}{h:Heap}(X:cx.K.In h) (e:rE cx.K c=some P):CodeHd h c P:=by
 refine az e fun o hl e=>az e fun vs hf e=>az e fun P' hP e=>?_
 refine az hP fun v11 e11 hP=>?_
 obtain⟨q,e⟩:=aP e
 obtain rfl:=e
 obtain⟨q,q6⟩:=am q
 obtain⟨q,q5⟩:=am q
 obtain⟨q,q4⟩:=am q
 obtain⟨q,q3⟩:=am q
 obtain⟨q1,q2⟩:=am q
 obtain⟨_,_,e18⟩:=pK q2
 obtain⟨_,_,e7⟩:=jO q3
 obtain⟨_,e9⟩:=oo q4
 obtain⟨_,_,e10⟩:=jO q5
 refine⟨_,vs,_,_,_,_,_,_,_,X _ _ hl,sI q1,Bj hf,iL hP▸e11,?_,e18,e7,e9,e10,fun q=>?_⟩
 ·rw[Array.getD_eq_getD_getElem?,e11,iL hP];rfl
 ·rw[q,Nat.beq_refl]at q6;exact ft q6
structure Here (cx:Sx) (env:Env) (pos:Pos) (cc P:Addr) (t:Addr×Nat×Nat×Str):Prop where
 code:env.code=.ref cc
 mem:t∈cx.tabs
 tP:t.1=P
 tl:t.2.1=pos.line
 tc:t.2.2.1=pos.col
 tq:t.2.2.2=env.qual++"<lambda>"
 hd:rE cx.K cc=some P
theorem qW (x0:St cx g V l n A env ρ k s) {pos:Pos}(h:j1 (cx.C g calls) pos=true):∃ cc P t,Here cx env pos cc P t:=by
 unfold j1 at h
 induction ho:pG (cx.C g calls) pos using Option.casesOn with
 |none=>rw[ho]at h;exact ft h
 |some b =>
 obtain rfl:=(show b=true by rw[ho]at h;exact h)
 refine az ho fun me hme y1=>az y1 fun o hl y2=>az y2 fun fd hf y3=>az y3 fun cc hcc y4=>cA y4 fun P hP y5=>?_
 obtain⟨c,dd,fd',sl,hl',hc,hq⟩:=x0.fr.cd me hme
 obtain rfl:=si ((hl'.symm.trans hl))
 obtain rfl:=si hf
 obtain⟨t,ht,hb⟩:=List.any_eq_true.mp y5
 obtain⟨hb,b4⟩:=am hb
 obtain⟨hb,b3⟩:=am hb
 obtain⟨b1,b2⟩:=am hb
 exact⟨cc,P,t,hc.trans (iL hcc),ht,Nat.eq_of_beq_eq_true b1,Nat.eq_of_beq_eq_true b2,Nat.eq_of_beq_eq_true b3,by rw[hq];exact(ay _ _).mp b4,hP⟩
theorem LamCl.ext {W:List Addr}{h h':Heap}{cl:List (Str×Addr)}{x:Option Str}{d:Int}(r:LamCl W h cl x d) (ex:Ext W h h'):LamCl W h' cl x d:=by
 induction x using Option.casesOn with
 |none=>exact r
 |some x=>obtain⟨c,tk,d1,d2,d3⟩:=r;exact⟨c,tk,d1,d2,i7 ex d2 d3⟩
theorem pE (F:KF cx) (x0:St cx g V l n A env ρ k s) {pos:Pos}{cc P:Addr}{t:Addr×Nat×Nat×Str}(H:Here cx env pos cc P t) {a:Arg}{body:Expr}{sc':Scope}{i:Str}{x:Option Str}{d:Int}{clos:List (Str×Addr)}
 (hcl:closureFor sc' env=pure clos) (hok:mB cx.K cx.rs ⟨[],[a],none,[],[],none,[]⟩ body sc'=some (i,x)) (hod:LamCl (g.W cx) s.heap clos x d)
 (h:∀ h' tk v,1≤tk→Ext (g.W cx) s.heap h'→Good cx g V h' k→LamAt cx (g.W cx) h' v d→Q v {s with heap:=h',toks:=tk}) :
 wpAny (model cx.prog cx.w) A (eval (.Lambda ⟨[],[a],none,[],[],none,[]⟩ body sc' pos) env) Q E s:=by
 refine wpAny_with_toks x0.tk (kla_eval rfl ?_)
 have G:=x0.good
 have hg:s.heap.Ns mainGlobals cx.mg:=cx.T.g.keeps G.keep
 have C:=uA (h:=s.heap) G.X H.hd
 have hPW:P∈g.W cx:=Gh.tabW _ (List.mem_map.mpr ⟨t,H.mem,H.tP⟩)
 obtain⟨ps,hP,hps⟩:=G.tabs t H.mem
 rw[H.tP]at hP
 have hgP:mainGlobals≠P:=fun q=>by
  obtain⟨o,es,ep,e,hd,_⟩:=hg
  rw[q,hP]at e;obtain rfl:=si e;injection hd
 obtain⟨bm,ob,b1,b2,b3,b4,b5,b6,b7⟩:=cx.bm
 have b4':=G.keep _ _ b4
 have hbP:bm≠P:=fun q=>by rw[q,hP]at b4';obtain rfl:=si b4';injection b5
 have hb:s.heap.BuiltinsAt cx.mg P:=⟨bm,ob,b1,b2,b3,hbP,b4',b5,b6,b7⟩
 have hfr:∀ b,s.heap.objs.size≤b→b∉V:=fun b hb=>G.fresh hb
 have hfW:∀ b,s.heap.objs.size≤b→b∉g.W cx:=fun b hb m=>G.fresh hb (G.WV b m)
 rcases hps with rfl | ⟨c',rfl,hrec⟩
 ·refine kla_makeFunction (mg:=cx.mg) hcl x0.fr.gl hg H.code C hP trivial rfl hgP hb fun c' ctv h' tk hx hge hlt hrec htb ht=>?_
  have exb:Heap.ExtBut P s.heap (h'.push (kla_obj "<lambda>" (env.qual++"<lambda>") ⟨[],[a],none,[],[],none,[]⟩ body sc' clos ((cx.mg "__name__").getD .none) c' ctv)):=fun b o hb e=>Heap.get?_push_of_some _ (hx b o hb e)
  generalize hH:h'.push (kla_obj "<lambda>" (env.qual++"<lambda>") ⟨[],[a],none,[],[],none,[]⟩ body sc' clos ((cx.mg "__name__").getD .none) c' ctv)=H' at exb ⊢
  have hsz:s.heap.objs.size≤h'.objs.size:=Nat.le_of_lt (Nat.lt_of_le_of_lt hge hlt)
  have ex:Ext (g.W cx) s.heap H':=⟨fun b o hb e=>exb b o (fun q=>hb (q▸hPW)) e⟩
  have hid:=ex.hid G.WV
  have hcr:H'.CodeRec (.ref c') (env.qual++"<lambda>"):=by rw[← hH];exact hrec.push _
  have hcrV:(hideAll H' V).CodeRec (.ref c') (env.qual++"<lambda>"):=by
   obtain⟨c2,o,vs,tt,q1,q2,q3⟩:=hcr
   cases q1
   exact⟨_,o,vs,tt,rfl,hideAll_get V q2 (hfr _ hge),q3⟩
  have hPn:H'.get? P=some (tabObj #[rawInt pos.line,rawInt pos.col,.ref c']):=by rw[← hH];exact Heap.get?_push_of_some _ (by simpa using htb)
  refine h H' tk _ ht ex ⟨fun b o e=>exb b o (fun q=>?_) (G.keep b o e),fun b hb=>?_,G.WV,G.V0,fun t' ht'=>?_,fun hr=>?_⟩ ?_
  ·exact nn ((G.V0 P (G.WV P hPW)).symm.trans (q▸e))
  ·by_cases q:b=P
   ·exact⟨_,q▸hPn⟩
   ·obtain⟨o,e⟩:=G.alive b hb;exact⟨o,exb b o q e⟩
  ·by_cases q:t'.1=P
   ·have:=F.tabU t' ht' t H.mem (q.trans H.tP.symm)
    subst this
    refine⟨_,q▸hPn,.inr ⟨c',?_,by rw[H.tq];exact hcrV⟩⟩
    rw[H.tl,H.tc]
   ·exact G.tab hid ht' fun o e=>exb _ _ q e
  ·obtain⟨q1,⟨tk,t1,t2,t3,t4,a1,a2,n,q2⟩,vs,⟨o,nn,q3,q4⟩,q5⟩:=G.rd hr
   refine⟨hid _ _ q1,⟨tk,t1,t2,t3,t4,a1,a2,n,exb _ _ (fun q=>?_) q2⟩,vs,⟨o,nn,hid _ _ q3,q4⟩,q5.keeps hid⟩
   rw[q,hP]at q2;cases q2
  ·exact⟨h'.objs.size,_,_,body,sc',clos,_,c',ctv,i,x,rfl,hfW _ hsz,by rw[← hH];exact Heap.get?_push_size _ rfl,hfW _ hge,hcr,hok,hod.ext ex⟩
 ·rw[H.tl,H.tc]at hP
  refine kla_makeFunctionHit (mg:=cx.mg) (cv:=.ref c') hcl x0.fr.gl hg H.code C hP trivial (by simp[codeAmong,rawInt]) hb fun ctv h' tk hx hsz ht=>?_
  have exb:Keeps' s.heap (h'.push {cls:=.type "function",data:=.func (kla_fn "<lambda>" (env.qual++"<lambda>") ⟨[],[a],none,[],[],none,[]⟩ body sc' clos ((cx.mg "__name__").getD .none) (.ref c') ctv)}):=fun b o e=>Heap.get?_push_of_some _ (hx b o e)
  rw[H.tq]at hrec
  have hcW:c'∉g.W cx:=fun m=>by
   obtain⟨c2,o,vs,tt,q1,q2,q3⟩:=hrec
   cases q1
   exact(dG q2).2 (G.WV _ m)
  exact h _ tk _ ht exb.ext (G.keeps exb) ⟨h'.objs.size,_,_,body,sc',clos,_,c',ctv,i,x,rfl,hfW _ hsz,Heap.get?_push_size _ rfl,hcW,(hrec.keeps fun b o e=>exb b o (of_hideAll V e)),hok,hod.ext exb.ext⟩
theorem IY (F:KF cx) {sc:Scope}(hs:bI sc env) (x0:St cx g V l n A env ρ k s) {ps:Arguments}{body:Expr}{sc':Scope}{pos:Pos}
 (hp:PO cx g V l (Rep cx g V) (EQ (cx.C g calls) sc ρ ps body sc' pos k) s Q E):wpAny (model cx.prog cx.w) A (eval (.Lambda ps body sc' pos) env) Q E s:=by
 unfold EQ at hp
 induction hh:j1 (cx.C g calls) pos using Bool.casesOn with
 |false=>rw[hh]at hp;exact hp.elim
 |true =>
 obtain⟨cc,P,t,H⟩:=qW x0 hh
 rw[hh,if_pos rfl]at hp
 induction hq:mB (cx.C g calls).K (cx.C g calls).rs ps body sc' using Option.casesOn with
 |none=>rw[hq]at hp;exact hp.elim
 |some q =>
 rw[hq]at hp
 obtain⟨i,x⟩:=q
 have LS:=pF hq
 obtain⟨a,rfl,ei⟩:=LS.ps
 have hf:=LS.fr
 induction x using Option.casesOn with
 |none =>
  refine pE (x:=none) (d:=1) F x0 H (dX fun y hy=>?_) hq ⟨by rw[fc,hf];rfl,rfl⟩ fun h' tk' v' ht ex G r=>hp h' tk' v' ht ex G r
  exact absurd (hf▸g8 hy) List.not_mem_nil
 |some x =>
  replace hp:PO cx g V l (Rep cx g V) (if aO sc x .cell then ER (aH ρ x) k else .no) s Q E:=hp
  induction hi:aO sc x .cell using Bool.casesOn with
  |false=>rw[hi]at hp;exact hp.elim
  |true =>
  rw[hi,if_pos rfl]at hp
  obtain⟨b,e,hp⟩:=ga hp
  refine cA e fun d y1 hb=>az y1 fun dd hd y2=>?_
  obtain rfl:=hb;obtain rfl:=bn y2
  have hk:env.kindOf x=some .cell:=(hs x _ (bc hi)).elim id fun q=>nomatch q.1
  obtain⟨c,v,e1,e2,e3,rv,_⟩:=x0.fr.cel x _ hd (.inl hk)
  obtain⟨tk,ev⟩:=au rv
  refine pE (x:=some x) (d:=d) F x0 H (dX fun y hy=>?_) hq ⟨c,tk,?_,e2,ev▸e3⟩ fun h' tk' v' ht ex G r=>hp h' tk' v' ht ex G r
  ·rw[List.mem_singleton.mp (show y∈[x]from(show jP sc'.names=[x]from hf)▸g8 hy),e1];rfl
  ·rw[fc,hf]
   show [(x,(env.cells.lookup x).getD 0)]=_
   rw[e1];rfl
end
section
variable {cx:Sx}{g:Gh}{V:List Addr}{l:List Env}{n:Nat}{A:Around}{env:Env}{ρ:Rho}{k:Nat}{s:Shared}{Q:Value→Shared→Prop}{E:Value→Shared→Prop}{calls:Orc}
 {f:Expr→Nat→Out D}{fb:Expr→Nat→Out Bool}
noncomputable def K1 (M:Model) (A:Around) (I:Addr) (P:Nat→Value→Prop) (St:Nat→Heap→Prop):Prop :=
 ∀(i:Nat) (target:Expr) (v:Value) (s:Shared) (Q:Unit→Shared→Prop) (E:Value→Shared→Prop),P i v→St (i+1) s.heap→Q () s→wpAny M A (letOwnedTupleGo target (.ref I) v) Q E s
theorem yv {I:Addr}{o:Obj}{T:String}{target:Expr}{v:Value}{Q:Unit→Shared→Prop}{M:Model}(ho:s.heap.get? I=some o) (hc:o.cls=.type T)
 (hT:(["enumerate","zip","dict_itemiterator","dict_reverseitemiterator","odict_iterator","itertools.zip_longest","itertools.pairwise"].contains T)=false) (hq:Q () s):wpAny M A (letOwnedTupleGo target (.ref I) v) Q E s:=by
 unfold letOwnedTupleGo
 have key:∀ a,wpAny M A (do
  let o ← load I
  match o.cls,o.data with
  |.type n,.fields vs =>
   if ["enumerate","zip","dict_itemiterator","dict_reverseitemiterator","odict_iterator","itertools.zip_longest","itertools.pairwise"].contains n&&vs[0]?==some (rawInt a)then
    rule "for.unpacks-the-owned-tuple"
    updateField I 0 .none
  |_,_=>pure ()) Q E s:=fun a=>by
  refine wpAny_bind (wpAny_load ho ?_)
  obtain⟨cls,dct,dat,sl⟩:=o
  cases hc
  induction dat using Data.casesOn<;>first | exact wpAny_pure hq | skip
  show wpAny M A (if(["enumerate","zip","dict_itemiterator","dict_reverseitemiterator","odict_iterator","itertools.zip_longest","itertools.pairwise"].contains T&&_)=true then _ else _) Q E s
  rw[hT,Bool.false_and,if_neg (by decide)]
  exact wpAny_pure hq
 split
 ·induction v using Value.casesOn<;>first | exact key _ | exact wpAny_pure hq
 ·induction v using Value.casesOn<;>first | exact key _ | exact wpAny_pure hq
 ·exact wpAny_pure hq
theorem sK {I:Addr}{target:Expr}{v:Value}{Q:Unit→Shared→Prop}{M:Model}(hv:∀ a,v≠.ref a) (hq:Q () s):wpAny M A (letOwnedTupleGo target (.ref I) v) Q E s:=by
 unfold letOwnedTupleGo
 split
 ·induction v using Value.casesOn<;>first | exact absurd rfl (hv _) | exact wpAny_pure hq
 ·induction v using Value.casesOn<;>first | exact absurd rfl (hv _) | exact wpAny_pure hq
 ·exact wpAny_pure hq
structure IterObj (o:Obj):Prop where
 nf:∀ fd,o.data≠.func fd
 nc:∀ vs q t,o.data=.fields vs→vs[1]?≠some (.str q t)
 ncell:∀ w,o.data≠.cell w
 ndict:∀ es n,o.data≠.dict es n
 nseq:∀ vs n,o.data≠.seq vs n
theorem IterObj.of {o:Obj}{vs:Array Value}{j:Int}{t:Tok}(e:o.data=.fields vs) (e1:vs[1]?=some (.int j t)):IterObj o:=by
 refine⟨fun _ q=>?_,fun vs' q t e'=>?_,fun _ q=>?_,fun _ _ q=>?_,fun _ _ q=>?_⟩
 ·first | exact nn (e.symm.trans q) | (rw[e]at q;injection q)
 ·rw[e]at e';cases e';rw[e1];nofun
 ·first | exact nn (e.symm.trans q) | (rw[e]at q;injection q)
 ·first | exact nn (e.symm.trans q) | (rw[e]at q;injection q)
 ·first | exact nn (e.symm.trans q) | (rw[e]at q;injection q)
structure Iter (cx:Sx) (g:Gh) (V:List Addr) (A:Around) (h0:Heap) (d:D) (ds:List D) (I:Addr) (h:Heap) (fp:List Addr) (P:Nat→Value→Prop) (St:Nat→Heap→Prop):Prop where
 W:Walks cx.prog cx.w A I fp [I] ds.length P St
 st:St 0 h
 newI:I=h0.objs.size
 obj:∀ i h,St i h→∃ o,h.get? I=some o∧IterObj o
 old:∀ b∈fp,b≠I→(∃ o,h0.get? b=some o)∧b∉g.W cx∧(nb d=true→b∉V)
 go:K1 (model cx.prog cx.w) A I P St
 rd:∀ i v dd,P i v→ds[i]?=some dd→∃ p,dd=.py p∧∀ hh:Heap,(∀ b o,(hideAll h0 V).get? b=some o→hh.get? b=some o)→∃ as,Reads hh v p as
 n:ds.length≤1000000
theorem mC (hh:A.handled=none) (ht:s.heap.IsList a vs) {xs:List PyData}{bs:List Addr}(ra:ReadsAll (hideAll s.heap V) vs.toList xs bs) (q:sm xs.length=true) {d:D}(hW:a∉g.W cx) (hV:nb d=true→a∉V) {Q:Value→Shared→Prop}
 (h:∀ I h' fp P St,Keeps' s.heap h'→Iter cx g V A s.heap d (xs.map .py) I h' fp P St→Q (.ref I) {s with heap:=h'}):wpAny (model cx.prog cx.w) A (pyIter (.ref a)) Q E s:=by
 have hlt:a<s.heap.objs.size:=let⟨_,ho,_⟩:=ht;Heap.lt_size ho
 have hne:a≠s.heap.objs.size:=Nat.ne_of_lt hlt
 have hlen:=readsAll_len ra
 rw[Array.length_toList]at hlen
 refine wpAny_pyIter_list ht (h _ _ [s.heap.objs.size,a] (fun i v=>vs[i]?=some v) (fun i h=>h.IsListIter s.heap.objs.size a i∧h.IsList a vs) (.push _ _) ⟨by rw[List.length_map,← hlen];exact Walks.list hh _ a hne vs,⟨⟨_,Heap.get?_push_size _ rfl,rfl,rfl⟩,ht.push _⟩,rfl,fun i h st=>let⟨o,ho,_,hd⟩:=st.1;⟨o,ho,.of hd rfl⟩,fun b hb hn=>?_,?_,?_,by rw[List.length_map];have:=dK q;omega⟩)
 ·rcases List.mem_cons.mp hb with rfl | hb
  ·exact absurd rfl hn
  ·rw[List.mem_singleton.mp hb];exact⟨let⟨o,ho,_⟩:=ht;⟨o,ho⟩,hW,hV⟩
 ·intro i target v s' Q' E' _ st hq
  obtain⟨⟨o,ho,hc,_⟩,_⟩:=st
  exact yv ho hc (by decide) hq
 ·intro i v dd hP hd
  rw[List.getElem?_map]at hd
  obtain⟨p,hp,rfl⟩:=Option.map_eq_some_iff.mp hd
  obtain⟨v',cs,hv',r⟩:=cz ra hp
  rw[Array.getElem?_toList,hP]at hv'
  obtain rfl:=si hv'
  exact⟨p,rfl,fun hh hk=>⟨_,Reads.keeps hk r⟩⟩
theorem wY (hh:A.handled=none) (ht:IsTup s.heap a vs) {xs:List PyData}{bs:List Addr}(ra:ReadsAll (hideAll s.heap V) vs.toList xs bs) (q:sm xs.length=true) {d:D}(hW:a∉g.W cx) (hV:nb d=true→a∉V) {Q:Value→Shared→Prop}
 (h:∀ I h' fp P St,Keeps' s.heap h'→Iter cx g V A s.heap d (xs.map .py) I h' fp P St→Q (.ref I) {s with heap:=h'}):wpAny (model cx.prog cx.w) A (pyIter (.ref a)) Q E s:=by
 have hlt:a<s.heap.objs.size:=let⟨_,ho,_⟩:=ht;Heap.lt_size ho
 have hne:a≠s.heap.objs.size:=Nat.ne_of_lt hlt
 have hlen:=readsAll_len ra
 rw[Array.length_toList]at hlen
 refine wpAny_pyIter_tuple ht (h _ _ [s.heap.objs.size,a] (fun i v=>vs[i]?=some v) (fun i h=>h.IsTupleIter s.heap.objs.size a i∧h.IsTuple a vs) (.push _ _) ⟨by rw[List.length_map,← hlen];exact Walks.tuple hh _ a hne vs,⟨⟨_,Heap.get?_push_size _ rfl,rfl,rfl⟩,ht.push _⟩,rfl,fun i h st=>let⟨o,ho,_,hd⟩:=st.1;⟨o,ho,.of hd rfl⟩,fun b hb hn=>?_,?_,?_,by rw[List.length_map];have:=dK q;omega⟩)
 ·rcases List.mem_cons.mp hb with rfl | hb
  ·exact absurd rfl hn
  ·rw[List.mem_singleton.mp hb];exact⟨let⟨o,ho,_⟩:=ht;⟨o,ho⟩,hW,hV⟩
 ·intro i target v s' Q' E' _ st hq
  obtain⟨⟨o,ho,hc,_⟩,_⟩:=st
  exact yv ho hc (by decide) hq
 ·intro i v dd hP hd
  rw[List.getElem?_map]at hd
  obtain⟨p,hp,rfl⟩:=Option.map_eq_some_iff.mp hd
  obtain⟨v',cs,hv',r⟩:=cz ra hp
  rw[Array.getElem?_toList,hP]at hv'
  obtain rfl:=si hv'
  exact⟨p,rfl,fun hh hk=>⟨_,Reads.keeps hk r⟩⟩
theorem wZ (hh:A.handled=none) {x:Str}{t:Tok}{Q:Value→Shared→Prop}(q:x.cps.size≤1000000)
 (h:∀ I h' fp P St,Keeps' s.heap h'→Iter cx g V A s.heap (.py (.str x)) (x.cps.toList.map fun c=>.py (.str ⟨#[c]⟩)) I h' fp P St→Q (.ref I) {s with heap:=h'}):wpAny (model cx.prog cx.w) A (pyIter (.str x t)) Q E s:=by
 have rd:∀ i v dd,SignAt x i v→(x.cps.toList.map fun c=>(.py (.str ⟨#[c]⟩):D))[i]?=some dd→∃ p,dd=.py p∧∀ hh:Heap,(∀ b o,(hideAll s.heap V).get? b=some o→hh.get? b=some o)→∃ as,Reads hh v p as:=by
  intro i v dd hP hd
  rw[List.getElem?_map,Array.getElem?_toList]at hd
  obtain⟨c,hc,rfl⟩:=Option.map_eq_some_iff.mp hd
  obtain⟨c',u,hc',rfl⟩:=hP
  first | exact nn (hc.symm.trans hc') | (rw[hc]at hc';obtain rfl:=si hc')
  exact⟨_,rfl,fun hh hk=>⟨_,Reads.str _ _⟩⟩
 have go:∀ St,K1 (model cx.prog cx.w) A s.heap.objs.size (SignAt x) St:=fun St i target v s' Q' E' hP st hq=>by
  obtain⟨c',u,hc',rfl⟩:=hP
  exact sK nofun hq
 have old:∀ b∈[s.heap.objs.size],b≠s.heap.objs.size→(∃ o,s.heap.get? b=some o)∧b∉g.W cx∧(nb (.py (.str x))=true→b∉V):=fun b hb hn=>absurd (List.mem_singleton.mp hb) hn
 have len:(x.cps.toList.map fun c=>(.py (.str ⟨#[c]⟩):D)).length=x.cps.size:=by simp
 induction ha:x.cps.all (·<128)using Bool.casesOn
 ·exact wpAny_pyIter_wide ha (h _ _ _ (SignAt x) (fun i h=>h.IsStrIter s.heap.objs.size "str_iterator" x t i) (.push _ _) ⟨by rw[len];exact Walks.strWide hh _ x t,⟨_,Heap.get?_push_size _ rfl,rfl,rfl⟩,rfl,fun i h st=>let⟨o,ho,_,hd⟩:=st;⟨o,ho,.of hd rfl⟩,old,go _,rd,by rw[len];exact q⟩)
 ·exact wpAny_pyIter_ascii ha (h _ _ _ (SignAt x) (fun i h=>h.IsStrIter s.heap.objs.size "str_ascii_iterator" x t i) (.push _ _) ⟨by rw[len];exact Walks.strAscii hh _ x t,⟨_,Heap.get?_push_size _ rfl,rfl,rfl⟩,rfl,fun i h st=>let⟨o,ho,_,hd⟩:=st;⟨o,ho,.of hd rfl⟩,old,go _,rd,by rw[len];exact q⟩)
theorem w6 (hh:A.handled=none) {r:Addr}{a b:Int}{t u v:Tok}{Q:Value→Shared→Prop}(hr:IsRange s.heap r a b 1 t u v) (qa:a.natAbs≤100000) (qb:b.natAbs≤100000)
 (h:∀ I h' fp P St,Keeps' s.heap h'→Iter cx g V A s.heap (.rng a b) ((List.range (b-a).toNat).map fun(i:Nat)=>D.py (.int (a+i))) I h' fp P St→Q (.ref I) {s with heap:=h'}):wpAny (model cx.prog cx.w) A (pyIter (.ref r)) Q E s:=by
 have hsz:Builtin.Range.rangeSize a b 1=((b-a).toNat:Int):=by
  unfold Builtin.Range.rangeSize
  simp only[show((1:Int) > 0)from by decide,if_true,Int.ediv_one]
  split<;>omega
 have hsm:Builtin.Range.small a b 1=true:=by
  unfold Builtin.Range.small
  rw[hsz]
  unfold Builtin.Range.rangeFitsLong
  simp only[show((1:Int) > 0)from by decide,if_true,Bool.and_eq_true,Bool.or_eq_true,decide_eq_true_eq]
  refine⟨⟨⟨⟨?_,?_⟩,by decide⟩,?_⟩,.inr ?_⟩<;>constructor<;>omega
 have len:((List.range (b-a).toNat).map fun(i:Nat)=>D.py (.int (a+i))).length=(b-a).toNat:=by simp
 refine wpAny_pyIter_range hr hsm (h _ _ [s.heap.objs.size] (fun i v=>∃ t,v=.int (a+i*1) t) (fun i h=>IsRangeIter h s.heap.objs.size (a+(i:Nat)*1) (((b-a).toNat:Int)-(i:Nat)) 1) (.push _ _) ⟨by rw[len];exact Walks.range hh _ a 1 _,?_,rfl,fun i h st=>⟨_,st,.of rfl rfl⟩,fun b hb hn=>absurd (List.mem_singleton.mp hb) hn,?_,?_,by rw[len];omega⟩)
 ·rw[hsz]
  have:=Heap.get?_push_size s.heap (o:={cls:=.type "range_iterator",data:=.fields #[rawInt a,rawInt ((b-a).toNat:Int),rawInt 1]}) rfl
  simpa [IsRangeIter]using this
 ·intro i target v s' Q' E' hP st hq
  obtain⟨t,rfl⟩:=hP
  exact sK nofun hq
 ·intro i v dd hP hd
  obtain⟨t,rfl⟩:=hP
  rw[List.getElem?_map]at hd
  obtain⟨j,hj,rfl⟩:=Option.map_eq_some_iff.mp hd
  have:j=i:=by
   rw[List.getElem?_eq_some_iff]at hj
   obtain⟨_,e⟩:=hj
   simpa using e.symm
  subst this
  refine⟨_,rfl,fun hh hk=>?_⟩
  rw[Int.mul_one]
  exact⟨_,Reads.int _ _⟩
theorem sG (hh:A.handled=none) (G:Good cx g V s.heap k) {v:Value}{d:D}{ds:List D}(rv:Rep cx g V s.heap v d) (e:hX d=some ds) {Q:Value→Shared→Prop}
 (h:∀ I h' fp P St,Keeps' s.heap h'→Iter cx g V A s.heap d ds I h' fp P St→Q (.ref I) {s with heap:=h'}):wpAny (model cx.prog cx.w) A (pyIter v) Q E s:=by
 unfold hX at e
 split at e
 ·split at e
  ·rename_i q
   obtain rfl:=si e
   obtain⟨_,rv⟩:=rv
   obtain⟨a,o,vs,n,bs,rfl,e1,e2,e3,ra⟩:=de rv
   have e1':=dG e1
   exact mC hh (bE e1'.1 e2 e3) ra q (fun m=>e1'.2 (G.WV _ m)) (fun _=>e1'.2) h
  ·first | exact nn e | exact ft e | exact on e | exact oe e | cases e
 ·split at e
  ·rename_i q
   obtain rfl:=si e
   obtain⟨_,rv⟩:=rv
   obtain⟨a,o,vs,n,bs,rfl,e1,e2,e3,ra⟩:=dZ rv
   have e1':=dG e1
   exact wY hh (dE e1'.1 e2 e3) ra q (fun m=>e1'.2 (G.WV _ m)) (fun _=>e1'.2) h
  ·first | exact nn e | exact ft e | exact on e | exact oe e | cases e
 ·split at e
  ·rename_i q
   obtain rfl:=si e
   obtain⟨a,vs,n,as,rfl,hv,ha,ra⟩:=rv
   exact mC hh (bE ha rfl rfl) ra q hv.2.1 (fun h=>by injection h) h
  ·first | exact nn e | exact ft e | exact on e | exact oe e | cases e
 ·split at e
  ·rename_i q
   obtain rfl:=si e
   first | (obtain⟨_,rfl⟩:=eK rv) | (obtain⟨_,rv⟩:=rv;cases rv)
   exact wZ hh (by have:=dK q;exact Nat.le_trans this (by decide)) h
  ·first | exact nn e | exact ft e | exact on e | exact oe e | cases e
 ·split at e
  ·rename_i q
   obtain rfl:=si e
   obtain⟨r,t,u,x,rfl,hr⟩:=rv
   simp only[Bool.and_eq_true]at q
   exact w6 hh (of_hideAll V hr) (dK q.1) (dK q.2) h
  ·first | exact nn e | exact ft e | exact on e | exact oe e | cases e
 ·first | exact nn e | exact ft e | exact on e | exact oe e | cases e
end
section
variable {cx:Sx}{g:Gh}{V:List Addr}{l:List Env}{n:Nat}{A:Around}{env:Env}{ρ:Rho}{k:Nat}{s:Shared}{Q:Value→Shared→Prop}{E:Value→Shared→Prop}{calls:Orc}
 {f:Expr→Nat→Out D}{fb:Expr→Nat→Out Bool}
theorem bF (x:Str) (d:D):∀(ρ:Rho) (y:Str),aH (bP ρ x d) y=if x=y then some d else aH ρ y
 |[],y=>aY x d [] y
 |(z,e)::r,y=>by
  show aH (match ac z x with | true=>(z,d)::r | false=>(z,e)::bP r x d) y=_
  rw[eO]
  by_cases h:z=x
  ·subst h
   rw[decide_eq_true rfl]
   show aH ((z,d)::r) y=_
   rw[aY,aY]
   by_cases h2:z=y<;>simp[h2]
  ·rw[decide_eq_false h]
   show aH ((z,e)::bP r x d) y=_
   rw[aY,bF x d r y,aY]
   by_cases h2:z=y
   ·subst h2
    have:¬ x=z:=fun q=>h q.symm
    simp[this]
   ·simp[h2]
noncomputable def CA:D→Bool
 |.lam _=>true
 |_=>false
theorem c8 {a:Addr}{h h':Heap}(ha:a∈V) (x:Heap.ExtBut a h h') (b:Addr) (o:Obj) (e:(hideAll h V).get? b=some o):(hideAll h' V).get? b=some o:=by
 obtain⟨e1,e2⟩:=dG e
 exact hideAll_get V (x b o (fun q=>e2 (q▸ha)) e1) e2
theorem LamAt.mod {W:List Addr}{a:Addr}{oa:Obj}{h h':Heap}{v:Value}{d:Int}(hoa:h.get? a=some oa) (x:Heap.ExtBut a h h') (hf:¬ FnLike oa.data) (r:LamAt cx W h v d):LamAt cx W h' v d :=
 r.map fun b o hb e f=>⟨hb,x _ _ (fun q=>hf (si (hoa.symm.trans (q▸e))▸f)) e⟩
theorem Cq {d:Data}(hf:∀ fd,d≠.func fd) (hfl:∀ vs q t,d=.fields vs→vs[1]?≠some (.str q t)) (hc:∀ w,d≠.cell w):¬ FnLike d:=fun f=>by
 cases f with
 |fn fd=>exact hf fd rfl
 |cell w=>exact hc w rfl
 |code vs q t e=>exact hfl vs q t rfl e
theorem Rep.mod {a:Addr}{oa:Obj}{h h':Heap}{v:Value}{d:D}(ha:a∈V) (hoa:h.get? a=some oa) (x:Heap.ExtBut a h h') (hf:∀ fd,oa.data≠.func fd) (hfl:∀ vs q t,oa.data=.fields vs→vs[1]?≠some (.str q t))
 (hlam:CA d=true→∀ w,oa.data≠.cell w) (hbl:∀ l',d=.bl l'→v≠.ref a) (r:Rep cx g V h v d):Rep cx g V h' v d :=
 r.map (c8 ha x) (fun d' e=>LamAt.mod hoa x (Cq hf hfl (hlam (e▸rfl)))) id fun l e ⟨b,vs,n,as,e1,hv,hb,r⟩=>⟨b,vs,n,as,e1,hv,x _ _ (fun q=>hbl l e (by rw[e1,q])) hb,ar (c8 ha x) r⟩
theorem Good.mod {a:Addr}{h h':Heap}(G:Good cx g V h k) (ha:a∈V) (haW:a∉g.W cx) (x:Heap.ExtBut a h h') (ho':∃ o,h'.get? a=some o):Good cx g V h' k:=by
 refine G.mv (V0:=g.V0) (me:=g.me) (fun b o z e=>x b o (fun q=>nn ((G.V0 a ha).symm.trans (q▸z))) e) (fun b hb=>⟨?_,G.V0 b hb⟩) G.WV (c8 ha x) fun b hb o e=>x b o (fun q=>haW (q▸hb)) e
 by_cases q:b=a
 ·exact q▸ho'
 ·exact let⟨o,e⟩:=G.alive b hb;⟨o,x _ _ q e⟩
theorem Chain.mod {a:Addr}{h h':Heap}(c:Chain cx g l h) (x:Heap.ExtBut a h h') (ho':∀ o,h'.get? a=some o→∃ es n,o.data=.dict es n) (hex:∃ o,h'.get? a=some o):Chain cx g l h':=fun e he=>by
 obtain⟨k1,L,o,q1,q2,q3,q4,q5⟩:=c e he
 by_cases q:L=a
 ·obtain⟨o',e'⟩:=hex
  exact⟨k1,L,o',q1,q2,q3,q▸e',ho' o' e'⟩
 ·exact⟨k1,L,o,q1,q2,q3,x _ _ q q4,q5⟩
theorem Chain.mod2 {a:Addr}{h h':Heap}{oa:Obj}(c:Chain cx g l h) (x:Heap.ExtBut a h h') (hoa:h.get? a=some oa) (nd:∀ es n,oa.data≠.dict es n):Chain cx g l h':=fun e he=>by
 obtain⟨k1,L,o,q1,q2,q3,q4,es,n,q5⟩:=c e he
 have q:L≠a:=fun q=>by first | exact nn (hoa.symm.trans (q▸q4)) | (rw[q,hoa]at q4;obtain rfl:=si q4);exact nd _ _ q5
 exact⟨k1,L,o,q1,q2,q3,x _ _ q q4,es,n,q5⟩
theorem Heap.Ns.fn {h:Heap}{L:Addr}{m m':Str→Option Value}(a:h.Ns L m) (b:h.Ns L m'):m=m':=by
 obtain⟨o,es,ep,e,hd,_,q⟩:=a
 obtain⟨o',es',ep',e',hd',_,q'⟩:=b
 first | exact nn (e.symm.trans e') | (rw[e]at e';obtain rfl:=si e')
 first | exact nn (hd.symm.trans hd') | (rw[hd]at hd';cases hd')
 funext x
 rw[← q x,← q' x]
theorem eQ (x0:St cx g V l n A env ρ k s) {x:Str}{v:Value}{d:D}(hx:env.kindOf x=some .local) (rv:Rep cx g V s.heap v d)
 (hbl:nb d=false→∀ m,s.heap.Ns env.locals m→∀ y l',aH ρ y=some (.bl l')→y≠x→m y≠some v)
 {M:Model}{Q:Unit→Shared→Prop}(h:∀ h' tk',1≤tk'→Heap.SameBut env.locals s.heap h'→St cx g V l n A env (bP ρ x d) k {s with heap:=h',toks:=tk'}→Q () {s with heap:=h',toks:=tk'}) :
 wpAny M A (storeName env x v) Q E s:=by
 obtain⟨m,hn,hl,hinj⟩:=x0.fr.loc
 refine wpAny_storeName_local hx hn (fun h' hn' hs=>?_) (by rw[x0.fr.kind];rfl)
 have xb:=hs.extBut
 obtain⟨oL,es,ep,eL,dL,_⟩:=id hn
 obtain⟨oL',es',ep',eL',dL',_⟩:=id hn'
 have d1:∀ fd,oL.data≠.func fd:=fun fd q=>by first | exact nn (dL.symm.trans q) | (rw[dL]at q;injection q)
 have d2:∀ vs q t,oL.data=.fields vs→vs[1]?≠some (.str q t):=fun vs q t e=>by first | exact nn (dL.symm.trans e) | (rw[dL]at e;injection e)
 have d3:∀ w,oL.data≠.cell w:=fun fd q=>by first | exact nn (dL.symm.trans q) | (rw[dL]at q;injection q)
 have mod:∀{u:Value}{du:D},Rep cx g V s.heap u du→Rep cx g V h' u du:=fun {u du} r=>r.mod x0.fr.LV eL xb d1 d2 (fun _=>d3) fun l' q=>by
  subst q
  obtain⟨b,vs,n,as,e,hv,hb,_⟩:=r
  rw[e]
  intro q
  cases q
  rw[eL]at hb;obtain rfl:=si hb;injection dL
 refine h h' _ (by have:=x0.tk;omega) hs ⟨x0.ao,x0.ch.mod xb (fun o e=>by rw[eL']at e;obtain rfl:=si e;exact⟨_,_,dL'⟩) ⟨_,eL'⟩,?_,x0.good.mod x0.fr.LV x0.fr.LW xb ⟨_,eL'⟩,by have:=x0.tk;show 1≤s.toks+1;omega⟩
 refine⟨x0.fr.kind,x0.fr.gl,x0.fr.bi,x0.fr.LV,x0.fr.LW,⟨_,hn',fun y dy e kk=>?_,fun y z l1 l2 e1 e2 hne=>?_⟩,fun y dy e kk=>?_,x0.fr.cd,fun y l1 e=>?_⟩
 ·rw[bF]at e
  by_cases q:x=y
  ·subst q
   rw[if_pos rfl]at e;obtain rfl:=si e
   exact⟨v,by simp,mod rv⟩
  ·rw[if_neg q]at e
   obtain⟨u,e1,r⟩:=hl y dy e kk
   refine⟨u,?_,mod r⟩
   rw[if_neg fun q'=>q q'.symm]
   exact e1
 ·rw[bF]at e1 e2
  have sep:∀{y z:Str}{l1 l2:List PyData},x=y→¬ x=z→(if x=y then some d else aH ρ y)=some (.bl l1)→aH ρ z=some (.bl l2)→some v≠m z:=fun {y z l1 l2} q q' f1 f2 hh=>by
   rw[if_pos q]at f1
   have f1:=Option.some.inj f1
   exact hbl (by rw[f1];rfl) m hn z l2 f2 (fun r=>q' r.symm) hh.symm
  by_cases q:x=y
  ·by_cases q':x=z
   ·exact absurd (q.symm.trans q') hne
   ·rw[if_pos q.symm,if_neg fun r=>q' r.symm]
    rw[if_neg q']at e2
    exact sep q q' e1 e2
  ·by_cases q':x=z
   ·rw[if_neg (fun r=>q r.symm),if_pos q'.symm]
    rw[if_neg q]at e1
    exact fun hh=>sep q' q e2 e1 hh.symm
   ·rw[if_neg (fun r=>q r.symm),if_neg (fun r=>q' r.symm)]
    rw[if_neg q]at e1
    rw[if_neg q']at e2
    exact hinj y z l1 l2 e1 e2 hne
 ·rw[bF]at e
  have q:¬ x=y:=fun q=>by subst q;rw[hx]at kk;rcases kk with kk | kk<;>cases kk
  rw[if_neg q]at e
  obtain⟨c,u,c1,c2,⟨oc,c3,c4⟩,r,c5⟩:=x0.fr.cel y dy e kk
  refine⟨c,u,c1,c2,⟨oc,xb _ _ (fun q=>?_) c3,c4⟩,mod r,c5⟩
  rw[q,eL]at c3;obtain rfl:=si c3;first | exact nn (dL.symm.trans c4) | (rw[dL]at c4;injection c4)
 ·rw[bF]at e
  by_cases q:x=y
  ·subst q;exact hx
  ·rw[if_neg q]at e;exact x0.fr.blk y l1 e
theorem St.mod (x0:St cx g V l n A env ρ k s) {a:Addr}{oa:Obj}{h':Heap}(ha:a∈V) (haW:a∉g.W cx) (hoa:s.heap.get? a=some oa) (hf:∀ fd,oa.data≠.func fd) (hfl:∀ vs q t,oa.data=.fields vs→vs[1]?≠some (.str q t))
 (hcell:∀ w,oa.data≠.cell w) (hdict:∀ es n,oa.data≠.dict es n) (hseq:(∀ vs n,oa.data≠.seq vs n)∨∀ y l',aH ρ y≠some (.bl l')) (xb:Heap.ExtBut a s.heap h') (hex:∃ o,h'.get? a=some o) {tk':Nat}(ht:1≤tk') :
 St cx g V l n A env ρ k {s with heap:=h',toks:=tk'}:=by
 obtain⟨m,hn,hl,hinj⟩:=x0.fr.loc
 obtain⟨oL,es,ep,eL,dL,kL⟩:=id hn
 have hLa:env.locals≠a:=fun q=>by first | exact nn (hoa.symm.trans (q▸eL)) | (rw[q,hoa]at eL;obtain rfl:=si eL);exact hdict _ _ dL
 have mod:∀{y:Str}{u:Value}{du:D},aH ρ y=some du→Rep cx g V s.heap u du→Rep cx g V h' u du:=fun {y u du} ey r=>r.mod ha hoa xb hf hfl (fun _=>hcell) fun l' q=>by
  subst q
  obtain⟨b,vs,n,as,e,hv,hb,_⟩:=r
  rw[e]
  intro q
  cases q
  first | exact nn (hoa.symm.trans hb) | (rw[hoa]at hb;obtain rfl:=si hb)
  rcases hseq with q | q
  ·exact q _ _ rfl
  ·exact q y l' ey
 refine⟨x0.ao,x0.ch.mod2 xb hoa hdict,⟨x0.fr.kind,x0.fr.gl,x0.fr.bi,x0.fr.LV,x0.fr.LW,⟨m,⟨oL,es,ep,xb _ _ hLa eL,dL,kL⟩,fun y dy e kk=>?_,hinj⟩,fun y dy e kk=>?_,x0.fr.cd,x0.fr.blk⟩,x0.good.mod ha haW xb hex,ht⟩
 ·obtain⟨u,e1,r⟩:=hl y dy e kk
  exact⟨u,e1,mod e r⟩
 ·obtain⟨c,u,c1,c2,⟨oc,c3,c4⟩,r,c5⟩:=x0.fr.cel y dy e kk
  refine⟨c,u,c1,c2,⟨oc,xb _ _ (fun q=>?_) c3,c4⟩,mod e r,c5⟩
  rw[q,hoa]at c3;obtain rfl:=si c3;exact hcell _ c4
theorem St.weaken {ρ':Rho}(x0:St cx g V l n A env ρ k s) (h:∀ x d,aH ρ' x=some d→aH ρ x=some d):St cx g V l n A env ρ' k s :=
 ⟨x0.ao,x0.ch,⟨x0.fr.kind,x0.fr.gl,x0.fr.bi,x0.fr.LV,x0.fr.LW,let⟨m,a,b,c⟩:=x0.fr.loc;⟨m,a,fun x d e k=>b x d (h x d e) k,fun x y l l' e e'=>c x y l l' (h _ _ e) (h _ _ e')⟩,
  fun x d e k=>x0.fr.cel x d (h x d e) k,x0.fr.cd,fun x l e=>x0.fr.blk x l (h _ _ e)⟩,x0.good,x0.tk⟩
end
section
variable {cx:Sx}{g:Gh}{V:List Addr}{l:List Env}{n:Nat}{A:Around}{env:Env}{ρ:Rho}{k:Nat}{s:Shared}{Q:Value→Shared→Prop}{E:Value→Shared→Prop}{calls:Orc}
 {f:Expr→Nat→Out D}{fb:Expr→Nat→Out Bool}
theorem eB {t:Expr}{r:List Expr}(h:cP t=false):assignEach (t::r) env=(false,assign t env)::assignEach r env:=by
 induction t using Expr.casesOn<;>first | rfl | exact ft h.symm
theorem jb {ts:List Expr}:noStar ts=true→(assignEach ts env).length=ts.length:=by
 induction ts with
 |nil=>exact fun _=>rfl
 |cons t r ih=>exact fun h=>by rw[eB (bG h).1];exact congrArg (·+1) (ih (bG h).2)
theorem jV {ts:List Expr}:noStar ts=true→(assignEach ts env).findIdx? (·.1)=none:=by
 induction ts with
 |nil=>exact fun _=>rfl
 |cons t r ih=>exact fun h=>by rw[eB (bG h).1,List.findIdx?_cons,ih (bG h).2];rfl
theorem iF {sc:Scope}{n:Nat}{t:Expr}{d:D}{ρ ρ':Rho}{P:Prop}(e:gq sc n t d ρ=some ρ') (w1:∀ x p,t=.Name x p→nb d=true→aO sc x .local=true→bP ρ x d=ρ'→P)
 (w2:∀ m ts k p l,n=m+1→t=.Tuple ts k p→d=.py (.tuple l)→noStar ts=true→ts.length=l.length→uZ (fun t p ρ=>gq sc m t (.py p) ρ) ts l ρ=some ρ'→P):P:=by
 have nm:∀{q:{q:Str×Pos // t=.Name q.1 q.2}},wm sc q.1.1 d ρ=some ρ'→P:=fun {q} e=>w1 _ _ q.2 (am (aP e).1).1 (am (aP e).1).2 (aP e).2
 induction n using Nat.casesOn with
 |zero=>exact az e fun q _ e=>nm e
 |succ n =>
  unfold gq at e
  induction hv:eE t using Option.casesOn with
  |some q=>rw[hv]at e;exact nm e
  |none =>
   rw[hv]at e
   refine az e fun q _ e=>az e fun l hl e=>?_
   obtain⟨h,e⟩:=eX e
   exact w2 n _ _ _ l rfl q.2 (gT hl) (am h).1 (Nat.eq_of_beq_eq_true (am h).2) e
noncomputable def Di (cx:Sx) (g:Gh) (V:List Addr) (l:List Env) (n:Nat) (A:Around) (env:Env) (sc:Scope) (fuel:Nat):Prop :=
 ∀(t:Expr) (d:D) (ρ ρ':Rho) (k:Nat) (s:Shared) (v:Value) (Q:Unit→Shared→Prop) (E:Value→Shared→Prop),St cx g V l n A env ρ k s→gq sc fuel t d ρ=some ρ'→Rep cx g V s.heap v d →
  (∀ h' tk',1≤tk'→Heap.ExtBut env.locals s.heap h'→St cx g V l n A env ρ' k {s with heap:=h',toks:=tk'}→Q () {s with heap:=h',toks:=tk'})→wpAny (model cx.prog cx.w) A (assign t env v) Q E s
theorem rX {sc:Scope}{fuel:Nat}(H:Di cx g V l n A env sc fuel):∀(ts:List Expr) (vs:List Value) (ps:List PyData) (as:List Addr) (ρ ρ':Rho) (k:Nat) (s:Shared) (Q:Unit→Shared→Prop),St cx g V l n A env ρ k s→noStar ts=true→ts.length=ps.length →
 ReadsAll (hideAll s.heap V) vs ps as→uZ (fun t p ρ=>gq sc fuel t (.py p) ρ) ts ps ρ=some ρ' →
 (∀ h' tk',1≤tk'→Heap.ExtBut env.locals s.heap h'→St cx g V l n A env ρ' k {s with heap:=h',toks:=tk'}→Q () {s with heap:=h',toks:=tk'}) →
 wpAny (model cx.prog cx.w) A (assignInOrder ((assignEach ts env).map (·.2)) vs) Q E s
 |[],vs,ps,as,ρ,ρ',k,s,Q,x0,_,hl,ra,e,h=>by
  induction ps using List.casesOn with
  |cons=>exact nomatch hl
  |nil =>
   induction vs using List.casesOn with
   |cons=>exact(uJ ra).elim
   |nil =>
   obtain rfl:=si e
   exact wpAny_assignInOrder_none (h s.heap s.toks x0.tk (.refl _ _) x0)
 |t::r,vs,ps,as,ρ,ρ',k,s,Q,x0,hs,hl,ra,e,h=>by
  induction ps using List.casesOn with
  |nil=>exact nomatch hl
  |cons p pr =>
   induction vs using List.casesOn with
   |nil=>exact(uJ ra).elim
   |cons v vr =>
   obtain⟨r1,_,rr⟩:=uJ ra
   refine az e fun ρ1 e1 e2=>?_
   rw[eB (bG hs).1]
   refine wpAny_assignInOrder_more (H t (.py p) ρ ρ1 k s v _ E x0 e1 r1 fun h1 tk1 t1 ex1 x1=>?_)
   refine rX H r vr pr _ ρ1 ρ' k _ Q x1 (bG hs).2 (Nat.succ.inj hl) (ar (c8 x0.fr.LV ex1) rr) e2 fun h2 tk2 t2 ex2 x2=>?_
   exact h h2 tk2 t2 (ex1.trans ex2) x2
theorem fY {sc:Scope}(hs:bI sc env):∀ fuel,Di cx g V l n A env sc fuel:=by
 intro fuel
 induction fuel with
 |zero =>
  intro t d ρ ρ' k s v Q E x0 e rv h
  refine iF e (fun x p et q1 q2 er=>?_) fun m ts k p l en=>nomatch en
  rw[et]
  exact wpAny_assign_Name (eQ x0 (dn hs (bc q2) nofun) rv (fun q=>ft (q.symm.trans q1)) fun h' tk' t hsb x1=>h h' tk' t hsb.extBut (er▸x1))
 |succ fuel ih =>
  intro t d ρ ρ' k s v Q E x0 e rv h
  refine iF e (fun x p et q1 q2 er=>?_) fun m ts kk p xs en et ed q1 q2 e=>?_
  ·rw[et]
   exact wpAny_assign_Name (eQ x0 (dn hs (bc q2) nofun) rv (fun q=>ft (q.symm.trans q1)) fun h' tk' t hsb x1=>h h' tk' t hsb.extBut (er▸x1))
  ·cases en
   obtain⟨a,o,vs,c,bs,ev,e1,e2,e3,ra⟩:=eK (bL ed rv)
   rw[et,ev]
   have hlen:=readsAll_len ra
   rw[Array.length_toList]at hlen
   refine assign_Tuple_tuple x0.ao.handled (dE (of_hideAll V e1) e2 e3) (by rw[jb q1,q2,hlen]) (jV q1) fun h1 ex1=>?_
   have kp:Keeps' s.heap h1:=fun b o e=>ex1 b o (Nat.ne_of_lt (Heap.lt_size e)) e
   exact rX ih ts vs.toList xs bs _ _ k _ Q (x0.step (tk':=s.toks) x0.tk kp.ext (x0.good.keeps kp)) q1 q2 (ar (g4 kp V) ra) e fun h2 tk2 t2 ex2 x2=>h h2 tk2 t2 (fun b o hb e=>ex2 b o hb (kp b o e)) x2
end
section
variable {prog:Program}{w:World}{A:Around}{E:Value→Shared→Prop}{R:Result→Shared→Prop}{s:Shared}
theorem eh {elt target iter:Expr}{ifs:List Expr}{scope:Scope}{pos:Pos}{it acc:Value}{env:Env}(I:Nat→Shared→Prop)
 (turn:∀ n s,I n s→wpAny (model prog w) A (pyNext it) (fun r s₁=>match r with
  |none=>R (.ok .next) s₁
  |some v=>wpAny (model prog w) A (letOwnedTupleGo target it v) (fun _ s₁'=>wpAny (model prog w) A (assign target env v) (fun _ s₂ =>
   wpAny (model prog w) A (forIn ifs true fun c r=>if r=true then do let ok ← isTrue c env (eval c env);pure (ForInStep.yield ok)else pure (ForInStep.yield r)) (fun ok s₃ =>
    if ok=true then wpAny (model prog w) A (eval elt env) (fun x s₄ =>
     wpAny (model prog w) A (call (.builtin "list.append") [acc,x]) (fun _ s₅=>∃ m,m<n∧I m s₅) (notedBy (model prog w) A env fun e s'=>R (.error e) s') s₄) (notedBy (model prog w) A env fun e s'=>R (.error e) s') s₃
    else ∃ m,m<n∧I m s₃) (notedBy (model prog w) A env fun e s'=>R (.error e) s') s₂) (notedBy (model prog w) A env fun e s'=>R (.error e) s') s₁') (notedBy (model prog w) A env fun e s'=>R (.error e) s') s₁) (notedBy (model prog w) A env fun e s'=>R (.error e) s') s)
 (n:Nat) (h:I n s) :
 codeAny (model prog w) A (.compLoop (.ListComp elt [⟨target,iter,ifs,0⟩] scope pos) 0 it acc env) R s:=by
 refine codeAny_loop rfl I (fun n s hI=>?_) n h
 show wpAny _ A ((compTurn (.ListComp elt [⟨target,iter,ifs,0⟩] scope pos) 0 it acc env).onRaise (fun x=>do noteFrame x env;theTreesLotGoes x)) _ _ s
 refine wpAny_noted ?_
 rw[compTurn_list]
 refine wpAny_bind (wpAny_standAt (wpAny_bind (wpAny_mono (turn n s hI) (fun r s₁ h₁=>?_) fun _ _ h'=>h')))
 induction r using Option.casesOn with
 |none=>exact wpAny_pure h₁
 |some v =>
  refine wpAny_bind (wpAny_mono h₁ (fun _ s₁' h₁'=>?_) fun _ _ h'=>h')
  refine wpAny_bind (wpAny_mono h₁' (fun _ s₂ h₂=>wpAny_bind (wpAny_mono h₂ (fun ok s₃ h₃=>?_) fun _ _ h'=>h')) fun _ _ h'=>h')
  induction ok using Bool.casesOn with
  |false=>exact wpAny_pure ⟨rfl,h₃⟩
  |true =>
   exact wpAny_bind (wpAny_bind (wpAny_mono h₃ (fun x s₄ h₄=>wpAny_bind (wpAny_mono h₄ (fun _ s₅ h₅=>wpAny_pure (wpAny_pure ⟨rfl,h₅⟩)) fun _ _ h'=>h')) fun _ _ h'=>h'))
end
section
variable {cx:Sx}{g:Gh}{V:List Addr}{l:List Env}{n:Nat}{A:Around}{env:Env}{ρ:Rho}{k:Nat}{s:Shared}{Q:Value→Shared→Prop}{E:Value→Shared→Prop}{calls:Orc}
 {f:Expr→Nat→Out D}{fb:Expr→Nat→Out Bool}
theorem jL {β:Type}(φ:Str→β→β) (x:Str):∀(l:List (Str×β)),List.lookup x (l.map fun p=>(p.1,φ p.1 p.2))=(List.lookup x l).map (φ x)
 |[]=>rfl
 |(y,kd)::r=>by
  rw[List.map_cons,List.lookup_cons,List.lookup_cons]
  induction hb:x==y using Bool.casesOn with
  |true=>rw[← eq_of_beq hb];rfl
  |false=>exact jL φ x r
theorem eW (sc':Scope) (x:Str):(relabel sc' env).names.lookup x=(sc'.names.lookup x).map fun k=>if(k==.free&&env.scope.kind==.function&&env.kindOf x==some .cell)=true then .cell else k:=by
 have:(relabel sc' env).names=sc'.names.map fun p=>(p.1,if(p.2==.free&&env.scope.kind==.function&&env.kindOf p.1==some .cell)=true then .cell else p.2):=by
  unfold relabel
  refine List.map_congr_left fun p _=>?_
  obtain⟨y,kd⟩:=p
  dsimp only
  split<;>rfl
 rw[this]
 exact jL (fun y k=>if(k==.free&&env.scope.kind==.function&&env.kindOf y==some .cell)=true then .cell else k) x sc'.names
theorem gn {β:Type}(fn:Str→β) (x:Str):∀{l:List Str},x∈l→(l.map fun y=>(y,fn y)).lookup x=some (fn x)
 |y::r,h=>by
  rw[List.map_cons,List.lookup_cons]
  induction hb:x==y using Bool.casesOn with
  |true=>rw[eq_of_beq hb]
  |false =>
   refine gn fn x ?_
   rcases List.mem_cons.mp h with q | q
   ·subst q;simp at hb
   ·exact q
theorem oB {cells:List (Str×Addr)}{names:List (Str×NameKind)}{x:Str}{c:Addr}(h:(x,NameKind.free)∈names) (hc:cells.lookup x=some c):(dN cells names []).lookup x=some c:=by
 rw[fc,List.append_nil,← List.map_reverse,gn _ x (List.mem_reverse.mpr (g8 h)),hc]
 rfl
theorem ek {sc:Scope}{x:Str}{d:D}:∀{ρ:Rho},aH (gh sc ρ) x=some d→aH ρ x=some d∧sc.names.lookup x=some .free
 |[],h=>by injection h
 |(y,e)::r,h=>by
  have key:aH (match jM sc.names y with | some .free=>(y,e)::gh sc r | _=>gh sc r) x=some d:=h
  rw[fR]at key
  rw[aY]
  split at key
  ·rename_i hk
   rw[aY]at key
   by_cases q:y=x
   ·rw[if_pos q]at key ⊢
    exact⟨key,q▸hk⟩
   ·rw[if_neg q]at key ⊢
    exact ek key
  ·rename_i hk
   obtain⟨a,b⟩:=ek key
   by_cases q:y=x
   ·subst q;exact absurd b hk
   ·rw[if_neg q];exact⟨a,b⟩
theorem qh {τ:Type}{f:τ→PyData→Rho→Option Rho}{x:Str}(hf:∀ t p ρ ρ',f t p ρ=some ρ'→aH ρ' x=aH ρ x):∀(ts:List τ) (l:List PyData) (ρ ρ':Rho),uZ f ts l ρ=some ρ'→aH ρ' x=aH ρ x:=by
 intro ts
 induction ts with
 |nil=>intro l ρ ρ' e;rw[show ρ=ρ' from si e]
 |cons t r ih=>intro l ρ ρ' e;induction l using List.casesOn with
  |nil=>rw[show ρ=ρ' from si e]
  |cons y ys=>exact az e fun ρ1 e1 e2=>(ih ys _ _ e2).trans (hf _ _ _ _ e1)
theorem qi {sc:Scope}:∀(fuel:Nat) {t:Expr}{d:D}{ρ ρ':Rho}{x:Str},gq sc fuel t d ρ=some ρ'→aO sc x .local=false→aH ρ' x=aH ρ x:=by
 intro fuel
 induction fuel with
 |zero =>
  intro t d ρ ρ' x e h
  exact iF e (fun y p _ _ q er=>by rw[← er,bF,if_neg fun(e:y=x)=>ft (h.symm.trans (e▸q))]) fun m ts k p l en=>nomatch en
 |succ fuel ih =>
  intro t d ρ ρ' x e h
  refine iF e (fun y p _ _ q er=>by rw[← er,bF,if_neg fun(e:y=x)=>ft (h.symm.trans (e▸q))]) fun m ts kk p xs en _ _ _ _ e=>?_
  cases en
  exact qh (fun t p ρ ρ' e=>ih e h) ts xs ρ ρ' e
theorem jD:∀(ifs:List Expr) {Q:Bool→Shared→Prop},Q false s→wpAny (model cx.prog cx.w) A (forIn ifs false fun c r=>if r=true then do let ok ← isTrue c env (eval c env);pure (ForInStep.yield ok)else pure (ForInStep.yield r)) Q E s
 |[],_,h=>by rw[List.forIn_nil];exact wpAny_pure h
 |c::r,_,h=>by
  rw[List.forIn_cons]
  rw[if_neg (by decide)]
  exact wpAny_bind (wpAny_pure (jD r h))
theorem oO (Hb:iz cx g V l n A env ρ fb):∀(ifs:List Expr) (k:Nat) (s:Shared) (Q:Bool→Shared→Prop),St cx g V l n A env ρ k s→PO cx g V l (fun _ a b=>a=b) (eG fb true ifs k) s Q E →
 wpAny (model cx.prog cx.w) A (forIn ifs true fun c r=>if r=true then do let ok ← isTrue c env (eval c env);pure (ForInStep.yield ok)else pure (ForInStep.yield r)) Q E s
 |[],k,s,Q,x0,hp=>by rw[List.forIn_nil];exact wpAny_pure (hp s.heap s.toks true x0.tk (.refl _ _) x0.good rfl)
 |c::r,k,s,Q,x0,hp=>by
  rw[List.forIn_cons,if_pos rfl]
  refine wpAny_bind (wpAny_bind (jz Hb x0 hp fun b k1 h1 tk1 x1 ex1 hp1=>wpAny_pure ?_))
  induction b using Bool.casesOn
  ·exact jD r (hp1 h1 tk1 false x1.tk (.refl _ _) x1.good rfl)
  ·exact oO Hb r k1 _ Q x1 hp1
theorem jv {F:D→Nat→Out (Option D)}:∀(ds:List D) (k:Nat),dH F ds k≠.exc
 |[],k=>nofun
 |d::r,k=>by
  unfold dH
  induction h:F d k using OutK.casesOn with
  |ok o k1 =>
   dsimp only
   have:=jv (F:=F) r k1
   induction hr:dH F r k1 using OutK.casesOn with
   |ok=>nofun
   |exc=>exact absurd hr this
   |no=>nofun
  |exc=>nofun
  |no=>nofun
end
section
variable {cx:Sx}{g:Gh}{V:List Addr}{l:List Env}{n:Nat}{A:Around}{env:Env}{ρ:Rho}{k:Nat}{s:Shared}{Q:Value→Shared→Prop}{E:Value→Shared→Prop}{calls:Orc}
 {f:Expr→Nat→Out D}{fb:Expr→Nat→Out Bool}
theorem iZ {V' V'':List Addr}{a:Addr}{h h':Heap}(hV:∀ b∈V'',b∈V') (ha:a∈V') (x:Heap.ExtBut a h h') (b:Addr) (o:Obj) (e:(hideAll h V').get? b=some o):(hideAll h' V'').get? b=some o:=by
 obtain⟨e1,e2⟩:=dG e
 exact hideAll_get V'' (x b o (fun q=>e2 (q▸ha)) e1) fun m=>e2 (hV b m)
theorem Good.drop {V' V'':List Addr}{a:Addr}{h h':Heap}(G:Good cx g V' h k) (hV:∀ b∈V'',b∈V') (hW:∀ b∈g.W cx,b∈V'') (ha:a∈V') (ha':a∉V'') (x:Heap.ExtBut a h h'):Good cx g V'' h' k:=by
 exact G.mv (V0:=g.V0) (me:=g.me) (fun b o z e=>x b o (fun q=>nn ((G.V0 a ha).symm.trans (q▸z))) e) (fun b hb=>⟨let⟨o,e⟩:=G.alive b (hV b hb);⟨o,x _ _ (fun q=>ha' (q▸hb)) e⟩,G.V0 b (hV b hb)⟩) hW (iZ hV ha x)
  fun b hb o e=>x b o (fun q=>ha' (q▸hW b hb)) e
structure CLoop (cx:Sx) (g:Gh) (V:List Addr) (l:List Env) (n:Nat) (A:Around) (cenv:Env) (h0:Heap) (V':List Addr) (C D I:Addr) (fp:List Addr) (ρ0:Rho) (sc':Scope):Prop where
 hsc:bI sc' cenv
 hL:cenv.locals=C
 inC:C∈V'
 inD:D∈V'
 inI:I∈V'
 nC:h0.get? C=none
 nD:h0.get? D=none
 nI:h0.get? I=none
 wC:C∉g.W cx
 wD:D∉g.W cx
 wI:I∉g.W cx
 CD:D≠C
 CI:I≠C
 DI:D≠I
 fC:C∉fp
 fD:D∉fp
 noB:∀ y l',aH ρ0 y≠some (.bl l')
 noL:∀ x d,aH ρ0 x=some d→aO sc' x .local=false
structure LH (cx:Sx) (g:Gh) (V:List Addr) (h0:Heap) (V':List Addr) (D:Addr) (ys:Array Value) (ps:List PyData) (h:Heap):Prop where
 hx:Ext (g.W cx) h0 h
 hh:∀ b o,(hideAll h0 V).get? b=some o→(hideAll h V').get? b=some o
 hD:h.IsList D ys
 ra:∃ as,ReadsAll (hideAll h V') ys.toList ps as
theorem LH.w {h0:Heap}{V':List Addr}{D:Addr}{ys:Array Value}{ps:List PyData}{h h':Heap}(L:LH cx g V h0 V' D ys ps h) (e:Ext (g.W cx) h h') (hW:∀ a∈g.W cx,a∈V') (wD:D∉g.W cx):LH cx g V h0 V' D ys ps h' :=
 ⟨L.hx.trans e,fun b o z=>e.hid hW b o (L.hh b o z),L.hD.at fun o z=>e.keep _ _ wD z,let⟨as,r⟩:=L.ra;⟨as,ar (e.hid hW) r⟩⟩
theorem LH.but {h0:Heap}{V':List Addr}{D:Addr}{ys ys':Array Value}{ps ps':List PyData}{h h':Heap}(L:LH cx g V h0 V' D ys ps h) {a:Addr}(x:Heap.ExtBut a h h') (ha:a∈V') (n:h0.get? a=none) (hD:h'.IsList D ys') (r:∃ as,ReadsAll (hideAll h V') ys'.toList ps' as):LH cx g V h0 V' D ys' ps' h' :=
 ⟨⟨fun b o hb e=>x b o (fun q=>nn (n.symm.trans (q▸e))) (L.hx.keep b o hb e)⟩,fun b o z=>c8 ha x b o (L.hh b o z),hD,let⟨as,r⟩:=r;⟨as,ar (c8 ha x) r⟩⟩
inductive CI (cx:Sx) (g:Gh) (V:List Addr) (l:List Env) (n:Nat) (A:Around) (cenv:Env) (h0:Heap) (V':List Addr) (D:Addr) (ρ0:Rho) (ds:List Mine.D) (St':Nat→Heap→Prop) (F:Mine.D→Nat→Out (Option Mine.D)) (kO:Nat) (psO:List PyData) (s:Shared) (m:Nat) (s':Shared):Prop
 |mk (i k':Nat) (h':Heap) (tk':Nat) (ys:Array Value) (ps:List PyData) (rest:List Mine.D) (qs:List PyData) (em:m=ds.length-i) (hi:i≤ds.length) (es:s'={s with heap:=h',toks:=tk'}) (x:St cx g V' l n A cenv ρ0 k' {s with heap:=h',toks:=tk'})
  (L:LH cx g V h0 V' D ys ps h') (st:St' i h') (hc:dH F (ds.drop i) k'=.ok rest kO) (hq:eJ rest=some qs) (ep:psO=ps++qs) (hl:ps.length≤i)
structure CL2 (cx:Sx) (g:Gh) (V:List Addr) (l:List Env) (n:Nat) (A:Around) (cenv:Env) (h0:Heap) (V':List Addr) (C D I:Addr) (fp:List Addr) (ρ0:Rho) (sc':Scope) (d:Mine.D) (ds:List Mine.D) (hI:Heap) (P:Nat→Value→Prop) (St':Nat→Heap→Prop) (fb:Rho→Expr→Nat→Out Bool) (fe:Rho→Expr→Nat→Out Mine.D):Prop where
 B:CLoop cx g V l n A cenv h0 V' C D I fp ρ0 sc'
 HE:∀ ρ',bC cx g V' l n A cenv ρ' (fe ρ')
 HB:∀ ρ',iz cx g V' l n A cenv ρ' (fb ρ')
 It:Iter cx g V A h0 d ds I hI fp P St'
variable {cenv:Env}{h0:Heap}{V':List Addr}{C D I:Addr}{fp:List Addr}{ρ0 ρ':Rho}{sc':Scope}{d:Mine.D}{ds:List Mine.D}{hI:Heap}{P:Nat→Value→Prop}{St':Nat→Heap→Prop}{fb:Rho→Expr→Nat→Out Bool}{fe:Rho→Expr→Nat→Out Mine.D}
 {kO:Nat}{psO:List PyData}{F:Mine.D→Nat→Out (Option Mine.D)}{i:Nat}{ys:Array Value}{ps:List PyData}{rest:List Mine.D}{qs:List PyData}{h':Heap}{tk':Nat}
theorem yS (c:CL2 cx g V l n A cenv h0 V' C D I fp ρ0 sc' d ds hI P St' fb fe) (x:St cx g V' l n A cenv ρ' k {s with heap:=h',toks:=tk'}) (back:∀ x d,aH ρ0 x=some d→aH ρ' x=some d) (L:LH cx g V h0 V' D ys ps h') (hlt:i<ds.length) (st:St' (i+1) h') {v:Value}{y:Mine.D}(r:Rep cx g V' h' v y)
 (hc:dH F (ds.drop (i+1)) k=.ok rest kO) (hq:eJ (y::rest)=some qs) (ep:psO=ps++qs) (hl:ps.length≤i) :
 wpAny (model cx.prog cx.w) A (call (.builtin "list.append") [.ref D,v]) (fun _ s₅=>∃ m,m<ds.length-i∧CI cx g V l n A cenv h0 V' D ρ0 ds St' F kO psO s m s₅) E {s with heap:=h',toks:=tk'}:=by
 cases y with
 |py p =>
  refine cA hq fun qs' hq2 eq=>?_
  obtain⟨bs,r⟩:=r
  obtain⟨as,ra⟩:=L.ra
  obtain⟨oD,eD,cD,nD,dD⟩:=id L.hD
  have hn:=c.It.n
  refine wpAny_list_append L.hD (fun h6 hD6 hs6=>?_) (by have:=readsAll_len ra;rw[Array.length_toList]at this;rw[this];exact Nat.le_trans (show ps.length≤1000000 by omega) (by decide))
  have xb:=hs6.extBut
  have x6:=(x.weaken back).mod c.B.inD c.B.wD eD (fun _ q=>nomatch (dD.symm.trans q)) (fun _ _ _ q=>nomatch (dD.symm.trans q)) (fun _ q=>nomatch (dD.symm.trans q)) (fun _ _ q=>nomatch (dD.symm.trans q)) (.inr c.B.noB) xb (let⟨o,e,_⟩:=hD6;⟨o,e⟩) x.tk
  exact⟨_,by omega,.mk (i+1) k h6 tk' _ (ps++[p]) rest qs' rfl hlt rfl x6 (L.but xb c.B.inD c.B.nD hD6 (by rw[Array.toList_push];exact dr ra (.cons r .nil))) (c.It.W.frame _ _ _ st fun b hb o e=>xb b o (fun q=>c.B.fD (q▸hb)) e) hc hq2
   (by rw[ep,← eq,List.append_assoc];rfl) (by rw[List.length_append];exact Nat.add_le_add_right hl 1)⟩
 |_=>exact nn hq
theorem ux (c:CL2 cx g V l n A cenv h0 V' C D I fp ρ0 sc' d ds hI P St' fb fe) {ifs:List Expr}{elt t:Expr}{dd:Mine.D}{o:Option Mine.D}{k1:Nat}{kx:Value→Shared→Prop}(hρ:gq sc' 4 t dd ρ0=some ρ') (x:St cx g V' l n A cenv ρ' k {s with heap:=h',toks:=tk'}) (L:LH cx g V h0 V' D ys ps h') (hlt:i<ds.length) (st:St' (i+1) h')
 (hF:((eG (fb ρ') true ifs k).bind fun b k=>if b then(fe ρ' elt k).bind fun y k=>.ok (some y) k else .ok none k)=.ok o k1) (hc:dH F (ds.drop (i+1)) k1=.ok rest kO) (hq:eJ (yR o rest)=some qs) (ep:psO=ps++qs) (hl:ps.length≤i) :
 wpAny (model cx.prog cx.w) A (forIn ifs true fun c r=>if r=true then do let ok ← isTrue c cenv (eval c cenv);pure (ForInStep.yield ok)else pure (ForInStep.yield r)) (fun ok s₃ =>
  if ok=true then wpAny (model cx.prog cx.w) A (eval elt cenv) (fun x s₄ =>
   wpAny (model cx.prog cx.w) A (call (.builtin "list.append") [.ref D,x]) (fun _ s₅=>∃ m,m<ds.length-i∧CI cx g V l n A cenv h0 V' D ρ0 ds St' F kO psO s m s₅) kx s₄) kx s₃
  else ∃ m,m<ds.length-i∧CI cx g V l n A cenv h0 V' D ρ0 ds St' F kO psO s m s₃) kx {s with heap:=h',toks:=tk'}:=by
 have fpW:∀ b∈fp,b∉g.W cx:=fun b hb=>if q:b=I then q▸c.B.wI else(c.It.old b hb q).2.1
 have back:∀ x d,aH ρ0 x=some d→aH ρ' x=some d:=fun x d e=>(qi 4 hρ (c.B.noL x d e)).trans e
 have stw:∀{h h':Heap},Ext (g.W cx) h h'→St' (i+1) h→St' (i+1) h':=fun ex st=>c.It.W.frame _ _ _ st fun b hb o e=>ex.keep b o (fpW b hb) e
 refine oO (c.HB ρ') ifs k _ _ x ?_
 induction hb:eG (fb ρ') true ifs k using OutK.casesOn with
 |exc=>rw[hb]at hF;exact oe hF
 |no=>rw[hb]at hF;exact on hF
 |ok b kb =>
 rw[hb]at hF
 intro h4 tk4 b' t4 ex4 G4 hbb
 obtain rfl:b'=b:=hbb
 have x4:=x.step t4 ex4 G4
 have L4:=L.w ex4 G4.WV c.B.wD
 induction b' using Bool.casesOn with
 |false =>
  cases hF
  exact⟨_,by omega,.mk (i+1) _ h4 tk4 ys ps rest qs rfl hlt rfl (x4.weaken back) L4 (stw ex4 st) hc hq ep (Nat.le_succ_of_le hl)⟩
 |true =>
  rw[if_pos rfl]
  replace hF:((fe ρ' elt kb).bind fun y k=>.ok (some y) k)=.ok o k1:=hF
  refine c.HE ρ' elt kb _ _ _ x4 ?_
  induction hy:fe ρ' elt kb using OutK.casesOn with
  |exc=>rw[hy]at hF;exact oe hF
  |no=>rw[hy]at hF;exact on hF
  |ok y ky =>
  rw[hy]at hF
  cases hF
  exact fun h5 tk5 v5 t5 ex5 G5 r5=>yS (s:=s) c (x4.step t5 ex5 G5) back (L4.w ex5 G5.WV c.B.wD) hlt (stw ex5 (stw ex4 st)) r5 hc hq ep hl
theorem uz (c:CL2 cx g V l n A cenv h0 V' C D I fp ρ0 sc' d ds hI P St' fb fe) (hst:St' 0 s.heap) {t elt iter:Expr}{ifs:List Expr}{pos:Pos}{dsO:List Mine.D}
 (he:dH (hZ sc' t ifs elt ρ0 fb fe) ds k=.ok dsO kO) (hpy:eJ dsO=some psO) (x0:St cx g V' l n A cenv ρ0 k s) (L0:LH cx g V h0 V' D #[] [] s.heap) {R:Result→Shared→Prop}
 (hR:∀ h' tk' m ys as,1≤tk'→Ext (g.W cx) h0 h'→(∃ hp,Good cx g V' hp kO∧Heap.ExtBut I hp h'∧hp.IsList D ys∧ReadsAll (hideAll hp V') ys.toList psO as∧hp.Ns C m)→R (.ok .next) {s with heap:=h',toks:=tk'}) :
 codeAny (model cx.prog cx.w) A (.compLoop (.ListComp elt [⟨t,iter,ifs,0⟩] sc' pos) 0 (.ref I) (.ref D) cenv) R s:=by
 refine eh (CI cx g V l n A cenv h0 V' D ρ0 ds St' (hZ sc' t ifs elt ρ0 fb fe) kO psO s) ?_ ds.length (.mk 0 k s.heap s.toks #[] [] dsO psO rfl (Nat.zero_le _) rfl x0 L0 hst he hpy rfl (Nat.le_refl _))
 intro m s' ci
 refine cps fun P0 w=>?_
 obtain⟨i,k',h',tk',ys,ps,rest,qs,em,hi,es,x1,L,st1,he1,hq1,ep,hpl⟩:=ci
 obtain rfl:=em;obtain rfl:=es
 obtain⟨oI,eI,jI⟩:=c.It.obj i h' st1
 by_cases hlt:i<ds.length
 ·have hdrop:ds.drop i=ds[i]::ds.drop (i+1):=List.drop_eq_getElem_cons hlt
  rw[hdrop]at he1
  refine w (wpAny_with_toks x1.tk ?_)
  refine c.It.W.item i _ _ _ hlt st1 fun v h2 tk2 hP st2 kp2 ht2=>?_
  have xb2:Heap.ExtBut I h' h2:=fun b o hb e=>kp2 b o (fun q=>hb (List.mem_singleton.mp q)) e
  obtain⟨oI2,eI2,_⟩:=c.It.obj (i+1) h2 st2
  have x2:St cx g V' l n A cenv ρ0 k' {s with heap:=h2,toks:=tk2}:=x1.mod (s:={s with heap:=h',toks:=tk'}) c.B.inI c.B.wI eI jI.nf jI.nc jI.ncell jI.ndict (.inl jI.nseq) xb2 ⟨_,eI2⟩ ht2
  have L2:=L.but xb2 c.B.inI c.B.nI (L.hD.at fun o e=>xb2 _ _ c.B.DI e) L.ra
  refine c.It.go i _ _ _ _ _ hP st2 ?_
  obtain⟨p,ed,hrd⟩:=c.It.rd i v _ hP (List.getElem?_eq_getElem hlt)
  rw[ed]at he1
  induction hρ:gq sc' 4 t (.py p) ρ0 using Option.casesOn with
  |none=>unfold dH hZ at he1;rw[hρ]at he1;exact on he1
  |some ρ' =>
  refine fY c.B.hsc 4 t (.py p) ρ0 ρ' k' _ v _ _ x2 hρ (hrd _ L2.hh) fun h3 tk3 t3 xb3 x3=>?_
  rw[c.B.hL]at xb3
  have L3:=L2.but xb3 c.B.inC c.B.nC (L2.hD.at fun o e=>xb3 _ _ c.B.CD e) L2.ra
  have st3:St' (i+1) h3:=c.It.W.frame _ _ _ st2 fun b hb o e=>xb3 b o (fun q=>c.B.fC (q▸hb)) e
  have hcf:hZ sc' t ifs elt ρ0 fb fe (.py p) k'=(eG (fb ρ') true ifs k').bind fun b k=>if b then(fe ρ' elt k).bind fun y k=>.ok (some y) k else .ok none k:=by unfold hZ;rw[hρ];rfl
  unfold dH at he1
  induction hF:hZ sc' t ifs elt ρ0 fb fe (.py p) k' using OutK.casesOn with
  |exc=>rw[hF]at he1;exact on he1
  |no=>rw[hF]at he1;exact on he1
  |ok o k1 =>
  replace he1:((dH (hZ sc' t ifs elt ρ0 fb fe) (ds.drop (i+1)) k1).bind fun ds k=>.ok (yR o ds) k)=.ok rest kO:=by rw[hF]at he1;exact he1
  induction hrest:dH (hZ sc' t ifs elt ρ0 fb fe) (ds.drop (i+1)) k1 using OutK.casesOn with
  |exc=>exact absurd hrest (jv _ _)
  |no=>rw[hrest]at he1;exact on he1
  |ok rest1 kO1 =>
  rw[hrest]at he1
  cases he1
  exact ux (s:=s) c hρ x3 L3 hlt st3 (hcf▸hF) hrest hq1 ep hpl
 ·have hie:i=ds.length:=by omega
  rw[hie,List.drop_length]at he1
  cases he1
  obtain rfl:=si hq1
  rw[List.append_nil]at ep
  obtain rfl:=ep
  obtain⟨mm,hn,_⟩:=x1.fr.loc
  obtain⟨as,ra⟩:=L.ra
  refine w (wpAny_with_toks x1.tk (c.It.W.done _ _ _ (hie▸st1) fun h2 tk2 kp2 ht2=>?_))
  have xb2:Heap.ExtBut I h' h2:=fun b o hb e=>kp2 b o (fun q=>hb (List.mem_singleton.mp q)) e
  exact hR h2 tk2 mm ys as ht2 ⟨fun b o hb e=>xb2 b o (fun q=>nn (c.B.nI.symm.trans (q▸e))) (L.hx.keep b o hb e)⟩ ⟨h',x1.good,xb2,L.hD,ra,c.B.hL▸hn⟩
end
section
variable {cx:Sx}{g:Gh}{V:List Addr}{l:List Env}{n:Nat}{A:Around}{env:Env}{ρ:Rho}{k:Nat}{s:Shared}{Q:Value→Shared→Prop}{E:Value→Shared→Prop}{calls:Orc}
 {f:Expr→Nat→Out D}{fb:Expr→Nat→Out Bool}
theorem f9 {it:Expr}{x:Value}(h:cJ it=true):foldedSetIterable it env x=pure x:=by
 induction it using Expr.casesOn<;>first | rfl | injection h
structure CompSc (sc sc':Scope) (ρ:Rho):Prop where
 kind:sc'.kind=.function
 loc:∀ x∈sc'.names,x.2=.local→sc'.names.lookup x.1=some .local
 cell:∀ x∈sc'.names,x.2≠.cell
 free:∀ x,(x,NameKind.free)∈sc'.names→(sc.names.lookup x=some .cell∨sc.names.lookup x=some .free)∧(aH ρ x).isSome=true
theorem mN {sc sc':Scope}(h:gI sc sc' ρ=true):CompSc sc sc' ρ:=by
 unfold gI at h
 simp only[Bool.and_eq_true]at h
 obtain⟨h1,h2⟩:=h
 rw[List.all_eq_true]at h2
 refine⟨by revert h1;induction sc'.kind using ScopeKind.casesOn<;>simp,fun x hx e=>?_,fun x hx e=>?_,fun x hx=>?_⟩
 ·have:=h2 x hx
  rw[e]at this
  exact bc this
 ·have:=h2 x hx
  rw[e]at this
  injection this
 ·have:=h2 _ hx
  simp only[Bool.and_eq_true,Bool.or_eq_true]at this
  exact⟨this.1.imp bc bc,this.2⟩
noncomputable abbrev ge (sc':Scope) (C:Addr) (cl:List (Str×Addr)) (env:Env):Env:={newEnv sc' C env.globals cl env.qual none .none (some env) 0 with scope:=relabel sc' env}
theorem l5 {sc':Scope}{C:Addr}{cl:List (Str×Addr)}:bI sc' (ge sc' C cl env):=fun x kd e=>by
 show(relabel sc' env).names.lookup x=some kd∨(kd=.free∧(relabel sc' env).names.lookup x=some .cell)
 rw[eW,e]
 show some (if(kd==NameKind.free&&env.scope.kind==.function&&env.kindOf x==some .cell)=true then NameKind.cell else kd)=some kd∨(kd=.free∧some (if(kd==NameKind.free&&env.scope.kind==.function&&env.kindOf x==some .cell)=true then NameKind.cell else kd)=some NameKind.cell)
 split
 ·rename_i h
  simp only[Bool.and_eq_true]at h
  exact .inr ⟨by simpa using h.1.1,rfl⟩
 ·exact .inl rfl
theorem frees {sc sc':Scope}(hs:bI sc env) (x0:St cx g V l n A env ρ k s) (hc:CompSc sc sc' ρ) {x:Str}(hx:(x,NameKind.free)∈sc'.names):∃ d c v,aH ρ x=some d∧env.cells.lookup x=some c∧c∉g.W cx∧s.heap.IsCell c (some v)∧Rep cx g V s.heap v d∧nb d=true:=by
 obtain⟨h1,h2⟩:=hc.free x hx
 obtain⟨d,hd⟩:=Option.isSome_iff_exists.mp h2
 have hk:env.kindOf x=some .cell∨env.kindOf x=some .free:=by
  rcases h1 with h1 | h1
  ·rcases hs x _ h1 with q | ⟨q,_⟩
   ·exact .inl q
   ·first | exact nn q | exact ft q | exact on q | exact oe q | injection q
  ·rcases hs x _ h1 with q | ⟨_,q⟩
   ·exact .inr q
   ·exact .inl q
 obtain⟨c,v,e1,e2,e3,r,e4⟩:=x0.fr.cel x d hd hk
 exact⟨d,c,v,hd,e1,e2,e3,r,e4⟩
theorem mem_lookup {α:Type}:∀{l:List (Str×α)}{n:Str}{c:α},l.lookup n=some c→(n,c)∈l:=fun h=>mem_of_lookup h
theorem sW {sc sc':Scope}(hs:bI sc env) (x0:St cx g V l n A env ρ k s) (hc:CompSc sc sc' ρ) {h3:Heap}{I D C:Addr}(kp:Keeps' s.heap h3) (nI:s.heap.get? I=none) (nD:s.heap.get? D=none) (nC:s.heap.get? C=none)
 (aI:∃ o,h3.get? I=some o) (aD:∃ o,h3.get? D=some o) {m:Str→Option Value}(hns:h3.Ns C m) {tk:Nat}(ht:1≤tk) :
 St cx g (C::D::I::V) l n A (ge sc' C (dN env.cells sc'.names []) env) (gh sc' ρ) k {s with heap:=h3,toks:=tk}:=by
 have aC:∃ o,h3.get? C=some o:=let⟨o,_,_,e,_⟩:=hns;⟨o,e⟩
 have G:=x0.good
 have hV':∀ b∈C::D::I::V,b∈V∨(s.heap.get? b=none∧∃ o,h3.get? b=some o):=mc (.inr ⟨nC,aC⟩) (mc (.inr ⟨nD,aD⟩) (mc (.inr ⟨nI,aI⟩) fun b hb=>.inl hb))
 have hsub:∀ b∈V,b∈C::D::I::V:=fun b hb=>.tail _ (.tail _ (.tail _ hb))
 have hCW:C∉g.W cx:=fun m=>by
  obtain⟨o,e⟩:=G.alive _ (G.WV _ m)
  first | exact nn (nC.symm.trans e) | (rw[nC]at e;cases e)
 have G':Good cx g (C::D::I::V) h3 k:=(G.grow (V0:=g.V0) (me:=g.me) kp hsub hV')
 have hmv:=cj (V:=V) (V':=C::D::I::V) kp fun b hb=>(hV' b hb).imp id (·.1)
 have capf:∀{x d},aH (gh sc' ρ) x=some d→(x,NameKind.free)∈sc'.names∧aH ρ x=some d:=fun e=>⟨mem_of_lookup (ek e).2,(ek e).1⟩
 have nbc:∀{x d},aH (gh sc' ρ) x=some d→nb d=true:=fun {x d} e=>by
  obtain⟨h1,h2⟩:=capf e
  obtain⟨d',c,v,hd,_,_,_,_,hn⟩:=frees hs x0 hc h1
  rw[h2]at hd;obtain rfl:=si hd;exact hn
 refine⟨x0.ao,x0.ch.ext kp.ext,⟨hc.kind,x0.fr.gl,x0.fr.bi,.head _,hCW,⟨_,hns,fun x d e kk=>?_,fun x y l1 l2 e=>?_⟩,fun x d e kk=>?_,x0.fr.cd,fun x l1 e=>?_⟩,G',ht⟩
 ·have h2:=(ek e).2
  replace kk:(relabel sc' env).names.lookup x=some .local:=kk
  rw[eW,h2]at kk
  replace kk:some (if(NameKind.free==.free&&env.scope.kind==.function&&env.kindOf x==some .cell)=true then NameKind.cell else .free)=some .local:=kk
  split at kk<;>cases kk
 ·have:=nbc e;injection this
 ·obtain⟨h1,h2⟩:=capf e
  obtain⟨d',c,v,hd,e1,e2,e3,r,hn⟩:=frees hs x0 hc h1
  first | exact nn (h2.symm.trans hd) | (rw[h2]at hd;obtain rfl:=si hd)
  exact⟨c,v,oB h1 e1,e2,e3.keeps kp,r.move ⟨rfl,rfl,rfl⟩ hn kp.ext hmv,hn⟩
 ·have:=nbc e;injection this
theorem mM {sc sc':Scope}(hs:bI sc env) (x0:St cx g V l n A env ρ k s) (hcs:gI sc sc' ρ=true) {t elt it:Expr}{ifs:List Expr}{pos cpos:Pos}(hit:cJ it=true) (Hf:bC cx g V l n A env ρ f)
 {fbr:Rho→Expr→Nat→Out Bool}{fer:Rho→Expr→Nat→Out Mine.D}(HE:∀ V' cenv ρ',bI sc' cenv→bC cx g V' l n A cenv ρ' (fer ρ')) (HB:∀ V' cenv ρ',bI sc' cenv→iz cx g V' l n A cenv ρ' (fbr ρ'))
 {α:Type}{Rl:Heap→α→Mine.D→Prop}{Q0:α→Shared→Prop}{use:Option (Value→Sem Unit)}
 (hp:PO cx g V l Rl (mP sc' t ifs elt (gh sc' ρ) fbr fer f it k) s Q0 E)
 (hfin:∀ ps k' h1 tk1 D C h' tk' m,mP sc' t ifs elt (gh sc' ρ) fbr fer f it k=OutK.ok (Mine.D.py (.list ps)) k'→PO cx g V l Rl (.ok (.py (.list ps)) k') {s with heap:=h1,toks:=tk1} Q0 E→Ext (g.W cx) s.heap h1→1≤tk'→Ext (g.W cx) h1 h'→Good cx g (C::V) h' k'→Rep cx g (C::V) h' (.ref D) (.py (.list ps))→h'.Ns C m→C∉V→D∉V→h1.get? C=none →
  compPost (model cx.prog cx.w) A E use Q (.ref D) C (.ok .next) {s with heap:=h',toks:=tk'}) :
 wpAny (model cx.prog cx.w) A (comprehension (.ListComp elt [⟨t,it,ifs,0⟩] sc' cpos) sc' env pos (newList []) false (eval it env) use) Q E s:=by
 have hc:=mN hcs
 refine wpAny_comprehension_free (use:=use) (cl:=dN env.cells sc'.names []) rfl (fun x=>f9 hit) (dX fun x hx=>by
  obtain⟨d,c,v,_,e1,_⟩:=frees hs x0 hc hx
  rw[e1];rfl) hc.kind hc.loc ?_
 refine Hf _ k s _ E x0 (PO.bind hp fun d k1 hfd h1 tk1 v tt1 ex1 G1 rv hp1=>?_)
 have x1:=x0.step tt1 ex1 G1
 refine cI hp1 fun ds hds hp1=>?_
 induction hcl:dH (hZ sc' t ifs elt (gh sc' ρ) fbr fer) ds k1 using OutK.casesOn with
 |exc=>exact absurd hcl (jv _ _)
 |no=>rw[hcl]at hp1;exact hp1.elim
 |ok dsO kO =>
 rw[hcl]at hp1
 obtain⟨b,eb,hp2⟩:=ga hp1
 obtain⟨psO,hpy,rfl⟩:=Option.map_eq_some_iff.mp eb
 refine sG x1.ao.handled x1.good rv hds fun I hI fp P St' kpI It=>?_
 refine wpAny_newObj_type ?_ (by size_fits)
 refine wpAny_newFunctionEnv hc.cell (by intro y hy;cases hy) (fun h3 hns hsb=>?_) hc.kind
 have eI:I=h1.objs.size:=It.newI
 obtain⟨oI,aI,jI⟩:=It.obj 0 hI It.st
 have ltI:I<hI.objs.size:=Heap.lt_size aI
 generalize hD:hI.objs.size=D at *
 generalize hH2:hI.push {cls:=.type "list",data:=.seq ([]:List Value).toArray}=H2 at hns hsb ⊢
 have hC0:H2.objs.size=D+1:=by rw[← hH2,Heap.size_push,hD]
 have kp3:Keeps' hI h3:=fun b o e=>hsb.extBut b o (by have:=Heap.lt_size e;rw[hC0,← hD];exact Nat.ne_of_lt (Nat.lt_succ_of_lt this)) (Heap.get?_push_of_some _ (by rw[← hH2];exact Heap.get?_push_of_some _ e))
 generalize hCC:H2.objs.size=C at *
 have q1:@Eq Nat I h1.objs.size:=eI
 have q2:@LT.lt Nat _ I D:=hD▸ltI
 have q3:@Eq Nat C (@HAdd.hAdd Nat Nat Nat _ D 1):=hC0
 have nCD:¬ (C=D):=fun q=>by have h:@Eq Nat C D:=q;omega
 have nDC:¬ (D=C):=fun q=>nCD q.symm
 have nIC:¬ (I=C):=fun q=>by have h:@Eq Nat I C:=q;omega
 have nCI:¬ (C=I):=fun q=>nIC q.symm
 have nDI:¬ (D=I):=fun q=>by have h:@Eq Nat D I:=q;omega
 have kp13:Keeps' h1 h3:=fun b o e=>kp3 b o (kpI b o e)
 have nI:h1.get? I=none:=bv (by rw[eI];exact Nat.le_refl _)
 have leI:@LE.le Nat _ h1.objs.size D:=by omega
 have nD:h1.get? D=none:=bv leI
 have nC:h1.get? C=none:=bv (show @LE.le Nat _ h1.objs.size C by omega)
 have aD:h3.IsList D #[]:=⟨_,hsb.extBut _ _ nDC (Heap.get?_push_of_some _ (by rw[← hH2,← hD];exact Heap.get?_push_size _ rfl)),rfl,_,rfl⟩
 have x3:=sW hs x1 hc (I:=I) (D:=D) (C:=C) kp13 nI nD nC ⟨oI,kp3 _ _ aI⟩ (let⟨o,e,_⟩:=aD;⟨o,e⟩) hns (tk:=tk1+0) x1.tk
 have frV:∀ b,h1.get? b=none→b∉V:=fun b e m=>by
  obtain⟨o,e'⟩:=x1.good.alive b m
  first | exact nn (e.symm.trans e') | (rw[e]at e';cases e')
 have frW:∀ b,h1.get? b=none→b∉g.W cx:=fun b e m=>frV b e (x1.good.WV b m)
 have oldC:∀ b,h1.get? b=none→b≠I→b∉fp:=fun b e hb m=>by
  obtain⟨o,e'⟩:=(It.old b m hb).1
  first | exact nn (e.symm.trans e') | (rw[e]at e';cases e')
 have hscC:bI sc' (ge sc' C (dN env.cells sc'.names []) env):=l5
 have B:CLoop cx g V l n A (ge sc' C (dN env.cells sc'.names []) env) h1 (C::D::I::V) C D I fp (gh sc' ρ) sc' :=
  ⟨hscC,rfl,.head _,.tail _ (.head _),.tail _ (.tail _ (.head _)),nC,nD,nI,frW C nC,frW D nD,frW I nI,nDC,nIC,nDI,oldC C nC nCI,oldC D nD nDI,
   (fun y l' e=>by
    have hm:=mem_of_lookup (ek e).2
    obtain⟨d',c,v,hd,_,_,_,_,hn⟩:=frees hs x1 hc hm
    rw[(ek e).1]at hd;obtain rfl:=si hd;injection hn),
   (fun x d e=>by
    have:=(ek e).2
    induction hk:aO sc' x .local using Bool.casesOn with
    |false=>rfl
    |true=>rw[bc hk]at this;cases this)⟩
 have loop:codeAny (model cx.prog cx.w) A (.compLoop (.ListComp elt [⟨t,it,ifs,0⟩] sc' cpos) 0 (.ref I) (.ref D) (ge sc' C (dN env.cells sc'.names []) env)) (compPost (model cx.prog cx.w) A E use Q (.ref D) C) {s with heap:=h3,toks:=tk1+0}:=by
  refine uz ⟨B,(fun ρ'=>HE _ _ ρ' hscC),(fun ρ'=>HB _ _ ρ' hscC),It⟩ (It.W.frame _ _ _ It.st fun b hb o e=>kp3 b o e) hcl hpy x3 ⟨kp13.ext,
   (cj kp13 fun b hb=>?_),aD,_,.nil⟩ fun h' tk' m ys as ht' ex' ⟨hp',Gp,xbp,hDp,rap,hCp⟩=>?_
  ·exact mc (P:=fun b=>b∈V∨h1.get? b=none) (.inr nC) (mc (.inr nD) (mc (.inr nI) fun b hb=>.inl hb)) b hb
  ·have sub:∀ b∈C::V,b∈C::D::I::V:=mc (.head _) fun b hb=>.tail _ (.tail _ (.tail _ hb))
   have hIC:I∉C::V:=fun m=>(List.mem_cons.mp m).elim nIC (frV I nI)
   have Gf:=Gp.drop (V'':=C::V) sub (fun b hb=>.tail _ (x1.good.WV b hb)) (a:=I) (.tail _ (.tail _ (.head _))) hIC xbp
   have hk:=iZ (V':=C::D::I::V) (V'':=C::V) sub (a:=I) (.tail _ (.tail _ (.head _))) xbp
   obtain⟨oD,q1,q2,q3,q4⟩:=hDp
   have hDC:D∉C::V:=fun m=>(List.mem_cons.mp m).elim nDC (frV D nD)
   have rr:Rep cx g (C::V) h' (.ref D) (.py (.list psO)):=⟨_,reads_list_at (hideAll_get _ (xbp _ _ nDI q1) hDC) q2 q4 (ar hk rap)⟩
   exact hfin psO kO h1 tk1 D C h' tk' m (by show((f it k).bind _)=_;rw[hfd];show optK (hX d) _=_;rw[hds];show((dH _ ds k1).bind _)=_;rw[hcl];show ofO ((eJ dsO).map _) kO=_;rw[hpy];rfl) hp2 ex1 ht' ex' Gf rr (hCp.at' fun o e=>xbp _ o nCI e) (frV C nC) (frV D nD) nC
 exact codeAny_compStart_list loop (It.W.self 0 _ _ _ (It.W.frame _ _ _ It.st fun b hb o e=>kp3 b o e) loop)
end
section
variable {cx:Sx}{g:Gh}{V:List Addr}{l:List Env}{n:Nat}{A:Around}{env:Env}{ρ:Rho}{k:Nat}{s:Shared}{Q:Value→Shared→Prop}{E:Value→Shared→Prop}{calls:Orc}
 {f:Expr→Nat→Out D}{fb:Expr→Nat→Out Bool}
theorem yT {sc sc':Scope}(hs:bI sc env) (x0:St cx g V l n A env ρ k s) (hcs:gI sc sc' ρ=true) {t elt it:Expr}{ifs:List Expr}{pos:Pos}(hit:cJ it=true) (Hf:bC cx g V l n A env ρ f)
 {fbr:Rho→Expr→Nat→Out Bool}{fer:Rho→Expr→Nat→Out Mine.D}(HE:∀ V' cenv ρ',bI sc' cenv→bC cx g V' l n A cenv ρ' (fer ρ')) (HB:∀ V' cenv ρ',bI sc' cenv→iz cx g V' l n A cenv ρ' (fbr ρ'))
 (hp:PO cx g V l (Rep cx g V) (mP sc' t ifs elt (gh sc' ρ) fbr fer f it k) s Q E):wpAny (model cx.prog cx.w) A (eval (.ListComp elt [⟨t,it,ifs,0⟩] sc' pos) env) Q E s:=by
 rw[eval_ListComp]
 refine mM (use:=none) hs x0 hcs hit Hf HE HB hp fun ps k' h1 tk1 D C h' tk' m _ hq ex1 ht ex G r hn hC hD nC=>?_
 refine⟨m,hn,fun h'' hsb=>?_⟩
 have xb:=hsb.extBut
 have Gd:=G.drop (V'':=V) (a:=C) (fun b hb=>.tail _ hb) x0.good.WV (.head _) hC xb
 have hk:=iZ (V':=C::V) (V'':=V) (a:=C) (fun b hb=>.tail _ hb) (.head _) xb
 refine hq h'' tk' _ ht ⟨fun b o hb e=>xb b o (fun q=>?_) (ex.keep b o hb e)⟩ Gd ?_
 ·rw[q]at e
  replace nC:h1.get? C=none:=nC
  replace e:h1.get? C=some o:=e
  first | exact nn (nC.symm.trans e) | (rw[nC]at e;cases e)
 ·obtain⟨as,r⟩:=r
  exact⟨as,Reads.keeps hk r⟩
theorem wE {sc:Scope}(hs:bI sc env) (x0:St cx g V l n A env ρ k s) {e:Expr}{i:Int}(he:uj (cx.C g calls) sc e=some i) {Q:Value→Shared→Prop}(h:∀ t tk,Q (.int i t) {s with toks:=tk}):wpAny (model cx.prog cx.w) A (eval e env) Q E s:=by
 unfold uj at he
 induction hv:jd e using Option.casesOn with
 |some q =>
  rw[hv]at he
  obtain⟨⟨c,a,p⟩,rfl⟩:=q
  refine cA he fun z _ ez=>?_
  obtain rfl:=ez
  rw[show c=.int z.1 from z.2]
  exact wpAny_Constant_int (h _ _)
 |none =>
  rw[hv]at he
  refine az he fun q _ he=>?_
  obtain⟨⟨x,p⟩,rfl⟩:=q
  obtain⟨q,he⟩:=eX he
  refine az he fun d hn hi=>cr x0 (dn hs (bc (am q).2) nofun) (eR (am q).1).1 hn fun v r=>?_
  obtain⟨t,ev⟩:=au (bL (bn hi) r)
  rw[ev]
  exact h t s.toks
noncomputable def PairsOk (c:Cx) (sc:Scope):List (Expr×Expr)→List (Int×Int)→Prop
 |[],[]=>True
 |e::es,q::kvs=>(uj c sc e.1=some q.1∧uj c sc e.2=some q.2)∧PairsOk c sc es kvs
 |_,_=>False
theorem PairsOk.len {c:Cx}{sc:Scope}:∀{es:List (Expr×Expr)}{kvs:List (Int×Int)},PairsOk c sc es kvs→es.length=kvs.length:=by
 intro es
 induction es with
 |nil=>intro kvs h;induction kvs using List.casesOn with
  |nil=>rfl
  |cons=>exact h.elim
 |cons e es ih=>intro kvs h;induction kvs using List.casesOn with
  |nil=>exact h.elim
  |cons q kvs=>exact congrArg (·+1) (ih h.2)
noncomputable def Co (env:Env) (pos:Pos) (p:Expr×Expr):Sem Value×Sem Value:=(eval p.1 env,do let x ← eval p.2 env;standAt pos;pure x)
theorem ry (pos:Pos) (c:Cx) (sc:Scope):∀(ks:List (Option Expr)) (vs:List Expr) (kvs:List (Int×Int)),sS c sc ks vs=some kvs→∃ es:List (Expr×Expr),(evalEachOpt ks env).zip ((evalEach vs env).map fun v=>do let x ← v;standAt pos;pure x)=(es.map (Co env pos)).map (fun p=>(some p.1,p.2))∧PairsOk c sc es kvs:=by
 intro ks
 induction ks with
 |nil=>intro vs kvs h;induction vs using List.casesOn with
  |nil=>obtain rfl:=si h;exact⟨[],rfl,trivial⟩
  |cons=>exact nn h
 |cons k ks ih=>intro vs kvs h;induction vs using List.casesOn with
  |nil=>exact nn h
  |cons v vs =>
   refine az h fun k hk h1=>az h1 fun a ha h2=>az h2 fun b hb h3=>cA h3 fun r hr h4=>?_
   obtain rfl:=hk;obtain rfl:=h4
   obtain⟨es,e1,e2⟩:=ih vs r hr
   refine⟨(k,v)::es,?_,⟨ha,hb⟩,e2⟩
   show(some (eval k env)::evalEachOpt ks env).zip ((do let x ← eval v env;standAt pos;pure x)::(evalEach vs env).map _)=_
   rw[List.zip_cons_cons,e1]
   rfl
theorem lU {sc:Scope}(hs:bI sc env) {pos:Pos}:∀(es:List (Expr×Expr)) (kvs:List (Int×Int)) (s:Shared) (Q:List (Value×Value)→Shared→Prop),St cx g V l n A env ρ k s→PairsOk (cx.C g calls) sc es kvs →
 (∀(vs:List (Value×Value)) (kv:List (Int×Value)) tk,Carries (intKind cx.prog cx.w) vs kv→kv.map (·.1)=kvs.map (·.1)→(∀ j i,sL j kvs=some i→∃ t,valueAt kv j=some (.int i t))→1≤tk→Q vs {s with toks:=tk}) →
 wpAny (model cx.prog cx.w) A (evalPairs (es.map (Co env pos))) Q E s:=by
 intro es
 induction es with
 |nil=>intro kvs s Q x0 hl h;induction kvs using List.casesOn with
  |nil=>exact evalPairs_nil (h [] [] s.toks trivial rfl (fun j i e=>nn e) x0.tk)
  |cons=>exact hl.elim
 |cons e es ih=>intro kvs s Q x0 hl h;induction kvs using List.casesOn with
  |nil=>exact hl.elim
  |cons q kvs =>
   refine evalPairs_cons (wpAny_with_toks x0.tk (wE hs x0 hl.1.1 fun t tk ht=>?_))
   have x1:St cx g V l n A env ρ k {s with toks:=tk}:=⟨x0.ao,x0.ch,x0.fr,x0.good,ht⟩
   refine wpAny_bind (wpAny_with_toks x1.tk (wE hs x1 hl.1.2 fun t2 tk2 ht2=>wpAny_bind (wpAny_standAt (wpAny_pure ?_))))
   have x2:St cx g V l n A env ρ k {s with toks:=tk2}:=⟨x0.ao,x0.ch,x0.fr,x0.good,ht2⟩
   refine ih kvs _ _ x2 hl.2 fun vs kv tk3 hc hk hv2 ht3=>h _ ((q.1,.int q.2 t2)::kv) tk3 ⟨decide_eq_true rfl,rfl,hc⟩ (congrArg (q.1::·) hk) (fun j i e=>?_) ht3
   unfold sL at e
   unfold valueAt
   rw[List.find?_cons]
   by_cases hj:q.1=j
   ·rw[if_pos hj]at e;obtain rfl:=si e
    rw[decide_eq_true hj]
    exact⟨t2,rfl⟩
   ·rw[if_neg hj]at e
    rw[decide_eq_false hj]
    exact hv2 j i e
theorem kG:∀{l:List Int},kH l=true→l.Nodup
 |[],_=>List.nodup_nil
 |a::r,h=>by
  unfold kH at h
  simp only[Bool.and_eq_true]at h
  refine List.nodup_cons.mpr ⟨fun m=>?_,kG h.2⟩
  have:=List.all_eq_true.mp h.1 a m
  simp at this
theorem iU {K:Type} [DecidableEq K]:∀(more acc:List (K×Value)),((acc++more).map (·.1)).Nodup→merged acc more=acc++more
 |[],acc,_=>by simp[merged]
 |p::r,acc,h=>by
  show merged (stored acc p.1 p.2) r=_
  have hp:acc.any (fun kv=>decide (kv.1=p.1))=false:=by
   rw[List.any_eq_false]
   intro q hq e
   have e:=of_decide_eq_true e
   rw[List.map_append,List.nodup_append]at h
   exact h.2.2 q.1 (List.mem_map_of_mem hq) p.1 (by simp) e
  unfold stored
  rw[if_neg (by rw[hp];decide)]
  rw[iU r (acc++[p]) (by simpa using h)]
  simp
theorem Fd (F:KF cx) {sc:Scope}(hs:bI sc env) (Hf:bC cx g V l n A env ρ f) (x0:St cx g V l n A env ρ k s) {ks:List (Option Expr)}{vs:List Expr}{dpos pos:Pos}{i:Expr}{kvs:List (Int×Int)}(hns:fO i=true) (hd:sS (cx.C g calls) sc ks vs=some kvs)
 (hn:kH (kvs.map (·.1))=true) (h15:kvs.length≤15) (h0:0<kvs.length)
 (hp:PO cx g V l (Rep cx g V) ((f i k).bind fun i k=>yP kvs i k) s Q E):wpAny (model cx.prog cx.w) A (eval (.Subscript (.Dict ks vs dpos) i pos) env) Q E s:=by
 obtain⟨es,e1,e3⟩:=ry (env:=env) dpos _ _ _ _ _ hd
 have e2:=e3.len
 refine Subscript_ (wpAny_Dict_pairs (knd:=intKind cx.prog cx.w) e1 (by intro q;have:=congrArg List.length q;simp at this;rw[this]at e2;simp at e2;omega) (by rw[List.length_map,e2];exact h15) ?_)
 have kp0:Keeps' s.heap (s.heap.push {cls:=.type "dict",data:=.dict #[]}):=.push _ _
 have x1:St cx g V l n A env ρ k {s with heap:=s.heap.push {cls:=.type "dict",data:=.dict #[]}}:=x0.step x0.tk kp0.ext (x0.good.keeps kp0)
 refine lU hs es kvs _ _ x1 e3 fun vs' kv tk hc hk hv2 ht=>?_
 have hnd:(kv.map (·.1)).Nodup:=by rw[hk];exact kG hn
 have hm:merged [] kv=kv:=by rw[iU kv [] (by simpa using hnd)];rfl
 refine⟨kv,hc,?_,fun h' hdo hsb=>?_⟩
 ·exact Heap.DictOf.new s.heap
 rw[hm]at hdo
 have kp:Keeps' s.heap h':=fun b o e=>hsb.extBut b o (Nat.ne_of_lt (Heap.lt_size e)) (kp0 b o e)
 have x2:St cx g V l n A env ρ k {s with heap:=h',toks:=tk+vs'.length}:=x0.step (by omega) kp.ext (x0.good.keeps kp)
 refine b9 Hf x2 (PO.shift hp kp.ext) fun d k3 h3 tk3 v x3 ex3 rv hp3=>cI hp3 fun j hj hp3=>?_
 obtain⟨t0,ev⟩:=au (bL (bn hj) rv)
 obtain⟨b,eb,hp4⟩:=ga hp3
 refine cA eb fun iv ei eb=>?_
 obtain rfl:=eb
 obtain⟨t,hv⟩:=hv2 j iv ei
 have hfr:s.heap.objs.size∉g.W cx:=fun m=>let⟨o,e⟩:=x0.good.alive _ (x0.good.WV _ m);nn ((bv (Nat.le_refl _)).symm.trans e)
 have hdo3:h3.DictOf (intKind cx.prog cx.w) s.heap.objs.size kv:=let⟨o,es,ep,ho,r⟩:=hdo;⟨o,es,ep,ex3.keep _ _ hfr ho,r⟩
 have hM:=hdo3.mapOf
 rw[ev]
 refine wpAny_with_toks x3.tk ?_
 exact tail_any hM.typeIs slot_dict_getitem.lookup (wpAny_getItem_of (knd:=intKind cx.prog cx.w) (k:=j) (decide_eq_true rfl) hM hv fun ht=>hp4 h3 _ _ ht (.refl _ _) x3.good (ck _ _)) (bW hns _ _)
end
end Mine
end
section
namespace Mine
open PySem PySem.W PySem.Spec PySem.Calls PyProof.Rows Builtin Builtin.Str
theorem wh:typeLookup (.type "list_reverseiterator") "__len__"=pure none:=by rw[typeLookup_type,builtinLookup_eq_fast];kernel_rfl
theorem Be:typeLookup (.type "list_reverseiterator") "__length_hint__"=pure (some (.builtin "list_reverseiterator.__length_hint__")):=by rw[typeLookup_type,builtinLookup_eq_fast];kernel_rfl
section
variable {prog:Program}{w:World}{A:Around}{E:Value→Shared→Prop}{s:Shared}{I:Addr}{fp wr:List Addr}{G:Array GenState→Array GenState→Prop}{n:Nat}{P:Nat→Value→Prop}{St:Nat→Shared→Prop}
theorem pV {Q:List Value→Shared→Prop}(W:WalksS prog w A.in1 I fp wr G n P St) (hT:∀ i s,St i s→s.TypeIs (.ref I) "list_reverseiterator") (hst:St 0 s) (hfp:∀ b∈fp,b<s.heap.objs.size) (hI:I∈fp)
 (hQ:∀ s' acc,Moved wr G s s'→ItemsOf P acc n→Q acc.toList s') (hn:n≤sizeLine):wpAny (model prog w) A (collect (.ref I)) Q E s:=by
 have fresh:s.heap.objs.size∉fp:=fun hm=>Nat.lt_irrefl _ (hfp _ hm)
 have ne:s.heap.objs.size≠I:=fun e=>fresh (e▸hI)
 unfold collect
 refine wpAny_bind (wpAny_runValue (codeAny_builtin PySem.F.entry_proto_collect ?_))
 rw[Around.under_plainId PySem.F.plain_proto_collect _]
 show wpAny _ A.in1 (newList [] >>= fun l=>again (.builtin "list.__iadd__" ⟨[l,.ref I],[]⟩)) _ _ s
 refine wpAny_bind (wpAny_newObj_type ?_)
 refine wpAny_pure ⟨plainId_quiet PySem.F.plain_list_iadd _,codeAny_builtin PySem.F.entry_list_iadd ?_⟩
 rw[Around.under_plainId PySem.F.plain_list_iadd _]
 have st1:=W.frame 0 s (s.heap.push {cls:=.type "list",data:=.seq ([]:List Value).toArray}) s.toks hst (Nat.le_refl _) fun b _ o e=>Heap.get?_push_of_some _ e
 have new1:(s.heap.push {cls:=.type "list",data:=.seq ([]:List Value).toArray}).get? s.heap.objs.size=some {cls:=.type "list",data:=.seq ([]:List Value).toArray}:=Heap.get?_push_size _ rfl
 have notSame:Builtin.List.listSameRef (.ref s.heap.objs.size) (.ref I)=false:=by simp[Builtin.List.listSameRef,ne]
 show wpAny _ A.in1 (Builtin.List.listExtendWith (.ref s.heap.objs.size) (.ref I) (.ref s.heap.objs.size)) _ _ _
 unfold Builtin.List.listExtendWith
 refine wpAny_bind (wpAny_typeOf (hT 0 _ st1) ?_)
 rw[if_neg (by rw[notSame];decide)]
 refine wpAny_bind (W.self 0 _ _ _ st1 ?_)
 refine wpAny_bind (wpAny_holding ?_)
 unfold Builtin.List.listLengthHint
 refine wpAny_bind (wpAny_specialOf (hT 0 _ st1) wh ?_)
 show wpAny _ A.in1 (specialOf (Value.ref I) (Str.ofString "__length_hint__") >>= _) _ _ _
 refine wpAny_bind (wpAny_specialOf (hT 0 _ st1) Be ?_)
 (generalize hid:("list_reverseiterator.__length_hint__":String)=id0;(fail_if_success (clear hid id0));wp_delta;rw[show splitId id0=some ("list_reverseiterator","__length_hint__")from by subst hid;decide +kernel];subst hid)
 refine wpAny_bind (wpAny_isInstance (b:=true) (hT 0 _ st1) (by rw[isSubtype_type];kernel_rfl) ?_)
 refine wpAny_pure ?_
 rw[if_neg (by decide)]
 refine wpAny_pure ⟨plainId_quiet PySem.F.plain_extend_loop _,codeAny_extend_loopS W hn _ fresh _ n 0 _ _ _ rfl (Nat.zero_le _) st1 new1 (ItemsOf.nil P) fun s' acc' c' hm hS' hacc=>?_⟩
 show wpAny _ A (load s.heap.objs.size >>= _) _ _ s'
 refine wpAny_bind (wpAny_load hS' ?_)
 exact wpAny_pure (hQ s' acc' (Moved.drop_new (o:={cls:=.type "list",data:=.seq ([]:List Value).toArray}) (tk:=s.toks) hm (Nat.le_refl _)) hacc)
theorem wW {x:Str}{t:Tok}{Q:Value→Shared→Prop}(W:WalksS prog w A.in1.in1 I fp wr G n P St) (hT:∀ i s,St i s→s.TypeIs (.ref I) "list_reverseiterator") (hst:St 0 s) (hfp:∀ b∈fp,b<s.heap.objs.size) (hI:I∈fp) (hn:n≤sizeLine)
 (hstr:∀ i v,P i v→∃ y u,v=Value.str y u)
 (hq:∀ s' (l:List (Str×Tok)),Moved wr G s s'→ItemsOf P (strValues l).toArray n→JoinOk x (l.map (·.1))=true∧∀ t' k,Q (.str (Txt.join x (l.map (·.1))) t') {s' with toks:=k}) :
 wpAny (model prog w) A (call (.builtin "str.join") [.str x t,.ref I]) Q E s:=by
 refine wpAny_call (codeAny_call_builtin PySem.F.slot_str_join.plain PySem.F.entry_str_join (PySem.F.slot_str_join.check _ _ _ _ _ _ _ _ (typeIs_str _ _ _) (PySem.F.args_str_join_2 _ _) ?_))
 rw[join_tree_other]
 refine wpAny_bind (wpAny_typeOf (hT 0 s hst) ?_)
 show wpAny _ A.in1 ((pyIter (.ref I)).tryCatch _ >>= fun it=>collect it >>= fun items=>joinTail x items) _ _ s
 refine wpAny_bind (wpAny_tryCatch (W.of_in1.self 0 s _ _ hst ?_))
 refine wpAny_bind (pV W hT hst hfp hI (fun s' acc hm hacc=>?_) hn)
 obtain⟨l,hl⟩:=exists_strValues acc.toList fun v hv=>by
  obtain⟨j,hj,rfl⟩:=Array.mem_iff_getElem.mp (Array.mem_toList_iff.mp hv)
  exact hstr j _ (hacc.2 j _ (Array.getElem?_eq_getElem hj))
 rw[← hl]
 obtain⟨hok,hpost⟩:=hq s' l hm (by rw[hl];simpa using hacc)
 unfold JoinOk at hok
 rw[Bool.not_eq_true']at hok
 have g:Gives (joinTail x (strValues l)) (joinMade x l):=by
  have g0:=gives_joinTail x l hok
  induction l using List.casesOn with
  |nil=>exact g0
  |cons p r=>induction r using List.casesOn with
   |nil=>exact g0
   |cons q r'=>exact g0
 exact g prog w A (wants Q E) s' (post_join l ⟨joinFit_length hok,hpost⟩)
end
end Mine
end
section
namespace Mine
open PySem PySem.W PySem.Spec PySem.Calls PyProof.Rows Builtin.Str
section
variable {cx:Sx}{g:Gh}{V:List Addr}{l:List Env}{n:Nat}{A:Around}{env:Env}{ρ:Rho}{k:Nat}{s:Shared}{Q:Value→Shared→Prop}{E:Value→Shared→Prop}{calls:Orc}
 {f:Expr→Nat→Out D}{fb:Expr→Nat→Out Bool}
theorem qA {K:Frag}{sc:Scope}{rv:Str}(h:jY K sc rv=true):bh rv=true∧sc.names.lookup rv=some .globalImplicit∧d7 K rv=some (.glob (.type "reversed")):=by
 unfold jY at h
 simp only[Bool.and_eq_true]at h
 refine⟨h.1.1,bc h.1.2,?_⟩
 replace h:=h.2
 split at h
 ·rename_i t e
  obtain rfl:=eq_of_beq h
  exact e
 ·first | exact nn h | exact ft h | exact on h | exact oe h | cases h
theorem oE (x0:St cx g V l n A env ρ k s) {x:Str}{pos:Pos}{ps:List PyData}(ho:bh x=true) (e:aH ρ x=some (.bl ps))
 (h:∀ a vs m as,a∈V→a∉g.W cx→a∉g.V0→s.heap.get? a=some (listOf vs m)→ReadsAll (hideAll s.heap V) vs.toList ps as→(∀ m',s.heap.Ns env.locals m'→m' x=some (.ref a))→Q (.ref a) s):wpAny (model cx.prog cx.w) A (eval (.Name x pos) env) Q E s:=by
 have hk:=x0.fr.blk x ps e
 obtain⟨m,hn,a,_⟩:=x0.fr.loc
 obtain⟨v,e1,a,vs,nn,as,rfl,hv,ha,r⟩:=a x _ e hk
 have hd:(x==("__debug__":Str))=false:=by have:=(eR ho).1;rw[eO]at this;simpa using this
 exact wpAny_Name (wpAny_loadName_local x0.fr.kind hk hn e1 (h a vs nn as hv.1 hv.2.1 hv.2.2 ha r fun m' hm=>by rw[Heap.Ns.fn hm hn];exact e1)) hd
theorem iM {h:Heap}{vs:List Value}{ds:List PyData}{as:List Addr}(r:ReadsAll h vs ds as):∃ bs,ReadsAll h vs.reverse ds.reverse bs :=
 pg (M:=fun vs ds=>∃ bs,ReadsAll h vs.reverse ds.reverse bs) ⟨_,.nil⟩ (fun _ _ _ _ _ _ r _ ih=>by
  obtain⟨bs,q⟩:=ih
  rw[List.reverse_cons,List.reverse_cons]
  exact dr q (.cons r .nil)) r
theorem qn:∀{ps:List PyData}{ss:List Str},cG ps=some ss→ps=ss.map .str
 |[],_,e=>by obtain rfl:=si e;rfl
 |p::r,ss,e=>by
  induction p using PyData.casesOn with
  |str x =>
   simp only[cG,Option.map_eq_some_iff]at e
   obtain⟨ts,e',rfl⟩:=e
   rw[List.map_cons,← qn e']
  |_=>first | exact nn e | (simp[cG]at e)
theorem qo:∀(ss:List Str),cG (ss.map .str)=some ss
 |[]=>rfl
 |s::r=>by simp[cG,qo r]
theorem q7 {sc:Scope}(hs:bI sc env) (Hf:bC cx g V l n A env ρ f) (x0:St cx g V l n A env ρ k s) {o:Expr}{ap p rp cp xp:Pos}{rv x:Str}(hc:bw o ap p []=true) (hr:jY cx.K sc rv=true) (hx:bh x=true)
 (hp:PO cx g V l (Rep cx g V) (wX ρ f x o k) s Q E):wpAny (model cx.prog cx.w) A (eval (.Call (.Attribute o "join" ap) [.Call (.Name rv rp) [.Name x xp] [] cp] [] p) env) Q E s:=by
 refine cI hp fun ps hb hp=>?_
 replace hb:=yx hb
 obtain⟨r1,r2,r3⟩:=qA hr
 have hk:env.kindOf rv=some .globalImplicit:=dn hs r2 nofun
 refine methodCall_KW (b9 Hf x0 hp fun d k1 h1 tk1 v x1 ex1 rv1 hp1=>cI hp1 fun sep hsep hp1=>cI hp1 fun ss hss hp1=>bU hp1 fun q hp1=>?_) (bx (jw hc rfl rfl))
 ·obtain⟨_,ev⟩:=av (bL (bD hsep) rv1)
  rw[ev]
  ·replace q:=am q
   refine GM.join ?_
   refine callWith_of (P:=fun _=>True) rfl (fun h' _=>dj _) ?_
   refine evalArgs_plain ?_
   show wpAny _ A (spliced (backTo p (starEach [.Call (.Name rv rp) [.Name x xp] [] cp] env))) _ _ _
   refine wpAny_items_cons ?_ (cQ (by intro _ _;exact nofun))
   rw[aU (by intro _ _ _;nofun)]
   refine wpAny_bind (cr x1 hk (eR r1).1 r3 fun w rw=>?_)
   obtain rfl:=rw
   refine callWith_of (P:=fun _=>True) rfl (fun h' _=>k8 _) ?_
   refine evalArgs_plain ?_
   show wpAny _ A (spliced (backTo cp (starEach [.Name x xp] env))) _ _ _
   refine wpAny_items_cons (oE x1 hx hb fun a vs m as hV hW hV0 ha ra _=>wpAny_items_nil ⟨trivial,?_⟩) (cQ (by intro _ _;exact nofun))
   have hl:=bE ha rfl rfl
   have hlen:=readsAll_len ra
   rw[Array.length_toList]at hlen
   refine call_reversed_list hl (wpAny_items_nil ⟨trivial,?_⟩)
   have hlt:a<h1.objs.size:=Heap.lt_size ha
   have hne:a≠h1.objs.size:=Nat.ne_of_lt hlt
   generalize hH:h1.push (revObj a ((vs.size:Int)-1))=H
   have kpH:Keeps' h1 H:=by rw[← hH];exact .push _ _
   have hI:H.get? h1.objs.size=some (revObj a ((vs.size:Int)-1)):=by rw[← hH];exact Heap.get?_push_size _ rfl
   have hsz:H.objs.size=h1.objs.size+1:=by rw[← hH,Heap.size_push]
   have W:=Walks.listRev (prog:=cx.prog) (w:=cx.w) (A:=A.in1.in1) x1.ao.handled h1.objs.size a hne vs
   refine wpAny_with_toks (s:={s with heap:=H,toks:=tk1}) x1.tk ?_
   refine wW (s:={s with heap:=H,toks:=tk1}) W.toS (fun i s' st=>st.2.1.typeIs) ⟨Nat.zero_le _,⟨_,hI,rfl,by simp[revObj]⟩,hl.at fun o e=>kpH _ _ e⟩ (fun b hb=>?_) (List.mem_cons_self ..) (by rw[hlen];exact cy q.1) (fun i v hP=>?_) fun s' sl hm hit=>?_
   ·have:b=h1.objs.size∨b=a:=by simpa using hb
    show @LT.lt Nat _ b H.objs.size
    rcases this with rfl | rfl
    ·rw[hsz];exact Nat.lt_succ_self _
    ·rw[hsz];exact Nat.lt_succ_of_lt hlt
   ·have hs2:=eT ra hss
    have hmem:v∈vs.toList:=by
     have:=Array.mem_of_getElem? hP
     exact Array.mem_toList_iff.mpr this
    obtain⟨z,t,e⟩:=oR hs2 v hmem
    exact⟨z,t,e⟩
   ·obtain⟨ql,hq,e2⟩:=fK ra hss
    have hsl:sl.map (·.1)=ss.reverse:=by
     have h2:strValues sl=vs.toList.reverse:=by
      apply List.ext_getElem?
      intro i
      have hl2:(strValues sl).length=vs.size:=by have:=hit.1;simpa using this
      by_cases hi:i<vs.size
      ·have hi':i<(strValues sl).length:=by omega
       have:=hit.2 i ((strValues sl)[i]) (by rw[List.getElem?_toArray,List.getElem?_eq_getElem hi'])
       rw[List.getElem?_eq_getElem hi',List.getElem?_reverse (by simpa using hi)]
       rw[Array.getElem?_toList,Array.length_toList]
       rw[← this]
      ·rw[List.getElem?_eq_none (by omega),List.getElem?_eq_none (by simp;omega)]
     rw[hq]at h2
     have h3:strValues sl=strValues ql.reverse:=by rw[h2];simp[strValues]
     have h4:∀(a b:List (Str×Tok)),strValues a=strValues b→a=b:=by
      intro a
      induction a with
      |nil=>intro b e;induction b using List.casesOn with
       |nil=>rfl
       |cons=>first | exact nn e | exact ft e | exact on e | exact oe e | injection e
      |cons p r ih=>intro b e;induction b using List.casesOn with
       |nil=>first | exact nn e | exact ft e | exact on e | exact oe e | injection e
       |cons p' r' =>
        simp only[strValues,List.map_cons,List.cons.injEq]at e
        obtain⟨e1,e2⟩:=e
        rw[ih r' e2]
        obtain⟨p1,p2⟩:=p
        obtain⟨q1,q2⟩:=p'
        simp only[Value.str.injEq]at e1
        rw[e1.1,e1.2]
     rw[h4 _ _ h3,List.map_reverse,e2]
    rw[hsl]
    rw[pH]at hp1
    refine⟨q.2,fun t' tk' ht'=>?_⟩
    have kp:Keeps' h1 s'.heap:=fun b o e=>hm.heap b o (fun m=>by
     have:=Heap.lt_size e
     rw[List.mem_singleton.mp m]at this
     exact Nat.lt_irrefl _ this) (kpH b o e)
    have es:({s' with toks:=tk'}:Shared)={s with heap:=s'.heap,toks:=tk'}:=by
     have h1:=hm.gens
     have h2:=hm.drawn
     have h3:=hm.os
     obtain⟨a1,a2,a3,a4,a5⟩:=s'
     simp only at h1 h2 h3
     subst h1 h2 h3
     rfl
    rw[es]
    exact hp1 s'.heap tk' _ ht' kp.ext (x1.good.keeps kp) (bO _ _)
end
section
variable {cx:Sx}{g:Gh}{n:Nat}{A:Around}{calls:Orc}
theorem lz (c:Cx) (sc:Scope):∀(m:Nat) (ρ:Rho) x p k,evE c sc m ρ (.Starred x p) k=.no:=by
 intro m ρ x p k
 induction m using Nat.casesOn<;>rfl
theorem ix {e:Expr}{v:Expr×Str×Pos}(h:pZ e=some v):e=.Attribute v.1 v.2.1 v.2.2:=by
 obtain⟨q,_,rfl⟩:=Option.map_eq_some_iff.mp h;exact q.2
theorem rP {e:Expr}(h:pZ e=none):∀ o m p,e≠.Attribute o m p:=by
 rintro o m p rfl;injection h
theorem ij {e:Expr}{x:Str}(h:so e=some x):∃ p,e=.Name x p:=by
 obtain⟨q,_,rfl⟩:=Option.map_eq_some_iff.mp h;exact⟨_,q.2⟩
theorem fL {e:Expr}{x:Str}(h:tv e=some x):∃ a p,e=.Constant (.str x) a p:=by
 obtain⟨q,_,h⟩:=Option.bind_eq_some_iff.mp h
 obtain⟨c,_,rfl⟩:=Option.map_eq_some_iff.mp h
 exact⟨_,_,q.2.trans (by rw[← c.2])⟩
theorem pf {e:Expr}{w:Str×Str}(h:wb e=some w):∃ rp xp p,e=.Call (.Name w.1 rp) [.Name w.2 xp] [] p:=by
 obtain⟨a,_,h⟩:=Option.bind_eq_some_iff.mp h
 obtain⟨b,_,h⟩:=Option.bind_eq_some_iff.mp h
 obtain⟨n,_,h⟩:=Option.bind_eq_some_iff.mp h
 obtain⟨f,_,h⟩:=Option.bind_eq_some_iff.mp h
 obtain⟨x,_,rfl⟩:=Option.map_eq_some_iff.mp h
 exact⟨_,_,_,a.2.trans (by rw[← f.2,← x.2,← b.2,← n.1])⟩
theorem tO {l:List Expr}{w:Str×Str}(h:HD l=some w):∃ rp xp p,l=[.Call (.Name w.1 rp) [.Name w.2 xp] [] p]:=by
 obtain⟨a,_,h⟩:=Option.bind_eq_some_iff.mp h
 obtain⟨r,x,p,e⟩:=pf h
 exact⟨r,x,p,a.2.trans (by rw[← e])⟩
theorem s8 {l:List Expr}{w:Str×Str}(h:FK l=some w):∃ a p a' p',l=[.Constant (.str w.1) a p,.Constant (.str w.2) a' p']:=by
 obtain⟨a,_,h⟩:=Option.bind_eq_some_iff.mp h
 obtain⟨y,h1,h⟩:=Option.bind_eq_some_iff.mp h
 obtain⟨z,h2,rfl⟩:=Option.map_eq_some_iff.mp h
 obtain⟨a1,p1,e1⟩:=fL h1
 obtain⟨a2,p2,e2⟩:=fL h2
 exact⟨a1,p1,a2,p2,a.2.trans (by rw[← e1,← e2])⟩
theorem rH {e:Expr}{v:Str×Str×Str}(h:C5 e=some v):∃ a1 p1 p2 p3 a2 p4 p5,e=.BinOp (.BinOp (.Constant (.str v.1) a1 p1) .Add (.Name v.2.1 p2) p3) .Add (.Constant (.str v.2.2) a2 p4) p5:=by
 obtain⟨a,_,h⟩:=Option.bind_eq_some_iff.mp h
 obtain⟨b,_,h⟩:=Option.bind_eq_some_iff.mp h
 obtain⟨c1,h1,h⟩:=Option.bind_eq_some_iff.mp h
 obtain⟨x,h2,h⟩:=Option.bind_eq_some_iff.mp h
 obtain⟨c2,h3,rfl⟩:=Option.map_eq_some_iff.mp h
 obtain⟨a1,p1,e1⟩:=fL h1
 obtain⟨p2,e2⟩:=ij h2
 obtain⟨a2,p4,e3⟩:=fL h3
 exact⟨a1,p1,p2,b.1.2.2,a2,p4,a.1.2.2,a.2.trans (by rw[← e1,← e2,← e3,← b.2])⟩
theorem uC {args:List Expr}{v:Str×Str×Str×Str}(h:Ki args=some v):∃ a0 p0 a1 p1 p2 p3 a2 p4 p5,args=[.Constant (.str v.1) a0 p0,.BinOp (.BinOp (.Constant (.str v.2.1) a1 p1) .Add (.Name v.2.2.1 p2) p3) .Add (.Constant (.str v.2.2.2) a2 p4) p5]:=by
 obtain⟨a,_,h⟩:=Option.bind_eq_some_iff.mp h
 obtain⟨y,h1,h⟩:=Option.bind_eq_some_iff.mp h
 obtain⟨w,h2,rfl⟩:=Option.map_eq_some_iff.mp h
 obtain⟨a0,p0,e1⟩:=fL h1
 obtain⟨a1,p1,p2,p3,a2,p4,p5,e2⟩:=rH h2
 exact⟨a0,p0,a1,p1,p2,p3,a2,p4,p5,a.2.trans (by rw[← e1,← e2])⟩
theorem rz {e:Expr}{v:List (Option Expr)×List Expr}(h:C1 e=some v):∃ p,e=.Dict v.1 v.2 p:=by
 obtain⟨q,_,rfl⟩:=Option.map_eq_some_iff.mp h;exact⟨_,q.2⟩
theorem o4 {e:Expr}{v:Option Expr×Option Expr}(h:vF e=some v):∃ p,e=.Slice v.1 v.2 none p:=by
 obtain⟨q,_,h⟩:=Option.bind_eq_some_iff.mp h
 obtain⟨n,_,rfl⟩:=Option.map_eq_some_iff.mp h
 exact⟨_,q.2.trans (by rw[← n.1])⟩
section
variable {V:List Addr}{l:List Env}{env:Env}{ρ:Rho}{k:Nat}{s:Shared}{Q:Value→Shared→Prop}{E:Value→Shared→Prop}{f:Expr→Nat→Out D}
theorem y7 (F:KF cx) (O:OOk cx g calls n) (LO:LOk cx g calls n) (ab:AB A n) {sc:Scope}(hs:bI sc env) (Hf:bC cx g V l n A env ρ f) (hst:∀ x p k,f (.Starred x p) k=.no) (x0:St cx g V l n A env ρ k s) {fe:Expr}{args:List Expr}{p:Pos}
 (hp:PO cx g V l (Rep cx g V) (C8 (cx.C g calls) sc ρ f fe args p k) s Q E):wpAny (model cx.prog cx.w) A (eval (.Call fe args [] p) env) Q E s:=by
 refine jJ hp (fun v hv hp=>?_) fun hv hp=>bU hp fun hn hp=>Fm F O LO ab Hf hst x0 (rP hv) hn hp
 rw[ix hv]
 refine jJ hp (fun w hw hp=>?_) fun _ hp=>jJ hp (fun w hw hp=>?_) fun _ hp=>jJ hp (fun w hw hp=>?_) fun _ hp=>bU hp fun h hp=>EH F O Hf hst x0 h hp
 ·obtain⟨_,_,_,e⟩:=tO hw
  refine bU hp fun h hp=>?_
  rw[e,(ay _ _).mp (am (am (am h).1).1).1]
  exact q7 hs Hf x0 (am (am (am h).1).1).2 (am (am h).1).2 (am h).2 hp
 ·obtain⟨_,_,_,_,e⟩:=s8 hw
  refine bU hp fun h hp=>?_
  rw[e,(ay _ _).mp (am (am h).1).1]
  exact tQ Hf x0 (am h).2 (qH (am (am h).1).2) hp
 ·obtain⟨_,_,_,_,_,_,_,_,_,e⟩:=uC hw
  refine bU hp fun h hp=>?_
  obtain⟨h,h6⟩:=am h
  obtain⟨h,h5⟩:=am h
  obtain⟨h,h4⟩:=am h
  obtain⟨h,h3⟩:=am h
  rw[e,(ay _ _).mp (am h).1]
  exact Kh Hf x0 (am h).2 (dn hs (bc h4) nofun) h3 (Nat.blt_eq.mp h5) (Nat.blt_eq.mp h6) hp
theorem zo (F:KF cx) {sc:Scope}(hs:bI sc env) (Hf:bC cx g V l n A env ρ f) (x0:St cx g V l n A env ρ k s) {v i:Expr}{p:Pos}
 (hp:PO cx g V l (Rep cx g V) (F2 (cx.C g calls) sc f v i k) s Q E):wpAny (model cx.prog cx.w) A (eval (.Subscript v i p) env) Q E s:=by
 refine jJ hp (fun w hw hp=>bU hp fun hns hp=>cI hp fun kvs hd hp=>bU hp fun h hp=>?_) fun _ hp=>jJ hp (fun w hw hp=>?_) fun _ hp=>bU hp fun hns hp=>F1 F Hf x0 hns hp
 ·obtain⟨_,e⟩:=rz hw
  rw[e]
  exact Fd F hs Hf x0 hns hd (am (am h).1).1 (Nat.le_of_ble_eq_true (am (am h).1).2) (Nat.blt_eq.mp (am h).2) hp
 ·obtain⟨_,e⟩:=o4 hw
  rw[e]
  exact zs Hf x0 hp
theorem Bz (F:KF cx) (Hf:bC cx g V l n A env ρ f) (x0:St cx g V l n A env ρ k s) {a:Expr}{ops:List CmpOp}{rs:List Expr}{p:Pos}
 (hp:PO cx g V l (Rep cx g V) (uB (cx.C g calls) f a ops rs k) s Q E):wpAny (model cx.prog cx.w) A (eval (.Compare a ops rs p) env) Q E s:=by
 refine cI hp fun op h1 hp=>cI hp fun r h2 hp=>bU hp fun h hp=>?_
 rw[bB h1,bB h2]
 exact Ke F Hf x0 h hp
theorem BA (F:KF cx) (Hf:bC cx g V l n A env ρ f) (x0:St cx g V l n A env ρ k s) {a:Expr}{ops:List CmpOp}{rs:List Expr}{p:Pos}{Q:Bool→Shared→Prop}
 (hp:PO cx g V l (fun _ a b=>a=b) ((uB (cx.C g calls) f a ops rs k).bind fun d k=>ofO (bV d) k) s Q E):wpAny (model cx.prog cx.w) A (isTrue (.Compare a ops rs p) env (eval (.Compare a ops rs p) env)) Q E s:=by
 induction h1:one ops using Option.casesOn with
 |none=>unfold uB at hp;rw[h1]at hp;exact hp.elim
 |some op =>
 induction h2:one rs using Option.casesOn with
 |none=>unfold uB at hp;rw[h1,h2]at hp;exact hp.elim
 |some r =>
 rw[bB h1,bB h2]at hp ⊢
 induction h:cJ r using Bool.casesOn with
 |false =>
  replace hp:PO cx g V l (fun _ a b=>a=b) ((if cJ r then(f a k).bind fun a k=>(f r k).bind fun b k=>ofO ((gJ cx.K cx.dl op a b).map fun b=>D.py (.bool b)) k else .no).bind fun d k=>ofO (bV d) k) s Q E:=hp
  rw[h]at hp;exact hp.elim
 |true =>
  replace hp:PO cx g V l (fun _ a b=>a=b) ((if cJ r then(f a k).bind fun a k=>(f r k).bind fun b k=>ofO ((gJ cx.K cx.dl op a b).map fun b=>D.py (.bool b)) k else .no).bind fun d k=>ofO (bV d) k) s Q E:=hp
  rw[h,if_pos rfl]at hp
  exact Kf F x0 Hf h hp
theorem yU {sc sc':Scope}(hs:bI sc env) (x0:St cx g V l n A env ρ k s) (Hf:bC cx g V l n A env ρ f) {fbr:Rho→Expr→Nat→Out Bool}{fer:Rho→Expr→Nat→Out D}(HE:∀ V' cenv ρ',bI sc' cenv→bC cx g V' l n A cenv ρ' (fer ρ')) (HB:∀ V' cenv ρ',bI sc' cenv→iz cx g V' l n A cenv ρ' (fbr ρ')) {elt:Expr}{gens:List Comprehension}{pos:Pos}
 (hp:PO cx g V l (Rep cx g V) (yV sc ρ f fbr fer elt gens sc' k) s Q E):wpAny (model cx.prog cx.w) A (eval (.ListComp elt gens sc' pos) env) Q E s:=by
 refine cI hp fun gc h1 hp=>bU hp fun h hp=>?_
 obtain⟨t,it,ifs,a⟩:=gc
 rw[bB h1,show a=0 from eq_of_beq (am (am h).1).1]
 exact yT hs x0 (am (am h).1).2 (am h).2 Hf HE HB hp
theorem jN {o:UnaryOp}(h:re o=true):o=.Not:=by induction o using UnaryOp.casesOn<;>first | rfl | exact ft h
end
theorem gb (F:KF cx) (O:OOk cx g calls n) (ab:AB A n):∀(m:Nat),
 (∀ V l env sc ρ,bI sc env→bC cx g V l n A env ρ (evE (cx.C g calls) sc m ρ))∧(∀ V l env sc ρ,bI sc env→iz cx g V l n A env ρ (evB (cx.C g calls) sc m ρ)):=by
 intro m
 have LO:=wQ F O
 induction m with
 |zero=>exact⟨fun V l env sc ρ hs e k s Q E x0 hp=>hp.elim,fun V l env sc ρ hs e k s Q E x0 hp=>hp.elim⟩
 |succ m ih =>
  refine⟨fun V l env sc ρ hs e k s Q E x0 hp=>?_,fun V l env sc ρ hs e k s Q E x0 hp=>?_⟩
  ·have Hf:=ih.1 V l env sc ρ hs
   have hst:=lz (cx.C g calls) sc m ρ
   induction e using Expr.casesOn with
   |Constant=>exact eZ x0.tk x0.good hp fun d Q' E' e h=>pU e h
   |Name=>exact bU hp fun h hp=>sk hs x0 h hp
   |Attribute=>exact bU hp fun h hp=>Fp F Hf x0 h hp
   |Call f args kws p=>exact bU hp fun h hp=>by rw[List.isEmpty_iff.mp h];exact y7 F O LO ab hs Hf hst x0 hp
   |Tuple=>exact zk Hf hst x0 hp
   |List=>exact EJ Hf hst x0 hp
   |Subscript=>exact zo F hs Hf x0 hp
   |Compare=>exact Bz F Hf x0 hp
   |BoolOp=>exact jx Hf _ _ _ _ x0 hp
   |UnaryOp op e=>exact bU hp fun h hp=>by rw[jN h];exact Ip Hf x0 hp
   |BinOp=>exact C9 Hf x0 hp
   |IfExp=>exact Bb Hf (ih.2 V l env sc ρ hs) x0 hp
   |Lambda=>exact IY F hs x0 hp
   |ListComp elt gens sc'=>exact yU hs x0 Hf (fun V' cenv ρ' hc=>ih.1 V' l cenv _ ρ' hc) (fun V' cenv ρ' hc=>ih.2 V' l cenv _ ρ' hc) hp
   |_=>exact hp.elim
  ·have Hf:=ih.1 V l env sc ρ hs
   have Hb:=ih.2 V l env sc ρ hs
   induction e using Expr.casesOn with
   |BoolOp=>exact iy Hb _ _ _ _ x0 hp
   |UnaryOp op e =>
    refine bU hp fun h hp=>?_
    rw[jN h,arm_isTrue_UnaryOp]
    exact wpAny_bind (jz Hb x0 hp fun b k1 h1 tk1 x1 ex1 hp1=>wpAny_pure (hp1 h1 tk1 _ x1.tk (.refl _ _) x1.good rfl))
   |IfExp=>exact Bc Hb x0 hp
   |Compare=>exact BA F Hf x0 hp
   |_=>exact Fz x0 Hf hp rfl
end
section
variable {cx:Sx}{g:Gh}{V:List Addr}{l:List Env}{n:Nat}{A:Around}{env:Env}{ρ:Rho}{k:Nat}{s:Shared}{E:Value→Shared→Prop}{calls:Orc}
noncomputable def KZ (cx:Sx) (W:List Addr) (hr:Heap) (ls:List Addr):Prop:=∀ L∈ls,(∃ o,hr.get? L=some o∧∀ vs,o.data≠.fields vs)∧L∉W∧cx.H0.get? L=none
structure HeldAt (cx:Sx) (W:List Addr) (env:Env) (l:List Env) (hr h':Heap) (x:Addr):Prop where
 tabs:TabInv cx.tabs hr hr
 keep0:∀ b o,cx.H0.get? b=some o→hr.get? b=some o
 ls:∃ ls L a0,KZ cx W hr ls∧env.frame=some L∧Heap.HeldW (hideAll hr ls) (env::l) x (.ref cx.gf) a0 L h'∧hr.UpToSlots h'
noncomputable def FlB (cx:Sx) (g:Gh) (env:Env) (l:List Env) (h h':Heap) (e:Value):Prop:=Fl cx g (env::l) h h' e∨∃ hr x,Ext (g.W cx) h hr∧e=.ref x∧HeldAt cx (g.W cx) env l hr h' x
theorem FlB.trans {h h₁ h':Heap}{e:Value}(x:Ext (g.W cx) h h₁) (f:FlB cx g env l h₁ h' e):FlB cx g env l h h' e:=by
 rcases f with f | ⟨hr,a,y,r⟩
 ·exact .inl (Fl.trans x f)
 ·exact .inr ⟨hr,a,x.trans y,r⟩
theorem gv {M:Model}{base:Heap}{l:List Env}{e L:Addr}{cls a0:Value}{Q:Unit→Shared→Prop}(R:Heap.HeldW base l e cls a0 L s.heap)
 (h:∀ h',Heap.HeldW base l e cls a0 L h'→s.heap.UpToSlots h'→Q () {s with heap:=h'}):wpAny M A (setFlight (.ref e) (some L)) Q E s:=by
 obtain⟨hkb,hen,hl,oe,vs,T,oT,ts,he,hcls,hd,h1,hnT,hTe,hT,hdT,h3⟩:=R
 have hsz3:3<ts.size:=(Array.getElem?_eq_some_iff.mp h3).1
 have other:∀ b,b≠T→(s.heap.update T (Obj.mapFields (·.setIfInBounds 3 ((some L).elim Value.none fun f=>rawInt f)))).get? b=s.heap.get? b :=
  fun b hb=>Heap.get?_update_other _ _ (Ne.symm hb)
 have off:∀ b o,s.heap.get? b=some o→(∀ vs,o.data≠.fields vs)→b≠T:=fun b o hb hnf q=>by
  rw[q,hT]at hb;injection hb with hb;subst hb;exact hnf ts hdT
 unfold setFlight
 refine wpAny_bind (wpAny_field he hd h1 ?_)
 rw[if_pos (show(Value.ref T != Value.none)=true from by simp)]
 refine wpAny_setField hT hdT hsz3 (h _ ⟨fun b o hbo=>(other b fun q=>by first | exact nn (hnT.symm.trans (q▸hbo)) | (rw[q,hnT]at hbo;cases hbo)).trans (hkb b o hbo),hen,
  hl.of_keeps fun b o hb hnf=>⟨o,(other b (off b o hb hnf)).trans hb,rfl⟩,?_⟩ fun b o hb hnf=>⟨o.slots,(other b (off b o hb hnf)).trans hb⟩)
 exact⟨oe,vs,T,_,_,(other e (Ne.symm hTe)).trans he,hcls,hd,h1,hnT,hTe,Heap.get?_update_self _ hT (Obj.isFreed_of_fields (Obj.data_mapFields hdT _)),Obj.data_mapFields hdT _,by simp[hsz3]⟩
theorem jS {M:Model}{base:Heap}{env:Env}{outer:List Env}{L e:Addr}{oe:Obj}{vs:Array Value}{a0:Value}{Q:Unit→Shared→Prop}
 (hfr:A.frames=some (env::outer)) (hl:s.heap.FunFrames base (env::outer)) (hf:env.frame=some L)
 (he:s.heap.get? e=some oe) (hkb:base.StaysIn s.heap) (hen:base.get? e=none) (hd:oe.data=.fields vs) (h1:vs[1]?=some .none) (h0:vs[0]?=some a0)
 (h:∀ h',Heap.NotedW base (env::outer) e oe.cls a0 (rawInt L) s.heap h'→Q () {s with heap:=h'}):wpAny M A (noteFrame (.ref e) env) Q E s:=by
 unfold noteFrame
 simp only[hf]
 refine wpAny_bind (wpAny_field he hd h1 ?_)
 rw[if_neg (by decide)]
 exact wpAny_entryW hfr hl hf he hkb hen hd (Array.getElem?_eq_some_iff.mp h1).1 h0 h
theorem pQ {M:Model}{h h':Heap}{e:Value}{L:Addr}{Q:Unit→Shared→Prop}(hfr:A.frames=some (env::l)) (hf:env.frame=some L) (x:FlB cx g env l h h' e)
 (hQ:∀ h'' hr x,Ext (g.W cx) h hr→e=.ref x→HeldAt cx (g.W cx) env l hr h'' x→Q () {s with heap:=h''}):wpAny M A (noteFrame e env) Q E {s with heap:=h'}:=by
 rcases x with⟨hr,a,ex,rfl,⟨t,k0,ls,hls,m | fl⟩⟩ | ⟨hr,a,ex,rfl,⟨t,k0,ls,L',a0,hls,hf',hw,u⟩⟩
 ·obtain⟨k,hn,⟨oe,vs,a0,he,hc,hd,h1,h0⟩,ff⟩:=m
  refine jS (s:={s with heap:=h'}) hfr ff hf he (ki k) (g6 hn) hd h1 h0 fun h'' ⟨l1,l2,l3,l4⟩=>hQ h'' hr a ex rfl ⟨t,k0,ls,L,a0,hls,hf,⟨l1,g6 hn,l2,hc▸l3⟩,(Heap.UpToSlots.of_keeps k).trans l4⟩
 ·obtain⟨a0,fl,u⟩:=fl
  exact wpAny_looks_onW (s:={s with heap:=h'}) hfr hf fl fun h'' hw u2=>hQ h'' hr a ex rfl ⟨t,k0,ls,L,a0,hls,hf,hw,u.trans u2⟩
 ·first | exact nn (hf.symm.trans hf') | (rw[hf]at hf';obtain rfl:=si hf')
  exact wpAny_noteFrame_againW (s:={s with heap:=h'}) hf hw.2.2.2 (hQ h' hr a ex rfl ⟨t,k0,ls,L,a0,hls,hf,hw,u⟩)
theorem mI {M:Model}{h h':Heap}{e:Value}{L:Addr}{tk:Nat}(hfr:A.frames=some (env::l)) (hf:env.frame=some L) (x:FlB cx g env l h h' e)
 (hQ:∀ h'' hr x,Ext (g.W cx) h hr→e=.ref x→HeldAt cx (g.W cx) env l hr h'' x→E e {s with heap:=h'',toks:=tk}):notedBy M A env E e {s with heap:=h',toks:=tk} :=
 pQ (s:={s with toks:=tk}) hfr hf x hQ
theorem mH {M:Model}{h h' hr:Heap}{x:Addr}{tk:Nat}(ex:Ext (g.W cx) h hr) (H:HeldAt cx (g.W cx) env l hr h' x)
 (hQ:∀ h'',FlB cx g env l h h'' (.ref x)→E (.ref x) {s with heap:=h'',toks:=tk}):cameBackBy M A env E (.ref x) {s with heap:=h',toks:=tk}:=by
 obtain⟨t,k0,ls,L,a0,hls,hf,hw,u⟩:=H
 obtain⟨_,_,_,oe,vs,T,oT,ts,he,hcls,hd,h1,_⟩:=id hw
 refine wpAny_bind (wpAny_field (s:={s with heap:=h',toks:=tk}) he hd h1 ?_)
 rw[if_neg (show ¬ ((Value.ref T==Value.none)=true)from by simp),hf]
 first
  |exact wpAny_bind (wpAny_pure (gv (s:={s with heap:=h',toks:=tk}) hw fun h'' hw' u'=>hQ h'' (.inr ⟨hr,x,ex,rfl,t,k0,ls,L,a0,hls,hf,hw',u.trans u'⟩)))
  |exact gv (s:={s with heap:=h',toks:=tk}) hw fun h'' hw' u'=>hQ h'' (.inr ⟨hr,x,ex,rfl,t,k0,ls,L,a0,hls,hf,hw',u.trans u'⟩)
theorem ul {M:Model}{h h':Heap}{e:Value}{L:Addr}{Q:Unit→Shared→Prop}(hfr:A.frames=some (env::l)) (hf:env.frame=some L) (x:FlB cx g env l h h' e)
 (hQ:∀ h'',Fl cx g l h h'' e→Q () {s with heap:=h''}):wpAny M A (leaving env e) Q E {s with heap:=h'}:=by
 rcases x with x | ⟨hr,a,ex,rfl,⟨t,k0,ls,L',a0,hls,hf',hw,u⟩⟩
 ·exact pC hfr hf x hQ
 ·first | exact nn (hf.symm.trans hf') | (rw[hf]at hf';obtain rfl:=si hf')
  unfold leaving
  refine wpAny_bind (wpAny_noteFrame_againW (s:={s with heap:=h'}) hf hw.2.2.2 ?_)
  refine wpAny_landsW hw fun h'' hfl u'=>?_
  obtain⟨k1,k2,⟨_,_,k3⟩,k4⟩:=hfl
  exact hQ h'' ⟨hr,a,ex,rfl,t,k0,ls,hls,.inr ⟨a0,⟨k1,k2,k3,k4⟩,u.trans u'⟩⟩
end
structure Bs where
 h:Heap
 m:List Addr
 v:List Addr
structure SS (cx:Sx) (g:Gh) (h0:Heap) (B:Bs) (l:List Env) (n:Nat) (A:Around) (env:Env) (V:List Addr) (ρ:Rho) (k:Nat) (s:Shared):Prop where
 st:St cx g V (env::l) n A env ρ k s
 sub:∀ a∈g.V0,a∈V
 WV0:∀ a∈g.W cx,a∈g.V0
 ext:Ext (g.W cx) h0 s.heap
 new:∀ a∈V,a∈g.V0∨h0.get? a=none
 fr:∃ L,env.frame=some L
 fz:env.locals∉g.V0
 kept:∀ b o,b∉B.m→B.h.get? b=some o→s.heap.get? b=some o
 locB:env.locals∈B.m
 WB:∀ a∈g.W cx,a∈B.m
 blB:∀ a∈V,a∉g.V0→∀ o vs c,s.heap.get? a=some o→o.data=.seq vs c→a∈B.m∨B.h.get? a=none
 alvB:∀ b o,B.h.get? b=some o→∃ o',s.heap.get? b=some o'
 hid:∀ a∈B.v,a∈V
 newB:∀ a∈V,a∈B.v∨B.h.get? a=none
 cellB:∀ x,env.kindOf x=some .cell→∃ c,env.cells.lookup x=some c∧c∈V∧c∈B.m∧c∉g.V0∧∃ v,s.heap.IsCell c v
 cellI:∀ x y c,env.kindOf x=some .cell→env.kindOf y=some .cell→env.cells.lookup x=some c→env.cells.lookup y=some c→x=y
 noFree:∀ x,env.kindOf x≠some .free
noncomputable def PSt (cx:Sx) (g:Gh) (h0:Heap) (B:Bs) (l:List Env) (n:Nat) (A:Around) (env:Env) (o:SO) (s:Shared) (Q:Flow→Shared→Prop) (E:Value→Shared→Prop):Prop:=match o with
 |.ok (none,ρ') k'=>∀ h' tk' V',SS cx g h0 B l n A env V' ρ' k' {s with heap:=h',toks:=tk'}→Q .next {s with heap:=h',toks:=tk'}
 |.ok (some d,_) k'=>∀ h' tk' v,1≤tk'→Ext (g.W cx) h0 h'→Good cx g g.V0 h' k'→Rep cx g g.V0 h' v d→Q (.ret v) {s with heap:=h',toks:=tk'}
 |.exc=>∀ h' tk' e,1≤tk'→FlB cx g env l h0 h' e→E e {s with heap:=h',toks:=tk'}
 |.no=>False
section
variable {cx:Sx}{g:Gh}{V:List Addr}{h0:Heap}{B:Bs}{l:List Env}{n:Nat}{A:Around}{env:Env}{ρ:Rho}{k:Nat}{s:Shared}{Q:Flow→Shared→Prop}{E:Value→Shared→Prop}{calls:Orc}
 {f:Expr→Nat→Out D}{fb:Expr→Nat→Out Bool}
noncomputable def Fv (cx:Sx) (g:Gh) (h0:Heap) (l:List Env) (n:Nat) (A:Around) (env:Env) (fs:Stmt→Rho→Nat→SO):Prop :=
 ∀ B st V ρ k s (Q:Flow→Shared→Prop) (E:Value→Shared→Prop),SS cx g h0 B l n A env V ρ k s→PSt cx g h0 B l n A env (fs st ρ k) s Q E→wpAny (model cx.prog cx.w) A (exec st env) Q E s
noncomputable def Fw (cx:Sx) (g:Gh) (h0:Heap) (l:List Env) (n:Nat) (A:Around) (env:Env) (ss:List Stmt) (fs:Rho→Nat→SO):Prop :=
 ∀ B V ρ k s (Q:Flow→Shared→Prop) (E:Value→Shared→Prop),SS cx g h0 B l n A env V ρ k s→PSt cx g h0 B l n A env (fs ρ k) s Q E→wpAny (model cx.prog cx.w) A (execs ss env) Q E s
theorem SS.step (x:SS cx g h0 B l n A env V ρ k s) {h':Heap}{tk' k':Nat}(t:1≤tk') (e:Ext (g.W cx) s.heap h') (G:Good cx g V h' k'):SS cx g h0 B l n A env V ρ k' {s with heap:=h',toks:=tk'} :=
 ⟨x.st.step t e G,x.sub,x.WV0,x.ext.trans e,x.new,x.fr,x.fz,fun b o hb eb=>e.keep b o (fun m=>hb (x.WB b m)) (x.kept b o hb eb),x.locB,x.WB,fun a ha hv o vs c eo ed=>by
  obtain⟨o',eo'⟩:=x.st.good.alive a ha
  have:=e.keep _ _ (fun m=>hv (x.WV0 a m)) eo'
  first | exact nn (eo.symm.trans this) | (rw[eo]at this;obtain rfl:=si this)
  exact x.blB a ha hv o vs c eo' ed,fun b o eb=>by
  obtain⟨o',e1⟩:=x.alvB b o eb
  by_cases hb:b∈g.W cx
  ·exact G.alive b (G.WV b hb)
  ·exact⟨o',e.keep _ _ hb e1⟩,x.hid,x.newB,fun y hy=>let⟨c,c1,c2,c3,c4,v,c5⟩:=x.cellB y hy;⟨c,c1,c2,c3,c4,v,i7 e (fun m=>c4 (x.WV0 c m)) c5⟩,x.cellI,x.noFree⟩
theorem iO {α β:Type}{Rl:Heap→α→β→Prop}{o:Out β}{F:β→Nat→SO}{P:α→Shared→Prop}(x:SS cx g h0 B l n A env V ρ k s) (hp:PSt cx g h0 B l n A env (o.bind F) s Q E)
 (h:∀ b k' h' tk' a,o=.ok b k'→SS cx g h0 B l n A env V ρ k' {s with heap:=h',toks:=tk'}→Ext (g.W cx) s.heap h'→Rl h' a b→PSt cx g h0 B l n A env (F b k') s Q E→P a {s with heap:=h',toks:=tk'}) :
 PO cx g V (env::l) Rl o s P E:=by
 induction o using OutK.casesOn with
 |ok b k'=>exact fun h' tk' a t e G r=>h b k' h' tk' a rfl (x.step t e G) e r hp
 |exc=>exact fun h' tk' e t fl=>hp h' tk' e t (.inl (Fl.trans x.ext fl))
 |no=>exact hp.elim
theorem pi {F:D→Nat→SO}{P:Value→Shared→Prop}(Hf:bC cx g V (env::l) n A env ρ f) (x:SS cx g h0 B l n A env V ρ k s) {e:Expr}(hp:PSt cx g h0 B l n A env ((f e k).bind F) s Q E)
 (h:∀ d k' h' tk' v,SS cx g h0 B l n A env V ρ k' {s with heap:=h',toks:=tk'}→Ext (g.W cx) s.heap h'→Rep cx g V h' v d→PSt cx g h0 B l n A env (F d k') s Q E→P v {s with heap:=h',toks:=tk'}) :
 wpAny (model cx.prog cx.w) A (eval e env) P E s :=
 Hf e k s P E x.st (iO x hp fun b k' h' tk' a _ x' e r hp'=>h b k' h' tk' a x' e r hp')
theorem MO {F:Bool→Nat→SO}{P:Bool→Shared→Prop}(Hb:iz cx g V (env::l) n A env ρ fb) (x:SS cx g h0 B l n A env V ρ k s) {e:Expr}(hp:PSt cx g h0 B l n A env ((fb e k).bind F) s Q E)
 (h:∀ b k' h' tk',SS cx g h0 B l n A env V ρ k' {s with heap:=h',toks:=tk'}→PSt cx g h0 B l n A env (F b k') s Q E→P b {s with heap:=h',toks:=tk'}) :
 wpAny (model cx.prog cx.w) A (isTrue e env (eval e env)) P E s :=
 Hb e k s P E x.st (iO x hp fun b k' h' tk' a _ x' e r hp'=>by subst r;exact h a k' h' tk' x' hp')
theorem gG {fs:Stmt→Rho→Nat→SO}(H:Fv cx g h0 l n A env fs):∀ ss,Fw cx g h0 l n A env ss (exL fs ss)
 |[],B,V,ρ,k,s,Q,E,x,hp=>wpAny_execs_nil (hp s.heap s.toks V x)
 |st::r,B,V,ρ,k,s,Q,E,x,hp=>by
  refine wpAny_execs_cons (H B st V ρ k s _ E x ?_)
  replace hp:PSt cx g h0 B l n A env ((fs st ρ k).bind fun x k=>match x.1 with
   |none=>exL fs r x.2 k
   |some d=>.ok (some d,x.2) k) s Q E:=hp
  induction ho:fs st ρ k using OutK.casesOn with
  |ok b k' =>
   rw[ho]at hp
   obtain⟨od,ρ'⟩:=b
   induction od using Option.casesOn with
   |none=>exact fun h' tk' V' x'=>gG H r B V' ρ' k' _ Q E x' hp
   |some d=>exact fun h' tk' v t e G rv=>hp h' tk' v t e G rv
  |exc=>rw[ho]at hp;exact fun h' tk' e t fl=>hp h' tk' e t fl
  |no=>rw[ho]at hp;exact hp.elim
theorem Em (x:SS cx g h0 B l n A env V ρ k s) {pos:Pos}(hp:PSt cx g h0 B l n A env (.ok (none,ρ) k) s Q E):wpAny (model cx.prog cx.w) A (exec (.Pass pos) env) Q E s :=
 wpAny_Pass (hp s.heap s.toks V x)
theorem M3 {fs:Stmt→Rho→Nat→SO}(H:Fv cx g h0 l n A env fs) (Hb:iz cx g V (env::l) n A env ρ fb) (x:SS cx g h0 B l n A env V ρ k s) {t:Expr}{b o:List Stmt}{pos:Pos}
 (hp:PSt cx g h0 B l n A env ((fb t k).bind fun q k=>if q then exL fs b ρ k else exL fs o ρ k) s Q E):wpAny (model cx.prog cx.w) A (exec (.If t b o pos) env) Q E s :=
 wpAny_If (MO Hb x hp fun q k' h' tk' x' hp'=>by
  induction q using Bool.casesOn
  ·exact gG H o B V ρ k' _ Q E x' hp'
  ·exact gG H b B V ρ k' _ Q E x' hp')
theorem SS.shrinkG (x:SS cx g h0 B l n A env V ρ k s):Good cx g g.V0 s.heap k:=Good.shrink (g:=g) (V0:=g.V0) (me:=g.me) x.st.good x.sub x.WV0
theorem SS.shrinkR (x:SS cx g h0 B l n A env V ρ k s) {v:Value}{d:D}(rv:Rep cx g V s.heap v d):Rep cx g g.V0 s.heap v (match(generalizing:=false) d with | .bl l=>.py (.list l) | d=>d):=by
 have hk:=fT (h:=s.heap) x.sub
 induction d using D.casesOn with
 |bl q =>
  obtain⟨a,vs,m,as,rfl,hv,ha,r⟩:=rv
  exact⟨_,reads_list_at (hideAll_get _ ha hv.2.2) rfl rfl (ar hk r)⟩
 |_=>exact rv.move (g':=g) ⟨rfl,rfl,rfl⟩ rfl (.refl _ _) hk
theorem HF (Hf:bC cx g V (env::l) n A env ρ f) (x:SS cx g h0 B l n A env V ρ k s) {e:Expr}{pos:Pos}
 (hp:PSt cx g h0 B l n A env ((f e k).bind fun d k=>.ok (some (match d with | .bl l=>.py (.list l) | d=>d),ρ) k) s Q E):wpAny (model cx.prog cx.w) A (exec (.Return (some e) pos) env) Q E s :=
 wpAny_Return_some (pi Hf x hp fun d k' h' tk' v x' e rv hp'=>hp' h' tk' v x'.st.tk x'.ext x'.shrinkG (x'.shrinkR rv))
theorem Ee (x:SS cx g h0 B l n A env V ρ k s) {pos:Pos}(hp:PSt cx g h0 B l n A env (.ok (some (.py .none),ρ) k) s Q E):wpAny (model cx.prog cx.w) A (exec (.Return none pos) env) Q E s :=
 wpAny_Return_none (hp s.heap s.toks .none x.st.tk x.ext x.shrinkG ⟨_,Reads.none⟩)
theorem SS.frames (x:SS cx g h0 B l n A env V ρ k s):A.frames=some (env::l):=x.st.ao.frames
theorem zf {ss:List Stmt}{fs:Rho→Nat→SO}{fb:Rho→Expr→Nat→Out Bool}(H:Fw cx g h0 l n A env ss fs) (Hb:∀ V ρ,iz cx g V (env::l) n A env ρ (fb ρ)) (x:SS cx g h0 B l n A env V ρ k s) {t:Expr}{pos:Pos}{N:Nat}
 (hp:PSt cx g h0 B l n A env (fB (fun ρ k=>fb ρ t k) fs N ρ k) s Q E):wpAny (model cx.prog cx.w) A (exec (.While t ss [] pos) env) Q E s:=by
 obtain⟨L,hf⟩:=x.fr
 refine wpAny_While (codeAny_whileLoop (fun m s'=>∃ V' ρ' k' h' tk',s'={s with heap:=h',toks:=tk'}∧SS cx g h0 B l n A env V' ρ' k' s'∧PSt cx g h0 B l n A env (fB (fun ρ k=>fb ρ t k) fs m ρ' k') s Q E) ?_ N ⟨V,ρ,k,s.heap,s.toks,rfl,x,hp⟩)
 rintro m s' ⟨V',ρ',k',h',tk',rfl,x',hp'⟩
 have hE:∀ h'' tk'' e,1≤tk''→FlB cx g env l h0 h'' e→(∀ h3 tk3 e3,1≤tk3→FlB cx g env l h0 h3 e3→E e3 {s with heap:=h3,toks:=tk3})→notedBy (model cx.prog cx.w) A env (fun e s'=>cameBackBy (model cx.prog cx.w) A env E e s') e {s with heap:=h'',toks:=tk''}:=by
  intro h'' tk'' e t fl hq
  refine mI x'.frames hf fl fun h3 hr y ex ee H=>?_
  subst ee
  exact mH ex H fun h4 fl4=>hq h4 tk'' _ t fl4
 induction m using Nat.casesOn with
 |zero=>exact hp'.elim
 |succ m =>
  replace hp':PSt cx g h0 B l n A env ((fb ρ' t k').bind fun b k=>if b then(fs ρ' k).bind fun r k=>match r.1 with
   |none=>fB (fun ρ k=>fb ρ t k) fs m r.2 k
   |some d=>.ok (some d,r.2) k
  else .ok (none,ρ') k) s Q E:=hp'
  have hn:PO cx g V' (env::l) (fun _ a b=>a=b) (fb ρ' t k') {s with heap:=h',toks:=tk'} (fun b s₂ =>
   if b=true then wpAny (model cx.prog cx.w) A (execs ss env) (fun fl s₃=>match fl with
    |.next | .cont=>∃ m',m'<m+1∧∃ V' ρ' k' h' tk',s₃={s with heap:=h',toks:=tk'}∧SS cx g h0 B l n A env V' ρ' k' s₃∧PSt cx g h0 B l n A env (fB (fun ρ k=>fb ρ t k) fs m' ρ' k') s Q E
    |.brk=>Q .next s₃
    |.ret v=>Q (.ret v) s₃) (notedBy (model cx.prog cx.w) A env fun e s'=>cameBackBy (model cx.prog cx.w) A env E e s') s₂
   else wpAny (model cx.prog cx.w) A (execs [] env) (fun fl s₃=>Q fl s₃) (notedBy (model cx.prog cx.w) A env fun e s'=>cameBackBy (model cx.prog cx.w) A env E e s') s₂) (notedBy (model cx.prog cx.w) A env fun e s'=>cameBackBy (model cx.prog cx.w) A env E e s'):=by
   induction ho:fb ρ' t k' using OutK.casesOn with
   |no=>rw[ho]at hp';exact hp'.elim
   |exc =>
    rw[ho]at hp'
    exact fun h'' tk'' e t fl=>hE h'' tk'' e t (.inl (Fl.trans x'.ext fl)) hp'
   |ok b k1 =>
    rw[ho]at hp'
    intro h1 tk1 b' t1 ex1 G1 eb
    have eb:b'=b:=eb
    subst eb
    have x1:=x'.step t1 ex1 G1
    induction b' using Bool.casesOn with
    |false=>exact wpAny_execs_nil (hp' h1 tk1 V' x1)
    |true =>
     replace hp':PSt cx g h0 B l n A env ((fs ρ' k1).bind fun r k=>match r.1 with
      |none=>fB (fun ρ k=>fb ρ t k) fs m r.2 k
      |some d=>.ok (some d,r.2) k) s Q E:=hp'
     refine H B V' ρ' k1 _ _ _ x1 ?_
     induction hs:fs ρ' k1 using OutK.casesOn with
     |no=>rw[hs]at hp';exact hp'.elim
     |exc =>
      rw[hs]at hp'
      exact fun h'' tk'' e t fl=>hE h'' tk'' e t fl hp'
     |ok r k2 =>
      rw[hs]at hp'
      obtain⟨od,ρ2⟩:=r
      induction od using Option.casesOn with
      |none=>exact fun h2 tk2 V2 x2=>⟨m,Nat.lt_succ_self _,V2,ρ2,k2,h2,tk2,rfl,x2,hp'⟩
      |some d=>exact fun h2 tk2 v t2 e2 G2 r2=>hp' h2 tk2 v t2 e2 G2 r2
  exact Hb V' ρ' t k' _ _ _ x'.st hn
theorem gk {b:Bool}{o:SO}{P:Prop}(hp:PSt cx g h0 B l n A env (if b then o else .no) s Q E) (w:b=true→PSt cx g h0 B l n A env o s Q E→P):P:=by
 induction b using Bool.casesOn
 ·exact hp.elim
 ·exact w rfl hp
theorem dO {γ:Type}{o:Option γ}{f:γ→SO}{P:Prop}(hp:PSt cx g h0 B l n A env (optK o f) s Q E) (w:∀ a,o=some a→PSt cx g h0 B l n A env (f a) s Q E→P):P:=by
 induction o using Option.casesOn
 ·exact hp.elim
 ·exact w _ rfl hp
theorem ph {γ:Type}{o:Option γ}{f:γ→SO}{z:SO}{P:Prop}(hp:PSt cx g h0 B l n A env (orK o f z) s Q E) (w:∀ a,o=some a→PSt cx g h0 B l n A env (f a) s Q E→P) (w':o=none→PSt cx g h0 B l n A env z s Q E→P):P:=by
 induction o using Option.casesOn
 ·exact w' rfl hp
 ·exact w _ rfl hp
theorem El {γ:Type}{b:Bool}{o:Out γ}{F:γ→Nat→SO}{P:Prop}(hp:PSt cx g h0 B l n A env ((if b then o else .no).bind F) s Q E) (w:b=true→PSt cx g h0 B l n A env (o.bind F) s Q E→P):P:=by
 induction b using Bool.casesOn
 ·exact hp.elim
 ·exact w rfl hp
theorem AV {γ δ:Type}{o:Option γ}{f:γ→Out δ}{F:δ→Nat→SO}{P:Prop}(hp:PSt cx g h0 B l n A env ((optK o f).bind F) s Q E) (w:∀ a,o=some a→PSt cx g h0 B l n A env ((f a).bind F) s Q E→P):P:=by
 induction o using Option.casesOn
 ·exact hp.elim
 ·exact w _ rfl hp
theorem Cn {γ:Type}{o:Option γ}{F:γ→Nat→SO}{P:Prop}(hp:PSt cx g h0 B l n A env ((ofO o k).bind F) s Q E) (w:∀ a,o=some a→PSt cx g h0 B l n A env (F a k) s Q E→P):P:=by
 induction o using Option.casesOn
 ·exact hp.elim
 ·exact w _ rfl hp
end
section
variable {cx:Sx}{g:Gh}{V:List Addr}{h0:Heap}{B:Bs}{l:List Env}{n:Nat}{A:Around}{env:Env}{ρ:Rho}{k:Nat}{s:Shared}{Q:Flow→Shared→Prop}{E:Value→Shared→Prop}{calls:Orc}
 {f:Expr→Nat→Out D}{fb:Expr→Nat→Out Bool}
theorem SS.none0 (x:SS cx g h0 B l n A env V ρ k s) {a:Addr}(h:s.heap.get? a=none):h0.get? a=none:=by
 induction q:h0.get? a using Option.casesOn with
 |none=>rfl
 |some o =>
  by_cases hw:a∈g.W cx
  ·obtain⟨o',e⟩:=x.st.good.alive a (x.st.good.WV a hw)
   first | exact nn (h.symm.trans e) | (rw[h]at e;cases e)
  ·have:=x.ext.keep a o hw q
   first | exact nn (h.symm.trans this) | (rw[h]at this;cases this)
theorem SS.noneB (x:SS cx g h0 B l n A env V ρ k s) {a:Addr}(h:s.heap.get? a=none):B.h.get? a=none:=by
 induction q:B.h.get? a using Option.casesOn with
 |none=>rfl
 |some o =>
  obtain⟨o',e⟩:=x.alvB a o q
  first | exact nn (h.symm.trans e) | (rw[h]at e;cases e)
theorem SS.loc0 (x:SS cx g h0 B l n A env V ρ k s):h0.get? env.locals=none:=(x.new _ x.st.fr.LV).resolve_left x.fz
theorem Rep.more {V':List Addr}{h h':Heap}{v:Value}{d:D}(x:Keeps' h h') (hV:∀ a∈V',a∈V∨h.get? a=none) (hs:∀ a∈V,a∈V') (r:Rep cx g V h v d):Rep cx g V' h' v d:=by
 have hk:=cj x hV
 induction d using D.casesOn with
 |bl q =>
  obtain⟨a,vs,m,as,e,hv,ha,r⟩:=r
  exact⟨a,vs,m,as,e,⟨hs _ hv.1,hv.2⟩,x _ _ ha,ar hk r⟩
 |_=>exact r.move (g':=g) ⟨rfl,rfl,rfl⟩ rfl x.ext hk
theorem St.more (x:St cx g V l n A env ρ k s) {V':List Addr}{h':Heap}(kp:Keeps' s.heap h') (hs:∀ a∈V,a∈V') (hV:∀ a∈V',a∈V∨(s.heap.get? a=none∧∃ o,h'.get? a=some o)) {tk':Nat}(ht:1≤tk') :
 St cx g V' l n A env ρ k {s with heap:=h',toks:=tk'}:=by
 have hV2:∀ a∈V',a∈V∨s.heap.get? a=none:=fun a ha=>(hV a ha).imp id (·.1)
 have mr:∀{v d},Rep cx g V s.heap v d→Rep cx g V' h' v d:=fun r=>r.more kp hV2 hs
 obtain⟨m,hn,hl,hi⟩:=x.fr.loc
 exact⟨x.ao,x.ch.ext kp.ext,⟨x.fr.kind,x.fr.gl,x.fr.bi,hs _ x.fr.LV,x.fr.LW,⟨m,nt (W:=g.W cx) kp.ext x.fr.LW hn,fun y d e kk=>let⟨v,e1,r⟩:=hl y d e kk;⟨v,e1,mr r⟩,hi⟩,
  fun y d e kk=>let⟨c,v,e1,e2,e3,r,e4⟩:=x.fr.cel y d e kk;⟨c,v,e1,e2,e3.keeps kp,mr r,e4⟩,x.fr.cd,x.fr.blk⟩,x.good.grow (V0:=g.V0) (me:=g.me) kp hs hV,ht⟩
theorem SS.more (x:SS cx g h0 B l n A env V ρ k s) {a:Addr}{h':Heap}(kp:Keeps' s.heap h') (ha:s.heap.get? a=none) (he:∃ o,h'.get? a=some o) {tk':Nat}(ht:1≤tk'):SS cx g h0 B l n A env (a::V) ρ k {s with heap:=h',toks:=tk'}:=by
 refine⟨x.st.more kp (fun _ h=>.tail _ h) (fun b hb=>?_) ht,fun b hb=>.tail _ (x.sub b hb),x.WV0,x.ext.trans kp.ext,fun b hb=>?_,x.fr,x.fz,fun b o hb e=>kp _ _ (x.kept b o hb e),x.locB,x.WB,fun b hb hv o vs c eo ed=>?_,
  fun b o e=>let⟨o',e'⟩:=x.alvB b o e;⟨o',kp _ _ e'⟩,fun b hb=>.tail _ (x.hid b hb),fun b hb=>?_,fun y hy=>let⟨c,c1,c2,c3,c4,v,c5⟩:=x.cellB y hy;⟨c,c1,.tail _ c2,c3,c4,v,c5.keeps kp⟩,x.cellI,x.noFree⟩
 ·exact mc (P:=fun b=>b∈V∨(s.heap.get? b=none∧∃ o,h'.get? b=some o)) (.inr ⟨ha,he⟩) (fun b hb=>.inl hb) b hb
 ·exact mc (P:=fun b=>b∈g.V0∨h0.get? b=none) (.inr (x.none0 ha)) x.new b hb
 ·refine(List.mem_cons.mp hb).elim (fun q=>.inr (q▸x.noneB ha)) fun hb=>?_
  obtain⟨o',e'⟩:=x.st.good.alive b hb
  obtain rfl:=si (eo.symm.trans (kp _ _ e'))
  exact x.blB b hb hv o vs c e' ed
 ·exact mc (P:=fun b=>b∈B.v∨B.h.get? b=none) (.inr (x.noneB ha)) x.newB b hb
theorem SS.upd {ρ':Rho}(x:SS cx g h0 B l n A env V ρ k s) {h':Heap}{tk':Nat}(e:Heap.ExtBut env.locals s.heap h') (st:St cx g V (env::l) n A env ρ' k {s with heap:=h',toks:=tk'}):SS cx g h0 B l n A env V ρ' k {s with heap:=h',toks:=tk'}:=by
 obtain⟨m,hn,_⟩:=st.fr.loc
 obtain⟨oL,es,ep,eL,dL,_⟩:=id hn
 refine⟨st,x.sub,x.WV0,⟨fun b o hb eb=>e b o (fun q=>by first | exact nn (x.loc0.symm.trans (q▸eb)) | (rw[q,x.loc0]at eb;cases eb)) (x.ext.keep b o hb eb)⟩,x.new,x.fr,x.fz,fun b o hb eb=>e b o (fun q=>hb (q▸x.locB)) (x.kept b o hb eb),x.locB,x.WB,
  fun a ha hv o vs c eo ed=>?_,fun b o eb=>?_,x.hid,x.newB,fun y hy=>?_,x.cellI,x.noFree⟩
 rotate_left 2
 ·obtain⟨c,c1,c2,c3,c4,v,o,c5,c6⟩:=x.cellB y hy
  refine⟨c,c1,c2,c3,c4,v,o,e c o (fun q=>?_) c5,c6⟩
  obtain⟨m',hn',_⟩:=x.st.fr.loc
  obtain⟨oL',es',ep',eL',dL',_⟩:=hn'
  rw[q,eL']at c5;obtain rfl:=si c5;first | exact nn (dL'.symm.trans c6) | (rw[dL']at c6;injection c6)
 ·have hne:a≠env.locals:=fun q=>by
   rw[q]at eo
   replace eo:h'.get? env.locals=some o:=eo
   replace eL:h'.get? env.locals=some oL:=eL
   rw[eL]at eo;obtain rfl:=si eo;first | exact nn (dL.symm.trans ed) | (rw[dL]at ed;injection ed)
  obtain⟨o',e'⟩:=x.st.good.alive a ha
  have:=e a o' hne e'
  replace eo:h'.get? a=some o:=eo
  first | exact nn (eo.symm.trans this) | (rw[eo]at this;obtain rfl:=si this)
  exact x.blB a ha hv o vs c e' ed
 ·by_cases q:b=env.locals
  ·exact⟨oL,q▸eL⟩
  ·obtain⟨o',e'⟩:=x.alvB b o eb
   exact⟨o',e _ _ q e'⟩
theorem SS.iter (x:SS cx g h0 B l n A env V ρ k s) {a:Addr}{oa oa':Obj}{h':Heap}(ha:a∈V) (haW:a∉g.W cx) (hv:a∉g.V0) (hBm:B.h.get? a=none) (hoa:s.heap.get? a=some oa) (I1:IterObj oa) (xb:Heap.ExtBut a s.heap h') (hex:h'.get? a=some oa') (I2:IterObj oa') {tk':Nat}(ht:1≤tk') :
 SS cx g h0 B l n A env V ρ k {s with heap:=h',toks:=tk'}:=by
 have h0a:h0.get? a=none:=(x.new a ha).resolve_left hv
 refine⟨x.st.mod ha haW hoa I1.nf I1.nc I1.ncell I1.ndict (.inl I1.nseq) xb ⟨_,hex⟩ ht,x.sub,x.WV0,⟨fun b o hb eb=>xb b o (fun q=>by first | exact nn (h0a.symm.trans (q▸eb)) | (rw[q,h0a]at eb;cases eb)) (x.ext.keep b o hb eb)⟩,x.new,x.fr,x.fz,
  fun b o hb eb=>xb b o (fun q=>by first | exact nn (hBm.symm.trans (q▸eb)) | (rw[q,hBm]at eb;cases eb)) (x.kept b o hb eb),x.locB,x.WB,fun c hc hcv o vs m eo ed=>?_,fun b o eb=>?_,x.hid,x.newB,fun y hy=>?_,x.cellI,x.noFree⟩
 rotate_left 2
 ·obtain⟨c,c1,c2,c3,c4,v,o,c5,c6⟩:=x.cellB y hy
  exact⟨c,c1,c2,c3,c4,v,o,xb c o (fun q=>by first | exact nn (hoa.symm.trans (q▸c5)) | (rw[q,hoa]at c5;obtain rfl:=si c5);exact I1.ncell _ c6) c5,c6⟩
 ·have hne:c≠a:=fun q=>by
   rw[q]at eo
   replace eo:h'.get? a=some o:=eo
   rw[hex]at eo;obtain rfl:=si eo;exact I2.nseq _ _ ed
  obtain⟨o',e'⟩:=x.st.good.alive c hc
  have:=xb c o' hne e'
  replace eo:h'.get? c=some o:=eo
  first | exact nn (eo.symm.trans this) | (rw[eo]at this;obtain rfl:=si this)
  exact x.blB c hc hcv o vs m e' ed
 ·by_cases q:b=a
  ·exact⟨oa',q▸hex⟩
  ·obtain⟨o',e'⟩:=x.alvB b o eb
   exact⟨o',xb _ _ q e'⟩
noncomputable def Vo (a:Addr) (V:List Addr):List Addr:=V.filter fun b=>!(Nat.beq b a)
theorem mem_Vo {a b:Addr}:b∈Vo a V↔b∈V∧b≠a:=by
 unfold Vo
 rw[List.mem_filter,zb]
 have:(!decide (@Eq Nat b a))=true↔b≠a:=by
  simp only[Bool.not_eq_true',decide_eq_false_iff_not]
  first | done | exact Iff.rfl
 rw[this]
theorem yY {h:Heap}{a:Addr}{oa:Obj}(c:Chain cx g l h) (hoa:h.get? a=some oa) (nd:∀ es n,oa.data≠.dict es n):∀ e∈l,e.frame≠some a:=fun e he q=>by
 obtain⟨_,L,o,q1,_,_,q4,es,m,q5⟩:=c e he
 first | exact nn (q.symm.trans q1) | (rw[q]at q1;obtain rfl:=si q1)
 first | exact nn (hoa.symm.trans q4) | (rw[hoa]at q4;obtain rfl:=si q4)
 exact nd _ _ q5
theorem St.drop (x:St cx g V l n A env ρ k s) {a:Addr}{oa:Obj}{h':Heap}(ha:a∈V) (haW:a∉g.W cx) (hoa:s.heap.get? a=some oa) (hf:∀ fd,oa.data≠.func fd) (hfl:∀ vs q t,oa.data=.fields vs→vs[1]?≠some (.str q t))
 (hcell:∀ w,oa.data≠.cell w) (hseq:∀ vs n,oa.data≠.seq vs n) (hL:∀ e∈l,e.frame≠some a) (hloc:env.locals≠a) (xb:Heap.ExtBut a s.heap h') {tk':Nat}(ht:1≤tk') :
 St cx g (Vo a V) l n A env ρ k {s with heap:=h',toks:=tk'}:=by
 have sub:∀ b∈Vo a V,b∈V:=fun b hb=>(mem_Vo.mp hb).1
 have nin:a∉Vo a V:=fun m=>(mem_Vo.mp m).2 rfl
 have hk:=iZ (V':=V) (V'':=Vo a V) sub ha xb
 obtain⟨m,hn,hl,hinj⟩:=x.fr.loc
 have mr:∀{v:Value}{d:D},Rep cx g V s.heap v d→Rep cx g (Vo a V) h' v d:=fun r =>
  r.map hk (fun _ _=>LamAt.mod hoa xb (Cq hf hfl hcell)) id fun l _ ⟨b,vs,n,as,e,hv,hb,r⟩ =>
   have hne:b≠a:=fun q=>hseq vs n (congrArg Obj.data (si (hoa.symm.trans (q▸hb))))
   ⟨b,vs,n,as,e,⟨mem_Vo.mpr ⟨hv.1,hne⟩,hv.2⟩,xb _ _ hne hb,ar hk r⟩
 have hW:∀ b∈g.W cx,b∈Vo a V:=fun b hb=>mem_Vo.mpr ⟨x.good.WV b hb,fun q=>haW (q▸hb)⟩
 refine⟨x.ao,fun e he=>?_,⟨x.fr.kind,x.fr.gl,x.fr.bi,mem_Vo.mpr ⟨x.fr.LV,hloc⟩,x.fr.LW,⟨m,?_,fun y d e kk=>let⟨v,e1,r⟩:=hl y d e kk;⟨v,e1,mr r⟩,hinj⟩,fun y d e kk=>?_,x.fr.cd,x.fr.blk⟩,x.good.drop sub hW ha nin xb,ht⟩
 ·obtain⟨k1,L,o,q1,q2,q3,q4,q5⟩:=x.ch e he
  exact⟨k1,L,o,q1,q2,q3,xb _ _ (fun q=>hL e he (q▸q1)) q4,q5⟩
 ·obtain⟨oL,es,ep,eL,r⟩:=hn
  exact⟨oL,es,ep,xb _ _ hloc eL,r⟩
 ·obtain⟨c,v,e1,e2,⟨o,e3,e3'⟩,r,e4⟩:=x.fr.cel y d e kk
  exact⟨c,v,e1,e2,⟨o,xb _ _ (fun q=>by first | exact nn (hoa.symm.trans (q▸e3)) | (rw[q,hoa]at e3;obtain rfl:=si e3);exact hcell _ e3') e3,e3'⟩,mr r,e4⟩
theorem SS.drop (x:SS cx g h0 B l n A env V ρ k s) {a:Addr}{oa:Obj}{h':Heap}(ha:a∈V) (haW:a∉g.W cx) (hv:a∉g.V0) (hB:B.h.get? a=none) (hBv:a∉B.v) (hoa:s.heap.get? a=some oa) (hf:∀ fd,oa.data≠.func fd) (hfl:∀ vs q t,oa.data=.fields vs→vs[1]?≠some (.str q t))
 (hcell:∀ w,oa.data≠.cell w) (hseq:∀ vs n,oa.data≠.seq vs n) (hL:∀ e∈env::l,e.frame≠some a) (hloc:env.locals≠a) (xb:Heap.ExtBut a s.heap h') {tk':Nat}(ht:1≤tk') :
 SS cx g h0 B l n A env (Vo a V) ρ k {s with heap:=h',toks:=tk'}:=by
 have h0a:h0.get? a=none:=(x.new a ha).resolve_left hv
 refine⟨x.st.drop ha haW hoa hf hfl hcell hseq hL hloc xb ht,fun b hb=>mem_Vo.mpr ⟨x.sub b hb,fun q=>hv (q▸hb)⟩,x.WV0,⟨fun b o hb eb=>xb b o (fun q=>by first | exact nn (h0a.symm.trans (q▸eb)) | (rw[q,h0a]at eb;cases eb)) (x.ext.keep b o hb eb)⟩,
  fun b hb=>x.new b (mem_Vo.mp hb).1,x.fr,x.fz,fun b o hb eb=>xb b o (fun q=>by first | exact nn (hB.symm.trans (q▸eb)) | (rw[q,hB]at eb;cases eb)) (x.kept b o hb eb),x.locB,x.WB,fun c hc hcv o vs m eo ed=>?_,fun b o eb=>?_,fun b hb=>mem_Vo.mpr ⟨x.hid b hb,fun q=>hBv (q▸hb)⟩,fun b hb=>x.newB b (mem_Vo.mp hb).1,fun y hy=>?_,x.cellI,x.noFree⟩
 rotate_left 2
 ·obtain⟨c,c1,c2,c3,c4,v,o,c5,c6⟩:=x.cellB y hy
  have hne:c≠a:=fun q=>by first | exact nn (hoa.symm.trans (q▸c5)) | (rw[q,hoa]at c5;obtain rfl:=si c5);exact hcell _ c6
  exact⟨c,c1,mem_Vo.mpr ⟨c2,hne⟩,c3,c4,v,o,xb c o hne c5,c6⟩
 ·obtain⟨hc1,hc2⟩:=mem_Vo.mp hc
  obtain⟨o',e'⟩:=x.st.good.alive c hc1
  have:=xb c o' hc2 e'
  replace eo:h'.get? c=some o:=eo
  first | exact nn (eo.symm.trans this) | (rw[eo]at this;obtain rfl:=si this)
  exact x.blB c hc1 hcv o vs m e' ed
 ·obtain⟨o',e'⟩:=x.alvB b o eb
  exact⟨o',xb _ _ (fun q=>by first | exact nn (hB.symm.trans (q▸eb)) | (rw[q,hB]at eb;cases eb)) e'⟩
theorem wA {L:Addr}(hfr:A.frames=some (env::l)) (hf:env.frame=some L) {h'':Heap}{tk'':Nat}{e:Value}(t:1≤tk'') (fl:FlB cx g env l h0 h'' e)
 (hq:∀ h3 tk3 e3,1≤tk3→FlB cx g env l h0 h3 e3→E e3 {s with heap:=h3,toks:=tk3}):notedBy (model cx.prog cx.w) A env (fun e s'=>cameBackBy (model cx.prog cx.w) A env E e s') e {s with heap:=h'',toks:=tk''}:=by
 refine mI hfr hf fl fun h3 hr y ex ee H=>?_
 subst ee
 exact mH ex H fun h4 fl4=>hq h4 tk'' _ t fl4
noncomputable def Vm (B:Bs) (fp:List Addr) (V:List Addr):List Addr:=V.filter fun b=>!fp.contains b&&(B.m.contains b||(B.h.get? b).isNone)
theorem mem_Vm {fp:List Addr}{b:Addr}:b∈Vm B fp V↔b∈V∧b∉fp∧(b∈B.m∨B.h.get? b=none):=by
 unfold Vm
 rw[List.mem_filter]
 simp
theorem SS.base (x:SS cx g h0 B l n A env V ρ k s) {fp:List Addr}{I:Addr}{oI:Obj}(eI:s.heap.get? I=some oI) (jI:IterObj oI) (hloc:env.locals∉fp) (fpW:∀ b∈fp,b∉g.W cx) (fpV:∀ b∈fp,b≠I→b∉V):SS cx g h0 ⟨s.heap,Vm B fp V,V⟩ l n A env V ρ k s:=by
 have no:∀{a:Addr}{o:Obj},a∈V→s.heap.get? a=some o→((∀ vs c,o.data≠.seq vs c)→(∀ w,o.data≠.cell w)→False)→a∉fp:=fun {a o} ha eo h m =>
  if q:a=I then by
   obtain rfl:=si (eI.symm.trans (q▸eo))
   exact h jI.nseq jI.ncell
  else fpV a m q ha
 exact⟨x.st,x.sub,x.WV0,x.ext,x.new,x.fr,x.fz,fun b o _ e=>e,mem_Vm.mpr ⟨x.st.fr.LV,hloc,.inl x.locB⟩,fun a ha=>mem_Vm.mpr ⟨x.st.good.WV a ha,fun m=>fpW a m ha,.inl (x.WB a ha)⟩,
  fun a ha hv o vs c eo ed=>.inl (mem_Vm.mpr ⟨ha,no ha eo fun h _=>h _ _ ed,x.blB a ha hv o vs c eo ed⟩),fun b o e=>⟨o,e⟩,fun _ h=>h,fun _ h=>.inl h,
  fun y hy=>let⟨c,c1,c2,c3,c4,v,o,c5,c6⟩:=x.cellB y hy;⟨c,c1,c2,mem_Vm.mpr ⟨c2,no c2 c5 fun _ h=>h _ c6,.inl c3⟩,c4,v,o,c5,c6⟩,x.cellI,x.noFree⟩
theorem SS.back (x:SS cx g h0 B l n A env V ρ k s) {fp V4:List Addr}{ρ2:Rho}{k2:Nat}{h4:Heap}{tk4:Nat}(x6:SS cx g h0 ⟨s.heap,Vm B fp V,V⟩ l n A env V4 ρ2 k2 {s with heap:=h4,toks:=tk4}):SS cx g h0 B l n A env V4 ρ2 k2 {s with heap:=h4,toks:=tk4} :=
 ⟨x6.st,x6.sub,x6.WV0,x6.ext,x6.new,x6.fr,x6.fz,fun b o hb e=>x6.kept b o (fun m=>(mem_Vm.mp m).2.2.elim hb fun q=>nn (q.symm.trans e)) (x.kept b o hb e),x.locB,x.WB,
  fun a ha hv o vs c eo ed=>(x6.blB a ha hv o vs c eo ed).elim (fun q=>(mem_Vm.mp q).2.2) fun q=>.inr (x.noneB q),fun b o e=>let⟨o',e'⟩:=x.alvB b o e;x6.alvB b o' e',fun a ha=>x6.hid a (x.hid a ha),
  fun a ha=>(x6.newB a ha).elim (x.newB a) fun q=>.inr (x.noneB q),
  fun y hy=>let⟨c,c1,c2,_,c4,v,c5⟩:=x6.cellB y hy;let⟨_,d1,_,d3,_⟩:=x.cellB y hy;⟨c,c1,c2,si (d1.symm.trans c1)▸d3,c4,v,c5⟩,x.cellI,x.noFree⟩
inductive FI (cx:Sx) (g:Gh) (h0:Heap) (B:Bs) (V:List Addr) (l:List Env) (n:Nat) (A:Around) (env:Env) (ds:List D) (I:Addr) (fp:List Addr) (h1:Heap) (St':Nat→Heap→Prop) (F:D→Rho→Nat→SO) (Q:Flow→Shared→Prop) (E:Value→Shared→Prop) (s:Shared) (m:Nat) (s':Shared):Prop
 |mk (i:Nat) (V':List Addr) (ρ':Rho) (k':Nat) (h':Heap) (tk':Nat) (em:m=ds.length-i) (hi:i≤ds.length) (es:s'={s with heap:=h',toks:=tk'}) (x:SS cx g h0 B l n A env V' ρ' k' {s with heap:=h',toks:=tk'}) (st:St' i h') (iV:I∈V') (fpV:∀ b∈fp,b≠I→b∉V')
  (vis:∀ b o,(hideAll h1 V).get? b=some o→(hideAll h' V').get? b=some o) (hp:PSt cx g h0 B l n A env (lu F (ds.drop i) ρ' k') s Q E)
structure FL (cx:Sx) (g:Gh) (h0:Heap) (B:Bs) (V:List Addr) (l:List Env) (n:Nat) (A:Around) (env:Env) (d:D) (ds:List D) (I:Addr) (fp:List Addr) (h1 hI:Heap) (P:Nat→Value→Prop) (St':Nat→Heap→Prop):Prop where
 It:Iter cx g V A h1 d ds I hI fp P St'
 hnb:nb d=true
 IV:I∉V
 IW:I∉g.W cx
 IV0:I∉g.V0
 IB:B.h.get? I=none
 vV:∀ a∈B.v,a∈V
theorem FL.fpW {d:D}{ds:List D}{I:Addr}{fp:List Addr}{h1 hI:Heap}{P:Nat→Value→Prop}{St':Nat→Heap→Prop}(c:FL cx g h0 B V l n A env d ds I fp h1 hI P St') (b:Addr) (hb:b∈fp):b∉g.W cx:=if q:b=I then q▸c.IW else(c.It.old b hb q).2.1
theorem FL.vis {d:D}{ds:List D}{I:Addr}{fp:List Addr}{h1 hI:Heap}{P:Nat→Value→Prop}{St':Nat→Heap→Prop}(c:FL cx g h0 B V l n A env d ds I fp h1 hI P St') {V' V4:List Addr}{h3 h4:Heap}(vis:∀ b o,(hideAll h1 V).get? b=some o→(hideAll h3 V').get? b=some o) (inV:∀ b∈V4,b∈V'∨h3.get? b=none)
 (kpt:∀ b o,b∉Vm B fp V'→h3.get? b=some o→h4.get? b=some o):(∀ b o,(hideAll h1 V).get? b=some o→(hideAll h4 V4).get? b=some o)∧((∀ b∈fp,b≠I→b∉V')→∀ b∈fp,b≠I→b∉V4):=by
 refine⟨fun b o e=>?_,fun fpV b hb hn m=>?_⟩
 ·obtain⟨e31,e32⟩:=dG (vis b o e)
  exact hideAll_get V4 (kpt b o (fun m=>e32 (mem_Vm.mp m).1) e31) fun m=>(inV b m).elim e32 fun q=>nn (q.symm.trans e31)
 ·obtain⟨⟨o,eo⟩,_,hnv⟩:=c.It.old b hb hn
  exact(inV b m).elim (fpV b hb hn) fun q=>nn (q.symm.trans (of_hideAll V' (vis b o (hideAll_get V eo (hnv c.hnb)))))
theorem Jg {ss:List Stmt}{fs:Rho→Nat→SO}(H:Fw cx g h0 l n A env ss fs) {sc:Scope}(hs:bI sc env) (Hf:bC cx g V (env::l) n A env ρ f) (x:SS cx g h0 B l n A env V ρ k s) {t it:Expr}{pos:Pos}(hit:cJ it=true)
 (hp:PSt cx g h0 B l n A env ((f it k).bind fun d k=>optK (if nb d then hX d else none) fun ds=>lu (ut sc t fs) ds ρ k) s Q E):wpAny (model cx.prog cx.w) A (exec (.For t it ss [] pos) env) Q E s:=by
 obtain⟨L,hf⟩:=x.fr
 refine wpAny_For (pi Hf x hp fun d k1 h1 tk1 v x1 ex1 rv hp1=>dO hp1 fun ds hds hp1=>?_) (fun _=>f9 hit)
 obtain⟨hnb,hds⟩:=eX hds
 refine sG x1.st.ao.handled x1.st.good rv hds fun I hI fp P St' kpI It=>?_
 have nI:h1.get? I=none:=bv (by rw[It.newI];exact Nat.le_refl _)
 have IV:I∉V:=fun m=>let⟨o,e⟩:=x1.st.good.alive I m;nn (nI.symm.trans e)
 have c:FL cx g h0 B V l n A env d ds I fp h1 hI P St':=⟨It,hnb,IV,fun m=>IV (x1.st.good.WV I m),fun m=>IV (x1.sub I m),x1.noneB nI,x1.hid⟩
 have x2:=x1.more (a:=I) (h':=hI) (tk':=tk1) kpI nI (let⟨o,e,_⟩:=It.obj 0 hI It.st;⟨o,e⟩) x1.st.tk
 refine codeAny_forLoop_any (FI cx g h0 B V l n A env ds I fp h1 St' (ut sc t fs) Q E s) ?_ ds.length
  (.mk 0 (I::V) ρ k1 hI tk1 rfl (Nat.zero_le _) rfl x2 It.st (.head _) (fun b hb hn m=>(List.mem_cons.mp m).elim hn ((It.old b hb hn).2.2 hnb)) (cj kpI fun b hb=>(List.mem_cons.mp hb).elim (fun q=>.inr (q▸nI)) .inl) (by rw[List.drop_zero];exact hp1))
 clear hp hp1 x2 x1 rv hds
 intro m s' fi
 refine cps fun P0 w=>?_
 obtain⟨i,V',ρ',k',h',tk',em,hi,es,x',st',iV,fpV,vis,hp'⟩:=fi
 obtain rfl:=em;obtain rfl:=es
 obtain⟨oi,ei,ji⟩:=It.obj i h' st'
 have locI:∀{V2:List Addr}{ρ2:Rho}{k2:Nat}{h2:Heap}{tk2:Nat}{o:Obj},SS cx g h0 B l n A env V2 ρ2 k2 {s with heap:=h2,toks:=tk2}→h2.get? I=some o→IterObj o→env.locals≠I:=fun x3 e j q=>by
  obtain⟨mm,⟨o,es,ep,e',dd,_⟩,_⟩:=x3.st.fr.loc
  obtain rfl:=si (e.symm.trans (q▸e'))
  exact j.ndict _ _ dd
 by_cases hlt:i<ds.length
 ·rw[List.drop_eq_getElem_cons hlt]at hp'
  refine w (wpAny_with_toks x'.st.tk ?_)
  refine It.W.item i _ _ _ hlt st' fun v h2 tk2 hP st2 kp2 ht2=>?_
  have xb2:Heap.ExtBut I h' h2:=fun b o hb e=>kp2 b o (fun q=>hb (List.mem_singleton.mp q)) e
  obtain⟨oi2,ei2,ji2⟩:=It.obj (i+1) h2 st2
  have x3:=x'.iter (tk':=tk2) iV c.IW c.IV0 c.IB ei ji xb2 ei2 ji2 ht2
  refine It.go i _ _ _ _ _ hP st2 ?_
  obtain⟨p,ed,hrd⟩:=It.rd i v _ hP (List.getElem?_eq_getElem hlt)
  rw[ed]at hp'
  induction hρ:gq sc 4 t (.py p) ρ' using Option.casesOn with
  |none=>unfold lu ut at hp';rw[hρ]at hp';exact hp'.elim
  |some ρ'' =>
  have ef:ut sc t fs (.py p) ρ' k'=fs ρ'' k':=by unfold ut;rw[hρ];rfl
  unfold lu at hp'
  rw[ef]at hp'
  refine fY hs 4 t (.py p) ρ' ρ'' k' _ v _ _ x3.st hρ (hrd _ fun b o e=>c8 iV xb2 b o (vis b o e)) fun h3 tk3 t3 xb3 st3=>?_
  have vis3:∀ b o,(hideAll h1 V).get? b=some o→(hideAll h3 V').get? b=some o:=fun b o e=>c8 x'.st.fr.LV xb3 b o (c8 iV xb2 b o (vis b o e))
  have locfp:env.locals∉fp:=fun m=>if q:env.locals=I then locI x3 ei2 ji2 q else fpV _ m q x'.st.fr.LV
  have stt3:St' (i+1) h3:=It.W.frame _ _ _ st2 fun b hb o e=>xb3 b o (fun q=>locfp (q▸hb)) e
  obtain⟨oi3,ei3,ji3⟩:=It.obj (i+1) h3 stt3
  have x4:SS cx g h0 B l n A env V' ρ'' k' {s with heap:=h3,toks:=tk3}:=x3.upd (tk':=tk3) xb3 st3
  refine H ⟨h3,Vm B fp V',V'⟩ V' ρ'' k' _ _ _ (x4.base ei3 ji3 locfp c.fpW fpV) ?_
  induction hb:fs ρ'' k' using OutK.casesOn with
  |no=>rw[hb]at hp';exact hp'.elim
  |exc =>
   rw[hb]at hp'
   exact fun h'' tk'' e t fl=>wA x'.st.ao.frames hf t fl hp'
  |ok r k2 =>
   rw[hb]at hp'
   obtain⟨od,ρ2⟩:=r
   induction od using Option.casesOn with
   |some d=>exact fun h4 tk4 v t4 e4 G4 r4=>hp' h4 tk4 v t4 e4 G4 r4
   |none =>
    intro h4 tk4 V4 x6
    obtain⟨v1,v2⟩:=c.vis vis3 x6.newB x6.kept
    exact⟨_,by omega,.mk (i+1) V4 ρ2 k2 h4 tk4 rfl hlt rfl (SS.back (s:={s with heap:=h3,toks:=tk3}) x4 x6) (It.W.frame _ _ _ stt3 fun b hb o e=>x6.kept b o (fun m=>(mem_Vm.mp m).2.1 hb) e) (x6.hid _ iV) (v2 fpV) v1 hp'⟩
 ·have hie:i=ds.length:=by omega
  rw[hie,List.drop_length]at hp'
  refine w (wpAny_with_toks x'.st.tk (It.W.done _ _ _ (hie▸st') fun h2 tk2 kp2 ht2=>?_))
  exact wpAny_execs_nil (hp' h2 tk2 _ (x'.drop iV c.IW c.IV0 c.IB (fun m=>IV (c.vV _ m)) ei ji.nf ji.nc ji.ncell ji.nseq (yY x'.st.ch ei ji.ndict) (locI x' ei ji) (fun b o hb e=>kp2 b o (fun q=>hb (List.mem_singleton.mp q)) e) ht2))
end
section
variable {cx:Sx}{g:Gh}{V:List Addr}{h0:Heap}{B:Bs}{l:List Env}{n:Nat}{A:Around}{env:Env}{ρ:Rho}{k:Nat}{s:Shared}{Q:Flow→Shared→Prop}{E:Value→Shared→Prop}{calls:Orc}
 {f:Expr→Nat→Out D}{fb:Expr→Nat→Out Bool}
theorem vB (x:SS cx g h0 B l n A env V ρ k s) {y:Str}{v:Value}{d:D}(hy:env.kindOf y=some .local) (rv:Rep cx g V s.heap v d)
 (hbl:nb d=false→∀ m,s.heap.Ns env.locals m→∀ z l',aH ρ z=some (.bl l')→z≠y→m z≠some v)
 {M:Model}{Q:Unit→Shared→Prop}(h:∀ h' tk',SS cx g h0 B l n A env V (bP ρ y d) k {s with heap:=h',toks:=tk'}→Q () {s with heap:=h',toks:=tk'}):wpAny M A (storeName env y v) Q E s :=
 eQ x.st hy rv hbl fun h' tk' t hsb st=>h h' tk' (x.upd hsb.extBut st)
theorem oG {p:D→Bool}:∀{ρ:Rho}{y:Str}{d:D},ρ.all (fun q=>p q.2)=true→aH ρ y=some d→p d=true
 |[],_,_,_,h=>by injection h
 |(z,e)::r,y,d,ha,h=>by
  rw[List.all_cons,Bool.and_eq_true]at ha
  rw[aY]at h
  split at h
  ·obtain rfl:=si h;exact ha.1
  ·exact oG ha.2 h
theorem un {d:D}(h:eF d=true):CA d=false:=by induction d using D.casesOn<;>first | rfl | injection h
theorem DT (x:SS cx g h0 B l n A env V ρ k s) {y:Str}{v:Value}{d:D}(hy:env.kindOf y=some .cell) (rv:Rep cx g V s.heap v d) (hnb:nb d=true) (hl:eF d=true) (hρ:ρ.all (fun q=>eF q.2)=true)
 {M:Model}{Q:Unit→Shared→Prop}(h:∀ h' tk',SS cx g h0 B l n A env V (bP ρ y d) k {s with heap:=h',toks:=tk'}→Q () {s with heap:=h',toks:=tk'}):wpAny M A (storeName env y v) Q E s:=by
 obtain⟨c,c1,c2,c3,c4,v0,c5⟩:=x.cellB y hy
 refine wpAny_storeName_cell x.st.fr.kind hy c1 c5 fun h' hc' hsb=>?_
 have xb:=hsb.extBut
 obtain⟨oc,e1,e2⟩:=id c5
 obtain⟨oc',e1',e2'⟩:=id hc'
 have cW:c∉g.W cx:=fun m=>c4 (x.WV0 c m)
 have mod:∀{u:Value}{du:D},eF du=true→Rep cx g V s.heap u du→Rep cx g V h' u du:=fun {u du} hn r=>r.mod c2 e1 xb (fun _ q=>by first | exact nn (e2.symm.trans q) | (rw[e2]at q;injection q)) (fun _ _ _ q=>by first | exact nn (e2.symm.trans q) | (rw[e2]at q;injection q))
  (fun q=>by rw[un hn]at q;injection q) fun l' q=>by
   subst q
   obtain⟨b,vs,n,as,e,hv,hb,_⟩:=r
   rw[e]
   intro q
   cases q
   rw[e1]at hb;obtain rfl:=si hb;injection e2
 obtain⟨m,hn,hloc,hinj⟩:=x.st.fr.loc
 obtain⟨oL,es,ep,eL,dL,r⟩:=id hn
 have hLc:env.locals≠c:=fun q=>by first | exact nn (e1.symm.trans (q▸eL)) | (rw[q,e1]at eL;obtain rfl:=si eL);first | exact nn (dL.symm.trans e2) | (rw[dL]at e2;injection e2)
 have st:St cx g V (env::l) n A env (bP ρ y d) k {s with heap:=h',toks:=s.toks}:=by
  refine⟨x.st.ao,x.st.ch.mod2 xb e1 (fun _ _ q=>by first | exact nn (e2.symm.trans q) | (rw[e2]at q;injection q)),⟨x.st.fr.kind,x.st.fr.gl,x.st.fr.bi,x.st.fr.LV,x.st.fr.LW,⟨m,⟨oL,es,ep,xb _ _ hLc eL,dL,r⟩,fun z dz ez kz=>?_,fun z z' l1 l2 ez ez' hne=>?_⟩,fun z dz ez kz=>?_,x.st.fr.cd,fun z l1 ez=>?_⟩,x.st.good.mod c2 cW xb ⟨_,e1'⟩,x.st.tk⟩
  ·rw[bF]at ez
   have q:¬ y=z:=fun q=>by subst q;first | exact nn (hy.symm.trans kz) | (rw[hy]at kz;cases kz)
   rw[if_neg q]at ez
   obtain⟨u,a1,a2⟩:=hloc z dz ez kz
   exact⟨u,a1,mod (oG hρ ez) a2⟩
  ·rw[bF]at ez ez'
   have q:¬ y=z:=fun q=>by rw[if_pos q]at ez;obtain rfl:=si ez;injection hnb
   have q':¬ y=z':=fun q=>by rw[if_pos q]at ez';obtain rfl:=si ez';injection hnb
   rw[if_neg q]at ez
   rw[if_neg q']at ez'
   exact hinj z z' l1 l2 ez ez' hne
  ·rw[bF]at ez
   by_cases q:y=z
   ·subst q
    rw[if_pos rfl]at ez;obtain rfl:=si ez
    exact⟨c,v,c1,cW,hc',mod hl rv,hnb⟩
   ·rw[if_neg q]at ez
    obtain⟨c',u,b1,b2,⟨ob,b3,b4⟩,b5,b6⟩:=x.st.fr.cel z dz ez kz
    have hne:c'≠c:=fun qq=>by
     rcases kz with kz | kz
     ·exact q (x.cellI y z c hy kz c1 (qq▸b1))
     ·exact x.noFree z kz
    exact⟨c',u,b1,b2,⟨ob,xb _ _ hne b3,b4⟩,mod (oG hρ ez) b5,b6⟩
  ·rw[bF]at ez
   have q:¬ y=z:=fun q=>by rw[if_pos q]at ez;obtain rfl:=si ez;injection hnb
   rw[if_neg q]at ez
   exact x.st.fr.blk z l1 ez
 refine h h' s.toks ?_
 have h0c:h0.get? c=none:=(x.new c c2).resolve_left c4
 refine⟨st,x.sub,x.WV0,⟨fun b o hb eb=>xb b o (fun q=>by first | exact nn (h0c.symm.trans (q▸eb)) | (rw[q,h0c]at eb;cases eb)) (x.ext.keep b o hb eb)⟩,x.new,x.fr,x.fz,fun b o hb eb=>xb b o (fun q=>hb (q▸c3)) (x.kept b o hb eb),x.locB,x.WB,
  fun a ha hv o vs q eo ed=>?_,fun b o eb=>?_,x.hid,x.newB,fun z hz=>?_,x.cellI,x.noFree⟩
 ·have hne:a≠c:=fun q=>by
   rw[q]at eo
   replace eo:h'.get? c=some o:=eo
   rw[e1']at eo;obtain rfl:=si eo;first | exact nn (e2'.symm.trans ed) | (rw[e2']at ed;injection ed)
  obtain⟨o',e'⟩:=x.st.good.alive a ha
  have:=xb a o' hne e'
  replace eo:h'.get? a=some o:=eo
  first | exact nn (eo.symm.trans this) | (rw[eo]at this;obtain rfl:=si this)
  exact x.blB a ha hv o vs q e' ed
 ·by_cases q:b=c
  ·exact⟨oc',q▸e1'⟩
  ·obtain⟨o',e'⟩:=x.alvB b o eb
   exact⟨o',xb _ _ q e'⟩
 ·obtain⟨c',d1,d2,d3,d4,v',o,d5,d6⟩:=x.cellB z hz
  by_cases q:c'=c
  ·subst q
   exact⟨c',d1,d2,d3,d4,some v,oc',e1',e2'⟩
  ·exact⟨c',d1,d2,d3,d4,v',o,xb _ _ q d5,d6⟩
theorem jX {sc:Scope}(hs:bI sc env) {y:Str}{kd:NameKind}(hk:kd≠.free) (h:aO sc y kd=true):env.kindOf y=some kd :=
 (hs y _ (bc h)).elim id fun q=>absurd q.1 hk
noncomputable def lb:Expr→Bool
 |.ListComp ..=>true
 |.SetComp ..=>true
 |.DictComp ..=>true
 |_=>false
theorem dY {e:Expr}{t:Option Expr}{ln:Nat}(h:lb e=false):swapsWith e t ln env=pure false:=by
 induction e using Expr.casesOn<;>first | rfl | injection h
theorem jf {sc:Scope}(hs:bI sc env) (x:SS cx g h0 B l n A env V ρ k s) {y:Str}{v:Value}{d:D}(rv:Rep cx g V s.heap v d)
 (hp:PSt cx g h0 B l n A env (if oV sc ρ y d then .ok (none,bP ρ y d) k else .no) s Q E) :
 wpAny (model cx.prog cx.w) A (storeName env y v) (fun _=>Q .next) E s:=by
 refine gk hp fun q hp=>?_
 obtain⟨q1,q2⟩:=am q
 refine(Bool.or_eq_true_iff.mp q2).elim (fun q2=>?_) fun q2=>?_
 ·exact vB x (jX hs (by nofun) q2) rv (fun q=>ft (q.symm.trans q1)) fun h' tk' x'=>hp h' tk' V x'
 ·exact DT x (jX hs (by nofun) (am (am q2).1).1) rv q1 (am (am q2).1).2 (am q2).2 fun h' tk' x'=>hp h' tk' V x'
theorem KG {sc:Scope}(hs:bI sc env) (Hf:bC cx g V (env::l) n A env ρ f) (x:SS cx g h0 B l n A env V ρ k s) {y:Str}{e:Expr}{yp pos:Pos}(hc:lb e=false)
 (hp:PSt cx g h0 B l n A env ((f e k).bind fun d k=>if oV sc ρ y d then .ok (none,bP ρ y d) k else .no) s Q E) :
 wpAny (model cx.prog cx.w) A (exec (.Assign [.Name y yp] e pos) env) Q E s :=
 wpAny_Assign_Name (pi Hf x hp fun d k' h' tk' v x' e rv hp'=>jf hs x' rv hp') (dY hc)
theorem IM {sc:Scope}(hs:bI sc env) (Hf:bC cx g V (env::l) n A env ρ f) (hstar:∀ x p k,f (.Starred x p) k=.no) (x:SS cx g h0 B l n A env V ρ k s) {y:Str}{es:List Expr}{yp lp pos:Pos}
 (hp:PSt cx g h0 B l n A env (if aO sc y .local then(evs f es k).bind fun ds k=>if sm ds.length then(ofO (eJ ds) k).bind fun l k=>.ok (none,bP ρ y (.bl l)) k else .no else .no) s Q E) :
 wpAny (model cx.prog cx.w) A (exec (.Assign [.Name y yp] (.List es lp) pos) env) Q E s:=by
 split at hp
 ·rename_i hk
  refine wpAny_Assign_Name (wpAny_List (jq Hf hstar es k s _ x.st (iO x hp fun ds k' h' tk' vs _ x' ex rs hp'=>?_))) rfl
  split at hp'
  ·rename_i hsm
   induction ht:eJ ds using Option.casesOn with
   |none=>rw[ht]at hp';exact hp'.elim
   |some ps =>
   rw[ht]at hp'
   obtain⟨as,ra⟩:=jW rs ht
   refine⟨by rw[cR rs];exact cy hsm,?_⟩
   have ha:h'.get? h'.objs.size=none:=bv (Nat.le_refl _)
   have x2:=x'.more (a:=h'.objs.size) (h':=h'.push {cls:=.type "list",data:=.seq vs.toArray}) (tk':=tk') (.push _ _) ha ⟨_,Heap.get?_push_size _ rfl⟩ x'.st.tk
   have hfr:h'.objs.size∉V:=x'.st.good.fresh (s:={s with heap:=h',toks:=tk'}) (Nat.le_refl _)
   have hk2:∀ b o,(hideAll h' V).get? b=some o→(hideAll (h'.push {cls:=.type "list",data:=.seq vs.toArray}) (h'.objs.size::V)).get? b=some o:=cj (.push _ _) fun b hb=>by
    rcases List.mem_cons.mp hb with rfl | hb
    ·exact .inr ha
    ·exact .inl hb
   refine vB x2 (jX hs (by nofun) hk) (d:=.bl ps) ⟨_,vs.toArray,_,as,rfl,⟨.head _,fun m=>hfr (x'.st.good.WV _ m),fun m=>hfr (x'.sub _ m)⟩,Heap.get?_push_size _ rfl,ar hk2 ra⟩ (fun _ m hm z l' ez hne e=>?_) fun h3 tk3 x3=>hp' h3 tk3 _ x3
   obtain⟨m',hn',hl',_⟩:=x'.st.fr.loc
   have hmm:=Heap.Ns.fn hm (hn'.at' fun o e=>Heap.get?_push_of_some _ e)
   obtain⟨u,e1,b,ws,c,bs,rfl,hv,hb,_⟩:=hl' z _ ez (x'.st.fr.blk z l' ez)
   rw[hmm,e1]at e
   cases e
   replace hb:h'.get? h'.objs.size=_:=hb
   first | exact nn (ha.symm.trans hb) | (rw[ha]at hb;cases hb)
  ·exact hp'.elim
 ·exact hp.elim
end
section
variable {cx:Sx}{g:Gh}{V:List Addr}{h0:Heap}{B:Bs}{l:List Env}{n:Nat}{A:Around}{env:Env}{ρ:Rho}{k:Nat}{s:Shared}{Q:Flow→Shared→Prop}{E:Value→Shared→Prop}{calls:Orc}
 {f:Expr→Nat→Out D}{fb:Expr→Nat→Out Bool}
theorem Rep.moreE {V':List Addr}{h h':Heap}{v:Value}{d:D}(x:Ext (g.W cx) h h') (hW:∀ a∈g.W cx,a∈V) (hV:∀ a∈V',a∈V∨h.get? a=none) (hs:∀ a∈V,a∈V') (r:Rep cx g V h v d):Rep cx g V' h' v d:=by
 have hk:=yG x hW hV
 induction d using D.casesOn with
 |bl q =>
  obtain⟨a,vs,m,as,e,hv,ha,r⟩:=r
  exact⟨a,vs,m,as,e,⟨hs _ hv.1,hv.2⟩,x.keep _ _ hv.2.1 ha,ar hk r⟩
 |_=>exact r.move (g':=g) ⟨rfl,rfl,rfl⟩ rfl x hk
theorem SS.moreE (x:SS cx g h0 B l n A env V ρ k s) {a:Addr}{h':Heap}{k':Nat}(e:Ext (g.W cx) s.heap h') (ha:s.heap.get? a=none) (G:Good cx g (a::V) h' k') {tk':Nat}(ht:1≤tk'):SS cx g h0 B l n A env (a::V) ρ k' {s with heap:=h',toks:=tk'}:=by
 have hV:∀ b∈a::V,b∈V∨s.heap.get? b=none:=fun b hb=>by
  rcases List.mem_cons.mp hb with rfl | hb
  ·exact .inr ha
  ·exact .inl hb
 have hs:∀ b∈V,b∈a::V:=fun _ h=>.tail _ h
 have mr:∀{v d},Rep cx g V s.heap v d→Rep cx g (a::V) h' v d:=fun r=>r.moreE e x.st.good.WV hV hs
 have G1:Good cx g V h' k':=Good.shrink (g:=g) (V0:=g.V0) (me:=g.me) G hs x.st.good.WV
 have y:=x.step ht e G1
 obtain⟨m,hn,hl,hi⟩:=x.st.fr.loc
 refine⟨⟨x.st.ao,y.st.ch,⟨x.st.fr.kind,x.st.fr.gl,x.st.fr.bi,.tail _ x.st.fr.LV,x.st.fr.LW,⟨m,nt e x.st.fr.LW hn,fun y d e kk=>let⟨v,e1,r⟩:=hl y d e kk;⟨v,e1,mr r⟩,hi⟩,
  fun y d ed kk=>let⟨c,v,e1,e2,e3,r,e4⟩:=x.st.fr.cel y d ed kk;⟨c,v,e1,e2,i7 e e2 e3,mr r,e4⟩,x.st.fr.cd,x.st.fr.blk⟩,G,ht⟩,
  fun b hb=>.tail _ (x.sub b hb),x.WV0,y.ext,fun b hb=>?_,x.fr,x.fz,y.kept,x.locB,x.WB,fun b hb hv o vs c eo ed=>?_,y.alvB,fun b hb=>.tail _ (x.hid b hb),fun b hb=>?_,fun z hz=>let⟨c,c1,c2,c3,c4,c5⟩:=y.cellB z hz;⟨c,c1,.tail _ c2,c3,c4,c5⟩,x.cellI,x.noFree⟩
 ·exact mc (P:=fun b=>b∈g.V0∨h0.get? b=none) (.inr (x.none0 ha)) x.new b hb
 ·exact(List.mem_cons.mp hb).elim (fun q=>.inr (q▸x.noneB ha)) fun hb=>y.blB b hb hv o vs c eo ed
 ·exact mc (P:=fun b=>b∈B.v∨B.h.get? b=none) (.inr (x.noneB ha)) x.newB b hb
theorem Fg {sc sc':Scope}(hs:bI sc env) (x:SS cx g h0 B l n A env V ρ k s) (hcs:gI sc sc' ρ=true) {y:Str}{t elt it:Expr}{ifs:List Expr}{yp cpos pos:Pos}(hit:cJ it=true) (Hf:bC cx g V (env::l) n A env ρ f)
 {fbr:Rho→Expr→Nat→Out Bool}{fer:Rho→Expr→Nat→Out Mine.D}(HE:∀ V' cenv ρ',bI sc' cenv→bC cx g V' (env::l) n A cenv ρ' (fer ρ')) (HB:∀ V' cenv ρ',bI sc' cenv→iz cx g V' (env::l) n A cenv ρ' (fbr ρ'))
 (hp:PSt cx g h0 B l n A env ((mP sc' t ifs elt (gh sc' ρ) fbr fer f it k).bind fun d k=>if oV sc ρ y d then .ok (none,bP ρ y d) k else .no) s Q E) :
 wpAny (model cx.prog cx.w) A (exec (.Assign [.Name y yp] (.ListComp elt [⟨t,it,ifs,0⟩] sc' cpos) pos) env) Q E s:=by
 have hsw:∃ b,swapsWith (.ListComp elt [⟨t,it,ifs,0⟩] sc' cpos) (some (.Name y yp)) pos.line env=pure b∧(b=true→env.kindOf y=some .local):=by
  refine⟨_,rfl,fun h=>?_⟩
  simp only[Bool.and_eq_true]at h
  exact eq_of_beq h.1.1.2
 obtain⟨b,hsw,hloc⟩:=hsw
 induction b using Bool.casesOn with
 |false =>
  refine wpAny_Assign_Name ?_ hsw
  refine yT hs x.st hcs hit Hf HE HB (iO x hp fun d k' h' tk' v _ x' e rv hp'=>jf hs x' rv hp')
 |true =>
  have hy:=hloc rfl
  rw[exec_Assign_Name_used _ _ _ _ hsw]
  refine wpAny_bind (wpAny_standAt (wpAny_bind ?_))
  show wpAny _ A (do let _ ← comprehension (.ListComp elt [⟨t,it,ifs,0⟩] sc' cpos) sc' env _ (newList []) false (eval it env) (some (assign (.Name y yp) env))) _ _ s
  refine wpAny_bind (wpAny_mono (?_:wpAny _ A _ (fun _ s'=>Q .next s') E s) (fun _ s' hq=>wpAny_pure (wpAny_pure hq)) fun _ _ e=>e)
  refine mM (use:=some (assign (.Name y yp) env)) (Rl:=fun _ (_:Unit) _=>True) (Q0:=fun _ _=>True) (Q:=fun _ s'=>Q .next s') hs x.st hcs hit Hf HE HB ?_ fun ps k' h1 tk1 D C h' tk' m heq _ ex1 ht ex G r hn hC hD nC=>?_
  ·revert hp
   generalize mP sc' t ifs elt (gh sc' ρ) fbr fer f it k=o
   intro hp
   induction o using OutK.casesOn with
   |ok d k'=>exact fun _ _ _ _ _ _ _=>trivial
   |exc=>exact fun h' tk' e t fl=>hp h' tk' e t (.inl (Fl.trans x.ext fl))
   |no=>exact hp.elim
  ·have hbind:PSt cx g h0 B l n A env ((OutK.ok (Mine.D.py (.list ps)) k').bind fun d k=>if oV sc ρ y d then .ok (none,bP ρ y d) k else .no) s Q E:=by
    rw[← heq];exact hp
   have nCs:s.heap.get? C=none:=by
    induction q:s.heap.get? C using Option.casesOn with
    |none=>rfl
    |some o =>
     have:=ex1.keep C o (fun m=>hC (x.st.good.WV C m)) q
     first | exact nn (nC.symm.trans this) | (rw[nC]at this;cases this)
   have x2:=x.moreE (ex1.trans ex) nCs G ht
   have hLC:env.locals≠C:=fun q=>hC (q▸x.st.fr.LV)
   show wpAny _ A (assign (.Name y yp) env (.ref D)) _ _ _
   refine wpAny_assign_Name (eQ x2.st hy r (fun q=>by injection q) fun h2 tk2 t2 hsb st2=>?_)
   have x3:=x2.upd hsb.extBut st2
   have hn2:h2.Ns C m:=hn.at' fun o e=>hsb.extBut _ _ (fun q=>hLC q.symm) e
   refine⟨m,hn2,fun h3 hs3=>?_⟩
   obtain⟨oC,es,ep,eC,dC,_⟩:=id hn2
   have hbind:PSt cx g h0 B l n A env (if oV sc ρ y (Mine.D.py (.list ps))then .ok (none,bP ρ y (Mine.D.py (.list ps))) k' else .no) s Q E:=hbind
   split at hbind
   ·refine hbind h3 tk2 _ (x3.drop (.head _) (fun m=>hC (x.st.good.WV C m)) (fun m=>hC (x.sub C m)) (x.noneB nCs) (fun m=>hC (x.hid C m)) eC (fun _ q=>by first | exact nn (dC.symm.trans q) | (rw[dC]at q;injection q)) (fun _ _ _ q=>by first | exact nn (dC.symm.trans q) | (rw[dC]at q;injection q)) (fun _ q=>by first | exact nn (dC.symm.trans q) | (rw[dC]at q;injection q)) (fun _ _ q=>by first | exact nn (dC.symm.trans q) | (rw[dC]at q;injection q))
     (fun e he q=>?_) hLC hs3.extBut t2)
    obtain⟨_,L,o,q1,_,_,q4,_⟩:=x.st.ch e he
    first | exact nn (q.symm.trans q1) | (rw[q]at q1;obtain rfl:=si q1)
    first | exact nn (nCs.symm.trans q4) | (rw[nCs]at q4;cases q4)
   ·exact hbind.elim
end
section
variable {cx:Sx}{g:Gh}{V:List Addr}{h0:Heap}{B:Bs}{l:List Env}{n:Nat}{A:Around}{env:Env}{ρ:Rho}{k:Nat}{s:Shared}{Q:Flow→Shared→Prop}{E:Value→Shared→Prop}{calls:Orc}
 {f:Expr→Nat→Out D}{fb:Expr→Nat→Out Bool}
theorem fh {ts:List Expr}{tk:Nat}{tp:Pos}{e:Expr}{ln:Nat}:swapsWithSole [.Tuple ts tk tp] e ln env=pure false:=by
 induction e using Expr.casesOn<;>rfl
theorem swp {α:Type}{c:Prop} [Decidable c] {X:Sem (Option α)}{y:Option (Option α)}{r:Option α}(h:(if c then some none else y)=some r) (w:y=some r→X=pure r):(if c then pure none else X)=pure r:=by
 by_cases q:c
 ·rw[if_pos q]at h ⊢;rw[si h]
 ·rw[if_neg q]at h ⊢;exact w h
theorem swq {α:Type}{c:Prop} [Decidable c] {y:Option (Option α)}{r:α}(h:(if c then some none else y)=some (some r)):y=some (some r):=by
 by_cases q:c
 ·rw[if_pos q]at h;exact nn (si h)
 ·rw[if_neg q]at h;exact h
theorem je {sc:Scope}(hk:∀ x,env.kindOf x=sc.names.lookup x) (hf:env.scope.kind=.function) {ts:List Expr}{tk:Nat}{tp:Pos}{e:Expr}{r:Option (List Str)}(h:jE sc ts e=some r):swappedStores [.Tuple ts tk tp] e env=pure r:=by
 have hb:(env.blockKind != .function)=false:=by unfold Env.blockKind;rw[hf];rfl
 have hn:∀ ln,(fun x=>(match x with
  |.Name id pos=>if(env.kindOf id==some .local&&pos.line==ln)=true then some id else none
  |_=>none:Option Str))=gr sc ln:=fun ln=>by
  funext x
  induction x using Expr.casesOn<;>first | rfl | skip
  simp only[gr,hk]
 unfold jE at h
 induction e using Expr.casesOn
 case Tuple vs vk vp =>
  show(do
   if(!(ts.length==2||ts.length==3)||vs.length != ts.length||env.blockKind != .function)=true then return none
   if(vs.any fun | .Starred ..=>true | _=>false)=true then return none
   let line:=(ts.head?.map (·.pos.line)).getD 0
   let names:=ts.filterMap fun
    |.Name id pos=>if(env.kindOf id==some .local&&pos.line==line)=true then some id else none
    |_=>none
   if(names.length != ts.length||names.eraseDups.length != names.length)=true then return none
   if vs.all (foldedForSure 8)=true then return none
   if vs.all (constantsAlone 8)=true then unsupported "assign.tuple-of-constant-expressions:order-of-the-stores"
   return some names:Sem (Option (List Str)))=_
  rw[hb,Bool.or_false]
  have hst:(fun | .Starred ..=>true | _=>false:Expr→Bool)=cP:=by funext x;induction x using Expr.casesOn<;>rfl
  simp only[hn,hst]
  exact swp h fun h=>swp h fun h=>swp h fun h=>swp h fun h=>by
   by_cases c:vs.all (constantsAlone 8)=true
   ·rw[if_pos c]at h;exact nn h
   ·rw[if_neg c]at h ⊢;rw[← si h]
 all_goals exact si h▸rfl
theorem FM {sc:Scope}(hs:bI sc env) (hk:∀ x,env.kindOf x=sc.names.lookup x) (Hf:bC cx g V (env::l) n A env ρ f) (x:SS cx g h0 B l n A env V ρ k s) {ts:List Expr}{tk:Nat}{tp pos:Pos}{e:Expr}(hw:jE sc ts e=some none)
 (hp:PSt cx g h0 B l n A env ((f e k).bind fun d k=>(ofO (gq sc 4 (.Tuple ts tk tp) d ρ) k).bind fun ρ k=>.ok (none,ρ) k) s Q E):wpAny (model cx.prog cx.w) A (exec (.Assign [.Tuple ts tk tp] e pos) env) Q E s:=by
 refine Assign_Tuple (pi Hf x hp fun d k' h' tk' v x' _ rv hp'=>?_) fh (je hk x.st.fr.kind hw)
 exact Cn hp' fun ρ' ht hp'=>fY hs 4 _ d ρ ρ' k' _ v _ _ x'.st ht rv fun h2 tk2 t2 xb st2=>hp' h2 tk2 V (x'.upd xb st2)
theorem po {sc:Scope}{ts:List Expr}{ln:Nat}:∀ y∈ts.filterMap (gr sc ln),sc.names.lookup y=some .local:=fun y hy=>by
 obtain⟨t,_,ht⟩:=List.mem_filterMap.mp hy
 unfold gr at ht
 split at ht
 ·split at ht
  ·rename_i q
   obtain rfl:=si ht
   rw[Bool.and_eq_true]at q
   exact eq_of_beq q.1
  ·first | exact nn ht | exact ft ht | exact on ht | exact oe ht | cases ht
 ·first | exact nn ht | exact ft ht | exact on ht | exact oe ht | cases ht
theorem oP {sc:Scope}{ts:List Expr}{e:Expr}{names:List Str}(h:jE sc ts e=some (some names)):∀ y∈names,sc.names.lookup y=some .local:=by
 unfold jE at h
 induction hv:zh e using Option.casesOn with
 |none=>rw[hv]at h;exact nn (si h)
 |some q =>
  rw[hv]at h
  have h2:=swq (swq (swq (swq h)))
  by_cases c:q.1.1.all (constantsAlone 8)=true
  ·rw[if_pos c]at h2;exact nn h2
  ·rw[if_neg c]at h2;obtain rfl:=si (si h2);exact po
theorem pX (hk2:∀ y,env.kindOf y=some .local→True):∀(names:List Str) (vs:List Value) (ps:List PyData) (as:List Addr) (ρ:Rho) (s:Shared) {M:Model}{Q:Unit→Shared→Prop},SS cx g h0 B l n A env V ρ k s→(∀ y∈names,env.kindOf y=some .local)→names.length=ps.length→ReadsAll (hideAll s.heap V) vs ps as →
 (∀ h' tk',SS cx g h0 B l n A env V (qw (names.zip ps) ρ) k {s with heap:=h',toks:=tk'}→Q () {s with heap:=h',toks:=tk'}) →
 wpAny M A (assignInOrder (names.map fun n=>bindName env n) vs) Q E s
 |[],vs,ps,as,ρ,s,M,Q,x,_,hl,ra,h=>by
  induction ps using List.casesOn with
  |cons=>simp at hl
  |nil=>cases ra;exact wpAny_assignInOrder_none (h s.heap s.toks x)
 |y::r,vs,ps,as,ρ,s,M,Q,x,hn,hl,ra,h=>by
  induction ps using List.casesOn with
  |nil=>simp at hl
  |cons p pr =>
   cases ra with
   |@cons v vr _ _ _ _ r1 rr =>
   rw[List.map_cons]
   refine wpAny_assignInOrder_more (bindName_ (eQ x.st (hn y (.head _)) (d:=.py p) ⟨_,r1⟩ (fun q=>by injection q) fun h1 tk1 t1 hsb st1=>?_))
   have x1:=x.upd (tk':=tk1) hsb.extBut st1
   exact pX hk2 r vr pr _ _ _ x1 (fun z hz=>hn z (.tail _ hz)) (by simpa using hl) (ar (c8 x.st.fr.LV hsb.extBut) rr) fun h2 tk2 x2=>h h2 tk2 x2
theorem DR {sc:Scope}(hs:bI sc env) (hk:∀ x,env.kindOf x=sc.names.lookup x) (Hf:bC cx g V (env::l) n A env ρ f) (x:SS cx g h0 B l n A env V ρ k s) {ts:List Expr}{tk:Nat}{tp pos:Pos}{e:Expr}{names:List Str}(hw:jE sc ts e=some (some names))
 (hp:PSt cx g h0 B l n A env ((f e k).bind fun d k=>vx names ρ d k) s Q E):wpAny (model cx.prog cx.w) A (exec (.Assign [.Tuple ts tk tp] e pos) env) Q E s:=by
 refine Assign_Tuple_swapped (pi Hf x hp fun d k' h' tk' v x' _ rv hp'=>?_) fh (je hk x.st.fr.kind hw)
 refine dO hp' fun ps hd hp'=>gk hp' fun q hp'=>?_
 obtain⟨a,o,vs,nn,bs,e0,e1,e2,e3,ra⟩:=eK (bL (gT hd) rv)
 have hlen:=readsAll_len ra
 rw[Array.length_toList]at hlen
 have hq:=Nat.eq_of_beq_eq_true q
 rw[hq,← hlen,e0]
 refine wpAny_unpackItems_tuple x'.st.ao.handled (dE (of_hideAll V e1) e2 e3) fun h1 ex1=>?_
 have kp:Keeps' h' h1:=fun b o e=>ex1 b o (Nat.ne_of_lt (Heap.lt_size e)) e
 have x1:=x'.step (tk':=tk') x'.st.tk kp.ext (x'.st.good.keeps (s:={s with heap:=h',toks:=tk'}) kp)
 obtain⟨cs,rr⟩:=iM ra
 exact pX (fun _ _=>trivial) names.reverse vs.toList.reverse ps.reverse cs ρ _ x1 (fun y hy=>(hk y).trans (oP hw y (List.mem_reverse.mp hy))) (by simp[hq]) (ar (g4 kp V) rr) fun h2 tk2 x2=>hp' h2 tk2 V x2
end
noncomputable def oH (prog:Program) (w:World) (A:Around) (x C:Addr) (name:Str) (tk:Tok) (v:Value) (R:Result→Shared→Prop) (s:Shared):Prop :=
 (∀ b,wpAny (model prog w) A.in1 (Builtin.ObjectAttr.storeInOwnDict (.ref x) (.ref C) (.str name tk) name v b) (fun(fin:Fin) s'=>match fin with
  |.done f=>R (.ok f) s'
  |.again c'=>c'.quiet=true∧codeAny (model prog w) A c' R s') (fun e s'=>R (.error e) s') s)→codeAny (model prog w) A (.call (.builtin "object.__setattr__") ⟨[.ref x,.str name tk,v],[]⟩) R s
section
variable {prog:Program}{w:World}{A:Around}{E:Value→Shared→Prop}{s:Shared}{K:Frag}{x C dx:Addr}{ox:Obj}{es es':List DictEntry}{n n':Nat}{name:Str}{v:Value}
theorem ma {R:Result→Shared→Prop}{tk:Tok}(X:K.In s.heap) (I:InstAt s.heap x ox C (some (dictOf es n))) (hd:ox.dict=some dx)
 (op:oH prog w A x C name tk v R s) (hh:hasDictIn K C=true) (hl:(getL name es).isSome=true)
 (e:(putL name (PyData.keyHash w.params name) (.str name s.toks) v es,putN name es n)=(es',n')) (hz:es'.length≤1000)
 (h:∀ h',h'.get? dx=some (dictOf es' n')→Heap.SameBut dx s.heap h'→R (.ok (.ret .none)) {s with heap:=h',toks:=s.toks+1}) :
 codeAny (model prog w) A (.call (.builtin "object.__setattr__") ⟨[.ref x,.str name tk,v],[]⟩) R s:=by
 obtain⟨e1,e2⟩:=Prod.mk.inj e
 refine op fun b=>?_
 obtain⟨cd,hc,hd'⟩:=any_some hh
 obtain⟨hx,hcl,hn,hdd⟩:=I
 obtain⟨oc,odi,oda,osl⟩:=ox
 dsimp only at hcl hd
 subst hcl hd
 replace hdd:s.heap.get? dx=some (dictOf es n):=hdd
 refine wpAny_bind (wpAny_pure (wpAny_bind (wpAny_bind (wpAny_loadPart hx (wpAny_bind ((looks_clsIn X hc).here ?_))))))
 rw[hd']
 refine wpAny_pure (a:=some dx) (wpAny_bind (wpAny_pure (wpAny_bind ?_)))
 unfold nsSet
 refine wpAny_bind (wpAny_bind (wpAny_askSetting (wpAny_pure (wpAny_bind (wpAny_mkText (wpAny_bind (wpAny_loadPart hdd ?_)))))))
 have c:(!es.toArray.any (·.key.isStr name)&&es.toArray.any (·.refKey))=false:=by
  rw[← Array.any_toList,← Array.any_toList]
  unfold getL at hl
  split at hl
  ·rename_i en he
   rw[List.any_eq_true.mpr ⟨en,List.mem_of_find?_eq_some he,List.find?_some he⟩];rfl
  ·split at hl
   ·first | exact nn hl | exact ft hl | exact on hl | exact oe hl | cases hl
   ·rename_i z
    rw[Bool.not_eq_true]at z
    rw[show es.toArray.toList.any (·.refKey)=false from z,Bool.and_false]
 dsimp only
 rw[aRefKeyMayBeTheName_at,c]
 have eP:Obj.putName name (PyData.keyHash w.params name) (.str name s.toks) v (dictOf es n)=dictOf es' n':=by rw[putName_dict,e1,e2]
 have D':(s.heap.update dx (Obj.putName name (PyData.keyHash w.params name) (.str name s.toks) v)).get? dx=some (dictOf es' n'):=by
  rw[← eP]
  exact Heap.get?_update_self _ hdd (by rw[eP];rfl)
 refine wpAny_updatePart hdd ?_
 refine wpAny_bind (wpAny_lookBehind D' (by exact pastItsLine_dict (by rw[List.size_toArray,sizeLine_eq];omega)) ?_)
 exact wpAny_pure (h _ D' (Heap.SameBut.update ..))
theorem lZ {Q:Unit→Shared→Prop}(X:K.In s.heap) (I:InstAt s.heap x ox C (some (dictOf es n))) (hd:ox.dict=some dx)
 (hs:findIn K (.ref C) "__setattr__"=some (some (.builtin "object.__setattr__"))) (hp:plainOver K C=true) (ht:takerIn K C name=some none) (hh:hasDictIn K C=true) (hl:(getL name es).isSome=true)
 (e:(putL name (PyData.keyHash w.params name) (.str name (s.toks+1)) v es,putN name es n)=(es',n')) (hz:es'.length≤1000)
 (h:∀ h',h'.get? dx=some (dictOf es' n')→Heap.SameBut dx s.heap h'→Q () {s with heap:=h',toks:=s.toks+2}) :
 wpAny (model prog w) A (setAttr (.ref x) name v) Q E s :=
 set_plain X I hs (ma (s:={s with toks:=s.toks+1}) X I hd (fun q=>osa_open (s:={s with toks:=s.toks+1}) X I hp ht q) hh hl e hz fun h' a b=>h h' a b)
end
section
variable {cx:Sx}{g:Gh}{V:List Addr}{h0:Heap}{B:Bs}{l:List Env}{n:Nat}{A:Around}{env:Env}{ρ:Rho}{k:Nat}{s:Shared}{Q:Flow→Shared→Prop}{E:Value→Shared→Prop}{calls:Orc}
 {f:Expr→Nat→Out D}{fb:Expr→Nat→Out Bool}
theorem v3 {P:Params}{TL:Addr}{k k':Nat}{tk t1 t2 t3 t4 t tt:Tok}{a1 a2:Addr}{n:Nat}:(putL "at" (PyData.keyHash P "at") (.str "at" tt) (.int (Int.ofNat k') t) (kA P TL k tk t1 t2 t3 t4 a1 a2),putN "at" (kA P TL k tk t1 t2 t3 t4 a1 a2) n)=(kA P TL k' t t1 t2 t3 t4 a1 a2,n):=by
 have e1:Value.isStr (Value.str "tokens" t1) "at"=false:=by show(("tokens":Str)=="at")=false;decide
 have e2:Value.isStr (Value.str "at" t2) "at"=true:=by show(("at":Str)=="at")=true;decide
 simp[putL,putN,kA,e1,e2]
theorem NA (F:KF cx) {sc:Scope}(hs:bI sc env) (Hf:bC cx g V (env::l) n A env ρ f) (x:SS cx g h0 B l n A env V ρ k s) {y:Str}{yp ap pos:Pos}{e:Expr}(hr:aH ρ y=some .rdr) (ok:bh y=true) (q2:aO sc y .local=true)
 (hp:PSt cx g h0 B l n A env ((f e k).bind fun d _=>optK (kI d) fun k'=>.ok (none,ρ) k') s Q E):wpAny (model cx.prog cx.w) A (exec (.Assign [.Attribute (.Name y yp) "at" ap] e pos) env) Q E s:=by
 refine plainObj_wpAny_Assign_Attribute (pi Hf x hp fun d k1 h1 tk1 v x1 _ rv hp1=>dO hp1 fun k' hd hp1=>?_) (by induction e using Expr.casesOn<;>rfl)
 ·obtain⟨t,ev⟩:=au (bL (fP hd) rv)
  ·rw[ev]
   refine wB x1.st (jX hs (by nofun) q2) ok hr fun u ru=>?_
   obtain⟨hrd,eu⟩:=ru
   rw[eu]
   have G:=x1.st.good
   obtain⟨r1,⟨tk,t1,t2,t3,t4,a1,a2,nn,r2⟩,vs,r3⟩:=G.rd hrd
   have r1':=of_hideAll V r1
   refine lZ (s:={s with heap:=h1,toks:=tk1}) G.X ⟨r1',rfl,rfl,r2⟩ rfl F.rS F.rO F.rT F.rD (by rfl) v3 (by show(4:Nat)≤1000;decide) fun h2 hg hsb=>?_
   have xb:=hsb.extBut
   have RW:g.RD∈g.W cx:=Gh.rdW hrd
   have RV:g.RD∈V:=G.WV _ RW
   have ex:Ext (g.W cx) h1 h2:=⟨fun b o hb e=>xb b o (fun q=>hb (q▸RW)) e⟩
   have hid:=ex.hid (V:=V) G.WV
   refine hp1 h2 _ V (x1.step (by show 1≤tk1+2;omega) ex ⟨fun b o e=>xb b o (fun q=>?_) (G.keep b o e),fun b hb=>?_,G.WV,G.V0,fun t ht=>?_,fun _=>?_⟩)
   ·have:=G.V0 _ RV;rw[q,this]at e;injection e
   ·by_cases q:b=g.RD
    ·exact⟨_,q▸hg⟩
    ·obtain⟨o,e⟩:=G.alive b hb;exact⟨o,xb b o q e⟩
   ·exact G.tab hid ht fun o e=>xb _ _ (fun q=>by
     obtain⟨ps,e',_⟩:=G.tabs t ht
     cases(e'.symm.trans (q▸r2))) e
   ·obtain⟨o,on,c,c1⟩:=r3.1
    exact⟨hid _ _ r1,⟨t,t1,t2,t3,t4,a1,a2,nn,hg⟩,vs,⟨o,on,hid _ _ c,c1⟩,r3.2.keeps hid⟩
theorem SS.setBl (x:SS cx g h0 B l n A env V ρ k s) {y:Str}{ps ps':List PyData}{a:Addr}{vs vs':Array Value}{c c':Nat}{as:List Addr}{h':Heap}{tk':Nat}(hy:aH ρ y=some (.bl ps)) (hm:∀ m',s.heap.Ns env.locals m'→m' y=some (.ref a))
 (haV:a∈V) (haW:a∉g.W cx) (ha0:a∉g.V0) (ha:s.heap.get? a=some (listOf vs c)) (ha':h'.get? a=some (listOf vs' c')) (xb:Heap.ExtBut a s.heap h') (ra:ReadsAll (hideAll s.heap V) vs'.toList ps' as) (ht:1≤tk') :
 SS cx g h0 B l n A env V (bP ρ y (.bl ps')) k {s with heap:=h',toks:=tk'}:=by
 have hyk:=x.st.fr.blk y ps hy
 obtain⟨m,hn,hloc,hinj⟩:=x.st.fr.loc
 have my:=hm m hn
 obtain⟨oL,es,ep,eL,dL,r⟩:=id hn
 have hLa:env.locals≠a:=fun q=>by first | exact nn (ha.symm.trans (q▸eL)) | (rw[q,ha]at eL;obtain rfl:=si eL);injection dL
 have f1:∀ fd,(listOf vs c).data≠.func fd:=fun _=>nofun
 have f2:∀ ws q t,(listOf vs c).data=.fields ws→ws[1]?≠some (.str q t):=fun _ _ _=>nofun
 have f3:∀ w,(listOf vs c).data≠.cell w:=fun _=>nofun
 have mod:∀{z:Str}{u:Value}{d:D},aH ρ z=some d→(z=y→False)→m z=some u∨nb d=true→Rep cx g V s.heap u d→Rep cx g V h' u d:=fun {z u d} ez hz hu r=>r.mod haV ha xb f1 f2 (fun _=>f3) fun l' q=>by
  subst q
  rcases hu with hu | hu
  ·intro e
   rw[e]at hu
   exact hinj z y l' ps ez hy hz (hu.trans my.symm)
  ·first | exact nn hu | exact ft hu | exact on hu | exact oe hu | cases hu
 have h0a:h0.get? a=none:=(x.new a haV).resolve_left ha0
 have aB:a∈B.m∨B.h.get? a=none:=x.blB a haV ha0 _ vs c ha rfl
 have st:St cx g V (env::l) n A env (bP ρ y (.bl ps')) k {s with heap:=h',toks:=tk'}:=by
  refine⟨x.st.ao,x.st.ch.mod2 xb ha (fun _ _=>nofun),⟨x.st.fr.kind,x.st.fr.gl,x.st.fr.bi,x.st.fr.LV,x.st.fr.LW,⟨m,⟨oL,es,ep,xb _ _ hLa eL,dL,r⟩,fun z dz ez kz=>?_,fun z z' l1 l2 ez ez' hne=>?_⟩,fun z dz ez kz=>?_,x.st.fr.cd,fun z l1 ez=>?_⟩,x.st.good.mod haV haW xb ⟨_,ha'⟩,ht⟩
  ·rw[bF]at ez
   by_cases q:y=z
   ·subst q
    rw[if_pos rfl]at ez;obtain rfl:=si ez
    exact⟨_,my,a,vs',c',as,rfl,⟨haV,haW,ha0⟩,ha',ar (c8 haV xb) ra⟩
   ·rw[if_neg q]at ez
    obtain⟨u,b1,b2⟩:=hloc z dz ez kz
    exact⟨u,b1,mod ez (fun h=>q h.symm) (.inl b1) b2⟩
  ·rw[bF]at ez ez'
   by_cases q:y=z
   ·subst q
    rw[if_neg hne]at ez'
    exact hinj y z' ps l2 hy ez' hne
   ·rw[if_neg q]at ez
    by_cases q':y=z'
    ·subst q'
     exact hinj z y l1 ps ez hy hne
    ·rw[if_neg q']at ez'
     exact hinj z z' l1 l2 ez ez' hne
  ·rw[bF]at ez
   have q:¬ y=z:=fun q=>by subst q;rw[hyk]at kz;rcases kz with kz | kz<;>cases kz
   rw[if_neg q]at ez
   obtain⟨cc,u,b1,b2,⟨ob,b3,b4⟩,b5,b6⟩:=x.st.fr.cel z dz ez kz
   exact⟨cc,u,b1,b2,⟨ob,xb _ _ (fun q=>by first | exact nn (ha.symm.trans (q▸b3)) | (rw[q,ha]at b3;obtain rfl:=si b3);injection b4) b3,b4⟩,mod ez (fun h=>q h.symm) (.inr b6) b5,b6⟩
  ·rw[bF]at ez
   by_cases q:y=z
   ·subst q;exact hyk
   ·rw[if_neg q]at ez;exact x.st.fr.blk z l1 ez
 refine⟨st,x.sub,x.WV0,⟨fun b o hb eb=>xb b o (fun q=>by first | exact nn (h0a.symm.trans (q▸eb)) | (rw[q,h0a]at eb;cases eb)) (x.ext.keep b o hb eb)⟩,x.new,x.fr,x.fz,fun b o hb eb=>xb b o (fun q=>?_) (x.kept b o hb eb),x.locB,x.WB,
  fun b hb hv o ws q eo ed=>?_,fun b o eb=>?_,x.hid,x.newB,fun z hz=>?_,x.cellI,x.noFree⟩
 ·rcases aB with q' | q'
  ·exact hb (q▸q')
  ·rw[q,q']at eb;injection eb
 ·by_cases q2:b=a
  ·rw[q2];exact aB
  ·obtain⟨o',e'⟩:=x.st.good.alive b hb
   have:=xb b o' q2 e'
   replace eo:h'.get? b=some o:=eo
   first | exact nn (eo.symm.trans this) | (rw[eo]at this;obtain rfl:=si this)
   exact x.blB b hb hv o ws q e' ed
 ·by_cases q:b=a
  ·exact⟨_,q▸ha'⟩
  ·obtain⟨o',e'⟩:=x.alvB b o eb
   exact⟨o',xb _ _ q e'⟩
 ·obtain⟨cc,d1,d2,d3,d4,v',o,d5,d6⟩:=x.cellB z hz
  exact⟨cc,d1,d2,d3,d4,v',o,xb _ _ (fun q=>by first | exact nn (ha.symm.trans (q▸d5)) | (rw[q,ha]at d5;obtain rfl:=si d5);injection d6) d5,d6⟩
theorem pA {fn:Array Value→Array Value}{vs:Array Value}{c:Nat}:∃ c',Obj.mapSeq fn (listOf vs c)=listOf (fn vs) c':=by
 obtain⟨c',h⟩:=Obj.data_mapSeq (o:=listOf vs c) rfl fn
 exact⟨c',by
  induction hh:Obj.mapSeq fn (listOf vs c)using Obj.casesOn with
  |mk cls dict data slots =>
  rw[hh]at h
  have e:Obj.mapSeq fn (listOf vs c)={listOf vs c with data:=(Obj.mapSeq fn (listOf vs c)).data}:=rfl
  rw[hh]at e
  simp only at h e
  rw[e,h]⟩
theorem iB {h:Heap}{a:Addr}{fn:Array Value→Array Value}{vs:Array Value}{c:Nat}(ha:h.get? a=some (listOf vs c)):∃ c',(h.update a (Obj.mapSeq fn)).get? a=some (listOf (fn vs) c'):=by
 obtain⟨c',e⟩:=pA (fn:=fn) (vs:=vs) (c:=c)
 exact⟨c',by rw[← e];exact Heap.get?_update_self _ ha (by rw[e];rfl)⟩
theorem gL {P:Value→Shared→Prop}{F:List D→Nat→SO}(Hf:bC cx g V (env::l) n A env ρ f) (hstar:∀ x p k,f (.Starred x p) k=.no) (x:SS cx g h0 B l n A env V ρ k s) {pos:Pos}{fv:Value}{first:List Value}{es:List Expr}(hs:noStar es=true)
 (hk:∀ h',cx.K.In h'→gi (model cx.prog cx.w) h' fv) (hp:PSt cx g h0 B l n A env ((evs f es k).bind F) s Q E)
 (h:∀ ds k' h' tk' vs,SS cx g h0 B l n A env V ρ k' {s with heap:=h',toks:=tk'}→Ext (g.W cx) s.heap h'→RepAll cx g V h' vs ds→PSt cx g h0 B l n A env (F ds k') s Q E →
  wpAny (model cx.prog cx.w) A (call fv (first++vs)) P E {s with heap:=h',toks:=tk'}) :
 wpAny (model cx.prog cx.w) A (callWith pos fv first (backTo pos (starEach es env)) []) P E s:=by
 refine callWith_of (P:=fun h'=>cx.K.In h') (by rw[f4 hs];rfl) (fun h' X=>hk h' X) ?_
 have key:wpAny (model cx.prog cx.w) A (spliced (backTo pos (starEach es env))) (fun vs s₁=>cx.K.In s₁.heap∧wpAny (model cx.prog cx.w) A (call fv (first++vs)) P E s₁) E s :=
  jq Hf hstar es k s _ x.st (iO x hp fun ds k' h' tk' vs _ x' ex rs hp'=>⟨x'.st.good.X,h ds k' h' tk' vs x' ex rs hp'⟩)
 induction es using List.casesOn with
 |nil =>
  refine evalArgs_nil3 ?_
  exact⟨x.st.good.X,h [] k s.heap s.toks [] x (.refl _ _) trivial hp⟩
 |cons e r =>
  have he:starEach (e::r) env=(false,eval e env)::starEach r env:=cQ fun x p q=>by subst q;injection hs
  rw[he]at key ⊢
  exact evalArgs_plain key
end
section
variable {cx:Sx}{g:Gh}{V:List Addr}{h0:Heap}{B:Bs}{l:List Env}{n:Nat}{A:Around}{env:Env}{ρ:Rho}{k:Nat}{s:Shared}{Q:Flow→Shared→Prop}{E:Value→Shared→Prop}{calls:Orc}
 {f:Expr→Nat→Out D}{fb:Expr→Nat→Out Bool}
theorem pR {a b:Addr}{vs ws:Array Value}{c c2:Nat}{o:Obj}{P:Value→Shared→Prop}(ha:s.heap.get? a=some (listOf vs c)) (hb:s.heap.get? b=some o) (hc:o.cls=.type "list") (hd:o.data=.seq ws c2)
 (hz:vs.size+ws.size≤sizeLine) (h:P .none {s with heap:=s.heap.update a (Obj.mapSeq (·++ws))}):wpAny (model cx.prog cx.w) A (call (.builtin "list.extend") [.ref a,.ref b]) P E s:=by
 refine wpAny_call_entry PySem.F.slot_list_extend ⟨_,ha,rfl⟩ PySem.F.entry_list_extend ?_ (PySem.F.args_list_extend_2 _ _)
 unfold Builtin.«list.extend»
 refine wpAny_bind (wpAny_of_eq (a:=(Value.ref a,Value.ref b)) rfl ?_)
 unfold Builtin.List.listExtendWith
 refine wpAny_bind (wpAny_typeOf ⟨o,hb,hc⟩ ?_)
 have h1:(Builtin.List.listSameRef (.ref a) (.ref b)||Value.type "list"==Value.type "list"||Value.type "list"==Value.type "tuple")=true:=by simp
 dsimp only
 rw[if_pos h1]
 unfold Builtin.List.listItems
 refine wpAny_bind (wpAny_bind (wpAny_seqItems hb hd (wpAny_pure ?_)))
 refine wpAny_bind (wpAny_bind (wpAny_seqItems ha rfl (wpAny_pure ?_)))
 have h2:¬ (!vs.isEmpty&&Builtin.List.listTooLong (vs.size+ws.size))=true:=by
  simp[Builtin.List.listTooLong];intro _;exact hz
 rw[if_neg h2]
 show wpAny _ _ (updateSeq a (·++ws) >>= fun _=>ret .none) _ _ s
 refine wpAny_bind (wpAny_updateSeq ha rfl (wpAny_pure ⟨_,rfl,h⟩) (by omega) (by show(vs++ws).size≤sizeLine+1;rw[Array.size_append];omega))
noncomputable def za (m:Str):String:=if ac m "append" then "list.append" else if ac m "extend" then "list.extend" else "list.reverse"
theorem i9 {m:Str}(h:jy m=true):(m="append"∧za m="list.append")∨(m="extend"∧za m="list.extend")∨(m="reverse"∧za m="list.reverse"):=by
 unfold jy at h
 simp only[Bool.or_eq_true]at h
 rcases h with(h | h) | h
 ·obtain rfl:=(ay _ _).mp h;exact .inl ⟨rfl,by decide⟩
 ·obtain rfl:=(ay _ _).mp h;exact .inr (.inl ⟨rfl,by decide⟩)
 ·obtain rfl:=(ay _ _).mp h;exact .inr (.inr ⟨rfl,by decide⟩)
theorem Fn {a:Addr}{vs:Array Value}{c:Nat}{m:Str}(ha:s.heap.get? a=some (listOf vs c)) (hm:jy m=true) {M:Model}{pl:Sem Bool}{Q':Value×List Value→Shared→Prop}(h:Q' (.builtin (za m),[.ref a]) s):wpAny M A (getMethod (.ref a) m pl) Q' E s:=by
 have hT:s.TypeIs (.ref a) "list":=⟨_,ha,rfl⟩
 have nod:∀ b,Value.ref a=.ref b→∃ o,s.heap.get? b=some o∧o.dict=none:=fun b q=>by cases q;exact⟨_,ha,rfl⟩
 rcases i9 hm with⟨rfl,e⟩ | ⟨rfl,e⟩ | ⟨rfl,e⟩
 ·rw[e]at h;exact getMethod_builtin hT PySem.F.plainAttrs_list PySem.F.slot_list_append PySem.F.type_list_append nod h
 ·rw[e]at h;exact getMethod_builtin hT PySem.F.plainAttrs_list PySem.F.slot_list_extend PySem.F.type_list_extend nod h
 ·rw[e]at h;exact getMethod_builtin hT PySem.F.plainAttrs_list PySem.F.slot_list_reverse PySem.F.type_list_reverse nod h
theorem BE {a:Addr}{vs:Array Value}{c:Nat}{ps ps':List PyData}{as:List Addr}{m:Str}{ds:List D}{ws:List Value}{P:Value→Shared→Prop}(ha:s.heap.get? a=some (listOf vs c)) (ra:ReadsAll (hideAll s.heap V) vs.toList ps as) (rs:RepAll cx g V s.heap ws ds) (hm:jy m=true) (e:blM m ps ds=some ps')
 (h:∀ h' c' vs' as',h'.get? a=some (listOf vs' c')→Heap.SameBut a s.heap h'→ReadsAll (hideAll s.heap V) vs'.toList ps' as'→P .none {s with heap:=h'}) :
 wpAny (model cx.prog cx.w) A (call (.builtin (za m)) (.ref a::ws)) P E s:=by
 have hlen:=readsAll_len ra
 rw[Array.length_toList]at hlen
 have hT:s.TypeIs (.ref a) "list":=⟨_,ha,rfl⟩
 unfold blM at e
 rcases i9 hm with⟨rfl,ei⟩ | ⟨rfl,ei⟩ | ⟨rfl,ei⟩
 ·rw[ei]
  split at e
  ·rename_i p
   match ws,rs with
   |[w],⟨⟨bs,rw⟩,_⟩ =>
   rw[if_pos (db _)]at e
   split at e
   ·rename_i q
    obtain rfl:=si e
    obtain⟨c',e'⟩:=iB (fn:=fun xs=>xs.push w) ha
    obtain⟨cs,r⟩:=dr ra (.cons rw .nil)
    exact call_meets PySem.F.slot_list_append hT PySem.F.entry_list_append (PySem.F.args_list_append_2 _ _) (PySem.list_append a vs c w (by rw[hlen];exact cy q)) ⟨ha,h _ c' _ cs e' (Heap.SameBut.update ..) (by rw[Array.toList_push];exact r)⟩
   ·first | exact nn e | exact ft e | exact on e | exact oe e | cases e
  ·rw[if_neg (by decide)]at e;injection e
  ·first | exact nn e | exact ft e | exact on e | exact oe e | cases e
 ·rw[ei]
  split at e
  ·rename_i p
   match ws,rs with
   |[w],⟨⟨bs,rw⟩,_⟩ =>
   rw[if_neg (by decide),if_pos (db _)]at e
   split at e
   ·rename_i qs
    split at e
    ·rename_i q
     obtain rfl:=si e
     simp only[Bool.and_eq_true]at q
     obtain⟨b,o,us,c2,ds,rfl,e1,e2,e3,r2⟩:=de rw
     have hlen2:=readsAll_len r2
     rw[Array.length_toList]at hlen2
     obtain⟨c',e'⟩:=iB (fn:=fun xs=>xs++us) ha
     obtain⟨cs,r⟩:=dr ra r2
     refine pR ha (of_hideAll V e1) e2 e3 ?_ (h _ c' _ cs e' (Heap.SameBut.update ..) (by rw[Array.toList_append];exact r))
     have q1:=dK q.1
     have q2:=dK q.2
     rw[hlen,hlen2]
     have:(200000:Nat)≤sizeLine:=by decide
     omega
    ·first | exact nn e | exact ft e | exact on e | exact oe e | cases e
   ·first | exact nn e | exact ft e | exact on e | exact oe e | cases e
  ·rw[if_neg (by decide)]at e;injection e
  ·first | exact nn e | exact ft e | exact on e | exact oe e | cases e
 ·rw[ei]
  split at e
  ·rw[if_neg (by decide),if_neg (by decide)]at e;injection e
  ·match ws,rs with
   |[],_ =>
   rw[if_pos (db _)]at e
   split at e
   ·rename_i q
    obtain rfl:=si e
    obtain⟨c',e'⟩:=iB (fn:=fun xs=>xs.reverse) ha
    obtain⟨cs,r⟩:=iM ra
    exact call_meets PySem.F.slot_list_reverse hT PySem.F.entry_list_reverse (PySem.F.args_list_reverse_1 _) (PySem.AutoListH.list_reverse_list_0 a vs c (by rw[hlen];exact cy q)) ⟨ha,h _ c' _ cs e' (Heap.SameBut.update ..) (by rw[Array.toList_reverse];exact r)⟩
   ·first | exact nn e | exact ft e | exact on e | exact oe e | cases e
  ·first | exact nn e | exact ft e | exact on e | exact oe e | cases e
theorem ib {fe:Expr}{args:List Expr}{p:Pos}{t:Option Expr}{ln:Nat}:swapsWith (.Call fe args [] p) t ln env=pure false:=rfl
theorem lj (x:SS cx g h0 B l n A env V ρ k s):interactive env=false:=by
 unfold interactive;rw[x.st.fr.kind];rfl
theorem Nr (Hf:bC cx g V (env::l) n A env ρ f) (hstar:∀ x p k,f (.Starred x p) k=.no) (x:SS cx g h0 B l n A env V ρ k s) {y m:Str}{yp mp cp pos:Pos}{args:List Expr}{ps:List PyData}(hy:aH ρ y=some (.bl ps)) (hoy:bh y=true) (hc:bw (.Name y yp) mp cp args=true)
 (hm:jy m=true)
 (hp:PSt cx g h0 B l n A env ((evs f args k).bind fun ds k=>(ofO (blM m ps ds) k).bind fun l k=>.ok (none,bP ρ y (.bl l)) k) s Q E) :
 wpAny (model cx.prog cx.w) A (exec (.Expr (.Call (.Attribute (.Name y yp) m mp) args [] cp) pos) env) Q E s:=by
 have hns:noStar args=true:=by unfold bw at hc;simp only[Bool.and_eq_true]at hc;exact hc.1.1.1
 refine wpAny_Expr ?_ (lj x) ib
 refine methodCall_KW (oE x.st hoy hy fun a vs c as haV haW ha0 ha ra hmm=>Fn ha hm ?_) (bx hc)
 refine gL Hf hstar x hns (fun h' _=>dj _) hp fun ds k' h' tk' ws x' ex rs hp'=>?_
 induction hb:blM m ps ds using Option.casesOn with
 |none=>rw[hb]at hp';exact hp'.elim
 |some ps' =>
  rw[hb]at hp'
  have ha':=ex.keep _ _ haW ha
  refine BE (s:={s with heap:=h',toks:=tk'}) ha' (ar (ex.hid x.st.good.WV) ra) rs hm hb fun h2 c' vs' as' e' hsb r'=>?_
  refine hp' h2 tk' V (x'.setBl hy (fun m' hn'=>?_) haV haW ha0 ha' e' hsb.extBut r' x'.st.tk)
  obtain⟨m0,hn0,_⟩:=x.st.fr.loc
  have:=Heap.Ns.fn hn' (nt ex x.st.fr.LW hn0)
  subst this
  exact hmm m' hn0
theorem wc {h:Heap}{d:D}{v:Value}{P:Prop}(q:quiet d=true) (rv:Rep cx g V h v d) (w:(∀ a,v≠.ref a)→P):P:=by
 unfold quiet at q
 induction hd:pyV d using Option.casesOn with
 |none=>rw[hd]at q;exact ft q
 |some p =>
  rw[hd]at q
  have r:=eK (bL (cU hd) rv)
  induction p using PyData.casesOn with
  |none=>exact w fun a e=>nomatch (show v=.none from r).symm.trans e
  |bool b=>exact w fun a e=>nomatch (show v=.bool b from r).symm.trans e
  |_=>exact ft q
theorem E4 (Hf:bC cx g V (env::l) n A env ρ f) (x:SS cx g h0 B l n A env V ρ k s) {fe:Expr}{args:List Expr}{cp pos:Pos}
 (hp:PSt cx g h0 B l n A env ((f (.Call fe args [] cp) k).bind fun d k=>qD ρ d k) s Q E):wpAny (model cx.prog cx.w) A (exec (.Expr (.Call fe args [] cp) pos) env) Q E s:=by
 refine wpAny_Expr (pi Hf x hp fun d k' h' tk' v x' _ rv hp'=>?_) (lj x) ib
 refine gk hp' fun q hp'=>?_
 refine wc q rv fun h1=>?_
 have:=hp' h' tk' V x'
 induction v using Value.casesOn with
 |ref a=>exact(h1 a rfl).elim
 |_=>exact this
theorem ro (vs:Array Value):(vs.eraseIdxIfInBounds (vs.size-1)).toList=vs.toList.dropLast:=by
 rcases Nat.eq_zero_or_pos vs.size with h | h
 ·have:vs=#[]:=Array.size_eq_zero_iff.mp h
  subst this
  rfl
 ·rw[Array.eraseIdxIfInBounds,dif_pos (by omega),Array.toList_eraseIdx,← Array.length_toList,List.eraseIdx_length_sub_one]
theorem lL {h:Heap}{i:Nat}{vs:List Value}{ds:List PyData}{as:List Addr}(r:ReadsAll h vs ds as):∃ bs,ReadsAll h (vs.take i) (ds.take i) bs :=
 pg (M:=fun vs ds=>∀ i,∃ bs,ReadsAll h (vs.take i) (ds.take i) bs) (fun i=>by rw[List.take_nil,List.take_nil];exact⟨_,.nil⟩) (fun _ _ _ _ _ _ r _ ih i=>match i with
  |0=>⟨_,.nil⟩
  |i+1=>let⟨_,q⟩:=ih i;⟨_,.cons r q⟩) r i
theorem iN {h:Heap}{vs:List Value}{ds:List PyData}{as:List Addr}(r:ReadsAll h vs ds as):∃ bs,ReadsAll h vs.dropLast ds.dropLast bs:=by
 have hl:=readsAll_len r
 rw[List.dropLast_eq_take,List.dropLast_eq_take,hl]
 exact lL r
theorem lM {h:Heap}{vs:List Value}{ds:List PyData}{as:List Addr}(r:ReadsAll h vs ds as) {d:PyData}(e:ds.getLast?=some d):∃ v bs,vs[vs.length-1]?=some v∧Reads h v d bs:=by
 have hl:=readsAll_len r
 rw[List.getLast?_eq_getElem?]at e
 obtain⟨v,bs,h1,h2⟩:=cz r e
 exact⟨v,bs,by rw[hl];exact h1,h2⟩
theorem Ie {sc:Scope}(hs:bI sc env) (x:SS cx g h0 B l n A env V ρ k s) {y:Str}{yp mp cp tp pos:Pos}{ts:List Expr}{tk:Nat}{ps:List PyData}(hy:aH ρ y=some (.bl ps)) (hoy:bh y=true) (hc:bw (.Name y yp) mp cp []=true) (hsm:sm ps.length=true)
 (hp:PSt cx g h0 B l n A env (optK ps.getLast? fun d=>(ofO (gq sc 4 (.Tuple ts tk tp) (.py d) (bP ρ y (.bl ps.dropLast))) k).bind fun ρ k=>.ok (none,ρ) k) s Q E) :
 wpAny (model cx.prog cx.w) A (exec (.Assign [.Tuple ts tk tp] (.Call (.Attribute (.Name y yp) "pop" mp) [] [] cp) pos) env) Q E s:=by
 refine dO hp fun d hd hp=>Assign_Tuple ?_ fh rfl
 refine methodCall_KW (oE x.st hoy hy fun a vs c as haV haW ha0 ha ra hmm=>?_) (bx hc)
 have hT:s.TypeIs (.ref a) "list":=⟨_,ha,rfl⟩
 refine getMethod_builtin hT PySem.F.plainAttrs_list PySem.F.slot_list_pop PySem.F.type_list_pop (fun b q=>by cases q;exact⟨_,ha,rfl⟩) ?_
 refine callWith_of (P:=fun _=>True) rfl (fun h' _=>dj _) (evalArgs_nil3 ⟨trivial,?_⟩)
 have hlen:=readsAll_len ra
 rw[Array.length_toList]at hlen
 obtain⟨v,bs,hv,rv⟩:=lM ra hd
 rw[Array.length_toList,Array.getElem?_toList]at hv
 refine call_meets PySem.F.slot_list_pop hT PySem.F.entry_list_pop (PySem.F.args_list_pop_1 _) (PySem.MeetsSeq.list_pop_last a vs c v hv (by rw[hlen];exact cy hsm)) ⟨ha,?_⟩
 obtain⟨c',e'⟩:=iB (fn:=fun xs=>xs.eraseIdxIfInBounds (vs.size-1)) ha
 obtain⟨cs,rd⟩:=iN ra
 have xb:Heap.ExtBut a s.heap (s.heap.update a (Obj.mapSeq fun xs=>xs.eraseIdxIfInBounds (vs.size-1))):=(Heap.SameBut.update ..).extBut
 have x1:=x.setBl (tk':=s.toks) hy hmm haV haW ha0 ha e' xb (by rw[ro];exact rd) x.st.tk
 exact Cn hp fun ρ' ht hp=>fY hs 4 _ (.py d) _ ρ' k _ v _ _ x1.st ht ⟨_,Reads.keeps (c8 haV xb) rv⟩ fun h2 tk2 t2 xb2 st2=>hp h2 tk2 V (x1.upd xb2 st2)
end
structure GfOk (cx:Sx):Prop where
 cls:∃ nm q N bs bm hdct sn sub ab col dd k0 k1 k2 k3 k5 newId,cx.K.lookup cx.gf=some (excClassObj nm q cx.gf N bs bm hdct sn sub ab col dd k0 k1 k2 k3 k5 newId)∧bm.contains (.type "BaseException")=true
structure MadeF (cx:Sx) (g:Gh) (V:List Addr) (k:Nat) (h h':Heap) (x:Addr):Prop where
 ext:Ext (g.W cx) h h'
 good:Good cx g V h' k
 new:h.get? x=none
 obj:∃ t dd sl,h'.get? x=some {cls:=.ref cx.gf,dict:=dd,data:=.fields #[.ref t,.none,.none,.none,.bool false,.none],slots:=sl}
noncomputable def dJ (cx:Sx) (g:Gh) (n:Nat):Prop:=∃ fa,dR cx.K cx.rc "fault"=some fa∧keepIn cx.K (.ref fa)=true ∧
 ∀(V0 V:List Addr) (me:Option Addr) (k:Nat) (x:Str) (t:Tok) (s:Shared) (A:Around) (l:List Env) (Q:Value→Shared→Prop) (E:Value→Shared→Prop),AOk A n l→Chain cx g l s.heap→Good cx (g.at V0 me) V s.heap k→1≤s.toks→g.rdr=true →
  (∀ h' tk' x,1≤tk'→MadeF cx (g.at V0 me) V k s.heap h' x→Q (.ref x) {s with heap:=h',toks:=tk'})→wpAny (model cx.prog cx.w) A (call (.ref fa) [.ref g.R,.str x t]) Q E s
section
variable {cx:Sx}{g:Gh}{V:List Addr}{h0:Heap}{B:Bs}{l:List Env}{n:Nat}{A:Around}{env:Env}{ρ:Rho}{k:Nat}{s:Shared}{Q:Flow→Shared→Prop}{E:Value→Shared→Prop}{calls:Orc}
 {f:Expr→Nat→Out D}{fb:Expr→Nat→Out Bool}
theorem qC (GF:GfOk cx) {x:Sem Value}(hh:A.handled=none)
 (h:wpAny (model cx.prog cx.w) A x (fun v s₁=>cx.K.In s₁.heap∧∃ e t dd sl,v=.ref e∧s₁.heap.get? e=some {cls:=.ref cx.gf,dict:=dd,data:=.fields #[.ref t,.none,.none,.none,.bool false,.none],slots:=sl}∧E (.ref e) s₁) E s) :
 wpAny (model cx.prog cx.w) A (raiseStmt env (some x) none) Q E s:=by
 obtain⟨nm,q,N,bs,bm,hdct,sn,sub,ab,col,dd0,k0,k1,k2,k3,k5,newId,hK,hbase⟩:=GF.cls
 have hcB:(Value.ref cx.gf::bm).contains (.type "BaseException")=true:=by rw[List.contains_cons,hbase,Bool.or_true]
 unfold raiseStmt
 refine wpAny_bind (wpAny_mono h (fun v s₁ h₁=>?_) fun _ _ x=>x)
 obtain⟨X,e,t,dd,sl,rfl,he,hE⟩:=h₁
 have hC:=X _ _ hK
 obtain⟨hp,g,d,tk,os⟩:=s₁
 dsimp only at he hC
 repeat (first | with_reducible refine wpAny_loadPart_at he ?_ | with_reducible refine wpAny_loadPart_at hC ?_ | (with_reducible refine wpAny_isSubtype_exc hC ?_;rw[hcB]) | wp_step)
 exact wpAny_raiseNew_none hh hE
theorem lr {h:Heap}{base:Heap}:∀{l:List Env},Chain cx g l h→(∀ L∈l.filterMap (·.frame),base.get? L=none)→h.FunFrames base l
 |[],_,_=>trivial
 |e::r,c,hb=>by
  obtain⟨k1,L,o,q1,q2,q3,q4,es,m,q5⟩:=c e (.head _)
  refine⟨k1,⟨L,o,q1,hb L (List.mem_filterMap.mpr ⟨e,.head _,q1⟩),q4,fun vs q=>by first | exact nn (q5.symm.trans q) | (rw[q5]at q;injection q)⟩,lr (fun e' he'=>c e' (.tail _ he')) fun L' hL'=>hb L' ?_⟩
  obtain⟨e',he',q'⟩:=List.mem_filterMap.mp hL'
  exact List.mem_filterMap.mpr ⟨e',.tail _ he',q'⟩
theorem A4 {h h':Heap}{x:Addr}(c:Chain cx g l h) (G:Good cx g V h k) (M:MadeF cx g V k h h' x):Fl cx g l h h' (.ref x):=by
 obtain⟨ex,G',nx,t,dd,sl,hx⟩:=M
 have hin:∀{b o},h'.get? b=some o→b≠x→(hideAll h' [x]).get? b=some o:=fun e hb=>hideAll_get [x] e fun m=>hb (List.mem_singleton.mp m)
 have old:∀{b o},h.get? b=some o→b≠x:=fun e q=>by rw[q,nx]at e;injection e
 have c':=c.ext ex
 refine⟨hideAll h' [x],x,⟨fun b o hb e=>hin (ex.keep b o hb e) (old e)⟩,rfl,⟨fun t' ht=>?_,fun b o e=>hin (G'.keep b o e) (old (G.keep b o e)),l.filterMap (·.frame),fun L hL=>?_,.inl ⟨fun b o e=>of_hideAll _ e,hideAll_none _ (List.mem_singleton.mpr rfl),⟨_,_,_,hx,rfl,rfl,rfl,rfl⟩,?_⟩⟩⟩
 ·obtain⟨ps,e,r⟩:=G'.tabs t' ht
  have hW:t'.1∈g.W cx:=Gh.tabW _ (List.mem_map_of_mem ht)
  obtain⟨o,eo⟩:=G.alive _ (G.WV _ hW)
  refine⟨ps,hin e (old eo),r.imp id fun⟨c',e1,e2⟩=>⟨c',e1,?_⟩⟩
  obtain⟨c2,o2,vs,tt,q1,q2,q3,q4⟩:=e2
  refine⟨c2,o2,vs,tt,q1,hin (of_hideAll V q2) (fun q=>?_),q3,q4⟩
  rw[q]at q2
  have:=of_hideAll V q2
  rw[hx]at this;obtain rfl:=si this;cases q3;cases q4
 ·obtain⟨e,he,q⟩:=List.mem_filterMap.mp hL
  obtain⟨_,L',o,q1,q2,q3,q4,es,m,q5⟩:=c' e he
  obtain⟨_,L2,o2,p1,_,_,p4,_⟩:=c e he
  first | exact nn (q1.symm.trans q) | (rw[q1]at q;obtain rfl:=si q)
  first | exact nn (q1.symm.trans p1) | (rw[q1]at p1;obtain rfl:=si p1)
  exact⟨⟨o,hin q4 (old p4),fun vs q=>by first | exact nn (q5.symm.trans q) | (rw[q5]at q;injection q)⟩,q2,q3⟩
 ·exact lr c' fun L hL=>hideAll_none _ hL
theorem Ek {b:Bool}{P:Prop}(hp:PSt cx g h0 B l n A env (if b then .exc else .no) s Q E) (w:b=true→PSt cx g h0 B l n A env .exc s Q E→P):P:=by
 induction b using Bool.casesOn
 ·exact hp.elim
 ·exact w rfl hp
theorem uc {h:Heap}{ds:List D}{ws:List Value}{P:Prop}(q:qF ds=true) (rs:RepAll cx g V h ws ds) (w:∀ y t,ws=[.str y t]→P):P:=by
 unfold qF at q
 induction hd:one ds using Option.casesOn with
 |none=>rw[hd]at q;exact ft q
 |some d =>
  rw[hd]at q
  obtain rfl:=bB hd
  obtain⟨y,hy⟩:=Option.isSome_iff_exists.mp q
  refine tR rs fun v ew rv=>?_
  obtain⟨t,ev⟩:=av (bL (bD hy) rv)
  exact w y t (by rw[ew,ev])
theorem AS (F:KF cx) (GF:GfOk cx) (FO:dJ cx g n) (Hf:bC cx g V (env::l) n A env ρ f) (hstar:∀ x p k,f (.Starred x p) k=.no) (x:SS cx g h0 B l n A env V ρ k s) {o:Expr}{ap p pos:Pos}{args:List Expr}(hc:bw o ap p args=true)
 (hp:PSt cx g h0 B l n A env ((f o k).bind fun d k=>rm d (evs f args) k) s Q E):wpAny (model cx.prog cx.w) A (exec (.Raise (some (.Call (.Attribute o "fault" ap) args [] p)) none pos) env) Q E s:=by
 obtain⟨fa,h1,h2,h3⟩:=FO
 rw[arm_exec_Raise]
 show wpAny _ A (do standAt pos;raiseStmt env (some (do let v ← eval (.Call (.Attribute o "fault" ap) args [] p) env;standAt pos;pure v)) none) Q E s
 refine wpAny_bind (wpAny_standAt (qC GF x.st.ao.handled (wpAny_bind ?_)))
 refine methodCall_KW (pi Hf x hp fun d k1 hh1 tk1 v x1 _ rv hp1=>gk hp1 fun hd hp1=>?_) (bx hc)
 obtain⟨hr,ev⟩:=bL (gW hd) rv
 rw[ev]
 refine pz F x1.st.good hr h1 ?_
 refine gL Hf hstar x1 (am (am (am hc).1).1).1 (fun h' X=>keeps_K h2 h' X) hp1 fun ds k2 hh2 tk2 ws x2 ex2 rs hp2=>Ek hp2 fun hds hp2=>?_
 refine uc hds rs fun y t ew=>?_
 rw[ew]
 refine h3 g.V0 V g.me k2 y t _ A (env::l) _ E x2.st.ao x2.st.ch x2.st.good x2.st.tk hr fun h4 tk4 e ht made=>?_
 refine wpAny_bind (wpAny_standAt (wpAny_pure ⟨made.good.X,e,?_⟩))
 obtain⟨t',dd,sl,he⟩:=made.obj
 exact⟨t',dd,sl,rfl,he,hp2 h4 tk4 (.ref e) ht (.inl (Fl.trans x2.ext (A4 x2.st.ch x2.st.good made)))⟩
end
section
variable {cx:Sx}{g:Gh}{h0:Heap}{l:List Env}{n:Nat}{A:Around}{env:Env}{calls:Orc}
theorem kJ {e:Expr}{v:Str×Pos}(h:wn e=some v):e=.Name v.1 v.2:=by
 obtain⟨q,_,rfl⟩:=Option.map_eq_some_iff.mp h;exact q.2
theorem fx {e:Expr}{v:(Expr×Str×Pos)×List Expr×Pos}(h:nZ e=some v):e=.Call (.Attribute v.1.1 v.1.2.1 v.1.2.2) v.2.1 [] v.2.2:=by
 obtain⟨a,_,h⟩:=Option.bind_eq_some_iff.mp h
 obtain⟨n,_,h⟩:=Option.bind_eq_some_iff.mp h
 obtain⟨w,h1,rfl⟩:=Option.map_eq_some_iff.mp h
 exact a.2.trans (by rw[← ix h1,← n.1])
theorem qT {e:Expr}{v:List Expr}(h:Cv e=some v):∃ p,e=.List v p:=by
 obtain⟨q,_,rfl⟩:=Option.map_eq_some_iff.mp h;exact⟨_,q.2⟩
theorem s9 {e:Expr}{v:List Expr×Nat×Pos}(h:FP e=some v):e=.Tuple v.1 v.2.1 v.2.2:=by
 obtain⟨q,_,rfl⟩:=Option.map_eq_some_iff.mp h;exact q.2
theorem tX {e:Expr}{v:(Expr×Str×Pos)×(Str×Pos)×Pos}(h:Ig e=some v):e=.Call (.Attribute (.Name v.2.1.1 v.2.1.2) v.1.2.1 v.1.2.2) [] [] v.2.2:=by
 obtain⟨w,hw,h⟩:=Option.bind_eq_some_iff.mp h
 obtain⟨n,_,h⟩:=Option.bind_eq_some_iff.mp h
 obtain⟨x,hx,rfl⟩:=Option.map_eq_some_iff.mp h
 exact(fx hw).trans (by rw[n.1,kJ hx])
section
variable {V:List Addr}{ρ:Rho}{k:Nat}{s:Shared}{Q:Flow→Shared→Prop}{E:Value→Shared→Prop}{B:Bs}
theorem yH {f:Expr→Nat→Out D}(Hf:bC cx g V (env::l) n A env ρ f) (hst:∀ x p k,f (.Starred x p) k=.no) (x:SS cx g h0 B l n A env V ρ k s) {e:Expr}{pos:Pos}
 (hp:PSt cx g h0 B l n A env (CS (cx.C g calls) f e ρ k) s Q E):wpAny (model cx.prog cx.w) A (exec (.Expr e pos) env) Q E s:=by
 refine dO hp fun v hv hp=>dO hp fun y hy hp=>?_
 rw[fx hv]
 refine ph hp (fun q hq hp=>gk hp fun h hp=>?_) fun _ hp=>E4 Hf x (by rw[← fx hv];exact hp)
 rw[kJ hy]
 exact Nr Hf hst x (yx hq) (am (am h).1).1 (am (am h).1).2 (am h).2 hp
theorem BN (F:KF cx) {sc:Scope}(hs:bI sc env) (hk:∀ x,env.kindOf x=sc.names.lookup x) {f:Expr→Nat→Out D}(Hf:bC cx g V (env::l) n A env ρ f) (hst:∀ x p k,f (.Starred x p) k=.no) (x:SS cx g h0 B l n A env V ρ k s) {t e:Expr}{pos:Pos}
 (HA:∀ y yp,PSt cx g h0 B l n A env (Fq sc f y e ρ k) s Q E→wpAny (model cx.prog cx.w) A (exec (.Assign [.Name y yp] e pos) env) Q E s)
 (hp:PSt cx g h0 B l n A env (KE sc f t e ρ k) s Q E):wpAny (model cx.prog cx.w) A (exec (.Assign [t] e pos) env) Q E s:=by
 refine ph hp (fun y hy hp=>?_) fun _ hp=>ph hp (fun w hw hp=>?_) fun _ hp=>dO hp fun v hv hp=>dO hp fun y hy hp=>?_
 ·obtain⟨yp,ey⟩:=ij hy
  rw[ey]
  refine ph hp (fun es he hp=>?_) fun _ hp=>HA y yp hp
  obtain⟨_,e1⟩:=qT he
  rw[e1]
  exact IM hs Hf hst x hp
 ·rw[s9 hw]
  refine ph hp (fun v hv hp=>?_) fun _ hp=>dO hp fun w hw hp=>?_
  ·refine dO hp fun q hy hp=>gk hp fun h hp=>?_
   obtain⟨h,h4⟩:=am h
   obtain⟨h,h3⟩:=am h
   rw[tX hv,(ay _ _).mp h3]
   exact Ie hs x (yx hy) (am h).1 (am h).2 h4 hp
  ·induction w using Option.casesOn with
   |none=>exact FM hs hk Hf x hw hp
   |some names=>exact DR hs hk Hf x hw hp
 ·obtain⟨yp,ey⟩:=ij hy
  rw[ix hv,ey]
  refine gk hp fun h hp=>dO hp fun r hr hp=>gk hp fun h1 hp=>?_
  obtain⟨h,h4⟩:=am h
  rw[(ay _ _).mp (am h).1]
  exact NA F hs Hf x (gW h1▸hr) (am h).2 h4 hp
theorem AT (F:KF cx) (GF:GfOk cx) (FO:dJ cx g n) {f:Expr→Nat→Out D}(Hf:bC cx g V (env::l) n A env ρ f) (hst:∀ x p k,f (.Starred x p) k=.no) (x:SS cx g h0 B l n A env V ρ k s) {e:Expr}{pos:Pos}
 (hp:PSt cx g h0 B l n A env (Ia f e k) s Q E):wpAny (model cx.prog cx.w) A (exec (.Raise (some e) none pos) env) Q E s:=by
 refine dO hp fun v hv hp=>gk hp fun h hp=>?_
 rw[fx hv,(ay _ _).mp (am h).1]
 exact AS F GF FO Hf hst x (am h).2 hp
end
theorem rC {e:Expr}{c:Cx}{sc:Scope}(m:Nat) (h:lb e=true):(∃ elt gens sc' p,e=.ListComp elt gens sc' p)∨∀ ρ k,evE c sc m ρ e k=.no:=by
 induction e using Expr.casesOn<;>first | exact ft h | exact .inl ⟨_,_,_,_,rfl⟩ | exact .inr fun _ _=>by induction m using Nat.casesOn<;>rfl
theorem gF (F:KF cx) (GF:GfOk cx) (O:OOk cx g calls n) (FO:dJ cx g n) (ab:AB A n) {sc:Scope}(hs:bI sc env) (hk:∀ x,env.kindOf x=sc.names.lookup x):∀ m,Fv cx g h0 l n A env (exS (cx.C g calls) sc m):=by
 intro m
 induction m with
 |zero=>intro B st V ρ k s Q E x hp;exact hp.elim
 |succ m ih =>
  intro B st V ρ k s Q E x hp
  have Hf:∀ V ρ,bC cx g V (env::l) n A env ρ (evE (cx.C g calls) sc m ρ):=fun V ρ=>(gb F O ab m).1 V (env::l) env sc ρ hs
  have Hb:∀ V ρ,iz cx g V (env::l) n A env ρ (evB (cx.C g calls) sc m ρ):=fun V ρ=>(gb F O ab m).2 V (env::l) env sc ρ hs
  have hst:=fun ρ=>lz (cx.C g calls) sc m ρ
  induction st using Stmt.casesOn with
  |Pass=>exact Em x hp
  |Expr=>exact yH (calls:=calls) (Hf V ρ) (hst ρ) x hp
  |Assign ts e =>
   refine dO hp fun t ht hp=>?_
   rw[bB ht]
   refine BN F hs hk (Hf V ρ) (hst ρ) x (fun y yp hp=>?_) hp
   induction hi:lb e using Bool.casesOn with
   |false=>exact KG hs (Hf V ρ) x hi hp
   |true =>
    refine(rC (c:=cx.C g calls) (sc:=sc) m hi).elim (fun⟨elt,gens,sc',p,ee⟩=>?_) fun h=>?_
    ·rw[ee]at hp ⊢
     induction m using Nat.casesOn with
     |zero=>exact hp.elim
     |succ m =>
      replace hp:PSt cx g h0 B l n A env ((yV sc ρ (evE (cx.C g calls) sc m ρ) (evB (cx.C g calls) sc' m) (evE (cx.C g calls) sc' m) elt gens sc' k).bind fun d k=>if oV sc ρ y d then .ok (none,bP ρ y d) k else .no) s Q E:=hp
      refine AV hp fun gc h1 hp=>El hp fun h hp=>?_
      obtain⟨t,it,ifs,a⟩:=gc
      rw[bB h1,show a=0 from eq_of_beq (am (am h).1).1]
      exact Fg hs x (am (am h).1).2 (am h).2 ((gb F O ab m).1 V (env::l) env sc ρ hs) (fun V' cenv ρ' hc=>(gb F O ab m).1 V' (env::l) cenv _ ρ' hc) (fun V' cenv ρ' hc=>(gb F O ab m).2 V' (env::l) cenv _ ρ' hc) hp
    ·unfold Fq at hp
     rw[h]at hp
     exact hp.elim
  |If=>exact M3 ih (Hb V ρ) x hp
  |While t b o =>
   refine gk hp fun h hp=>?_
   rw[List.isEmpty_iff.mp h]
   exact zf (gG ih _) Hb x hp
  |For t it b o =>
   refine gk hp fun h hp=>?_
   rw[List.isEmpty_iff.mp (am h).1]
   exact Jg (gG ih _) hs (Hf V ρ) x (am h).2 hp
  |Return e=>induction e using Option.casesOn with
   |none=>exact Ee x hp
   |some e=>exact HF (Hf V ρ) x hp
  |Raise e c'=>induction c' using Option.casesOn with
   |some=>exact hp.elim
   |none=>induction e using Option.casesOn with
    |none=>exact hp.elim
    |some e=>exact AT F GF FO (Hf V ρ) (hst ρ) x hp
  |_=>exact hp.elim
end
section
variable {cx:Sx}{g:Gh}{V:List Addr}{l:List Env}{n:Nat}{A:Around}{k:Nat}{s:Shared}{Q:Value→Shared→Prop}{E:Value→Shared→Prop}{calls:Orc}
structure FnOk (K:Frag) (fd:FuncData):Prop where
 gl:fd.globals=mainGlobals
 bi:fd.builtins=builtinsNs
 clo:fd.closure=[]
 code:codeIn K fd.code fd.qualname=true
 kind:fd.scope.kind=.function
 gen:fd.scope.isGenerator=false
 co:fd.scope.isCoroutine=false
 free:∀ x,fd.scope.names.lookup x≠some .free
 par:∀ a∈fd.params.args,fd.scope.names.lookup a.arg=some .local∨fd.scope.names.lookup a.arg=some .cell
theorem Bi {K:Frag}{fd:FuncData}(h:ir K fd=true):FnOk K fd:=by
 unfold ir at h
 simp only[Bool.and_eq_true,Bool.not_eq_true']at h
 obtain⟨⟨⟨⟨⟨⟨⟨⟨h1,h2⟩,h3⟩,h4⟩,h5⟩,h6⟩,h7⟩,h8⟩,h9⟩:=h
 refine⟨Nat.eq_of_beq_eq_true h1,Nat.eq_of_beq_eq_true h2,List.isEmpty_iff.mp h3,h4,by revert h5;induction fd.scope.kind using ScopeKind.casesOn<;>simp,h6,h7,fun x e=>?_,fun a ha=>?_⟩
 ·have:=List.all_eq_true.mp h8 _ (mem_of_lookup e)
  injection this
 ·have:=List.all_eq_true.mp h9 a ha
  simp only[Bool.or_eq_true]at this
  exact this.imp bc bc
theorem cX {x:Str}:∀{names:List (Str×NameKind)}{m:Nat}{acc:List (Str×Addr)},((x,NameKind.cell)∈names∨(acc.lookup x).isSome=true)→((cellsFrom m names acc).lookup x).isSome=true
 |[],m,acc,h=>by
  rcases h with h | h
  ·first | exact nn h | exact ft h | exact on h | exact oe h | cases h
  ·exact h
 |(y,kd)::r,m,acc,h=>by
  unfold cellsFrom
  by_cases hk:(kd==NameKind.cell)=true
  ·rw[if_pos hk]
   refine cX ?_
   by_cases hx:x=y
   ·refine .inr ?_
    rw[List.lookup_cons,hx];simp
   ·rcases h with h | h
    ·rcases List.mem_cons.mp h with e | h
     ·cases e;exact absurd rfl hx
     ·exact .inl h
    ·refine .inr ?_
     rw[List.lookup_cons]
     have:(x==y)=false:=beq_eq_false_iff_ne.mpr hx
     rw[this];exact h
  ·rw[if_neg hk]
   refine cX ?_
   rcases h with h | h
   ·rcases List.mem_cons.mp h with e | h
    ·cases e;exact absurd rfl hk
    ·exact .inl h
   ·exact .inr h
theorem mZ {kindOf:Str→Option NameKind}{x:Str}:∀{ns:List Str}{vs:List Value}{m:Str→Option Value},x∉ns→bindL kindOf (ns.zip vs) m x=m x
 |[],_,_,_=>rfl
 |_::_,[],_,_=>rfl
 |y::ns,v::vs,m,h=>by
  rw[List.zip_cons_cons]
  unfold bindL
  rw[mZ fun q=>h (.tail _ q)]
  split
  ·exact if_neg fun(q:x=y)=>h (q▸.head _)
  ·rfl
theorem m7 {kindOf:Str→Option NameKind}{x:Str}:∀{ns:List Str}{vs:List Value}{m:Str→Option Value},x∉ns→bindC kindOf (ns.zip vs) m x=m x
 |[],_,_,_=>rfl
 |_::_,[],_,_=>rfl
 |y::ns,v::vs,m,h=>by
  rw[List.zip_cons_cons]
  unfold bindC
  rw[m7 fun q=>h (.tail _ q)]
  split
  ·rfl
  ·exact if_neg fun(q:x=y)=>h (q▸.head _)
theorem ow {x:Str}{d:D}:∀{ns:List Str}{ds:List D},aH (ns.zip ds) x=some d→x∈ns
 |[],_,h=>by injection h
 |_::_,[],h=>by injection h
 |y::ns,e::ds,h=>by
  rw[List.zip_cons_cons,aY]at h
  split at h
  ·rename_i q;exact q▸.head _
  ·exact .tail _ (ow h)
theorem mU {h:Heap}{kindOf:Str→Option NameKind}{x:Str}{d:D}:∀{ns:List Str}{vs:List Value}{ds:List D}{m:Str→Option Value},ns.Nodup→vs.length=ns.length→RepAll cx g V h vs ds→aH (ns.zip ds) x=some d→kindOf x=some .local →
 ∃ v,bindL kindOf (ns.zip vs) m x=some v∧Rep cx g V h v d
 |[],_,_,_,_,_,_,h,_=>by injection h
 |y::ns,v::vs,e::ds,m,nd,hl,⟨r,rs⟩,hg,hk=>by
  obtain⟨n1,n2⟩:=List.nodup_cons.mp nd
  rw[List.zip_cons_cons,aY]at hg
  rw[List.zip_cons_cons]
  unfold bindL
  split at hg
  ·rename_i q
   subst q
   obtain rfl:=si hg
   refine⟨v,?_,r⟩
   rw[mZ n1,if_pos hk]
   exact if_pos rfl
  ·exact mU n2 (by simpa using hl) rs hg hk
 |_::_,[],[],_,_,hl,_,_,_=>by simp at hl
 |_::_,[],_::_,_,_,_,r,_,_=>r.elim
 |_::_,_::_,[],_,_,_,r,_,_=>r.elim
theorem mX {h:Heap}{kindOf:Str→Option NameKind}{x:Str}{d:D}:∀{ns:List Str}{vs:List Value}{ds:List D}{m:Str→Option Value},ns.Nodup→vs.length=ns.length→RepAll cx g V h vs ds→aH (ns.zip ds) x=some d→kindOf x=some .cell →
 ∃ v,bindC kindOf (ns.zip vs) m x=some v∧Rep cx g V h v d
 |[],_,_,_,_,_,_,h,_=>by injection h
 |y::ns,v::vs,e::ds,m,nd,hl,⟨r,rs⟩,hg,hk=>by
  obtain⟨n1,n2⟩:=List.nodup_cons.mp nd
  rw[List.zip_cons_cons,aY]at hg
  rw[List.zip_cons_cons]
  unfold bindC
  split at hg
  ·rename_i q
   subst q
   obtain rfl:=si hg
   refine⟨v,?_,r⟩
   rw[m7 n1,if_neg (by rw[hk];decide)]
   exact if_pos rfl
  ·exact mX n2 (by simpa using hl) rs hg hk
 |_::_,[],[],_,_,hl,_,_,_=>by simp at hl
 |_::_,[],_::_,_,_,_,r,_,_=>r.elim
 |_::_,_::_,[],_,_,_,r,_,_=>r.elim
theorem g7 {x:Str}{d:D}:∀{ns:List Str}{ds:List D},ds.all nb=true→aH (ns.zip ds) x=some d→nb d=true
 |[],_,_,h=>by injection h
 |_::_,[],_,h=>by injection h
 |y::ns,e::ds,ha,h=>by
  rw[List.all_cons,Bool.and_eq_true]at ha
  rw[List.zip_cons_cons,aY]at h
  split at h
  ·obtain rfl:=si h;exact ha.1
  ·exact g7 ha.2 h
theorem wj (K:Frag) (v:Value):nb (hY K v)=true:=by
 unfold hY;split<;>rfl
theorem rK (G:Good cx (g) V s.heap k) {fd:FuncData}{vs:List Value}{args:List D}{ρ:Rho}(rs:RepAll cx g V s.heap vs args) (hnb:args.all nb=true) (e:dk cx.K fd args=some ρ) :
 ∃ ns vs' ds',ρ=ns.zip ds'∧ns=fd.params.args.map (·.arg)∧ns.Nodup∧vs'.length=ns.length∧RepAll cx g V s.heap vs' ds'∧ds'.all nb=true∧BindsTo s fd ⟨vs,[]⟩ (ns.zip vs'):=by
 unfold dk at e
 split at e
 ·rename_i as kd df hp
  have hpar:fd.params.args=as:=by rw[hp]
  split at e
  ·rename_i dvs hd
   have seq:∀(M:Model) (A:Around) (E:Value→Shared→Prop) (Q:Option (Array Value)→Shared→Prop),(∀ o:Option (Array Value),(o.getD #[]).toList=dvs→Q o s)→wpAny M A (seqItems? fd.defaults) Q E s:=by
    intro M A E Q h
    unfold C3 at hd
    split at hd
    ·rename_i h1
     obtain rfl:=si hd
     rw[h1]
     exact wpAny_pure (h none rfl)
    ·rename_i T h1
     split at hd
     ·rename_i vs m sl hT
      obtain rfl:=si hd
      rw[h1]
      exact wpAny_seqItems (G.X _ _ hT) rfl (h (some vs) rfl)
     ·first | exact nn hd | exact ft hd | exact on hd | exact oe hd | cases hd
    ·first | exact nn hd | exact ft hd | exact on hd | exact oe hd | cases hd
   split at e
   ·rename_i hnd
    have nd:=kF hnd
    have hlen:=cR rs
    split at e
    ·rename_i q
     obtain rfl:=si e
     have hq:=Nat.eq_of_beq_eq_true q
     exact⟨_,vs,args,rfl,by rw[hpar],nd,by rw[hlen,hq];simp,rs,hnb,mY hp nd vs (by rw[hlen,hq]) seq⟩
    ·split at e
     ·rename_i q
      have hq:=Nat.eq_of_beq_eq_true q
      split at e
      ·rename_i dv hdv
       obtain rfl:=si e
       refine⟨_,vs++[dv],args++[hY cx.K dv],rfl,by rw[hpar],nd,by simp[hlen,← hq],?_,by simp[hnb,wj],rL hp nd vs (by rw[hlen,hq]) hdv seq⟩
       have:∀{ws:List Value}{ds:List D},RepAll cx g V s.heap ws ds→RepAll cx g V s.heap (ws++[dv]) (ds++[hY cx.K dv]):=by
        intro ws
        induction ws with
        |nil=>intro ds r;induction ds using List.casesOn with
         |nil=>exact⟨i0 G dv,trivial⟩
         |cons=>exact r.elim
        |cons w ws ih=>intro ds r;induction ds using List.casesOn with
         |nil=>exact r.elim
         |cons d ds=>exact⟨r.1,ih r.2⟩
       exact this rs
      ·first | exact nn e | exact ft e | exact on e | exact oe e | cases e
     ·first | exact nn e | exact ft e | exact on e | exact oe e | cases e
   ·first | exact nn e | exact ft e | exact on e | exact oe e | cases e
  ·first | exact nn e | exact ft e | exact on e | exact oe e | cases e
 ·first | exact nn e | exact ft e | exact on e | exact oe e | cases e
end
section
variable {cx:Sx}{g:Gh}{V:List Addr}{l:List Env}{n:Nat}{A:Around}{k:Nat}{s:Shared}{Q:Value→Shared→Prop}{E:Value→Shared→Prop}{calls:Orc}
structure Entered (cx:Sx) (g:Gh) (s:Shared) (l:List Env) (n:Nat) (A:Around) (fd:FuncData) (env:Env) (V V':List Addr) (ρ:Rho) (k:Nat) (h₁:Heap) (tk₁:Nat):Prop where
 ss:SS cx g s.heap ⟨h₁,V',V'⟩ l n (A.deeper env) env V' ρ k {s with heap:=h₁,toks:=tk₁}
 keep:Keeps' s.heap h₁
 sc:bI fd.scope env
 kof:∀ y,env.kindOf y=fd.scope.names.lookup y
 ab:AB (A.deeper env) n
 fr:(A.deeper env).frames=some (env::l)
 ef:env.frame=some env.locals
 sub:∀ b∈V,b∈V'
 new:∀ b∈V',b∈V∨s.heap.get? b=none
theorem gK {R:Result→Shared→Prop}{V0 V:List Addr}{me:Option Addr}{f:Addr}{args:List D}{vs:List Value}(ao:AOk A (n+1) l) (ch:Chain cx g l s.heap) (G:Good cx (g.at V0 me) V s.heap k) (ht:1≤s.toks) (hnb:args.all nb=true) (rs:RepAll cx (g.at V0 me) V s.heap vs args)
 {oc:Value}{od:Option Addr}{osl:Array (Option Value)}{fd:FuncData}{ρ:Rho}{b:List Stmt}(hK:cx.K.lookup f=some ⟨oc,od,.func fd,osl⟩) (hb:dk cx.K fd args=some ρ) (hbody:fd.body=.stmts b) (hfn:ir cx.K fd=true)
 (H:∀ env V' h₁ tk₁,Entered cx (g.at V (some f)) s l n A fd env V V' ρ k h₁ tk₁→wpAny (model cx.prog cx.w) (A.deeper env) (execs b env) (fun fl s'=>R (.ok (.ret (match fl with | .ret v=>v | _=>.none))) s') (fun e s'=>wpAny (model cx.prog cx.w) (A.deeper env) (leaving env e) (fun _ s''=>R (.error e) s'') (fun e' s''=>R (.error e') s'') s') {s with heap:=h₁,toks:=tk₁}) :
 codeAny (model cx.prog cx.w) A (.call (.ref f) ⟨vs,[]⟩) R s:=by
 have FN:=Bi hfn
 obtain⟨ns,vs',ds',rfl,hns,hnd,hlen,rs',hnb',hbind⟩:=rK (s:=s) G rs hnb hb
 obtain⟨hd1,hd2,hd3⟩:=ao.deep (env:=default)
 refine codeAny_call_function (by have:=ao.depth;show A.depth<1000;omega) (G.X _ _ hK) rfl FN.co FN.gen hbody (codeRec_of G.X FN.code) ?_
 refine hbind _ _ _ _ ?_
 rw[FN.clo]
 refine wpAny_with_toks ht (wpAny_newFunctionEnv_cells FN.kind (fun y hy=>?_) fun env henv s' IC ht'=>?_)
 ·have hmem:y.1∈ns:=by
   have:=List.of_mem_zip (show(y.1,y.2)∈ns.zip vs' from hy)
   exact this.1
  rw[hns]at hmem
  obtain⟨a,ha,hay⟩:=List.mem_map.mp hmem
  rcases FN.par a ha with q | q
  ·exact .inl (hay▸q)
  ·refine .inr ⟨hay▸q,cX (.inl ?_)⟩
   exact mem_of_lookup (hay▸q)
 ·have ht':1≤s'.toks:=ht'
  obtain⟨⟨⟨h₁,tk₁,hs'⟩,hns1,hkeep,hfresh⟩,hcell,hapart,habove⟩:=IC
  subst hs'
  have hk₁:Keeps' s.heap h₁:=hkeep
  have hL:env.locals=s.heap.objs.size:=by rw[henv];rfl
  have hfrm:env.frame=some s.heap.objs.size:=by rw[henv];rfl
  have hkof:∀ y,env.kindOf y=fd.scope.names.lookup y:=fun y=>by rw[henv];rfl
  have hkind:env.scope.kind=.function:=by rw[henv];exact FN.kind
  have hLn:s.heap.get? env.locals=none:=by rw[hL];exact bv (Nat.le_refl _)
  have hcn:∀ y c,(y,c)∈env.cells→s.heap.get? c=none:=fun y c hc=>bv (Nat.le_of_lt (by have:=habove y c hc;rw[hL]at this;exact this))
  let CV:=env.cells.filterMap fun p=>env.cells.lookup p.1
  have hcv:∀ c∈CV,∃ y,env.cells.lookup y=some c:=fun c hc=>by
   obtain⟨p,hp,e⟩:=List.mem_filterMap.mp hc
   exact⟨p.1,e⟩
  have hvc:∀ y c,env.cells.lookup y=some c→c∈CV:=fun y c e=>List.mem_filterMap.mpr ⟨(y,c),mem_of_lookup e,e⟩
  have hV':∀ b∈env.locals::(CV++V),b∈V∨(s.heap.get? b=none∧∃ o,h₁.get? b=some o):=fun b hb=>by
   rcases List.mem_cons.mp hb with rfl | hb
   ·exact .inr ⟨hLn,let⟨o,_,_,e,_⟩:=hns1;⟨o,e⟩⟩
   ·rcases List.mem_append.mp hb with hb | hb
    ·obtain⟨y,hy⟩:=hcv b hb
     exact .inr ⟨hcn y b (mem_of_lookup hy),let⟨o,e,_⟩:=hcell y b hy;⟨o,e⟩⟩
    ·exact .inl hb
  have hsub:∀ b∈V,b∈env.locals::(CV++V):=fun b hb=>.tail _ (List.mem_append.mpr (.inr hb))
  have G':Good cx (g.at V (some f)) (env.locals::(CV++V)) h₁ k:=G.grow (V0:=V) (me:=some f) hk₁ hsub hV'
  have frV:∀ b,s.heap.get? b=none→b∉V:=fun b e m=>by
   obtain⟨o,e'⟩:=G.alive b m
   first | exact nn (e.symm.trans e') | (rw[e]at e';cases e')
  have frW:∀ b,s.heap.get? b=none→b∉g.W cx:=fun b e m=>frV b e (G.WV b m)
  have hmv:=cj (V:=V) (V':=env.locals::(CV++V)) hk₁ fun b hb=>(hV' b hb).imp id (·.1)
  have mv:∀{v d},nb d=true→Rep cx (g.at V0 me) V s.heap v d→Rep cx (g.at V (some f)) (env.locals::(CV++V)) h₁ v d:=fun hn r=>r.move (g:=g.at V0 me) (g':=g.at V (some f)) ⟨rfl,rfl,rfl⟩ hn (.of_keeps hk₁) hmv
  have hz:cx.H0.get? env.locals=none:=by
   induction q:cx.H0.get? env.locals using Option.casesOn with
   |none=>rfl
   |some o=>have:=G.keep _ _ q;first | exact nn (hLn.symm.trans this) | (rw[hLn]at this;cases this)
  have hfr:(A.deeper env).frames=some (env::l):=Around.frames_deeper ao.frames
  have ao':AOk (A.deeper env) n (env::l):=(ao.deep env).1
  have ch':Chain cx (g.at V (some f)) (env::l) h₁:=Chain.cons (L:=env.locals) (ch.ext (.of_keeps hk₁)) (by rw[hkind];decide) (by rw[hfrm,hL]) hns1 (frW _ hLn) hz
  have fr':FrS cx (g.at V (some f)) (env.locals::(CV++V)) env (ns.zip ds') h₁:=by
   refine⟨hkind,by rw[henv];exact FN.gl,by rw[henv];exact FN.bi,.head _,frW _ hLn,⟨_,hns1,fun y d e kk=>?_,fun y z l1 l2 e=>?_⟩,fun y d e kk=>?_,fun m hm=>?_,fun y l1 e=>?_⟩
   ·obtain⟨v,e1,r⟩:=mU (m:=fun _=>none) hnd hlen rs' e kk
    exact⟨v,e1,mv (g7 hnb' e) r⟩
   ·have:=g7 hnb' e;injection this
   ·rcases kk with kk | kk
    ·obtain⟨v,e1,r⟩:=mX (m:=fun _=>none) hnd hlen rs' e kk
     have hcc:((cellsFrom (s.heap.objs.size+1) fd.scope.names []).lookup y).isSome=true:=cX (.inl (mem_of_lookup ((hkof y).symm.trans kk)))
     have hce:env.cells=cellsFrom (s.heap.objs.size+1) fd.scope.names []:=by rw[henv];rfl
     obtain⟨c,hc⟩:=Option.isSome_iff_exists.mp (hce▸hcc)
     refine⟨c,v,hc,frW _ (hcn y c (mem_of_lookup hc)),?_,mv (g7 hnb' e) r,g7 hnb' e⟩
     have:=hcell y c hc
     rw[e1]at this
     exact this
    ·rw[hkof]at kk
     exact absurd kk (FN.free y)
   ·obtain rfl:=si hm
    exact⟨oc,od,fd,osl,hK,by rw[henv];rfl,by rw[henv];rfl⟩
   ·have:=g7 hnb' e;injection this
  have st':St cx (g.at V (some f)) (env.locals::(CV++V)) (env::l) n (A.deeper env) env (ns.zip ds') k {s with heap:=h₁,toks:=tk₁}:=⟨ao',ch',fr',G',ht'⟩
  have nV:∀ b∈env.locals::(CV++V),b∈V∨s.heap.get? b=none:=fun b hb=>(hV' b hb).imp id (·.1)
  have x0:SS cx (g.at V (some f)) s.heap ⟨h₁,env.locals::(CV++V),env.locals::(CV++V)⟩ l n (A.deeper env) env (env.locals::(CV++V)) (ns.zip ds') k {s with heap:=h₁,toks:=tk₁}:=by
   refine⟨st',hsub,G.WV,.of_keeps hk₁,nV,⟨_,hfrm⟩,frV _ hLn,fun b o _ e=>e,.head _,fun a ha=>hsub a (G.WV a ha),fun a ha _ _ _ _ _ _=>.inl ha,fun b o e=>⟨o,e⟩,fun _ h=>h,fun _ h=>.inl h,fun y hy=>?_,fun y z c hy hz e1 e2=>?_,fun y e=>?_⟩
   ·have hcc:((cellsFrom (s.heap.objs.size+1) fd.scope.names []).lookup y).isSome=true:=cX (.inl (mem_of_lookup ((hkof y).symm.trans hy)))
    have hce:env.cells=cellsFrom (s.heap.objs.size+1) fd.scope.names []:=by rw[henv];rfl
    obtain⟨c,hc⟩:=Option.isSome_iff_exists.mp (hce▸hcc)
    have hm:=mem_of_lookup hc
    have hin:c∈env.locals::(CV++V):=.tail _ (List.mem_append.mpr (.inl (hvc y c hc)))
    exact⟨c,hc,hin,hin,frV _ (hcn y c hm),_,hcell y c hc⟩
   ·exact name_of_addr hapart (mem_of_lookup e1) (mem_of_lookup e2)
   ·rw[hkof]at e;exact FN.free y e
  have hsc:bI fd.scope env:=fun y kd e=>.inl ((hkof y).trans e)
  refine⟨((cx.T.nolimit).keeps G.keep).keeps hk₁,codeAny_func ?_⟩
  refine wpAny_mono (H env _ h₁ tk₁ ⟨x0,hk₁,hsc,hkof,⟨(ao.deep env).2.1,(ao.deep env).2.2⟩,hfr,by rw[hfrm,hL],hsub,nV⟩) (fun fl s' h=>?_) fun e s' h=>h
  induction fl using Flow.casesOn<;>exact h
theorem cw {V0 V:List Addr}{me:Option Addr}{f:Addr}{args:List D}{vs:List Value}(ao:AOk A (n+1) l) (ch:Chain cx g l s.heap) (G:Good cx (g.at V0 me) V s.heap k) (ht:1≤s.toks) (hnb:args.all nb=true) (rs:RepAll cx (g.at V0 me) V s.heap vs args)
 {oc:Value}{od:Option Addr}{osl:Array (Option Value)}{fd:FuncData}{ρ:Rho}{b:List Stmt}(hK:cx.K.lookup f=some ⟨oc,od,.func fd,osl⟩) (hb:dk cx.K fd args=some ρ) (hbody:fd.body=.stmts b) (hfn:ir cx.K fd=true)
 (H:∀ env V' h₁ tk₁,Entered cx (g.at V (some f)) s l n A fd env V V' ρ k h₁ tk₁→wpAny (model cx.prog cx.w) (A.deeper env) (execs b env) (fun fl s'=>Q (match fl with | .ret v=>v | _=>.none) s') (fun e s'=>wpAny (model cx.prog cx.w) (A.deeper env) (leaving env e) (fun _ s''=>E e s'') (fun e' s''=>E e' s'') s') {s with heap:=h₁,toks:=tk₁}) :
 wpAny (model cx.prog cx.w) A (call (.ref f) vs) Q E s :=
 wpAny_call (gK ao ch G ht hnb rs hK hb hbody hfn H)
theorem sX (F:KF cx) (GF:GfOk cx) (FO:dJ cx g n) (O:OOk cx g calls n) {V0 V:List Addr}{me:Option Addr}{f:Addr}{args:List D}{vs:List Value}(ao:AOk A (n+1) l) (ch:Chain cx g l s.heap) (G:Good cx (g.at V0 me) V s.heap k) (ht:1≤s.toks) (hnb:args.all nb=true) (rs:RepAll cx (g.at V0 me) V s.heap vs args)
 (hp:PO cx (g.at V0 me) V l (Rep cx (g.at V0 me) V) (nbO (hO (cx.C (g.at V (some f)) calls) f args k)) s Q E):wpAny (model cx.prog cx.w) A (call (.ref f) vs) Q E s:=by
 unfold hO at hp
 have hCK:(cx.C (g.at V (some f)) calls).K=cx.K:=rfl
 rw[hCK]at hp
 induction hK:cx.K.lookup f using Option.casesOn with
 |none=>rw[hK]at hp;exact hp.elim
 |some o =>
 rw[hK]at hp
 obtain⟨oc,od,oda,osl⟩:=o
 induction oda using Data.casesOn
 case func fd =>
  dsimp only at hp
  induction hb:dk cx.K fd args using Option.casesOn with
  |none=>rw[hb]at hp;exact hp.elim
  |some ρ =>
  rw[hb]at hp
  induction hbody:fd.body using FuncBody.casesOn with
  |stmts b =>
   rw[hbody]at hp
   dsimp only at hp
   by_cases hfn:ir cx.K fd=true
   ·rw[if_pos hfn]at hp
    refine cw ao ch G ht hnb rs hK hb hbody hfn fun env V' h₁ tk₁ N=>?_
    refine wpAny_mono (gG (gF F GF (g:=g.at V (some f)) O FO N.ab N.sc N.kof 40) b _ _ _ k _ (fun fl s'=>Q (match fl with | .ret v=>v | _=>.none) s') _ N.ss ?_) (fun _ _ h=>h) fun _ _ h=>h
    revert hp
    generalize exL (exS (cx.C (g.at V (some f)) calls) fd.scope 40) b ρ k=o
    intro hp
    induction o using OutK.casesOn with
    |no=>exact hp.elim
    |exc =>
     intro h' tk' e t fl
     refine ul (s:={s with heap:=h',toks:=tk'}) N.fr N.ef fl fun h'' fl'=>?_
     exact hp h'' tk' e t fl'
    |ok r k' =>
     obtain⟨od',ρ'⟩:=r
     induction od' using Option.casesOn with
     |none =>
      intro h' tk' V' x'
      exact hp h' tk' .none x'.st.tk x'.ext (x'.shrinkG.to V0 me) ⟨_,Reads.none⟩
     |some d =>
      intro h' tk' v t ex Gx rv
      replace hp:PO cx (g.at V0 me) V l (Rep cx (g.at V0 me) V) (nbO (.ok d k')) s Q E:=hp
      by_cases hd:nb d=true
      ·have:nbO (.ok d k')=.ok d k':=if_pos hd
       rw[this]at hp
       exact hp h' tk' v t ex (Gx.to V0 me) (rv.move (g:=g.at V (some f)) (g':=g.at V0 me) ⟨rfl,rfl,rfl⟩ hd (.refl _ _) fun b o e=>e)
      ·have:nbO (.ok d k')=.no:=if_neg hd
       rw[this]at hp
       exact hp.elim
   ·rw[if_neg hfn]at hp;exact hp.elim
  |_=>rw[hbody]at hp;exact hp.elim
 all_goals exact hp.elim
end
theorem pW {cx:Sx}{g:Gh}(F:KF cx) (GF:GfOk cx) (FO:∀ n,dJ cx g (n+5)):∀ n,OOk cx g (sY cx.K cx.rc cx.rs cx.dl cx.tabs g.toks n) (n+5)
 |0=>fun _ _ _ _ _ _ _ _ _ _ _ _ _ _ _ _ _ _ hp=>hp.elim
 |n+1=>fun _ _ _ _ _ _ _ _ _ _ _ _ ao ch G ht hnb rs hp=>sX F GF (FO n) (pW F GF FO n) (n:=n+5) ao ch G ht hnb rs hp
end Mine
end
section
namespace Mine
open PySem PySem.W PySem.Spec PySem.Calls PyProof.Rows
section
variable {prog:Program}{w:World}{A:Around}{E:Value→Shared→Prop}{K:Frag}{h:Heap}{g:Array GenState}{d:Drawn}{t:Nat}{os:OsState}
variable {nm q:Str}{C N:Addr}{bs bm bmB:List Value}{hdct:Bool}{sn:List Str}{sub:List Value}{ab:Bool}{col:Option Bool}{dd:Option Addr}{k0 k1 k2 k3 k5:Option Value}{B newId newId' initId:String}
structure ExcCls (K:Frag) (B:String) (C:Addr) (bm:List Value) (fI:Addr):Prop where
 hB:(Value.ref C::bm).contains (.type B)=true
 hA:(Value.ref C::bm).contains (.type "AttributeError")=false
 hN:(Value.ref C::bm).contains (.type "NameError")=false
 init:findIn K (.ref C) "__init__"=some (some (.ref fI))
 fn:typeIn K (.ref fI)=some (.type "function")
theorem Bl {R:Result→Shared→Prop}(F:ExcBaseFacts B newId initId bmB) (X:ExcCls K B C bm fI) {rest:List Value}(hC:h.get? C=some (excClassObj nm q C N bs bm hdct sn sub ab col dd k0 k1 k2 k3 k5 newId))
 (hq:R (.ok (.ret (.ref (h.objs.size+1)))) ⟨(h.push {cls:=.type "tuple",data:=.seq rest.toArray}).push
  {cls:=.ref C,data:=.fields #[.ref h.objs.size,.none,.none,.none,.bool false,.none]},g,d,t,os⟩) (hrest:rest.length≤sizeLine) :
 codeAny (model prog w) A (.builtin newId ⟨.ref C::rest,[]⟩) R ⟨h,g,d,t,os⟩:=by
 have hends:=F.ends
 have hcB:=X.hB
 have hcA:=X.hA
 have hcN:=X.hN
 refine codeAny_builtinAt F.entry ?_
 unfold Builtin.«BaseException.__new__»
 refine PySem.wpAt_bind ?_
 show PySem.wpAt _ _ _ (stack >>= _) _ _ _
 refine PySem.wpAt_bind (PySem.wpAt_stack fun p below=>PySem.wpAt_of_wpAny ?_)
 wp_walk
 refine PySem.wpAt_of_wpAny ?_
 rw[F.owner]
 repeat (first | with_reducible refine wpAny_madeHere_exc F.canon hC ?_ | with_reducible refine wpAny_loadPart_at hC ?_ | (with_reducible refine wpAny_isSubtype_exc hC ?_;first | rw[hcB] | rw[hcA] | rw[hcN]) | wp_step)
 show R _ _
 rw[Heap.size_push]
 exact hq
theorem lT (F:ExcBaseFacts B newId initId bmB) (X:ExcCls K B C bm fI) {M:Model}{rest:List Value}{Q:Unit→Shared→Prop}(hC:h.get? C=some (excClassObj nm q C N bs bm hdct sn sub ab col dd k0 k1 k2 k3 k5 newId))
 (hq:Q () ⟨h,g,d,t,os⟩):wpAny M A (checkBuiltinCall newId ⟨.ref C::rest,[]⟩) Q E ⟨h,g,d,t,os⟩:=by
 have hcont:=X.hB
 have hstar:=F.noStar
 simp only[checkBuiltinCall,F.newKind,F.newSplit,F.newRow]
 repeat (first | refine wpAny_loadPart_at hC ?_ | (refine wpAny_isSubtype_exc hC ?_;rw[hcont]) | refine wpAny_staticBase_exc hC ?_ | refine wpAny_madeBy_exc hC ?_ | simp only[bne_self_eq_false,Bool.false_eq_true,if_false] | wp_step)
 exact hq
theorem lR (F:ExcBaseFacts B newId initId bmB) (X:ExcCls K B C bm fI) {rest:List Value}{Q:Fin→Shared→Prop}(KX:K.In h) (hC:h.get? C=some (excClassObj nm q C N bs bm hdct sn sub ab col dd k0 k1 k2 k3 k5 newId)) (hrest:rest.length≤sizeLine)
 (hq:wpAny (model prog w) A (call (.ref fI) (.ref (h.objs.size+1)::rest)) (fun v s'=>v=.none∧Q (.done (.ret (.ref (h.objs.size+1)))) s') E ⟨(h.push {cls:=.type "tuple",data:=.seq rest.toArray}).push
  {cls:=.ref C,data:=.fields #[.ref h.objs.size,.none,.none,.none,.bool false,.none]},g,d,t,os⟩) :
 wpAny (model prog w) A (Builtin.«type.__call__» ⟨.ref C::rest,[]⟩) Q E ⟨h,g,d,t,os⟩:=by
 repeat (first | with_reducible refine wpAny_loadPart_at hC ?_ | with_reducible refine wpAny_madeBy_exc hC ?_ | wp_step)
 refine codeAny_call_builtin_code (Code.quiet_builtin _ F.quiet) (lT F X hC ?_)
 refine Bl F X hC ?_ hrest
 show wpAny _ _ _ _ _ _
 have kp:∀ b o,h.get? b=some o→((h.push {cls:=.type "tuple",data:=.seq rest.toArray}).push {cls:=.ref C,data:=.fields #[.ref h.objs.size,.none,.none,.none,.bool false,.none]}).get? b=some o :=
  fun b o e=>Heap.get?_push_of_some _ (Heap.get?_push_of_some _ e)
 have hC₁:=kp _ _ hC
 have hget:((h.push {cls:=.type "tuple",data:=.seq rest.toArray}).push
  {cls:=.ref C,data:=.fields #[.ref h.objs.size,.none,.none,.none,.bool false,.none]}).get? (h.objs.size+1)=some
  {cls:=.ref C,data:=.fields #[.ref h.objs.size,.none,.none,.none,.bool false,.none]}:=by heap_get
 have hcC:(Value.ref C::bm).contains (.ref C)=true:=by simp
 have KX1:=KX.keeps kp
 have hi:=looks_findIn (M:=model prog w) KX1 X.init
 have hb:=bind_fn (M:=model prog w) KX1 (.ref (h.objs.size+1)) X.fn
 unfold isInstance
 repeat (first | with_reducible refine wpAny_loadPart_at hget ?_ | (with_reducible refine wpAny_isSubtype_exc hC₁ ?_;rw[hcC]) | wp_step)
 show wpAny _ _ (typeLookup (.ref C) _) _ _ _
 refine hi.here ?_
 refine wpAny_holding (wpAny_bind (hb.here ?_))
 refine wpAny_bind (wpAny_mono hq (fun v s' hv=>?_) fun _ _ e=>e)
 obtain⟨rfl,hv⟩:=hv
 exact wpAny_pure (wpAny_pure hv)
theorem yI (F:ExcBaseFacts B newId initId bmB) (X:ExcCls K B C bm fI) {rest:List Value}{Q:Value→Shared→Prop}(KX:K.In h) (hC:h.get? C=some (excClassObj nm q C N bs bm hdct sn sub ab col dd k0 k1 k2 k3 k5 newId)) (hrest:rest.length≤sizeLine)
 (hq:∀ A',A'.frames=A.frames→A'.handled=A.handled→A'.depth≤A.depth+1→A'.units≤A.units+20→wpAny (model prog w) A' (call (.ref fI) (.ref (h.objs.size+1)::rest)) (fun v s'=>v=.none∧Q (.ref (h.objs.size+1)) s') E ⟨(h.push {cls:=.type "tuple",data:=.seq rest.toArray}).push
  {cls:=.ref C,data:=.fields #[.ref h.objs.size,.none,.none,.none,.bool false,.none]},g,d,t,os⟩) :
 wpAny (model prog w) A (call (.ref C) rest) Q E ⟨h,g,d,t,os⟩:=by
 have f1:=tc_lookup
 have f2:=tc_bind (.ref C)
 have hT:(⟨h,g,d,t,os⟩:Shared).TypeIs (.ref C) "type":=⟨_,hC,rfl⟩
 refine wpAny_call (codeAny_of_tree ?_)
 show wpAny _ _ (callAny (.ref C) _) _ _ _
 repeat (any_goals (first | assumption | with_reducible refine wpAny_loadPart_at hC ?_ | wp_step))
 refine⟨rfl,?_⟩
 refine codeAny_call_builtin_at (Code.quiet_builtin _ (by decide +kernel)) entry_typeCall (wpAny_check_type_call_sub hC (lR F X KX hC hrest ?_))
 exact hq _ rfl rfl (Nat.le_refl _) (by show A.units+1≤A.units+20;omega)
theorem lv (F:ExcBaseFacts B newId initId bmB) (hB:(Value.ref C::bm).contains (.type B)=true) {M:Model}{e:Addr}{oe:Obj}{rest:List Value}{Q:Unit→Shared→Prop}
 (hC:h.get? C=some (excClassObj nm q C N bs bm hdct sn sub ab col dd k0 k1 k2 k3 k5 newId')) (he:h.get? e=some oe) (hcls:oe.cls=.ref C) (hq:Q () ⟨h,g,d,t,os⟩) :
 wpAny M A (checkBuiltinCall initId ⟨.ref e::rest,[]⟩) Q E ⟨h,g,d,t,os⟩:=by
 have hcB:=hB
 have hshort:=F.noStar
 simp only[checkBuiltinCall,F.initKind,F.initSplit,F.initRow]
 repeat (first | (with_reducible refine wpAny_loadPart_at he ?_;rw[hcls]) | with_reducible refine wpAny_loadPart_at hC ?_ | (with_reducible refine wpAny_isSubtype_exc hC ?_;rw[hcB]) | wp_step)
 refine wpAny_onRaise ?_
 rw[show ∀(a b:String) (n:Nat),Bind.check ⟨.positional,"*",B,.self,[⟨"args",.varPos,false⟩]⟩ a b n (List.map (fun x=>x.fst) ({pos:=Value.ref e::rest}:Args).kw)=pure ()from
  fun a b n=>check_star_args _ _ _ _ _ _]
 exact wpAny_pure hq
theorem lS (F:ExcBaseFacts B newId initId bmB) (hB:(Value.ref C::bm).contains (.type B)=true) {e a0:Addr}{od:Option Addr}{osl:Array (Option Value)}{rest:List Value}{Q:Value→Shared→Prop}
 (hC:h.get? C=some (excClassObj nm q C N bs bm hdct sn sub ab col dd k0 k1 k2 k3 k5 newId')) (he:h.get? e=some {cls:=.ref C,dict:=od,data:=.fields #[.ref a0,.none,.none,.none,.bool false,.none],slots:=osl}) (hrest:rest.length≤sizeLine)
 (hq:∀ h',h'.get? e=some {cls:=.ref C,dict:=od,data:=.fields #[.ref h.objs.size,.none,.none,.none,.bool false,.none],slots:=osl}→Heap.ExtBut e h h'→Q .none ⟨h',g,d,t,os⟩) :
 wpAny (model prog w) A (call (.builtin initId) (.ref e::rest)) Q E ⟨h,g,d,t,os⟩:=by
 refine wpAny_call (codeAny_call_builtin F.init.plain F.initEntry (lv F hB hC he rfl ?_))
 wp_walk
 refine hq _ ?_ fun b o hb eb=>(Heap.get?_update_other _ _ (Ne.symm hb)).trans (Heap.get?_push_of_some _ eb)
 rw[Heap.get?_update_self _ (Heap.get?_push_of_some _ he) rfl]
 rfl
end
section
variable {prog:Program}{w:World}{A:Around}{E:Value→Shared→Prop}{s:Shared}{K:Frag}{x C:Addr}{od:Data}{osl:Array (Option Value)}{name:Str}{v:Value}
theorem ua {R:Result→Shared→Prop}{tk:Tok}(X:K.In s.heap) (hx:s.heap.get? x=some ⟨.ref C,none,od,osl⟩) (hno:notCls ⟨.ref C,none,od,osl⟩=true) (hfz:∀ d,(⟨.ref C,some d,od,osl⟩:Obj).isFreed=false)
 (op:oH prog w A x C name tk v R s) (hh:hasDictIn K C=true)
 (h:∀ h' d,s.heap.get? d=none→h'.get? d=some (dictOf [⟨PyData.keyHash w.params name,.str name s.toks,v⟩] 1)→h'.get? x=some ⟨.ref C,some d,od,osl⟩→Heap.ExtBut x s.heap h'→R (.ok (.ret .none)) {s with heap:=h',toks:=s.toks+1}) :
 codeAny (model prog w) A (.call (.builtin "object.__setattr__") ⟨[.ref x,.str name tk,v],[]⟩) R s:=by
 refine op fun b=>?_
 obtain⟨cd,hc,hd'⟩:=any_some hh
 refine wpAny_bind (wpAny_pure (wpAny_bind (wpAny_bind (wpAny_loadPart hx (wpAny_bind ((looks_clsIn X hc).here ?_))))))
 rw[hd',if_neg (by decide)]
 dsimp only
 have hty:(!true||!typeHasDict (Value.ref C))=false:=by rfl
 rw[if_neg (by rw[hty];decide)]
 have hxs:x≠s.heap.objs.size:=Nat.ne_of_lt (Heap.lt_size hx)
 have go:wpAny (model prog w) A.in1 (do
  let d ← alloc {cls:=Value.type "dict",data:=Data.dict #[]}
  update x fun o=>{cls:=o.cls,dict:=some d,data:=o.data,slots:=o.slots}
  dictMade (Value.ref C) x d)
  (fun a s' =>
   wpAny (model prog w) A.in1
    (match a with
    |some d=>Builtin.ObjectAttr.storeInDict d (Value.str name tk) name v
    |none=>Builtin.ObjectAttr.noDictFor (Value.ref x) (Value.ref C) name b)
    (fun fin s' =>
     match fin with
     |PySem.Fin.done f=>R (Except.ok f) s'
     |PySem.Fin.again c'=>c'.quiet=true∧codeAny (model prog w) A c' R s')
    (fun e s'=>R (Except.error e) s') s')
  (fun e s'=>R (Except.error e) s') s:=by
  refine wpAny_bind (wpAny_alloc ?_)
  have hx1:=Heap.get?_push_of_some {cls:=Value.type "dict",data:=Data.dict #[]} hx
  refine wpAny_bind (wpAny_update hx1 ?_)
  refine wpAny_bind (wpAny_pure (wpAny_pure ?_))
  dsimp only
  have hd1:((s.heap.push {cls:=Value.type "dict",data:=Data.dict #[]}).update x fun o=>{cls:=o.cls,dict:=some s.heap.objs.size,data:=o.data,slots:=o.slots}).get? s.heap.objs.size=some (dictOf [] 0) :=
   (Heap.get?_update_other _ _ hxs).trans (Heap.get?_push_size _ rfl)
  unfold Builtin.ObjectAttr.storeInDict nsSet
  refine wpAny_bind (wpAny_pure (wpAny_bind (wpAny_bind (wpAny_bind (wpAny_askSetting (wpAny_pure (wpAny_bind (wpAny_mkText (wpAny_bind (wpAny_loadPart hd1 ?_))))))))))
  dsimp only
  rw[aRefKeyMayBeTheName_at]
  have c:(!([]:List DictEntry).toArray.any (·.key.isStr name)&&([]:List DictEntry).toArray.any (·.refKey))=false:=by simp
  rw[c]
  have eP:Obj.putName name (PyData.keyHash w.params name) (.str name s.toks) v (dictOf [] 0)=dictOf [⟨PyData.keyHash w.params name,.str name s.toks,v⟩] 1:=by rw[putName_dict];rfl
  have D':=Heap.get?_update_self (Obj.putName name (PyData.keyHash w.params name) (.str name s.toks) v) hd1 (by rw[eP];rfl)
  rw[eP]at D'
  refine wpAny_updatePart hd1 ?_
  refine wpAny_bind (wpAny_lookBehind D' (by exact pastItsLine_dict (by rw[List.size_toArray,sizeLine_eq];simp)) ?_)
  refine wpAny_pure (h _ s.heap.objs.size (Heap.get?_none_of_le (Nat.le_refl _)) D' ?_ fun b o hb eb=>?_)
  ·rw[Heap.get?_update_other _ _ (Ne.symm hxs)]
   exact Heap.get?_update_self _ hx1 (hfz _)
  ·have hbs:b≠s.heap.objs.size:=Nat.ne_of_lt (Heap.lt_size eb)
   rw[Heap.get?_update_other _ _ (Ne.symm hbs),Heap.get?_update_other _ _ (Ne.symm hb)]
   exact Heap.get?_push_of_some _ eb
 induction od using Data.casesOn with
 |cls c=>injection hno
 |_=>exact go
end
end Mine
end
section
namespace Mine
open PySem PySem.W PySem.Calls PyProof.Rows Builtin.Str
inductive RT where
 |name (x:Str)
 |tup (ts:List RT)
mutual
inductive RE where
 |bad
 |val (d:D)
 |var (x:Str)
 |op1 (o:D→Option D) (e:RE)
 |op2 (o:D→D→Option D) (a b:RE)
 |opN (o:List D→Option D) (es:List RE)
 |tup (es:List RE)
 |lst (es:List RE)
 |at1 (e:RE)
 |call (f:Addr) (es:List RE)
 |callv (e:RE) (es:List RE)
 |meth (o:RE) (m:Str) (fm:Option Addr) (es:List RE)
 |boolv (and:Bool) (es:List RE)
 |ife (t:RB) (a b:RE)
 |lam (x:Str)
 |slice (v:RE) (lo hi:Option RE)
 |disp (kvs:List (Int×Int)) (i:RE)
 |join (x:Str) (o:RE)
 |repl (y z:Str) (o:RE)
 |cat (y c1 x c2:Str) (o:RE)
 |comp (elt:RE) (t:RT) (it:RE) (ifs:List RB) (ns:List (Str×NameKind))
inductive RB where
 |ands (and:Bool) (bs:List RB)
 |neg (b:RB)
 |tst (e:RE)
end
inductive RS where
 |bad
 |pass
 |expr (x:Str) (bl:Option Str) (es:List RE) (e:RE)
 |asg (x:Str) (chk:D→Rho→Bool) (e:RE)
 |lst (x:Str) (es:List RE)
 |tup (t:RT) (e:RE)
 |swap (names:List Str) (e:RE)
 |pop (t:RT) (x:Str)
 |at1 (x:Str) (e:RE)
 |ifs (t:RB) (b o:List RS)
 |whl (t:RB) (b:List RS)
 |frs (t:RT) (it:RE) (b:List RS)
 |ret (e:RE)
 |ret0
 |rais (o:RE) (es:List RE)
structure CR (κ:Type) where
 calls:qc κ
 pos:κ→Nat
 set:κ→Nat→Option κ
 kp:D→Bool
 dl:Addr→Bool
 dg:Addr→List D→Option D
 rs:Addr
noncomputable def Fk (ns:List (Str×NameKind)):Rho→Rho
 |[]=>[]
 |p::r=>match jM ns p.1 with
  |some .free=>p::Fk ns r
  |_=>Fk ns r
noncomputable def Kd (ns:List (Str×NameKind)) (ρ:Rho):Bool:=true&&(ns.all fun p=>match p.2 with
 |.local=>true
 |.cell=>false
 |.free=>true&&(aH ρ p.1).isSome
 |_=>true)
noncomputable def oN:Nat→RT→D→Rho→Option Rho
 |_,.name x,d,ρ=>if nb d&&true then some (bP ρ x d)else none
 |n+1,.tup ts,d,ρ=>match te d with
  |some l=>if Nat.beq ts.length l.length then uZ (fun t p ρ=>oN n t (.py p) ρ) ts l ρ else none
  |none=>none
 |_,_,_,_=>none
noncomputable def nX {κ:Type}(c:CR κ) (fm:Option Addr) (d:D) (m:Str):Option Value:=Cs (fm.map .ref) c.dl d m
noncomputable def nY {κ:Type}(c:CR κ) (fm:Option Addr) (d:D) (m:Str) (args:List D) (k:κ):OutK κ D:=Cr (wa c.calls fm args) c.dg d m args k
mutual
noncomputable def evR {κ:Type}(c:CR κ):Nat→Rho→RE→κ→OutK κ D
 |0,_,_,_=>.no
 |n+1,ρ,e,k=>match e with
  |.bad=>.no
  |.val d=>.ok d k
  |.var x=>ofO (aH ρ x) k
  |.op1 o e=>(evR c n ρ e k).bind fun d k=>ofO (o d) k
  |.op2 o a b=>(evR c n ρ a k).bind fun a k=>(evR c n ρ b k).bind fun b k=>ofO (o a b) k
  |.opN o es=>(evs (evR c n ρ) es k).bind fun ds k=>ofO (o ds) k
  |.tup es=>(evs (evR c n ρ) es k).bind fun ds k=>if sm ds.length then ofO ((eJ ds).map fun l=>.py (.tuple l)) k else .no
  |.lst es=>(evs (evR c n ρ) es k).bind fun ds k=>if sm ds.length then ofO ((eJ ds).map fun l=>.py (.list l)) k else .no
  |.at1 e=>(evR c n ρ e k).bind fun d k=>ofO (gP [] ("at":Str) d (c.pos k)) k
  |.call f es=>(evs (evR c n ρ) es k).bind fun ds k=>if ds.all nb then nbO (c.calls f ds k)else .no
  |.callv e es=>(evR c n ρ e k).bind fun d k=>if c.kp d then(evs (evR c n ρ) es k).bind fun ds k=>oF c.calls c.rs d ds k else .no
  |.meth o m fm es=>(evR c n ρ o k).bind fun d k=>optK (nX c fm d m) fun _=>(evs (evR c n ρ) es k).bind fun ds k=>nY c fm d m ds k
  |.boolv a es=>lH (evR c n ρ) a es k
  |.ife t a b=>(cf c n ρ t k).bind fun b' k=>if b' then evR c n ρ a k else evR c n ρ b k
  |.lam x=>ER (aH ρ x) k
  |.slice v lo hi=>(evR c n ρ v k).bind fun d k=>(kD (evR c n ρ) lo k).bind fun lo k=>(kD (evR c n ρ) hi k).bind fun hi k=>kn d lo hi k
  |.disp kvs i=>(evR c n ρ i k).bind fun i k=>yP kvs i k
  |.join x o=>wX ρ (evR c n ρ) x o k
  |.repl y z o=>(evR c n ρ o k).bind fun d k=>vS d y z k
  |.cat y c1 x c2 o=>Fj ρ (evR c n ρ) y c1 x c2 o k
  |.comp elt t it ifs ns=>if Kd ns ρ&&true then(evR c n ρ it k).bind fun d k=>optK (hX d) fun ds =>
   (dH (fun d k=>optK (oN 4 t d (Fk ns ρ)) fun ρ'=>(eG (cf c n ρ') true ifs k).bind fun b k=>if b then(evR c n ρ' elt k).bind fun y k=>.ok (some y) k else .ok none k) ds k).bind fun ds k=>ofO ((eJ ds).map fun l=>.py (.list l)) k else .no
noncomputable def cf {κ:Type}(c:CR κ):Nat→Rho→RB→κ→OutK κ Bool
 |0,_,_,_=>.no
 |n+1,ρ,e,k=>match e with
  |.ands a bs=>eG (cf c n ρ) a bs k
  |.neg b=>(cf c n ρ b k).bind fun b k=>.ok (!b) k
  |.tst e=>(evR c n ρ e k).bind fun d k=>ofO (bV d) k
end
noncomputable def exR {κ:Type}(c:CR κ):Nat→RS→Rho→κ→SOK κ
 |0,_,_,_=>.no
 |n+1,s,ρ,k=>match s with
  |.bad=>.no
  |.pass=>.ok (none,ρ) k
  |.expr x bl es e=>orK ((aH ρ x).bind blV) (fun l=>optK bl fun m=>(evs (evR c n ρ) es k).bind fun ds k=>(ofO (blM m l ds) k).bind fun l k=>.ok (none,bP ρ x (.bl l)) k)
   ((evR c n ρ e k).bind fun d k=>qD ρ d k)
  |.asg x chk e=>(evR c n ρ e k).bind fun d k=>if chk d ρ then .ok (none,bP ρ x d) k else .no
  |.lst x es=>(evs (evR c n ρ) es k).bind fun ds k=>if sm ds.length then(ofO (eJ ds) k).bind fun l k=>.ok (none,bP ρ x (.bl l)) k else .no
  |.tup t e=>(evR c n ρ e k).bind fun d k=>(ofO (oN 4 t d ρ) k).bind fun ρ k=>.ok (none,ρ) k
  |.swap names e=>(evR c n ρ e k).bind fun d k=>vx names ρ d k
  |.pop t x=>optK ((aH ρ x).bind blV) fun l=>if sm l.length then optK l.getLast? fun d=>(ofO (oN 4 t (.py d) (bP ρ x (.bl l.dropLast))) k).bind fun ρ k=>.ok (none,ρ) k else .no
  |.at1 x e=>optK (aH ρ x) fun r=>if pe r then(evR c n ρ e k).bind fun d k=>optK (kI d) fun k'=>(ofO (c.set k k') k).bind fun k _=>.ok (none,ρ) k else .no
  |.ifs t b o=>(cf c n ρ t k).bind fun q k=>if q then exL (exR c n) b ρ k else exL (exR c n) o ρ k
  |.whl t b=>fB (fun ρ k=>cf c n ρ t k) (exL (exR c n) b) 400 ρ k
  |.frs t it b=>(evR c n ρ it k).bind fun d k=>optK (if nb d then hX d else none) fun ds=>lu (fun d ρ k=>optK (oN 4 t d ρ) fun ρ=>exL (exR c n) b ρ k) ds ρ k
  |.ret e=>(evR c n ρ e k).bind fun d k=>.ok (some (HG d),ρ) k
  |.ret0=>.ok (some (.py .none),ρ) k
  |.rais o es=>(evR c n ρ o k).bind fun d k=>rm d (evs (evR c n ρ) es) k
structure RF where
 ps:List Str
 dv:Option D
 body:List RS
noncomputable def pY (ps:List Str) (dv:Option D) (args:List D):Option Rho :=
 if Nat.beq args.length ps.length then some (ps.zip args)
 else if Nat.beq (args.length+1) ps.length then match dv with
  |some dv=>some (ps.zip (args++[dv]))
  |none=>none
 else none
noncomputable def cg {κ:Type}(c:CR κ) (r:RF) (args:List D) (k:κ):OutK κ D:=match pY r.ps r.dv args with
 |some ρ=>(exL (exR c 40) r.body ρ k).bind fun r k=>.ok (r.1.getD (.py .none)) k
 |none=>.no
noncomputable def upL {α:Type}(f:Nat→α):Nat→List α
 |0=>[]
 |n+1=>f n::upL f n
noncomputable def upR {α:Type}(f:Nat→α):Nat→List α
 |0=>[]
 |n+1=>f n::upR f n
theorem fE {α:Type}{f g:Nat→α}:∀{n:Nat},upL f (n+1)=upR g (n+1)→∀ m,Nat.ble m n=true→f m=g m
 |0,h,0,_=>(List.cons.inj h).1
 |n+1,h,m,hm=>(Nat.lt_or_ge m (n+1)).elim (fun q=>fE (List.cons.inj h).2 m (Nat.ble_eq.mpr (Nat.le_of_lt_succ q))) fun q=>Nat.le_antisymm (Nat.le_of_ble_eq_true hm) q▸(List.cons.inj h).1
section
variable {κ1 κ2:Type}{R:κ1→κ2→Prop}
noncomputable def Sim {α:Type}(R:κ1→κ2→Prop) (o:OutK κ1 α) (o':OutK κ2 α):Prop:=match o' with
 |.ok a κ=>∃ k,o=.ok a k∧R k κ
 |.exc=>o=.exc
 |.no=>True
theorem Sim.no {α:Type}{o:OutK κ1 α}:Sim R o .no:=trivial
theorem Sim.ok {α:Type}{a:α}{k:κ1}{κ:κ2}(h:R k κ):Sim R (.ok a k) (.ok a κ):=⟨k,rfl,h⟩
theorem Sim.bind {α β:Type}{o:OutK κ1 α}{o':OutK κ2 α}{f:α→κ1→OutK κ1 β}{f':α→κ2→OutK κ2 β}(h:Sim R o o') (hf:∀ a k κ,R k κ→Sim R (f a k) (f' a κ)):Sim R (o.bind f) (o'.bind f'):=by
 induction o' using OutK.casesOn with
 |ok a κ=>obtain⟨k,rfl,r⟩:=h;exact hf a k κ r
 |exc=>subst h;exact rfl
 |no=>trivial
theorem Sim.ofO {α:Type}{x:Option α}{k:κ1}{κ:κ2}(h:R k κ):Sim R (ofO x k) (ofO x κ):=by
 induction x using Option.casesOn with
 |none=>trivial
 |some a=>exact .ok h
theorem Sim.nbO {o:OutK κ1 D}{o':OutK κ2 D}(h:Sim R o o'):Sim R (nbO o) (nbO o'):=by
 induction o' using OutK.casesOn with
 |ok a κ =>
  obtain⟨k,rfl,r⟩:=h
  show Sim R (if nb a then .ok a k else .no) (if nb a then .ok a κ else .no)
  split
  ·exact .ok r
  ·trivial
 |exc=>subst h;exact rfl
 |no=>trivial
theorem Sim.ite {α:Type}{b:Bool}{o p:OutK κ1 α}{o' p':OutK κ2 α}(h:Sim R o o') (h':Sim R p p'):Sim R (if b then o else p) (if b then o' else p'):=by
 induction b using Bool.casesOn
 ·exact h'
 ·exact h
theorem dU {ε:Type}{f:ε→κ1→OutK κ1 D}{f':ε→κ2→OutK κ2 D}(H:∀ e k κ,R k κ→Sim R (f e k) (f' e κ)):∀ es k κ,R k κ→Sim R (evs f es k) (evs f' es κ)
 |[],k,κ,h=>.ok h
 |e::r,k,κ,h=>.bind (H e k κ h) fun d k κ h=>.bind (dU H r k κ h) fun ds k κ h=>.ok h
theorem jt {ε:Type}{f:ε→κ1→OutK κ1 Bool}{f':ε→κ2→OutK κ2 Bool}(H:∀ e k κ,R k κ→Sim R (f e k) (f' e κ)) (a:Bool):∀ es k κ,R k κ→Sim R (eG f a es k) (eG f' a es κ)
 |[],k,κ,h=>.ok h
 |e::r,k,κ,h=>.bind (H e k κ h) fun b k κ h=>.ite (jt H a r k κ h) (.ok h)
theorem mS {ε:Type}{f:ε→κ1→OutK κ1 D}{f':ε→κ2→OutK κ2 D}(H:∀ e k κ,R k κ→Sim R (f e k) (f' e κ)) (a:Bool):∀ es k κ,R k κ→Sim R (lH f a es k) (lH f' a es κ)
 |[],k,κ,h=>trivial
 |[e],k,κ,h=>H e k κ h
 |e::e2::r,k,κ,h=>.bind (H e k κ h) fun d k κ h=>by
  induction bV d using Option.casesOn with
  |none=>trivial
  |some b=>exact .ite (mS H a (e2::r) k κ h) (.ok h)
theorem mO {f:D→κ1→OutK κ1 (Option D)}{f':D→κ2→OutK κ2 (Option D)}(H:∀ e k κ,R k κ→Sim R (f e k) (f' e κ)):∀ es k κ,R k κ→Sim R (dH f es k) (dH f' es κ)
 |[],k,κ,h=>.ok h
 |e::r,k,κ,h=>by
  have h1:=H e k κ h
  unfold dH
  induction hf:f' e κ using OutK.casesOn with
  |ok o κ' =>
   rw[hf]at h1
   obtain⟨k',e1,h2⟩:=h1
   rw[e1]
   exact .bind (mO H r k' κ' h2) fun ds k κ h=>.ok h
  |exc=>trivial
  |no=>trivial
theorem j7 {t:Rho→κ1→OutK κ1 Bool}{t':Rho→κ2→OutK κ2 Bool}{b:Rho→κ1→SOK κ1}{b':Rho→κ2→SOK κ2}(Ht:∀ ρ k κ,R k κ→Sim R (t ρ k) (t' ρ κ)) (Hb:∀ ρ k κ,R k κ→Sim R (b ρ k) (b' ρ κ)) :
 ∀ n ρ k κ,R k κ→Sim R (fB t b n ρ k) (fB t' b' n ρ κ)
 |0,_,_,_,_=>trivial
 |n+1,ρ,k,κ,h=>.bind (Ht ρ k κ h) fun q k κ h=>.ite (.bind (Hb ρ k κ h) fun r k κ h=>by
  induction r.1 using Option.casesOn with
  |none=>exact j7 Ht Hb n r.2 k κ h
  |some d=>exact .ok h) (.ok h)
theorem pP {f:D→Rho→κ1→SOK κ1}{f':D→Rho→κ2→SOK κ2}(H:∀ d ρ k κ,R k κ→Sim R (f d ρ k) (f' d ρ κ)):∀ ds ρ k κ,R k κ→Sim R (lu f ds ρ k) (lu f' ds ρ κ)
 |[],_,_,_,h=>.ok h
 |d::ds,ρ,k,κ,h=>.bind (H d ρ k κ h) fun r k κ h=>by
  induction r.1 using Option.casesOn with
  |none=>exact pP H ds r.2 k κ h
  |some d=>exact .ok h
theorem g9 {σ:Type}{f:σ→Rho→κ1→SOK κ1}{f':σ→Rho→κ2→SOK κ2}(H:∀ d ρ k κ,R k κ→Sim R (f d ρ k) (f' d ρ κ)):∀ ds ρ k κ,R k κ→Sim R (exL f ds ρ k) (exL f' ds ρ κ)
 |[],_,_,_,h=>.ok h
 |d::ds,ρ,k,κ,h=>.bind (H d ρ k κ h) fun r k κ h=>by
  induction r.1 using Option.casesOn with
  |none=>exact g9 H ds r.2 k κ h
  |some d=>exact .ok h
structure CSim (R:κ1→κ2→Prop) (c1:CR κ1) (c2:CR κ2):Prop where
 calls:∀ f args k κ,R k κ→Sim R (c1.calls f args k) (c2.calls f args κ)
 pos:∀ k κ,R k κ→c1.pos k=c2.pos κ
 set:∀ k κ k' κ',R k κ→c2.set κ k'=some κ'→∃ k1,c1.set k k'=some k1∧R k1 κ'
 kp:c1.kp=c2.kp
 dl:c1.dl=c2.dl
 dg:c1.dg=c2.dg
 rs:c1.rs=c2.rs
variable {c1:CR κ1}{c2:CR κ2}
theorem Sim.optK {α β:Type}{o:Option α}{f:α→OutK κ1 β}{f':α→OutK κ2 β}(h:∀ a,Sim R (f a) (f' a)):Sim R (optK o f) (optK o f'):=by
 induction o using Option.casesOn with
 |none=>trivial
 |some a=>exact h a
theorem Sim.orK {α β:Type}{o:Option α}{f:α→OutK κ1 β}{f':α→OutK κ2 β}{g:OutK κ1 β}{g':OutK κ2 β}(h:∀ a,Sim R (f a) (f' a)) (hg:Sim R g g'):Sim R (orK o f g) (orK o f' g'):=by
 induction o using Option.casesOn with
 |none=>exact hg
 |some a=>exact h a
theorem rQ (C:CSim R c1 c2) (f:D) (args:List D) {k:κ1}{κ:κ2}(h:R k κ):Sim R (oF c1.calls c1.rs f args k) (oF c2.calls c2.rs f args κ):=by
 induction f using D.casesOn with
 |glob v =>
  induction v using Value.casesOn with
  |ref a=>exact .ite (.nbO (C.calls _ _ _ _ h)) trivial
  |builtin=>exact .ofO h
  |type=>exact .ofO h
  |_=>trivial
 |lam d =>
  rw[C.rs]
  exact .optK fun a=>.ite (.nbO (C.calls _ _ _ _ h)) trivial
 |_=>trivial
theorem ui (C:CSim R c1 c2) (fm:Option Addr) (d:D) (m:Str):nX c1 fm d m=nX c2 fm d m:=by
 unfold nX
 rw[C.dl]
theorem qR (C:CSim R c1 c2) (fm:Option Addr) (d:D) (m:Str) (args:List D) {k:κ1}{κ:κ2}(h:R k κ):Sim R (nY c1 fm d m args k) (nY c2 fm d m args κ):=by
 unfold nY
 rw[C.dg]
 induction d using D.casesOn with
 |rdr=>exact .optK fun f=>.ite (.nbO (C.calls _ _ _ _ h)) trivial
 |py p=>induction p using PyData.casesOn with
  |str=>exact .ofO h
  |_=>trivial
 |glob v=>induction v using Value.casesOn with
  |ref=>exact .ofO h
  |_=>trivial
 |_=>trivial
theorem l9 {f:RE→κ1→OutK κ1 D}{f':RE→κ2→OutK κ2 D}(H:∀ e k κ,R k κ→Sim R (f e k) (f' e κ)) (o:Option RE) {k:κ1}{κ:κ2}(h:R k κ):Sim R (kD f o k) (kD f' o κ) :=
 .orK (fun e=>.bind (H e k κ h) fun d k κ h=>.optK fun i=>.ok h) (.ok h)
theorem qu (d:D) (lo hi:Option Int) {k:κ1}{κ:κ2}(h:R k κ):Sim R (kn d lo hi k) (kn d lo hi κ):=by
 induction d using D.casesOn with
 |py p =>
  induction p using PyData.casesOn with
  |str=>exact .ite (.ok h) trivial
  |list=>exact .ite (.ofO h) trivial
  |_=>trivial
 |_=>trivial
theorem sO (C:CSim R c1 c2):∀ n,(∀ ρ e k κ,R k κ→Sim R (evR c1 n ρ e k) (evR c2 n ρ e κ))∧(∀ ρ e k κ,R k κ→Sim R (cf c1 n ρ e k) (cf c2 n ρ e κ))
 |0=>⟨fun _ _ _ _ _=>trivial,fun _ _ _ _ _=>trivial⟩
 |n+1=>by
  obtain⟨H,HB⟩:=sO C n
  refine⟨fun ρ e k κ h=>?_,fun ρ e k κ h=>?_⟩
  ·induction e using RE.casesOn with
   |bad=>trivial
   |val d=>exact .ok h
   |var x=>exact .ofO h
   |op1 o e=>exact .bind (H ρ e k κ h) fun d k κ h=>.ofO h
   |op2 o a b=>exact .bind (H ρ a k κ h) fun a k κ h=>.bind (H ρ b k κ h) fun b k κ h=>.ofO h
   |opN o es=>exact .bind (dU (H ρ) es k κ h) fun ds k κ h=>.ofO h
   |tup es=>exact .bind (dU (H ρ) es k κ h) fun ds k κ h=>.ite (.ofO h) trivial
   |lst es=>exact .bind (dU (H ρ) es k κ h) fun ds k κ h=>.ite (.ofO h) trivial
   |at1 e =>
    refine .bind (H ρ e k κ h) fun d k κ h=>?_
    rw[C.pos k κ h]
    exact .ofO h
   |call f es=>exact .bind (dU (H ρ) es k κ h) fun ds k κ h=>.ite (.nbO (C.calls _ _ _ _ h)) trivial
   |callv e es =>
    refine .bind (H ρ e k κ h) fun d k κ h=>?_
    rw[C.kp]
    exact .ite (.bind (dU (H ρ) es k κ h) fun ds k κ h=>rQ C d ds h) trivial
   |meth o m fm es =>
    refine .bind (H ρ o k κ h) fun d k κ h=>?_
    rw[ui C]
    exact .optK fun v=>.bind (dU (H ρ) es k κ h) fun ds k κ h=>qR C fm d m ds h
   |boolv a es=>exact mS (H ρ) a es k κ h
   |ife t a b=>exact .bind (HB ρ t k κ h) fun q k κ h=>.ite (H ρ a k κ h) (H ρ b k κ h)
   |lam x=>exact .ofO h
   |slice v lo hi=>exact .bind (H ρ v k κ h) fun d k κ h=>.bind (l9 (H ρ) lo h) fun lo k κ h=>.bind (l9 (H ρ) hi h) fun hi k κ h=>qu d lo hi h
   |disp kvs i=>exact .bind (H ρ i k κ h) fun i k κ h=>.optK fun j=>.ofO h
   |join x o=>exact .optK fun l=>.bind (H ρ o k κ h) fun d k κ h=>.optK fun sep=>.optK fun ss=>.ite (.ok h) trivial
   |repl y z o=>exact .bind (H ρ o k κ h) fun d k κ h=>.optK fun x=>.ite (.ok h) trivial
   |cat y c1' x c2' o=>exact .optK fun w=>.ite (.bind (H ρ o k κ h) fun d k κ h=>.optK fun z=>.ite (.ok h) trivial) trivial
   |comp elt t it ifs ns =>
    refine .ite (.bind (H ρ it k κ h) fun d k κ h=>.optK fun ds=>.bind (mO (fun e k κ h=>?_) ds k κ h) fun ds k κ h=>.ofO h) trivial
    exact .optK fun ρ'=>.bind (jt (HB ρ') true ifs k κ h) fun b k κ h=>.ite (.bind (H ρ' elt k κ h) fun y k κ h=>.ok h) (.ok h)
  ·induction e using RB.casesOn with
   |ands a bs=>exact jt (HB ρ) a bs k κ h
   |neg b=>exact .bind (HB ρ b k κ h) fun b k κ h=>.ok h
   |tst e=>exact .bind (H ρ e k κ h) fun d k κ h=>.ofO h
theorem sM (C:CSim R c1 c2):∀ n s ρ k κ,R k κ→Sim R (exR c1 n s ρ k) (exR c2 n s ρ κ)
 |0,_,_,_,_,_=>trivial
 |n+1,s,ρ,k,κ,h=>by
  obtain⟨H,HB⟩:=sO C n
  have HS:=sM C n
  induction s using RS.casesOn with
  |bad=>trivial
  |pass=>exact .ok h
  |expr x bl es e=>exact .orK (fun l=>.optK fun m=>.bind (dU (H ρ) es k κ h) fun ds k κ h=>.bind (.ofO h) fun l k κ h=>.ok h) (.bind (H ρ e k κ h) fun d k κ h=>.ite (.ok h) trivial)
  |asg x chk e=>exact .bind (H ρ e k κ h) fun d k κ h=>.ite (.ok h) trivial
  |lst x es=>exact .bind (dU (H ρ) es k κ h) fun ds k κ h=>.ite (.bind (.ofO h) fun l k κ h=>.ok h) trivial
  |tup t e=>exact .bind (H ρ e k κ h) fun d k κ h=>.bind (.ofO h) fun ρ k κ h=>.ok h
  |swap names e=>exact .bind (H ρ e k κ h) fun d k κ h=>.optK fun l=>.ite (.ok h) trivial
  |pop t x=>exact .optK fun l=>.ite (.optK fun d=>.bind (.ofO h) fun ρ k κ h=>.ok h) trivial
  |at1 x e =>
   refine .optK fun r=>.ite (.bind (H ρ e k κ h) fun d k κ h=>.optK fun k'=>?_) trivial
   induction hs:c2.set κ k' using Option.casesOn with
   |none=>trivial
   |some κ' =>
    obtain⟨k1,e1,h1⟩:=C.set k κ _ κ' h hs
    rw[e1]
    exact .ok h1
  |ifs t b o=>exact .bind (HB ρ t k κ h) fun q k κ h=>.ite (g9 HS b ρ k κ h) (g9 HS o ρ k κ h)
  |whl t b=>exact j7 (fun ρ k κ h=>HB ρ t k κ h) (g9 HS b) 400 ρ k κ h
  |frs t it b =>
   refine .bind (H ρ it k κ h) fun d k κ h=>.optK fun ds=>pP (fun d ρ k κ h=>?_) ds ρ k κ h
   exact .optK fun ρ'=>g9 HS b ρ' k κ h
  |ret e=>exact .bind (H ρ e k κ h) fun d k κ h=>.ok h
  |ret0=>exact .ok h
  |rais o es=>exact .bind (H ρ o k κ h) fun d k κ h=>.ite (.bind (dU (H ρ) es k κ h) fun ds k κ h=>Sim.ite (show Sim R .exc .exc from rfl) trivial) trivial
theorem vN (C:CSim R c1 c2) (r:RF) (args:List D) {k:κ1}{κ:κ2}(h:R k κ):Sim R (cg c1 r args k) (cg c2 r args κ):=by
 unfold cg
 induction pY r.ps r.dv args using Option.casesOn with
 |none=>trivial
 |some ρ=>exact .bind (g9 (sM C 40) r.body ρ k κ h) fun r k κ h=>.ok h
end
noncomputable abbrev kM:Params→Frag:=Hd.kM
noncomputable abbrev dl:List Addr:=[258,176,177]
noncomputable def aj (K:Frag) (dl:List Addr) (op:CmpOp) (a b:D):Option D:=(gJ K dl op a b).map fun b=>.py (.bool b)
noncomputable def MU (d:D):Option D:=(bV d).map fun b=>.py (.bool !b)
noncomputable def cn (a:Str) (d:D):Option D:=gP [] a d 0
noncomputable def aJ (d:D) (ρ:Rho):Bool:=nb d&&true
noncomputable def Kg (d:D) (ρ:Rho):Bool:=nb d&&(eF d&&ρ.all fun p=>eF p.2)
noncomputable def cM (P:Params) (toks:List (Str×Str×Int)) (f:Addr) (calls:Orc):Cx:=⟨kM P,714,279,dl,[(309,225,36,"read_primary.<locals>.<lambda>"),(432,342,35,"number_here.<locals>.<lambda>")],toks,some f,calls⟩
noncomputable def crM (P:Params) (calls:Orc):CR Nat:=⟨calls,fun k=>k,fun _ k=>some k,fun d=>match d with
 |.glob (.ref a)=>keepIn (kM P) (.ref a)
 |.glob (.builtin _)=>true
 |.glob (.type _)=>true
 |.lam _=>true
 |_=>false,fun a=>dl.contains a,fun a ds=>sU (kM P) dl a ds,279⟩
noncomputable abbrev Sok (P:Params) (toks:List (Str×Str×Int)) (calls:Orc) (f:Addr) (r:RF):Prop:=∀ args k,Sim Eq (hO (cM P toks f calls) f args k) (cg (crM P calls) r args k)
theorem Sim.eqv {κ α:Type}{o o':OutK κ α}(h:o=o'):Sim Eq o o':=by
 subst h
 induction o using OutK.casesOn with
 |ok a k=>exact⟨k,rfl,rfl⟩
 |exc=>rfl
 |no=>trivial
section
variable {F:List D→Nat→Out D}{c:CR Nat}{r:RF}{p q z:Str}{v:D}
theorem so1 (h1:r.ps=[p]) (h2:r.dv=none) (h:∀ d k,F [d] k=cg c r [d] k) (args:List D) (k:Nat):Sim Eq (F args k) (cg c r args k):=by
 obtain⟨ps,dv,b⟩:=r
 obtain rfl:ps=_:=h1
 obtain rfl:dv=_:=h2
 rcases args with _ | ⟨d,_ | ⟨e,l⟩⟩
 ·trivial
 ·exact .eqv (h d k)
 ·trivial
theorem so2 (h1:r.ps=[p,q]) (h2:r.dv=none) (h:∀ d e k,F [d,e] k=cg c r [d,e] k) (args:List D) (k:Nat):Sim Eq (F args k) (cg c r args k):=by
 obtain⟨ps,dv,b⟩:=r
 obtain rfl:ps=_:=h1
 obtain rfl:dv=_:=h2
 rcases args with _ | ⟨d,_ | ⟨e,_ | ⟨f,l⟩⟩⟩
 ·trivial
 ·trivial
 ·exact .eqv (h d e k)
 ·trivial
theorem so3 (h1:r.ps=[p,q,z]) (h2:r.dv=none) (h:∀ d e f k,F [d,e,f] k=cg c r [d,e,f] k) (args:List D) (k:Nat):Sim Eq (F args k) (cg c r args k):=by
 obtain⟨ps,dv,b⟩:=r
 obtain rfl:ps=_:=h1
 obtain rfl:dv=_:=h2
 rcases args with _ | ⟨d,_ | ⟨e,_ | ⟨f,_ | ⟨g,l⟩⟩⟩⟩
 ·trivial
 ·trivial
 ·trivial
 ·exact .eqv (h d e f k)
 ·trivial
theorem DW (h1:r.ps=[p,q]) (h2:r.dv=some v) (h0:∀ d k,F [d] k=cg c r [d] k) (h:∀ d e k,F [d,e] k=cg c r [d,e] k) (args:List D) (k:Nat):Sim Eq (F args k) (cg c r args k):=by
 obtain⟨ps,dv,b⟩:=r
 obtain rfl:ps=_:=h1
 obtain rfl:dv=_:=h2
 rcases args with _ | ⟨d,_ | ⟨e,_ | ⟨f,l⟩⟩⟩
 ·trivial
 ·exact .eqv (h0 d k)
 ·exact .eqv (h d e k)
 ·trivial
theorem Gn (h1:r.ps=[p,q,z]) (h2:r.dv=some v) (h0:∀ d e k,F [d,e] k=cg c r [d,e] k) (h:∀ d e f k,F [d,e,f] k=cg c r [d,e,f] k) (args:List D) (k:Nat):Sim Eq (F args k) (cg c r args k):=by
 obtain⟨ps,dv,b⟩:=r
 obtain rfl:ps=_:=h1
 obtain rfl:dv=_:=h2
 rcases args with _ | ⟨d,_ | ⟨e,_ | ⟨f,_ | ⟨g,l⟩⟩⟩⟩
 ·trivial
 ·trivial
 ·exact .eqv (h0 d e k)
 ·exact .eqv (h d e f k)
 ·trivial
end
noncomputable abbrev fq:Str:=⟨#[117,110,105,116,115]⟩
noncomputable abbrev g2:Str:=⟨#[115,99,97,108,101]⟩
noncomputable abbrev bK:Str:=⟨#[102,105,103,117,114,101,115]⟩
noncomputable abbrev aG:Str:=⟨#[110,117,109,98,101,114]⟩
noncomputable abbrev d9:Str:=⟨#[102,105,103,117,114,101]⟩
noncomputable abbrev iT:Str:=⟨#[48,49,50,51,52,53,54,55,56,57]⟩
noncomputable abbrev sr:Str:=⟨#[105,110,100,101,120]⟩
noncomputable abbrev aw:Str:=⟨#[116,101,120,116]⟩
noncomputable abbrev j0:Str:=⟨#[98,101,103,105,110]⟩
noncomputable abbrev t9:Str:=⟨#[43]⟩
noncomputable abbrev t10:Str:=⟨#[45]⟩
noncomputable abbrev ae:Str:=⟨#[97,104,101,97,100]⟩
noncomputable abbrev fQ:Str:=⟨#[98,101,104,105,110,100]⟩
noncomputable abbrev t13:Str:=⟨#[]⟩
noncomputable abbrev t14:Str:=⟨#[46]⟩
noncomputable abbrev nO:Str:=⟨#[112,111,105,110,116]⟩
noncomputable abbrev EA:Str:=⟨#[97,116]⟩
noncomputable abbrev n_a:Str:=⟨#[97]⟩
noncomputable abbrev n_0:Str:=⟨#[48]⟩
noncomputable abbrev aa:Str:=⟨#[114,101,97,100,101,114]⟩
noncomputable abbrev bu:Str:=⟨#[100,101,112,116,104]⟩
noncomputable abbrev bZ:Str:=⟨#[105,115,95,115,105,103,110]⟩
noncomputable abbrev t22:Str:=⟨#[40]⟩
noncomputable abbrev cu:Str:=⟨#[112,101,101,107]⟩
noncomputable abbrev t24:Str:=⟨#[41]⟩
noncomputable abbrev t25:Str:=⟨#[58]⟩
noncomputable abbrev ca:Str:=⟨#[114,101,97,100,95,101,120,112,114]⟩
noncomputable abbrev gz:Str:=⟨#[110,101,101,100,95,115,105,103,110]⟩
noncomputable abbrev ag:Str:=⟨#[102,111,117,110,100]⟩
noncomputable abbrev dm:Str:=⟨#[115,107,105,112,95,115,105,103,110]⟩
noncomputable abbrev t30:Str:=⟨#[109,111,114,101,32,116,104,97,110,32,55,32,115,117,98,115,99,114,105,112,116,115]⟩
noncomputable abbrev aF:Str:=⟨#[97,112,112,101,110,100]⟩
noncomputable abbrev ik:Str:=⟨#[110,97,109,101]⟩
noncomputable abbrev eM:Str:=⟨#[113,117,97,108,105,102,105,101,114,115]⟩
noncomputable abbrev wt:Str:=⟨#[111,110,101,95,111,102]⟩
noncomputable abbrev t35:Str:=⟨#[79,70,32,73,78]⟩
noncomputable abbrev ce:Str:=⟨#[115,117,98,115,99,114,105,112,116,115]⟩
noncomputable abbrev f6:Str:=⟨#[112,97,114,116]⟩
noncomputable abbrev dM:Str:=⟨#[114,101,102]⟩
noncomputable abbrev bk:Str:=⟨#[105,115,95,107,105,110,100]⟩
noncomputable abbrev ai:Str:=⟨#[119,111,114,100]⟩
noncomputable abbrev bo:Str:=⟨#[119,111,114,116,104]⟩
noncomputable abbrev gy:Str:=⟨#[116,97,107,101]⟩
noncomputable abbrev gC:Str:=⟨#[105,115,95,110,117,109,98,101,114]⟩
noncomputable abbrev wp:Str:=⟨#[115,105,103,110,101,100]⟩
noncomputable abbrev mn:Str:=⟨#[108,105,116,101,114,97,108]⟩
noncomputable abbrev wu:Str:=⟨#[111,99,116,101,116,115]⟩
noncomputable abbrev cK:Str:=⟨#[115,107,105,112]⟩
noncomputable abbrev IF:Str:=⟨#[65,76,76]⟩
noncomputable abbrev uf:Str:=⟨#[114,101,112,108,97,99,101]⟩
noncomputable abbrev t50:Str:=⟨#[48,46]⟩
noncomputable abbrev bR:Str:=⟨#[115,104,111,119,95,101,120,112,114]⟩
noncomputable abbrev iR:Str:=⟨#[116,101,120,116,115]⟩
noncomputable abbrev t53:Str:=⟨#[46,48]⟩
noncomputable abbrev aq:Str:=⟨#[101,120,112,114]⟩
noncomputable abbrev t55:Str:=⟨#[40,43,45]⟩
noncomputable abbrev t56:Str:=⟨#[32,40]⟩
noncomputable abbrev t57:Str:=⟨#[32]⟩
noncomputable abbrev qO:Str:=⟨#[106,111,105,110]⟩
noncomputable abbrev t59:Str:=⟨#[32,79,70,32]⟩
noncomputable abbrev gB:Str:=⟨#[108,101,110,103,116,104]⟩
noncomputable abbrev t61:Str:=⟨#[32,58]⟩
noncomputable abbrev aA:Str:=⟨#[111,112,101,114,97,110,100]⟩
noncomputable abbrev Iz:Str:=⟨#[97,108,108]⟩
noncomputable abbrev t64:Str:=⟨#[65,76,76,32]⟩
noncomputable abbrev gY:Str:=⟨#[115,105,103,110,115]⟩
noncomputable abbrev aV:Str:=⟨#[116,111,107,101,110]⟩
noncomputable abbrev dh:Str:=⟨#[107,105,110,100]⟩
noncomputable abbrev aM:Str:=⟨#[115,105,103,110]⟩
noncomputable abbrev t69:Str:=⟨#[98,114,97,99,107,101,116,115,32,97,114,101,32,110,101,115,116,101,100,32,116,111,111,32,100,101,101,112]⟩
noncomputable abbrev t70:Str:=⟨#[42]⟩
noncomputable abbrev t71:Str:=⟨#[47]⟩
noncomputable abbrev pt:Str:=⟨#[105,115,95,111,119,110]⟩
noncomputable abbrev mj:Str:=⟨#[110,101,103]⟩
noncomputable abbrev t74:Str:=⟨#[42,42]⟩
noncomputable abbrev t75:Str:=⟨#[97,110,32,111,112,101,114,97,110,100,32,105,115,32,97,115,107,101,100,32,104,101,114,101]⟩
noncomputable abbrev Ix:Str:=⟨#[103,101,116]⟩
noncomputable abbrev sq:Str:=⟨#[108,101,97,115,116]⟩
noncomputable abbrev dA:Str:=⟨#[112,105,101,99,101,115]⟩
noncomputable abbrev aQ:Str:=⟨#[104,101,114,101]⟩
noncomputable abbrev t80:Str:=⟨#[45,32]⟩
noncomputable abbrev il:Str:=⟨#[108,105,110,101]⟩
noncomputable abbrev wq:Str:=⟨#[111,112]⟩
noncomputable abbrev iS:Str:=⟨#[101,120,116,101,110,100]⟩
noncomputable abbrev qN:Str:=⟨#[108,101,97,102]⟩
noncomputable abbrev cm:Str:=⟨#[107,101,121]⟩
noncomputable abbrev qJ:Str:=⟨#[115,105,122,101]⟩
noncomputable abbrev EE:Str:=⟨#[79,78]⟩
noncomputable abbrev ED:Str:=⟨#[83,73,90,69]⟩
noncomputable abbrev A1:Str:=⟨#[69,82,82,79,82]⟩
noncomputable abbrev Ey:Str:=⟨#[111,118,101,114]⟩
noncomputable abbrev kQ:Str:=⟨#[79,86,69,82,70,76,79,87]⟩
noncomputable abbrev Iy:Str:=⟨#[101,110,100]⟩
noncomputable abbrev MV:Str:=⟨#[65,84]⟩
noncomputable abbrev IE:Str:=⟨#[69,78,68]⟩
noncomputable abbrev ug:Str:=⟨#[105,110,118,97,108,105,100]⟩
noncomputable abbrev uh:Str:=⟨#[73,78,86,65,76,73,68]⟩
noncomputable abbrev ID:Str:=⟨#[75,69,89]⟩
noncomputable abbrev pv:Str:=⟨#[69,88,67,69,80,84,73,79,78]⟩
noncomputable abbrev qP:Str:=⟨#[98,97,114,101]⟩
noncomputable abbrev nM:Str:=⟨#[115,116,97,114,116,115,119,105,116,104]⟩
noncomputable abbrev Lv:Str:=⟨#[110,111,116,32]⟩
noncomputable abbrev IA:Str:=⟨#[78,79,84]⟩
noncomputable abbrev sv:Str:=⟨#[101,97,114,108,121]⟩
noncomputable abbrev pq:Str:=⟨#[110,101,101,100,101,100]⟩
noncomputable abbrev wv:Str:=⟨#[108,97,116,101]⟩
noncomputable abbrev A0:Str:=⟨#[102,97,117,108,116]⟩
noncomputable abbrev aN:Str:=⟨#[114,101,97,100,95,98,111,100,121]⟩
noncomputable abbrev nP:Str:=⟨#[107,101,121,115]⟩
noncomputable abbrev bN:Str:=⟨#[98,114,97,110,99,104,101,115]⟩
noncomputable abbrev wo:Str:=⟨#[116,117,114,110]⟩
noncomputable abbrev jl:Str:=⟨#[105,115,95,110,97,109,101]⟩
noncomputable abbrev Lu:Str:=⟨#[32,90,69,82,79,32,90,69,82,79,83,32,90,69,82,79,69,83,32,83,80,65,67,69,32,83,80,65,67,69,83,32,72,73,71,72,45,86,65,76,85,69,32,72,73,71,72,45,86,65,76,85,69,83,32,76,79,87,45,86,65,76,85,69,32,76,79,87,45,86,65,76,85,69,83,32,81,85,79,84,69,32,81,85,79,84,69,83,32,65,76,76,32]⟩
noncomputable abbrev Ls:Str:=⟨#[116,104,101,32,110,97,109,101,32,111,102,32,97,110,32,105,116,101,109,32,109,117,115,116,32,115,116,97,110,100,32,104,101,114,101]⟩
noncomputable abbrev EB:Str:=⟨#[90,69,82,79]⟩
noncomputable abbrev d8:Str:=⟨#[105,115,95,110,117,109,101,114,105,99,95,111,112,101,114,97,110,100]⟩
noncomputable abbrev gA:Str:=⟨#[109,97,114,107]⟩
noncomputable abbrev Lr:Str:=⟨#[97,110,32,105,116,101,109,32,111,114,32,97,32,110,117,109,98,101,114,32,109,117,115,116,32,115,116,97,110,100,32,104,101,114,101]⟩
noncomputable abbrev aX:Str:=⟨#[114,111,119,115]⟩
noncomputable abbrev mq:Str:=⟨#[82,79,85,78,68,69,68]⟩
noncomputable abbrev aW:Str:=⟨#[116,97,114,103,101,116,115]⟩
noncomputable abbrev fk:Str:=⟨#[119,97,121]⟩
noncomputable abbrev cB:Str:=⟨#[105,115,95,114,111,117,110,100,101,100]⟩
noncomputable abbrev lK:Str:=⟨#[61]⟩
noncomputable abbrev dQ:Str:=⟨#[99,108,111,115,105,110,103]⟩
noncomputable abbrev F0:Str:=⟨#[110,111,116,32,115,105,122,101]⟩
noncomputable abbrev jT:Str:=⟨#[67,79,82,82,69,83,80,79,78,68,73,78,71]⟩
noncomputable abbrev EF:Str:=⟨#[67,79,82,82]⟩
noncomputable abbrev fF:Str:=⟨#[110,101,101,100]⟩
noncomputable abbrev wy:Str:=⟨#[65,68,68]⟩
noncomputable abbrev EC:Str:=⟨#[84,79]⟩
noncomputable abbrev FZ:Str:=⟨#[69,78,68,45,65,68,68]⟩
noncomputable abbrev eg:Str:=⟨#[71,73,86,73,78,71]⟩
noncomputable abbrev Lq:Str:=⟨#[84,79,32,109,117,115,116,32,115,116,97,110,100,32,104,101,114,101]⟩
noncomputable abbrev eN:Str:=⟨#[97,114,105,116,104]⟩
noncomputable abbrev io:Str:=⟨#[83,85,66,84,82,65,67,84]⟩
noncomputable abbrev nU:Str:=⟨#[70,82,79,77]⟩
noncomputable abbrev FY:Str:=⟨#[69,78,68,45,83,85,66,84,82,65,67,84]⟩
noncomputable abbrev ip:Str:=⟨#[77,85,76,84,73,80,76,89]⟩
noncomputable abbrev A3:Str:=⟨#[66,89]⟩
noncomputable abbrev Lp:Str:=⟨#[69,78,68,45,77,85,76,84,73,80,76,89]⟩
noncomputable abbrev kR:Str:=⟨#[68,73,86,73,68,69]⟩
noncomputable abbrev fw:Str:=⟨#[111,110,101]⟩
noncomputable abbrev f7:Str:=⟨#[100,105,118,105,100,101,110,100]⟩
noncomputable abbrev g3:Str:=⟨#[100,105,118,105,115,111,114]⟩
noncomputable abbrev qQ:Str:=⟨#[73,78,84,79]⟩
noncomputable abbrev FX:Str:=⟨#[69,78,68,45,68,73,86,73,68,69]⟩
noncomputable abbrev pu:Str:=⟨#[82,69,77,65,73,78,68,69,82]⟩
noncomputable abbrev ms:Str:=⟨#[67,79,77,80,85,84,69]⟩
noncomputable abbrev A2:Str:=⟨#[69,81,85,65,76]⟩
noncomputable abbrev FW:Str:=⟨#[69,78,68,45,67,79,77,80,85,84,69]⟩
noncomputable abbrev af:Str:=⟨#[115,101,108,102]⟩
noncomputable abbrev Lo:Str:=⟨#[116,104,101,32,116,101,120,116,32,101,110,100,115,32,116,111,111,32,101,97,114,108,121]⟩
noncomputable abbrev bf:Str:=⟨#[119,111,114,100,115]⟩
noncomputable abbrev bA:Str:=⟨#[115,112,108,105,116]⟩
noncomputable abbrev mo:Str:=⟨#[105,115,95,119,111,114,100]⟩
noncomputable abbrev FV:Str:=⟨#[32,105,115,32,97,115,107,101,100,32,104,101,114,101]⟩
noncomputable abbrev Ln:Str:=⟨#[97,32,110,97,109,101,32,105,115,32,97,115,107,101,100,32,104,101,114,101]⟩
noncomputable abbrev Lm:Str:=⟨#[97,32,110,117,109,98,101,114,32,105,115,32,97,115,107,101,100,32,104,101,114,101]⟩
noncomputable abbrev im:Str:=⟨#[105,115,95,98,101,108,111,119]⟩
noncomputable abbrev sp:Str:=⟨#[112,97,114,116,115]⟩
noncomputable abbrev f5:Str:=⟨#[115,104,111,119]⟩
noncomputable abbrev bM:Str:=⟨#[116,111,108,100]⟩
noncomputable abbrev dw:Str:=⟨#[115,116,97,116,101,109,101,110,116,115]⟩
noncomputable abbrev lP:Str:=⟨#[115,104,111,119,95,112,104,114,97,115,101]⟩
noncomputable abbrev pp:Str:=⟨#[115,104,111,119,95,98,111,100,121]⟩
noncomputable abbrev Ll:Str:=⟨#[32,82,79,85,78,68,69,68]⟩
noncomputable abbrev mh:Str:=⟨#[114,101,118,101,114,115,101]⟩
noncomputable abbrev kK:Str:=⟨#[114,111,119]⟩
noncomputable abbrev ue:Str:=⟨#[114,111,117,110,100,101,100]⟩
noncomputable abbrev qK:Str:=⟨#[114,101,102,95,116,101,120,116]⟩
noncomputable abbrev jj:Str:=⟨#[119,97,121,115]⟩
noncomputable abbrev bQ:Str:=⟨#[115,116,97,116,101,109,101,110,116]⟩
noncomputable abbrev nQ:Str:=⟨#[104,101,97,100]⟩
noncomputable abbrev Lk:Str:=⟨#[67,79,77,80,85,84,69,32]⟩
noncomputable abbrev Lj:Str:=⟨#[32,61,32]⟩
noncomputable abbrev jk:Str:=⟨#[118,101,114,98]⟩
noncomputable abbrev jZ:Str:=⟨#[106,111,105,110,116]⟩
noncomputable abbrev kP:Str:=⟨#[111,112,101,114,97,110,100,95,116,101,120,116]⟩
noncomputable abbrev FU:Str:=⟨#[69,78,68,45]⟩
noncomputable abbrev wx:Str:=⟨#[100,105,118,105,100,101]⟩
noncomputable abbrev Ez:Str:=⟨#[99,111,114,114]⟩
noncomputable abbrev t182:Str:=⟨#[32,41,32]⟩
noncomputable abbrev t183:Str:=⟨#[32,40,32]⟩
noncomputable abbrev dP:Str:=⟨#[105,115,100,105,103,105,116]⟩
noncomputable abbrev be:Str:=⟨#[109,97,110,121]⟩
noncomputable abbrev nJ:Str:=⟨#[116,114,101,101]⟩
noncomputable abbrev Li:Str:=⟨#[74,32,45,32,49]⟩
noncomputable abbrev n_J:Str:=⟨#[74]⟩
noncomputable abbrev Lh:Str:=⟨#[49,32,45,32,40]⟩
noncomputable abbrev bS:Str:=⟨#[102,111,114,109]⟩
noncomputable abbrev eA:Str:=⟨#[105,116,101,109]⟩
noncomputable abbrev n_c:Str:=⟨#[99]⟩
noncomputable abbrev n_d:Str:=⟨#[100]⟩
noncomputable abbrev n_A:Str:=⟨#[65]⟩
noncomputable abbrev n_C:Str:=⟨#[67]⟩
noncomputable abbrev n_D:Str:=⟨#[68]⟩
noncomputable abbrev su:Str:=⟨#[101,120,112,114,115]⟩
noncomputable abbrev ww:Str:=⟨#[103,111,97,108]⟩
noncomputable abbrev Lg:Str:=⟨#[43,45,42]⟩
noncomputable abbrev bH:Str:=⟨#[115,117,98,115,99,114,105,112,116]⟩
noncomputable abbrev dB:Str:=⟨#[100,117,101]⟩
noncomputable abbrev n_T:Str:=⟨#[84]⟩
noncomputable abbrev t203:Str:=⟨#[32,84,32]⟩
noncomputable abbrev t204:Str:=⟨#[32,84,32,40]⟩
noncomputable abbrev t205:Str:=⟨#[41,32]⟩
noncomputable abbrev DQ:Str:=⟨#[65,68,68,32,84,32,65,32,71,73,86,73,78,71,32,67]⟩
noncomputable abbrev DP:Str:=⟨#[65,68,68,32,65,32,84,79,32,84,32,71,73,86,73,78,71,32,67]⟩
noncomputable abbrev DO:Str:=⟨#[83,85,66,84,82,65,67,84,32,84,32,65,32,70,82,79,77,32,67,32,71,73,86,73,78,71,32,68]⟩
noncomputable abbrev DN:Str:=⟨#[83,85,66,84,82,65,67,84,32,65,32,67,32,70,82,79,77,32,84,32,71,73,86,73,78,71,32,68]⟩
noncomputable abbrev DM:Str:=⟨#[77,85,76,84,73,80,76,89,32,84,32,66,89,32,65,32,71,73,86,73,78,71,32,67]⟩
noncomputable abbrev DL:Str:=⟨#[77,85,76,84,73,80,76,89,32,65,32,66,89,32,84,32,71,73,86,73,78,71,32,67]⟩
noncomputable abbrev DK:Str:=⟨#[68,73,86,73,68,69,32,84,32,66,89,32,65,32,71,73,86,73,78,71,32,67]⟩
noncomputable abbrev DJ:Str:=⟨#[68,73,86,73,68,69,32,84,32,73,78,84,79,32,65,32,71,73,86,73,78,71,32,67]⟩
noncomputable abbrev DH:Str:=⟨#[65,68,68,32,84,32,65,32,84,79,32,67]⟩
noncomputable abbrev DG:Str:=⟨#[83,85,66,84,82,65,67,84,32,65,32,84,32,70,82,79,77,32,67]⟩
noncomputable abbrev DF:Str:=⟨#[77,85,76,84,73,80,76,89,32,84,32,66,89,32,67]⟩
noncomputable def CB (P:Params):RF:=⟨[fq,g2],(some (.py (.int (0)))),[(.ifs (.tst (.op2 (aj [] [] .Lt) (.var g2) (.val (.py (.int (0)))))) [(.ret (.tup [(.op2 (aK .Mult) (.var fq) (.op2 (aK .Pow) (.val (.py (.int (10)))) .bad)),(.val (.py (.int (0))))]))] []),(.whl (.ands true [(.tst (.op2 (aj [] [] .Gt) (.var g2) (.val (.py (.int (0)))))),(.tst (.op2 (aj [] [] .Eq) (.op2 (aK .Mod) (.var fq) (.val (.py (.int (10))))) (.val (.py (.int (0))))))]) [(.asg fq aJ (.op2 (aK .FloorDiv) (.var fq) (.val (.py (.int (10)))))),(.asg g2 aJ (.op2 (aK .Sub) (.var g2) (.val (.py (.int (1))))))]),(.ret (.tup [(.var fq),(.var g2)]))]⟩
noncomputable def yq (P:Params):RF:=⟨[bK],none,[(.asg aG aJ (.val (.py (.int (0))))),(.frs (.name d9) (.var bK) [(.asg aG aJ (.op2 (aK .Add) (.op2 (aK .Mult) (.var aG) (.val (.py (.int (10))))) (.meth (.val (.py (.str iT))) sr none [(.var d9)])))]),(.ret (.var aG))]⟩
noncomputable def yo (P:Params):RF:=⟨[aw],none,[(.asg j0 aJ (.ife (.tst (.op2 (aj (kM P) dl .In) (.slice (.var aw) none (some (.val (.py (.int (1)))))) (.tup [(.val (.py (.str t9))),(.val (.py (.str t10)))]))) (.val (.py (.int (1)))) (.val (.py (.int (0)))))),(.swap [ae,fQ] (.tup [(.slice (.var aw) (some (.var j0)) none),(.val (.py (.str t13)))])),(.ifs (.tst (.op2 (aj (kM P) dl .In) (.val (.py (.str t14))) (.var ae))) [(.asg nO aJ (.meth (.var ae) sr none [(.val (.py (.str t14)))])),(.swap [ae,fQ] (.tup [(.slice (.var ae) none (some (.var nO))),(.slice (.var ae) (some (.op2 (aK .Add) (.var nO) (.val (.py (.int (1)))))) none)])),(.ifs (.tst (.op2 (aj [] [] .Eq) (.var fQ) (.val (.py (.str t13))))) [.bad] [])] []),(.ifs (.tst (.op2 (aj [] [] .Eq) (.op2 (aK .Add) (.var ae) (.var fQ)) (.val (.py (.str t13))))) [.bad] []),(.frs (.name EA) (.opN (gj "range") [(.var j0),(.opN (aS "len") [(.var aw)])]) [(.ifs (.ands true [(.tst (.op2 (aj (kM P) dl .NotIn) (.op2 (ah (kM P) dl) (.var aw) (.var EA)) (.val (.py (.str iT))))),(.tst (.op2 (aj [] [] .NotEq) (.var EA) (.op2 (aK .Add) (.var j0) (.opN (aS "len") [(.var ae)]))))]) [.bad] [])]),(.asg fq aJ (.call 124 [(.op2 (aK .Add) (.var ae) (.var fQ))])),(.ret (.call 89 [(.ife (.tst (.op2 (aj [] [] .Eq) (.slice (.var aw) none (some (.val (.py (.int (1)))))) (.val (.py (.str t10))))) .bad (.var fq)),(.opN (aS "len") [(.var fQ)])]))]⟩
noncomputable def yn (P:Params):RF:=⟨[n_a],none,[(.asg bK aJ (.opN (gj "str") [(.opN (aS "abs") [(.op2 (ah (kM P) dl) (.var n_a) (.val (.py (.int (0)))))])])),(.ifs (.tst (.op2 (aj [] [] .Gt) (.op2 (ah (kM P) dl) (.var n_a) (.val (.py (.int (1))))) (.val (.py (.int (0)))))) [(.asg bK aJ (.op2 (aK .Add) (.op2 (aK .Mult) (.val (.py (.str n_0))) (.op2 (aK .Sub) (.op2 (aK .Add) (.op2 (ah (kM P) dl) (.var n_a) (.val (.py (.int (1))))) (.val (.py (.int (1))))) (.opN (aS "len") [(.var bK)]))) (.var bK))),(.asg bK aJ (.op2 (aK .Add) (.op2 (aK .Add) (.slice (.var bK) none (some (.op2 (aK .Sub) (.opN (aS "len") [(.var bK)]) (.op2 (ah (kM P) dl) (.var n_a) (.val (.py (.int (1)))))))) (.val (.py (.str t14)))) (.slice (.var bK) (some (.op2 (aK .Sub) (.opN (aS "len") [(.var bK)]) (.op2 (ah (kM P) dl) (.var n_a) (.val (.py (.int (1))))))) none)))] []),(.ret (.ife (.tst (.op2 (aj [] [] .Lt) (.op2 (ah (kM P) dl) (.var n_a) (.val (.py (.int (0))))) (.val (.py (.int (0)))))) (.op2 (aK .Add) (.val (.py (.str t10))) (.var bK)) (.var bK)))]⟩
noncomputable def ym (P:Params):RF:=⟨[aa],none,[(.tup (.tup [(.name bu),(.name ae)]) (.tup [(.val (.py (.int (0)))),(.val (.py (.int (0))))])),(.whl (.ands false [(.tst (.op2 (aj [] [] .Gt) (.var bu) (.val (.py (.int (0)))))),(.ands true [(.tst (.op2 (aj [] [] .Eq) (.var ae) (.val (.py (.int (0)))))),(.tst (.meth (.var aa) bZ (some 662) [(.val (.py (.str t22)))]))])]) [(.ifs (.tst (.op2 (aj [] [] .Is) (.meth (.var aa) cu (some 568) [(.var ae)]) (.val (.py .none)))) [(.ret (.val (.py (.bool false))))] []),(.ifs (.tst (.meth (.var aa) bZ (some 662) [(.val (.py (.str t22))),(.var ae)])) [(.asg bu aJ (.op2 (aK .Add) (.var bu) (.val (.py (.int (1))))))] [(.ifs (.tst (.meth (.var aa) bZ (some 662) [(.val (.py (.str t24))),(.var ae)])) [(.asg bu aJ (.op2 (aK .Sub) (.var bu) (.val (.py (.int (1))))))] [(.ifs (.ands true [(.tst (.op2 (aj [] [] .Eq) (.var bu) (.val (.py (.int (1)))))),(.tst (.meth (.var aa) bZ (some 662) [(.val (.py (.str t25))),(.var ae)]))]) [(.ret (.val (.py (.bool true))))] [])])]),(.asg ae aJ (.op2 (aK .Add) (.var ae) (.val (.py (.int (1))))))]),(.ret (.val (.py (.bool false))))]⟩
noncomputable def yl (P:Params):RF:=⟨[aa,ca],none,[(.expr aa none [(.val (.py (.str t22)))] (.meth (.var aa) gz (some 676) [(.val (.py (.str t22)))])),(.lst ag [(.callv (.var ca) [(.var aa)])]),(.whl (.neg (.tst (.meth (.var aa) dm (some 669) [(.val (.py (.str t24)))]))) [(.ifs (.tst (.op2 (aj [] [] .GtE) (.opN (aS "len") [(.var ag)]) (.val (.py (.int (7)))))) [(.rais (.var aa) [(.val (.py (.str t30)))])] []),(.expr ag (some aF) [(.callv (.var ca) [(.var aa)])] .bad)]),(.ret (.opN (gj "tuple") [(.var ag)]))]⟩
noncomputable def yk (P:Params):RF:=⟨[aa,ca],none,[(.asg ik aJ (.meth (.var aa) ik (some 647) [])),(.lst eM []),(.whl (.tst (.op2 (aj [] [] .NotEq) (.meth (.var aa) wt (some 625) [(.val (.py (.str t35)))]) (.val (.py (.str t13))))) [(.expr eM (some aF) [(.meth (.var aa) ik (some 647) [])] (.meth (.var eM) aF none [(.meth (.var aa) ik (some 647) [])]))]),(.asg ce aJ (.tup [])),(.ifs (.ands true [(.tst (.meth (.var aa) bZ (some 662) [(.val (.py (.str t22)))])),(.neg (.tst (.call 184 [(.var aa)])))]) [(.asg ce aJ (.call 191 [(.var aa),(.var ca)]))] []),(.asg f6 aJ (.ife (.tst (.call 184 [(.var aa)])) (.call 198 [(.var aa),(.var ca)]) (.val (.py .none)))),(.ret (.tup [(.val (.py (.str dM))),(.var ik),(.opN (gj "tuple") [(.var eM)]),(.var ce),(.var f6)]))]⟩
noncomputable def yj (P:Params):RF:=⟨[aa],none,[(.ifs (.ands false [(.neg (.tst (.meth (.var aa) bk (some 597) [(.val (.py (.str ai)))]))),(.tst (.op2 (aj (kM P) dl .NotIn) (.op1 (cn bo) (.meth (.var aa) cu (some 568) [])) (.val (.glob (.ref 176)))))]) [(.ret (.val (.py .none)))] []),(.ret (.tup [(.val (.py (.str d9))),(.op2 (ah (kM P) dl) (.val (.glob (.ref 176))) (.op1 (cn bo) (.meth (.var aa) gy (some 589) [])))]))]⟩
noncomputable def yi (P:Params):RF:=⟨[aa,ca],none,[(.ifs (.tst (.meth (.var aa) gC (some 683) [])) [(.ret (.tup [(.val (.py (.str aG))),(.meth (.var aa) wp (some 690) [])]))] []),(.ifs (.tst (.meth (.var aa) bk (some 597) [(.val (.py (.str mn)))])) [(.ret (.tup [(.val (.py (.str aw))),(.meth (.var aa) wu (some 711) [])]))] []),(.ifs (.tst (.meth (.var aa) cK (some 611) [(.val (.py (.str IF)))])) [(.ret (.call 212 [(.var aa)]))] []),(.asg d9 aJ (.call 219 [(.var aa)])),(.ret (.ife (.tst (.op2 (aj [] [] .Is) (.var d9) (.val (.py .none)))) (.call 205 [(.var aa),(.var ca)]) (.var d9)))]⟩
noncomputable def yh (P:Params):RF:=⟨[bo],none,[(.asg aw aJ (.call 138 [(.var bo)])),(.ret (.ife (.ands true [(.tst (.op2 (aj [] [] .Eq) (.op2 (ah (kM P) dl) (.var bo) (.val (.py (.int (1))))) (.val (.py (.int (18)))))),(.tst (.op2 (aj [] [] .Lt) (.opN (aS "abs") [(.op2 (ah (kM P) dl) (.var bo) (.val (.py (.int (0)))))]) (.op2 (aK .Pow) (.val (.py (.int (10)))) (.op2 (ah (kM P) dl) (.var bo) (.val (.py (.int (1))))))))]) (.meth (.var aw) uf none [(.val (.py (.str t50))),(.val (.py (.str t14))),(.val (.py (.int (1))))]) (.var aw)))]⟩
noncomputable def yg (P:Params):RF:=⟨[ce,bR],none,[(.asg iR aJ (.comp (.callv (.var bR) [(.var aq)]) (.name aq) (.var ce) [] [(t53,.local),(aq,.local),(bR,.free)])),(.ifs (.tst (.op2 (aj [] [] .NotEq) (.comp (.var aw) (.name aw) (.slice (.var iR) (some (.val (.py (.int (1))))) none) [(.tst (.op2 (aj (kM P) dl .In) (.op2 (ah (kM P) dl) (.var aw) (.val (.py (.int (0))))) (.val (.py (.str t55)))))] [(t53,.local),(aw,.local)]) (.lst []))) [(.asg iR aJ (.comp (.op2 (aK .Add) (.op2 (aK .Add) (.val (.py (.str t22))) (.var aw)) (.val (.py (.str t24)))) (.name aw) (.var iR) [] [(t53,.local),(aw,.local)]))] []),(.ret (.op2 (aK .Add) (.op2 (aK .Add) (.val (.py (.str t56))) (.meth (.val (.py (.str t57))) qO none [(.var iR)])) (.val (.py (.str t24)))))]⟩
noncomputable def yf (P:Params):RF:=⟨[dM,bR],none,[(.asg ag aJ (.meth (.val (.py (.str t59))) qO none [(.op2 (aK .Add) (.lst [(.op2 (ah (kM P) dl) (.var dM) (.val (.py (.int (1)))))]) (.opN (gj "list") [(.op2 (ah (kM P) dl) (.var dM) (.val (.py (.int (2)))))]))])),(.ifs (.tst (.op2 (aj [] [] .NotEq) (.op2 (ah (kM P) dl) (.var dM) (.val (.py (.int (3))))) (.tup []))) [(.asg ag aJ (.op2 (aK .Add) (.var ag) (.call 243 [(.op2 (ah (kM P) dl) (.var dM) (.val (.py (.int (3))))),(.var bR)])))] []),(.ifs (.tst (.op2 (aj [] [] .IsNot) (.op2 (ah (kM P) dl) (.var dM) (.val (.py (.int (4))))) (.val (.py .none)))) [(.asg gB aJ (.ife (.tst (.op2 (aj [] [] .Is) (.op2 (ah (kM P) dl) (.op2 (ah (kM P) dl) (.var dM) (.val (.py (.int (4))))) (.val (.py (.int (1))))) (.val (.py .none)))) (.val (.py (.str t13))) (.op2 (aK .Add) (.val (.py (.str t57))) (.callv (.var bR) [(.op2 (ah (kM P) dl) (.op2 (ah (kM P) dl) (.var dM) (.val (.py (.int (4))))) (.val (.py (.int (1)))))])))),(.asg ag aJ (.op2 (aK .Add) (.op2 (aK .Add) (.op2 (aK .Add) (.op2 (aK .Add) (.op2 (aK .Add) (.var ag) (.val (.py (.str t56)))) (.callv (.var bR) [(.op2 (ah (kM P) dl) (.op2 (ah (kM P) dl) (.var dM) (.val (.py (.int (4))))) (.val (.py (.int (0)))))])) (.val (.py (.str t61)))) (.var gB)) (.val (.py (.str t24)))))] []),(.ret (.var ag))]⟩
noncomputable def ye (P:Params):RF:=⟨[aA,bR],none,[(.ifs (.tst (.op2 (aj [] [] .Eq) (.op2 (ah (kM P) dl) (.var aA) (.val (.py (.int (0))))) (.val (.py (.str dM))))) [(.ret (.call 250 [(.var aA),(.var bR)]))] []),(.ifs (.tst (.op2 (aj [] [] .Eq) (.op2 (ah (kM P) dl) (.var aA) (.val (.py (.int (0))))) (.val (.py (.str aG))))) [(.ret (.call 238 [(.op2 (ah (kM P) dl) (.var aA) (.val (.py (.int (1)))))]))] []),(.ifs (.tst (.op2 (aj [] [] .Eq) (.op2 (ah (kM P) dl) (.var aA) (.val (.py (.int (0))))) (.val (.py (.str d9))))) [(.ret (.op2 (ah (kM P) dl) (.val (.glob (.ref 177))) (.op2 (ah (kM P) dl) (.var aA) (.val (.py (.int (1)))))))] []),(.ret (.op2 (aK .Add) (.ife (.tst (.op2 (aj [] [] .Eq) (.op2 (ah (kM P) dl) (.var aA) (.val (.py (.int (0))))) (.val (.py (.str Iz))))) (.val (.py (.str t64))) (.val (.py (.str t13)))) (.call 231 [(.op2 (ah (kM P) dl) (.var aA) (.val (.py (.int (1)))))])))]⟩
noncomputable def yd (P:Params):RF:=⟨[aa],none,[(.ret (.call 279 [(.var aa),(.val (.py (.int (0))))]))]⟩
noncomputable def jp (P:Params):RF:=⟨[aa,gY],none,[(.asg aV aJ (.meth (.var aa) cu (some 568) [])),(.ifs (.ands false [(.tst (.op2 (aj [] [] .Is) (.var aV) (.val (.py .none)))),(.tst (.op2 (aj [] [] .NotEq) (.op1 (cn dh) (.var aV)) (.val (.py (.str aM))))),(.tst (.op2 (aj (kM P) dl .NotIn) (.op1 (cn bo) (.var aV)) (.var gY)))]) [(.ret (.val (.py (.str t13))))] []),(.ret (.op1 (cn bo) (.var aV)))]⟩
noncomputable def yc (P:Params):RF:=⟨[aa,bu],none,[(.ifs (.tst (.op2 (aj [] [] .Gt) (.var bu) (.val (.py (.int (20)))))) [(.rais (.var aa) [(.val (.py (.str t69)))])] []),(.asg ag aJ (.call 286 [(.var aa),(.var bu)])),(.whl (.tst (.op2 (aj [] [] .NotEq) (.call 272 [(.var aa),(.tup [(.val (.py (.str t9))),(.val (.py (.str t10)))])]) (.val (.py (.str t13))))) [(.asg aM aJ (.op1 (cn bo) (.meth (.var aa) gy (some 589) []))),(.asg ag aJ (.tup [(.var aM),(.var ag),(.call 286 [(.var aa),(.var bu)])]))]),(.ret (.var ag))]⟩
noncomputable def yb (P:Params):RF:=⟨[aa,bu],none,[(.asg ag aJ (.call 293 [(.var aa),(.var bu)])),(.whl (.tst (.op2 (aj [] [] .NotEq) (.call 272 [(.var aa),(.tup [(.val (.py (.str t70))),(.val (.py (.str t71)))])]) (.val (.py (.str t13))))) [(.asg aM aJ (.op1 (cn bo) (.meth (.var aa) gy (some 589) []))),(.asg ag aJ (.tup [(.var aM),(.var ag),(.call 293 [(.var aa),(.var bu)])]))]),(.ret (.var ag))]⟩
noncomputable def ya (P:Params):RF:=⟨[aa,bu],none,[(.asg aM aJ (.call 272 [(.var aa),(.tup [(.val (.py (.str t9))),(.val (.py (.str t10)))])])),(.ifs (.tst (.op2 (aj [] [] .Eq) (.var aM) (.val (.py (.str t13))))) [(.ret (.call 307 [(.var aa),(.var bu)]))] []),(.expr aa none [] (.meth (.var aa) gy (some 589) [])),(.asg pt aJ (.boolv true [(.op2 (aj [] [] .Eq) (.var aM) (.val (.py (.str t10)))),(.call 300 [(.var aa)])])),(.asg ag aJ (.call 307 [(.var aa),(.var bu)])),(.ifs (.tst (.var pt)) [(.ret (.tup [(.val (.py (.str aG))),(.call 96 [(.op2 (ah (kM P) dl) (.var ag) (.val (.py (.int (1)))))])]))] []),(.ret (.ife (.tst (.op2 (aj [] [] .Eq) (.var aM) (.val (.py (.str t10))))) (.tup [(.val (.py (.str mj))),(.var ag)]) (.var ag)))]⟩
noncomputable def xZ (P:Params):RF:=⟨[aa,bu],none,[(.asg ag aJ (.call 314 [(.var aa),(.var bu)])),(.whl (.tst (.op2 (aj [] [] .NotEq) (.call 272 [(.var aa),(.tup [(.val (.py (.str t74)))])]) (.val (.py (.str t13))))) [(.expr aa none [] (.meth (.var aa) gy (some 589) [])),(.asg ag aJ (.tup [(.val (.py (.str t74))),(.var ag),(.call 314 [(.var aa),(.var bu)])]))]),(.ret (.var ag))]⟩
noncomputable def xY (P:Params):RF:=⟨[aa,bu],none,[(.ifs (.tst (.op2 (aj [] [] .NotEq) (.call 272 [(.var aa),(.tup [(.val (.py (.str t9))),(.val (.py (.str t10)))])]) (.val (.py (.str t13))))) [(.rais (.var aa) [(.val (.py (.str t75)))])] []),(.ifs (.neg (.tst (.meth (.var aa) dm (some 669) [(.val (.py (.str t22)))]))) [(.ret (.call 226 [(.var aa),(.lam bu)]))] []),(.asg ag aJ (.call 279 [(.var aa),(.op2 (aK .Add) (.var bu) (.val (.py (.int (1)))))])),(.expr aa none [(.val (.py (.str t24)))] (.meth (.var aa) gz (some 676) [(.val (.py (.str t24)))])),(.ret (.var ag))]⟩
noncomputable def xX (P:Params):RF:=⟨[aq],none,[(.ifs (.ands false [(.tst (.op2 (aj [] [] .Eq) (.op2 (ah (kM P) dl) (.var aq) (.val (.py (.int (0))))) (.val (.py (.str mj))))),(.ands true [(.tst (.op2 (aj [] [] .Eq) (.op2 (ah (kM P) dl) (.var aq) (.val (.py (.int (0))))) (.val (.py (.str aG))))),(.tst (.op2 (aj [] [] .Lt) (.op2 (ah (kM P) dl) (.op2 (ah (kM P) dl) (.var aq) (.val (.py (.int (1))))) (.val (.py (.int (0))))) (.val (.py (.int (0))))))])]) [(.ret (.val (.py (.int (3)))))] []),(.ret (.meth (.val (.glob (.ref 258))) Ix none [(.op2 (ah (kM P) dl) (.var aq) (.val (.py (.int (0))))),(.val (.py (.int (5))))]))]⟩
noncomputable def xW (P:Params):RF:=⟨[aq,sq],none,[(.asg aw aJ (.call 335 [(.var aq)])),(.ret (.ife (.tst (.op2 (aj [] [] .Lt) (.call 321 [(.var aq)]) (.var sq))) (.op2 (aK .Add) (.op2 (aK .Add) (.val (.py (.str t22))) (.var aw)) (.val (.py (.str t24)))) (.var aw)))]⟩
noncomputable def xV (P:Params):RF:=⟨[aq],none,[(.lst dA []),(.asg aQ aJ (.var aq)),(.whl (.ands true [(.tst (.op2 (aj (kM P) dl .In) (.op2 (ah (kM P) dl) (.var aQ) (.val (.py (.int (0))))) (.val (.glob (.ref 258))))),(.tst (.op2 (aj [] [] .GtE) (.call 321 [(.op2 (ah (kM P) dl) (.var aQ) (.val (.py (.int (1)))))]) (.op2 (ah (kM P) dl) (.val (.glob (.ref 258))) (.op2 (ah (kM P) dl) (.var aQ) (.val (.py (.int (0))))))))]) [(.expr dA (some aF) [(.call 342 [(.var aQ)])] .bad),(.asg aQ aJ (.op2 (ah (kM P) dl) (.var aQ) (.val (.py (.int (1))))))]),(.ifs (.tst (.op2 (aj (kM P) dl .In) (.op2 (ah (kM P) dl) (.var aQ) (.val (.py (.int (0))))) (.val (.glob (.ref 258))))) [(.expr dA (some aF) [(.op2 (aK .Add) (.op2 (aK .Add) (.op2 (aK .Add) (.val (.py (.str t22))) (.call 335 [(.op2 (ah (kM P) dl) (.var aQ) (.val (.py (.int (1)))))])) (.val (.py (.str t24)))) (.call 342 [(.var aQ)]))] (.meth (.var dA) aF none [(.op2 (aK .Add) (.op2 (aK .Add) (.op2 (aK .Add) (.val (.py (.str t22))) (.call 335 [(.op2 (ah (kM P) dl) (.var aQ) (.val (.py (.int (1)))))])) (.val (.py (.str t24)))) (.call 342 [(.var aQ)]))]))] [(.ifs (.tst (.op2 (aj [] [] .Eq) (.op2 (ah (kM P) dl) (.var aQ) (.val (.py (.int (0))))) (.val (.py (.str mj))))) [(.expr dA (some aF) [(.op2 (aK .Add) (.val (.py (.str t80))) (.call 349 [(.op2 (ah (kM P) dl) (.var aQ) (.val (.py (.int (1)))))]))] (.meth (.var dA) aF none [(.op2 (aK .Add) (.val (.py (.str t80))) (.call 349 [(.op2 (ah (kM P) dl) (.var aQ) (.val (.py (.int (1)))))]))]))] [(.expr dA (some aF) [(.call 257 [(.var aQ),(.val (.glob (.ref 335)))])] (.meth (.var dA) aF none [(.call 257 [(.var aQ),(.val (.glob (.ref 335)))])]))])]),(.ret (.join dA (.val (.py (.str t13)))))]⟩
noncomputable def xU (P:Params):RF:=⟨[aq],none,[(.ret (.op2 (aK .Add) (.op2 (aK .Add) (.op2 (aK .Add) (.val (.py (.str t57))) (.op2 (ah (kM P) dl) (.var aq) (.val (.py (.int (0)))))) (.val (.py (.str t57)))) (.call 328 [(.op2 (ah (kM P) dl) (.var aq) (.val (.py (.int (2))))),(.disp [(1,2),(2,3),(4,5)] (.op2 (ah (kM P) dl) (.val (.glob (.ref 258))) (.op2 (ah (kM P) dl) (.var aq) (.val (.py (.int (0)))))))])))]⟩
noncomputable def dF (P:Params):RF:=⟨[aq],none,[(.lst ag []),(.lst il [(.tup [(.val (.py (.str aq))),(.var aq)])]),(.whl (.tst (.var il)) [(.pop (.tup [(.name dh),(.name aQ)]) il),(.ifs (.tst (.op2 (aj [] [] .Eq) (.var dh) (.val (.py (.str wq))))) [(.expr ag (some aF) [(.tup [(.var dh),(.var aQ)])] (.meth (.var ag) aF none [(.tup [(.var dh),(.var aQ)])]))] [(.ifs (.tst (.op2 (aj (kM P) dl .In) (.op2 (ah (kM P) dl) (.var aQ) (.val (.py (.int (0))))) (.val (.py (.tuple [(.str t9),(.str t10),(.str t70),(.str t71),(.str t74)]))))) [(.expr il (some iS) [(.lst [(.tup [(.val (.py (.str wq))),(.op2 (ah (kM P) dl) (.var aQ) (.val (.py (.int (0)))))]),(.tup [(.val (.py (.str aq))),(.op2 (ah (kM P) dl) (.var aQ) (.val (.py (.int (2)))))]),(.tup [(.val (.py (.str aq))),(.op2 (ah (kM P) dl) (.var aQ) (.val (.py (.int (1)))))])])] (.meth (.var il) iS none [(.lst [(.tup [(.val (.py (.str wq))),(.op2 (ah (kM P) dl) (.var aQ) (.val (.py (.int (0)))))]),(.tup [(.val (.py (.str aq))),(.op2 (ah (kM P) dl) (.var aQ) (.val (.py (.int (2)))))]),(.tup [(.val (.py (.str aq))),(.op2 (ah (kM P) dl) (.var aQ) (.val (.py (.int (1)))))])])]))] [(.ifs (.tst (.op2 (aj [] [] .Eq) (.op2 (ah (kM P) dl) (.var aQ) (.val (.py (.int (0))))) (.val (.py (.str mj))))) [(.expr il (some iS) [(.lst [(.tup [(.val (.py (.str wq))),(.val (.py (.str mj)))]),(.tup [(.val (.py (.str aq))),(.op2 (ah (kM P) dl) (.var aQ) (.val (.py (.int (1)))))])])] (.meth (.var il) iS none [(.lst [(.tup [(.val (.py (.str wq))),(.val (.py (.str mj)))]),(.tup [(.val (.py (.str aq))),(.op2 (ah (kM P) dl) (.var aQ) (.val (.py (.int (1)))))])])]))] [(.expr ag (some aF) [(.tup [(.val (.py (.str qN))),(.var aQ)])] (.meth (.var ag) aF none [(.tup [(.val (.py (.str qN))),(.var aQ)])]))])])])]),(.ret (.var ag))]⟩
noncomputable def xT (P:Params):RF:=⟨[aq],none,[(.ret (.comp (.var f6) (.tup [(.name dh),(.name f6)]) (.call 357 [(.var aq)]) [(.tst (.op2 (aj [] [] .Eq) (.var dh) (.val (.py (.str qN)))))] [(t53,.local),(dh,.local),(f6,.local)]))]⟩
noncomputable def xS (P:Params):RF:=⟨[aa,ae,ai],none,[(.asg aV aJ (.meth (.var aa) cu (some 568) [(.var ae)])),(.ret (.boolv true [(.op2 (aj [] [] .IsNot) (.var aV) (.val (.py .none))),(.op2 (aj [] [] .Eq) (.op1 (cn dh) (.var aV)) (.val (.py (.str ai)))),(.op2 (aj [] [] .Eq) (.op1 (cn bo) (.var aV)) (.var ai))]))]⟩
noncomputable def xR (P:Params):RF:=⟨[cm],none,[(.ifs (.tst (.op2 (aj [] [] .Eq) (.var cm) (.val (.py (.str qJ))))) [(.ret (.tup [(.tup [(.val (.py (.str EE)))]),(.tup [(.val (.py (.str ED))),(.val (.py (.str A1)))]),(.tup [])]))] []),(.ifs (.tst (.op2 (aj [] [] .Eq) (.var cm) (.val (.py (.str Ey))))) [(.ret (.tup [(.tup [(.val (.py (.str EE)))]),(.tup [(.val (.py (.str kQ)))]),(.tup [])]))] []),(.ifs (.tst (.op2 (aj [] [] .Eq) (.var cm) (.val (.py (.str Iy))))) [(.ret (.tup [(.tup [(.val (.py (.str MV)))]),(.tup [(.val (.py (.str IE)))]),(.tup [])]))] []),(.ifs (.tst (.op2 (aj [] [] .Eq) (.var cm) (.val (.py (.str ug))))) [(.ret (.tup [(.tup []),(.tup [(.val (.py (.str uh)))]),(.tup [(.val (.py (.str ID)))])]))] []),(.ret (.tup [(.tup [(.val (.py (.str EE)))]),(.tup [(.val (.py (.str pv)))]),(.tup [])]))]⟩
noncomputable def xQ (P:Params):RF:=⟨[aa,cm],none,[(.swap [ae,qP] (.tup [(.val (.py (.int (0)))),(.var cm)])),(.ifs (.tst (.meth (.var cm) nM none [(.val (.py (.str Lv)))])) [(.ifs (.neg (.tst (.call 369 [(.var aa),(.val (.py (.int (0)))),(.val (.py (.str IA)))]))) [(.ret (.val (.py (.int (0)))))] []),(.swap [ae,qP] (.tup [(.val (.py (.int (1)))),(.slice (.var cm) (some (.val (.py (.int (4))))) none)]))] []),(.tup (.tup [(.name sv),(.name pq),(.name wv)]) (.call 376 [(.var qP)])),(.frs (.name ai) (.var sv) [(.ifs (.tst (.call 369 [(.var aa),(.var ae),(.var ai)])) [(.asg ae aJ (.op2 (aK .Add) (.var ae) (.val (.py (.int (1))))))] [])]),(.ifs (.ands true [(.tst (.op2 (aj [] [] .Eq) (.var cm) (.val (.py (.str A0))))),(.tst (.call 369 [(.var aa),(.var ae),(.val (.py (.str kQ)))]))]) [(.ret (.op2 (aK .Add) (.var ae) (.val (.py (.int (1))))))] []),(.frs (.name ai) (.var pq) [(.ifs (.neg (.tst (.call 369 [(.var aa),(.var ae),(.var ai)]))) [(.ret (.val (.py (.int (0)))))] []),(.asg ae aJ (.op2 (aK .Add) (.var ae) (.val (.py (.int (1))))))]),(.frs (.name ai) (.var wv) [(.ifs (.tst (.call 369 [(.var aa),(.var ae),(.var ai)])) [(.asg ae aJ (.op2 (aK .Add) (.var ae) (.val (.py (.int (1))))))] [])]),(.ret (.var ae))]⟩
noncomputable def xP (P:Params):RF:=⟨[aa,aN,nP],none,[(.lst bN []),(.frs (.name cm) (.var nP) [(.asg gB aJ (.call 383 [(.var aa),(.var cm)])),(.ifs (.tst (.op2 (aj [] [] .Gt) (.var gB) (.val (.py (.int (0)))))) [(.frs (.name wo) (.opN (gj "range") [(.var gB)]) [(.expr aa none [] (.meth (.var aa) gy (some 589) []))]),(.expr bN (some aF) [(.tup [(.var cm),(.call 390 [(.var aa),(.var aN)])])] (.meth (.var bN) aF none [(.tup [(.var cm),(.call 390 [(.var aa),(.var aN)])])]))] [])]),(.ret (.opN (gj "tuple") [(.var bN)]))]⟩
noncomputable def xO (P:Params):RF:=⟨[aa],none,[(.ifs (.ands false [(.tst (.meth (.var aa) gC (some 683) [])),(.tst (.meth (.var aa) bk (some 597) [(.val (.py (.str mn)))])),(.tst (.meth (.var aa) jl (some 640) []))]) [(.ret (.val (.py (.bool true))))] []),(.ret (.boolv true [(.meth (.var aa) bk (some 597) [(.val (.py (.str ai)))]),(.op2 (aj (kM P) dl .In) (.op2 (aK .Add) (.op2 (aK .Add) (.val (.py (.str t57))) (.op1 (cn bo) (.meth (.var aa) cu (some 568) []))) (.val (.py (.str t57)))) (.val (.py (.str Lu))))]))]⟩
noncomputable def xN (P:Params):RF:=⟨[aa],none,[(.ifs (.neg (.tst (.meth (.var aa) jl (some 640) []))) [(.rais (.var aa) [(.val (.py (.str Ls)))])] []),(.ret (.call 205 [(.var aa),(.val (.glob (.ref 265)))]))]⟩
noncomputable def xM (P:Params):RF:=⟨[aA],none,[(.ret (.boolv false [(.op2 (aj (kM P) dl .In) (.op2 (ah (kM P) dl) (.var aA) (.val (.py (.int (0))))) (.tup [(.val (.py (.str dM))),(.val (.py (.str aG)))])),(.op2 (aj [] [] .Eq) (.var aA) (.tup [(.val (.py (.str d9))),(.val (.py (.str EB)))]))]))]⟩
noncomputable def xL (P:Params):RF:=⟨[aq],none,[(.ret (.op2 (aj [] [] .Eq) (.comp (.var aA) (.name aA) (.call 362 [(.var aq)]) [(.neg (.tst (.call 418 [(.var aA)])))] [(t53,.local),(aA,.local),(d8,.globalImplicit)]) (.lst [])))]⟩
noncomputable def xK (P:Params):RF:=⟨[aa],none,[(.asg gA aJ (.at1 (.var aa))),(.ifs (.neg (.tst (.call 404 [(.var aa)]))) [(.rais (.var aa) [(.val (.py (.str Lr)))])] []),(.asg aA aJ (.call 226 [(.var aa),(.val (.lam 1))])),(.ifs (.neg (.tst (.call 418 [(.var aA)]))) [.bad] []),(.ret (.var aA))]⟩
noncomputable def xJ (P:Params):RF:=⟨[aa],none,[(.asg aq aJ (.call 437 [(.var aa)])),(.whl (.tst (.call 404 [(.var aa)])) [(.asg aq aJ (.tup [(.val (.py (.str t9))),(.var aq),(.call 437 [(.var aa)])]))]),(.ret (.var aq))]⟩
noncomputable def xI (P:Params):RF:=⟨[aa],none,[(.lst aX []),(.whl (.ands false [(.tst (.op2 (aj [] [] .Eq) (.var aX) (.lst []))),(.tst (.call 404 [(.var aa)]))]) [(.asg gA aJ (.at1 (.var aa))),(.asg aA aJ (.call 437 [(.var aa)])),(.expr aX (some aF) [(.tup [(.var aA),(.meth (.var aa) cK (some 611) [(.val (.py (.str mq)))]),(.var gA)])] (.meth (.var aX) aF none [(.tup [(.var aA),(.meth (.var aa) cK (some 611) [(.val (.py (.str mq)))]),(.var gA)])]))]),(.ret (.var aX))]⟩
noncomputable def xH (P:Params):RF:=⟨[aa,aW,fk],none,[(.frs (.tup [(.name aA),(.name cB),(.name gA)]) (.var aW) [(.ifs (.tst (.op2 (aj [] [] .NotEq) (.op2 (ah (kM P) dl) (.var aA) (.val (.py (.int (0))))) (.val (.py (.str dM))))) [.bad] [])]),(.ret (.opN (gj "tuple") [(.comp (.tup [(.var aA),(.var cB),(.var fk)]) (.tup [(.name aA),(.name cB),(.name gA)]) (.var aW) [] [(t53,.local),(aA,.local),(cB,.local),(gA,.local),(fk,.free)])]))]⟩
noncomputable def xG (P:Params):RF:=⟨[aa,aW],none,[(.ifs (.tst (.op2 (aj [] [] .Gt) (.opN (aS "len") [(.var aW)]) (.val (.py (.int (1)))))) [.bad] []),(.ifs (.tst (.op2 (ah (kM P) dl) (.op2 (ah (kM P) dl) (.var aW) (.val (.py (.int (0))))) (.val (.py (.int (1)))))) [.bad] []),(.ret (.op2 (ah (kM P) dl) (.op2 (ah (kM P) dl) (.var aW) (.val (.py (.int (0))))) (.val (.py (.int (0))))))]⟩
noncomputable def xF (P:Params):RF:=⟨[aa],none,[(.ret (.call 456 [(.var aa),(.call 451 [(.var aa)]),(.val (.py (.str lK)))]))]⟩
noncomputable def xE (P:Params):RF:=⟨[aa,aN,dQ],none,[(.asg bN aJ (.call 397 [(.var aa),(.var aN),(.tup [(.val (.py (.str qJ))),(.val (.py (.str F0)))])])),(.expr aa none [(.var dQ)] (.meth (.var aa) cK (some 611) [(.var dQ)])),(.ret (.var bN))]⟩
noncomputable def xD (P:Params):RF:=⟨[aa],none,[(.ret (.boolv false [(.meth (.var aa) cK (some 611) [(.val (.py (.str jT)))]),(.meth (.var aa) cK (some 611) [(.val (.py (.str EF)))])]))]⟩
noncomputable def xC (P:Params):RF:=⟨[aa,aN],none,[(.expr aa none [(.val (.py (.str wy)))] (.meth (.var aa) fF (some 618) [(.val (.py (.str wy)))])),(.ifs (.tst (.call 491 [(.var aa)])) [(.ret (.call 484 [(.var aa),(.var aN),(.val (.py (.str EC))),(.val (.py (.str t9))),(.val (.py (.str FZ)))]))] []),(.asg aq aJ (.call 444 [(.var aa)])),(.ifs (.tst (.meth (.var aa) cK (some 611) [(.val (.py (.str EC)))])) [(.asg aW aJ (.call 451 [(.var aa)])),(.ifs (.tst (.meth (.var aa) cK (some 611) [(.val (.py (.str eg)))])) [(.asg aq aJ (.tup [(.val (.py (.str t9))),(.var aq),(.call 463 [(.var aa),(.var aW)])])),(.asg aX aJ (.call 470 [(.var aa)]))] [(.asg aX aJ (.call 456 [(.var aa),(.var aW),(.val (.py (.str t9)))]))])] [(.ifs (.tst (.op2 (aj [] [] .NotEq) (.op2 (ah (kM P) dl) (.var aq) (.val (.py (.int (0))))) (.val (.py (.str t9))))) [(.rais (.var aa) [(.val (.py (.str Lq)))])] []),(.expr aa none [(.val (.py (.str eg)))] (.meth (.var aa) fF (some 618) [(.val (.py (.str eg)))])),(.asg aX aJ (.call 470 [(.var aa)]))]),(.ret (.tup [(.val (.py (.str eN))),(.var aq),(.var aX),(.call 477 [(.var aa),(.var aN),(.val (.py (.str FZ)))])]))]⟩
noncomputable def xB (P:Params):RF:=⟨[aa,aN],none,[(.expr aa none [(.val (.py (.str io)))] (.meth (.var aa) fF (some 618) [(.val (.py (.str io)))])),(.ifs (.tst (.call 491 [(.var aa)])) [(.ret (.call 484 [(.var aa),(.var aN),(.val (.py (.str nU))),(.val (.py (.str t10))),(.val (.py (.str FY)))]))] []),(.asg aq aJ (.call 444 [(.var aa)])),(.expr aa none [(.val (.py (.str nU)))] (.meth (.var aa) fF (some 618) [(.val (.py (.str nU)))])),(.asg aW aJ (.call 451 [(.var aa)])),(.ifs (.tst (.meth (.var aa) cK (some 611) [(.val (.py (.str eg)))])) [(.asg aq aJ (.tup [(.val (.py (.str t10))),(.call 463 [(.var aa),(.var aW)]),(.var aq)])),(.asg aX aJ (.call 470 [(.var aa)]))] [(.asg aX aJ (.call 456 [(.var aa),(.var aW),(.val (.py (.str t10)))]))]),(.ret (.tup [(.val (.py (.str eN))),(.var aq),(.var aX),(.call 477 [(.var aa),(.var aN),(.val (.py (.str FY)))])]))]⟩
noncomputable def xA (P:Params):RF:=⟨[aa,aN],none,[(.expr aa none [(.val (.py (.str ip)))] (.meth (.var aa) fF (some 618) [(.val (.py (.str ip)))])),(.asg aq aJ (.call 437 [(.var aa)])),(.expr aa none [(.val (.py (.str A3)))] (.meth (.var aa) fF (some 618) [(.val (.py (.str A3)))])),(.asg aW aJ (.call 451 [(.var aa)])),(.ifs (.tst (.meth (.var aa) cK (some 611) [(.val (.py (.str eg)))])) [(.asg aq aJ (.tup [(.val (.py (.str t70))),(.var aq),(.call 463 [(.var aa),(.var aW)])])),(.asg aX aJ (.call 470 [(.var aa)]))] [(.asg aX aJ (.call 456 [(.var aa),(.var aW),(.val (.py (.str t70)))]))]),(.ret (.tup [(.val (.py (.str eN))),(.var aq),(.var aX),(.call 477 [(.var aa),(.var aN),(.val (.py (.str Lp)))])]))]⟩
noncomputable def xz (P:Params):RF:=⟨[aa,aN],none,[(.expr aa none [(.val (.py (.str kR)))] (.meth (.var aa) fF (some 618) [(.val (.py (.str kR)))])),(.asg fw aJ (.call 437 [(.var aa)])),(.ifs (.tst (.meth (.var aa) cK (some 611) [(.val (.py (.str A3)))])) [(.swap [f7,g3] (.tup [(.var fw),(.call 437 [(.var aa)])])),(.expr aa none [(.val (.py (.str eg)))] (.meth (.var aa) fF (some 618) [(.val (.py (.str eg)))]))] [(.expr aa none [(.val (.py (.str qQ)))] (.meth (.var aa) fF (some 618) [(.val (.py (.str qQ)))])),(.asg aW aJ (.call 451 [(.var aa)])),(.ifs (.neg (.tst (.meth (.var aa) cK (some 611) [(.val (.py (.str eg)))]))) [(.asg aX aJ (.call 456 [(.var aa),(.var aW),(.val (.py (.str t71)))])),(.ret (.tup [(.val (.py (.str eN))),(.var fw),(.var aX),(.call 477 [(.var aa),(.var aN),(.val (.py (.str FX)))])]))] []),(.swap [f7,g3] (.tup [(.call 463 [(.var aa),(.var aW)]),(.var fw)]))]),(.asg aX aJ (.call 470 [(.var aa)])),(.ifs (.tst (.meth (.var aa) cK (some 611) [(.val (.py (.str pu)))])) [(.ret (.call 519 [(.var aa),(.var aN),(.var f7),(.var g3),(.var aX)]))] []),(.ret (.tup [(.val (.py (.str eN))),(.tup [(.val (.py (.str t71))),(.var f7),(.var g3)]),(.var aX),(.call 477 [(.var aa),(.var aN),(.val (.py (.str FX)))])]))]⟩
noncomputable def xy (P:Params):RF:=⟨[aa,aN],none,[(.expr aa none [(.val (.py (.str ms)))] (.meth (.var aa) fF (some 618) [(.val (.py (.str ms)))])),(.asg aX aJ (.call 470 [(.var aa)])),(.ifs (.neg (.tst (.meth (.var aa) cK (some 611) [(.val (.py (.str A2)))]))) [(.expr aa none [(.val (.py (.str lK)))] (.meth (.var aa) gz (some 676) [(.val (.py (.str lK)))]))] []),(.asg gA aJ (.at1 (.var aa))),(.asg aq aJ (.call 265 [(.var aa)])),(.ifs (.neg (.tst (.call 423 [(.var aq)]))) [.bad] []),(.ret (.tup [(.val (.py (.str eN))),(.var aq),(.var aX),(.call 477 [(.var aa),(.var aN),(.val (.py (.str FW)))])]))]⟩
noncomputable def jn (P:Params):RF:=⟨[af],none,[(.asg aV aJ (.meth (.var af) cu (some 568) [])),(.ifs (.tst (.op2 (aj [] [] .Is) (.var aV) (.val (.py .none)))) [(.rais (.var af) [(.val (.py (.str Lo)))])] []),(.at1 af (.op2 (aK .Add) (.at1 (.var af)) (.val (.py (.int (1)))))),(.ret (.var aV))]⟩
noncomputable def gD (P:Params):RF:=⟨[af,dh,ae],(some (.py (.int (0)))),[(.asg aV aJ (.meth (.var af) cu (some 568) [(.var ae)])),(.ret (.boolv true [(.op2 (aj [] [] .IsNot) (.var aV) (.val (.py .none))),(.op2 (aj [] [] .Eq) (.op1 (cn dh) (.var aV)) (.var dh))]))]⟩
noncomputable def or (P:Params):RF:=⟨[af,bf],none,[(.asg ae aJ (.val (.py (.int (0))))),(.frs (.name ai) (.meth (.var bf) bA none [(.val (.py (.str t57)))]) [(.ifs (.ands false [(.neg (.tst (.meth (.var af) bk (some 597) [(.val (.py (.str ai))),(.var ae)]))),(.tst (.op2 (aj [] [] .NotEq) (.op1 (cn bo) (.meth (.var af) cu (some 568) [(.var ae)])) (.var ai)))]) [(.ret (.val (.py (.bool false))))] []),(.asg ae aJ (.op2 (aK .Add) (.var ae) (.val (.py (.int (1))))))]),(.ret (.val (.py (.bool true))))]⟩
noncomputable def lh (P:Params):RF:=⟨[af,bf],none,[(.ifs (.neg (.tst (.meth (.var af) mo (some 604) [(.var bf)]))) [(.ret (.val (.py (.bool false))))] []),(.at1 af (.op2 (aK .Add) (.at1 (.var af)) (.opN (aS "len") [(.meth (.var bf) bA none [(.val (.py (.str t57)))])]))),(.ret (.val (.py (.bool true))))]⟩
noncomputable def xx (P:Params):RF:=⟨[af,bf],none,[(.ifs (.neg (.tst (.meth (.var af) cK (some 611) [(.var bf)]))) [(.rais (.var af) [(.op2 (aK .Add) (.var bf) (.val (.py (.str FV))))])] [])]⟩
noncomputable def xw (P:Params):RF:=⟨[af,bf],none,[(.frs (.name ai) (.meth (.var bf) bA none [(.val (.py (.str t57)))]) [(.ifs (.tst (.meth (.var af) cK (some 611) [(.var ai)])) [(.ret (.var ai))] [])]),(.ret (.val (.py (.str t13))))]⟩
noncomputable def xu (P:Params):RF:=⟨[af,ae],(some (.py (.int (0)))),[(.ret (.boolv true [(.meth (.var af) bk (some 597) [(.val (.py (.str ai))),(.var ae)]),(.op1 MU (.call 540 [(.op1 (cn bo) (.meth (.var af) cu (some 568) [(.var ae)]))]))]))]⟩
noncomputable def xt (P:Params):RF:=⟨[af],none,[(.ifs (.neg (.tst (.meth (.var af) jl (some 640) []))) [(.rais (.var af) [(.val (.py (.str Ln)))])] []),(.ret (.op1 (cn bo) (.meth (.var af) gy (some 589) [])))]⟩
noncomputable def jm (P:Params):RF:=⟨[af,aM,ae],(some (.py (.int (0)))),[(.ret (.boolv true [(.meth (.var af) bk (some 597) [(.val (.py (.str aM))),(.var ae)]),(.op2 (aj [] [] .Eq) (.op1 (cn bo) (.meth (.var af) cu (some 568) [(.var ae)])) (.var aM))]))]⟩
noncomputable def lg (P:Params):RF:=⟨[af,aM],none,[(.ifs (.neg (.tst (.meth (.var af) bZ (some 662) [(.var aM)]))) [(.ret (.val (.py (.bool false))))] []),(.at1 af (.op2 (aK .Add) (.at1 (.var af)) (.val (.py (.int (1)))))),(.ret (.val (.py (.bool true))))]⟩
noncomputable def oq (P:Params):RF:=⟨[af,aM],none,[(.ifs (.neg (.tst (.meth (.var af) dm (some 669) [(.var aM)]))) [(.rais (.var af) [(.op2 (aK .Add) (.var aM) (.val (.py (.str FV))))])] [])]⟩
noncomputable def rf (P:Params):RF:=⟨[af],none,[(.ifs (.ands false [(.tst (.meth (.var af) bZ (some 662) [(.val (.py (.str t9)))])),(.tst (.meth (.var af) bZ (some 662) [(.val (.py (.str t10)))]))]) [(.ret (.meth (.var af) bk (some 597) [(.val (.py (.str aG))),(.val (.py (.int (1))))]))] []),(.ret (.meth (.var af) bk (some 597) [(.val (.py (.str aG)))]))]⟩
noncomputable def xr (P:Params):RF:=⟨[af],none,[(.ifs (.neg (.tst (.meth (.var af) gC (some 683) []))) [(.rais (.var af) [(.val (.py (.str Lm)))])] []),(.asg im aJ (.meth (.var af) dm (some 669) [(.val (.py (.str t10)))])),(.ifs (.neg (.tst (.var im))) [(.expr af none [(.val (.py (.str t9)))] (.meth (.var af) dm (some 669) [(.val (.py (.str t9)))]))] []),(.asg ag aJ (.call 131 [(.op1 (cn bo) (.meth (.var af) gy (some 589) []))])),(.ret (.ife (.tst (.var im)) (.call 96 [(.var ag)]) (.var ag)))]⟩
noncomputable def xq (P:Params):RF:=⟨[aA],none,[(.ret (.call 257 [(.var aA),(.val (.glob (.ref 335)))]))]⟩
noncomputable def xo (P:Params):RF:=⟨[dM],none,[(.ret (.call 250 [(.var dM),(.val (.glob (.ref 335)))]))]⟩
noncomputable def xn (P:Params):RF:=⟨[sp],none,[(.ret (.meth (.val (.py (.str t57))) qO none [(.comp (.var f6) (.name f6) (.var sp) [(.tst (.op2 (aj [] [] .NotEq) (.var f6) (.val (.py (.str t13)))))] [(t53,.local),(f6,.local)])]))]⟩
noncomputable def xm (P:Params):RF:=⟨[aX],none,[(.ifs (.tst (.op2 (aj [] [] .Eq) (.opN (aS "len") [(.var aX)]) (.val (.py (.int (0)))))) [.bad] []),(.ret (.var aX))]⟩
noncomputable def xl (P:Params):RF:=⟨[bN,nP,f5],none,[(.asg bM Kg (.comp (.var cm) (.tup [(.name cm),(.name dw)]) (.var bN) [] [(t53,.local),(cm,.local),(dw,.local)])),(.ifs (.tst (.op2 (aj [] [] .NotEq) (.comp (.var cm) (.name cm) (.var nP) [(.tst (.op2 (aj (kM P) dl .In) (.var cm) (.var bM)))] [(t53,.local),(cm,.local),(bM,.free)]) (.var bM))) [.bad] []),(.ret (.call 738 [(.comp (.op2 (aK .Add) (.op2 (aK .Add) (.call 757 [(.var cm)]) (.val (.py (.str t57)))) (.call 750 [(.var dw),(.var f5)])) (.tup [(.name cm),(.name dw)]) (.var bN) [] [(t53,.local),(cm,.local),(dw,.local),(lP,.globalImplicit),(pp,.globalImplicit),(f5,.free)])]))]⟩
noncomputable def xk (P:Params):RF:=⟨[aw,cB],none,[(.ret (.ife (.tst (.var cB)) (.op2 (aK .Add) (.var aw) (.val (.py (.str Ll)))) (.var aw)))]⟩
noncomputable def xj (P:Params):RF:=⟨[aq],none,[(.lst ag []),(.asg aQ aJ (.var aq)),(.whl (.tst (.op2 (aj [] [] .Eq) (.op2 (ah (kM P) dl) (.var aQ) (.val (.py (.int (0))))) (.val (.py (.str t9))))) [(.expr ag (some aF) [(.op2 (ah (kM P) dl) (.var aQ) (.val (.py (.int (2)))))] (.meth (.var ag) aF none [(.op2 (ah (kM P) dl) (.var aQ) (.val (.py (.int (2)))))])),(.asg aQ aJ (.op2 (ah (kM P) dl) (.var aQ) (.val (.py (.int (1))))))]),(.expr ag (some aF) [(.var aQ)] (.meth (.var ag) aF none [(.var aQ)])),(.expr ag (some mh) [] (.meth (.var ag) mh none [])),(.ifs (.tst (.op2 (aj [] [] .NotEq) (.comp (.var fw) (.name fw) (.var ag) [(.neg (.tst (.call 418 [(.var fw)])))] [(t53,.local),(fw,.local),(d8,.globalImplicit)]) (.lst []))) [.bad] []),(.ret (.var ag))]⟩
noncomputable def xi (P:Params):RF:=⟨[aX],none,[(.ret (.call 738 [(.comp (.call 769 [(.call 733 [(.op2 (ah (kM P) dl) (.var kK) (.val (.py (.int (0)))))]),(.op2 (ah (kM P) dl) (.var kK) (.val (.py (.int (1)))))]) (.name kK) (.var aX) [] [(t53,.local),(kK,.local),(ue,.globalImplicit),(qK,.globalImplicit)])]))]⟩
noncomputable def xh (P:Params):RF:=⟨[aX],none,[(.asg jj Kg (.comp (.op2 (ah (kM P) dl) (.var kK) (.val (.py (.int (2))))) (.name kK) (.call 745 [(.var aX)]) [] [(t53,.local),(kK,.local)])),(.ifs (.ands false [(.tst (.op2 (aj [] [] .NotEq) (.comp (.var fk) (.name fk) (.var jj) [(.tst (.op2 (aj [] [] .NotEq) (.var fk) (.op2 (ah (kM P) dl) (.var jj) (.val (.py (.int (0)))))))] [(t53,.local),(fk,.local),(jj,.free)]) (.lst []))),(.tst (.op2 (aj (kM P) dl .NotIn) (.op2 (ah (kM P) dl) (.var jj) (.val (.py (.int (0))))) (.tup [(.val (.py (.str lK))),(.val (.py (.str t9))),(.val (.py (.str t10))),(.val (.py (.str t70))),(.val (.py (.str t71)))])))]) [.bad] []),(.ret (.op2 (ah (kM P) dl) (.var jj) (.val (.py (.int (0))))))]⟩
noncomputable def xg (P:Params):RF:=⟨[bQ,f5],none,[(.tup (.tup [(.name ai),(.name aq),(.name aX),(.name bN)]) (.var bQ)),(.asg fk aJ (.call 784 [(.var aX)])),(.ifs (.neg (.tst (.call 423 [(.var aq)]))) [.bad] []),(.ifs (.tst (.op2 (aj [] [] .Eq) (.var fk) (.val (.py (.str lK))))) [(.swap [nQ,dQ] (.tup [(.op2 (aK .Add) (.op2 (aK .Add) (.op2 (aK .Add) (.val (.py (.str Lk))) (.call 779 [(.var aX)])) (.val (.py (.str Lj)))) (.call 335 [(.var aq)])),(.val (.py (.str FW)))]))] [(.ifs (.tst (.op2 (aj (kM P) dl .In) (.var fk) (.tup [(.val (.py (.str t9))),(.val (.py (.str t10)))]))) [(.tup (.tup [(.name jk),(.name jZ)]) (.ife (.tst (.op2 (aj [] [] .Eq) (.var fk) (.val (.py (.str t9))))) (.tup [(.val (.py (.str wy))),(.val (.py (.str EC)))]) (.tup [(.val (.py (.str io))),(.val (.py (.str nU)))]))),(.asg nQ aJ (.call 738 [(.op2 (aK .Add) (.op2 (aK .Add) (.lst [(.var jk)]) (.comp (.call 726 [(.var fw)]) (.name fw) (.call 774 [(.var aq)]) [] [(t53,.local),(fw,.local),(kP,.globalImplicit)])) (.lst [(.var jZ),(.call 779 [(.var aX)])]))])),(.asg dQ aJ (.op2 (aK .Add) (.val (.py (.str FU))) (.var jk)))] [(.tup (.tup [(.name jk),(.name jZ)]) (.ife (.tst (.op2 (aj [] [] .Eq) (.var fk) (.val (.py (.str t70))))) (.tup [(.val (.py (.str ip))),(.val (.py (.str A3)))]) (.tup [(.val (.py (.str kR))),(.val (.py (.str qQ)))]))),(.ifs (.tst (.op2 (aj [] [] .Eq) (.op2 (ah (kM P) dl) (.var aq) (.val (.py (.int (0))))) (.val (.py (.str t9))))) [.bad] []),(.asg nQ aJ (.call 738 [(.lst [(.var jk),(.call 726 [(.op2 (ah (kM P) dl) (.call 774 [(.var aq)]) (.val (.py (.int (0)))))]),(.var jZ),(.call 779 [(.var aX)])])])),(.asg dQ aJ (.op2 (aK .Add) (.val (.py (.str FU))) (.var jk)))])]),(.ret (.call 738 [(.lst [(.var nQ),(.call 762 [(.var bN),(.tup [(.val (.py (.str qJ))),(.val (.py (.str F0)))]),(.var f5)]),(.var dQ)])]))]⟩
noncomputable def xf (P:Params):RF:=⟨[bQ,f5],none,[(.ifs (.tst (.op2 (aj [] [] .Eq) (.op2 (ah (kM P) dl) (.var bQ) (.val (.py (.int (0))))) (.val (.py (.str eN))))) [(.ret (.call 789 [(.var bQ),(.var f5)]))] []),(.ifs (.tst (.op2 (aj [] [] .Eq) (.op2 (ah (kM P) dl) (.var bQ) (.val (.py (.int (0))))) (.val (.py (.str wx))))) [(.ret (.call 796 [(.var bQ),(.var f5)]))] []),(.ret (.ife (.tst (.op2 (aj [] [] .Eq) (.op2 (ah (kM P) dl) (.var bQ) (.val (.py (.int (0))))) (.val (.py (.str Ez))))) (.call 803 [(.var bQ),(.var f5)]) (.val (.py (.str t13)))))]⟩
noncomputable def lf (P:Params):RF:=⟨[aw],none,[(.lst ag []),(.frs (.name ai) (.meth (.repl t24 t182 (.repl t22 t183 (.var aw))) bA none [(.val (.py (.str t57)))]) [(.ifs (.tst (.op2 (aj (kM P) dl .In) (.var ai) (.tup [(.val (.py (.str t22))),(.val (.py (.str t24))),(.val (.py (.str t9))),(.val (.py (.str t10))),(.val (.py (.str t70))),(.val (.py (.str t71))),(.val (.py (.str lK)))]))) [(.expr ag (some aF) [(.tup [(.val (.py (.str aM))),(.var ai)])] (.meth (.var ag) aF none [(.tup [(.val (.py (.str aM))),(.var ai)])]))] [(.ifs (.tst (.op2 (aj [] [] .NotEq) (.var ai) (.val (.py (.str t13))))) [(.expr ag (some aF) [(.tup [(.ife (.tst (.meth (.var ai) dP none [])) (.val (.py (.str aG))) (.val (.py (.str ai)))),(.var ai)])] (.meth (.var ag) aF none [(.tup [(.ife (.tst (.meth (.var ai) dP none [])) (.val (.py (.str aG))) (.val (.py (.str ai)))),(.var ai)])]))] [])])]),(.ret (.var ag))]⟩
noncomputable def xe (P:Params):RF:=⟨[be],none,[(.asg fw aJ (.tup [(.val (.py (.str aG))),(.tup [(.val (.py (.int (1)))),(.val (.py (.int (0))))])])),(.swap [aw,nJ] (.tup [(.val (.py (.str Li))),(.tup [(.val (.py (.str t10))),(.tup [(.val (.py (.str dM))),(.val (.py (.str n_J))),(.tup []),(.tup []),(.val (.py .none))]),(.var fw)])])),(.frs (.name wo) (.opN (gj "range") [(.var be)]) [(.swap [aw,nJ] (.tup [(.op2 (aK .Add) (.op2 (aK .Add) (.val (.py (.str Lh))) (.var aw)) (.val (.py (.str t24)))),(.tup [(.val (.py (.str t10))),(.var fw),(.var nJ)])]))]),(.ret (.tup [(.var aw),(.var nJ)]))]⟩
noncomputable def xc (P:Params):RF:=⟨[ik,ce],(some (.py (.tuple []))),[(.ret (.tup [(.val (.py (.str dM))),(.var ik),(.tup []),(.var ce),(.val (.py .none))]))]⟩
noncomputable def xa (P:Params):RF:=⟨[bS,eA],none,[(.swap [n_a,n_c,n_d] (.tup [(.call 855 [(.val (.py (.str n_A)))]),(.call 855 [(.val (.py (.str n_C)))]),(.call 855 [(.val (.py (.str n_D)))])])),(.asg su aJ (.tup [(.tup [(.val (.py (.str t9))),(.var eA),(.var n_a)]),(.tup [(.val (.py (.str t9))),(.var n_a),(.var eA)]),(.tup [(.val (.py (.str t10))),(.var n_c),(.tup [(.val (.py (.str t9))),(.var eA),(.var n_a)])]),(.tup [(.val (.py (.str t10))),(.var eA),(.tup [(.val (.py (.str t9))),(.var n_a),(.var n_c)])]),(.tup [(.val (.py (.str t70))),(.var eA),(.var n_a)]),(.tup [(.val (.py (.str t70))),(.var n_a),(.var eA)]),(.tup [(.val (.py (.str t71))),(.var eA),(.var n_a)]),(.tup [(.val (.py (.str t71))),(.var n_a),(.var eA)]),(.tup [(.val (.py (.str t9))),(.var eA),(.var n_a)]),(.tup [(.val (.py (.str t9))),(.var n_a),(.var eA)]),(.var eA)])),(.swap [ww,fk] (.tup [(.ife (.tst (.op2 (aj (kM P) dl .In) (.var bS) (.tup [(.val (.py (.int (2)))),(.val (.py (.int (3))))]))) (.var n_d) (.var n_c)),(.ife (.tst (.op2 (aj [] [] .Lt) (.var bS) (.val (.py (.int (8)))))) (.val (.py (.str lK))) (.op2 (ah (kM P) dl) (.val (.py (.str Lg))) (.op2 (aK .Sub) (.var bS) (.val (.py (.int (8)))))))])),(.ret (.tup [(.val (.py (.str eN))),(.op2 (ah (kM P) dl) (.var su) (.var bS)),(.tup [(.tup [(.var ww),(.val (.py (.bool false))),(.var fk)])]),(.tup [])]))]⟩
noncomputable def lc (P:Params):RF:=⟨[bS,be],none,[(.tup (.tup [(.name aw),(.name bH)]) (.call 846 [(.var be)])),(.asg dB aJ (.call 862 [(.var bS),(.call 855 [(.val (.py (.str n_T))),(.tup [(.var bH)])])])),(.asg bM aJ (.call 874 [(.cat t203 t204 aw t205 (.op2 (ah (kM P) dl) (.val (.py (.tuple [(.str DQ),(.str DP),(.str DO),(.str DN),(.str DM),(.str DL),(.str DK),(.str DJ),(.str DH),(.str DG),(.str DF)]))) (.var bS)))])),(.ifs (.tst (.op2 (aj [] [] .Gt) (.var be) (.val (.py (.int (18)))))) [(.ret (.op2 (aj [] [] .Is) (.var bM) (.val (.py .none))))] []),(.ret (.boolv true [(.op2 (aj [] [] .Eq) (.var bM) (.var dB)),(.op2 (aj [] [] .Eq) (.call 874 [(.call 810 [(.var dB),(.val (.py .none))])]) (.var dB))]))]⟩
section
variable (P:Params) (toks:List (Str×Str×Int)) (calls:Orc)
theorem DY:Sok P toks calls 89 (CB P):=DW rfl rfl (fun _ _=>by kernel_rfl) (fun _ _ _=>by kernel_rfl)
theorem AG:Sok P toks calls 124 (yq P):=so1 rfl rfl (fun _ _=>by kernel_rfl)
theorem AF:Sok P toks calls 131 (yo P):=so1 rfl rfl (fun _ _=>by kernel_rfl)
theorem AE:Sok P toks calls 138 (yn P):=so1 rfl rfl (fun _ _=>by kernel_rfl)
theorem AD:Sok P toks calls 184 (ym P):=so1 rfl rfl (fun _ _=>by kernel_rfl)
theorem AC:Sok P toks calls 191 (yl P):=so2 rfl rfl (fun _ _ _=>by kernel_rfl)
theorem AA:Sok P toks calls 205 (yk P):=so2 rfl rfl (fun _ _ _=>by kernel_rfl)
theorem Az:Sok P toks calls 219 (yj P):=so1 rfl rfl (fun _ _=>by kernel_rfl)
theorem Ay:Sok P toks calls 226 (yi P):=so2 rfl rfl (fun _ _ _=>by kernel_rfl)
theorem Ax:Sok P toks calls 238 (yh P):=so1 rfl rfl (fun _ _=>by kernel_rfl)
theorem Aw:Sok P toks calls 243 (yg P):=so2 rfl rfl (fun _ _ _=>by kernel_rfl)
theorem Av:Sok P toks calls 250 (yf P):=so2 rfl rfl (fun _ _ _=>by kernel_rfl)
theorem Au:Sok P toks calls 257 (ye P):=so2 rfl rfl (fun _ _ _=>by kernel_rfl)
theorem At:Sok P toks calls 265 (yd P):=so1 rfl rfl (fun _ _=>by kernel_rfl)
theorem As:Sok P toks calls 272 (jp P):=so2 rfl rfl (fun _ _ _=>by kernel_rfl)
theorem Ar:Sok P toks calls 279 (yc P):=so2 rfl rfl (fun _ _ _=>by kernel_rfl)
theorem Aq:Sok P toks calls 286 (yb P):=so2 rfl rfl (fun _ _ _=>by kernel_rfl)
theorem Ap:Sok P toks calls 293 (ya P):=so2 rfl rfl (fun _ _ _=>by kernel_rfl)
theorem Ao:Sok P toks calls 307 (xZ P):=so2 rfl rfl (fun _ _ _=>by kernel_rfl)
theorem An:Sok P toks calls 314 (xY P):=so2 rfl rfl (fun _ _ _=>by kernel_rfl)
theorem Am:Sok P toks calls 321 (xX P):=so1 rfl rfl (fun _ _=>by kernel_rfl)
theorem Al:Sok P toks calls 328 (xW P):=so2 rfl rfl (fun _ _ _=>by kernel_rfl)
theorem Ak:Sok P toks calls 335 (xV P):=so1 rfl rfl (fun _ _=>by kernel_rfl)
theorem Aj:Sok P toks calls 342 (xU P):=so1 rfl rfl (fun _ _=>by kernel_rfl)
theorem hG {σ τ:Type}{f:σ→Rho→Nat→SO}{g:τ→Rho→Nat→SO}{s:σ}{t:τ}{l:List σ}{r:List τ}(h:∀ ρ k,f s ρ k=g t ρ k) (ht:∀ ρ k,exL f l ρ k=exL g r ρ k) (ρ:Rho) (k:Nat):exL f (s::l) ρ k=exL g (t::r) ρ k:=by
 unfold exL
 rw[h ρ k]
 congr 1
 funext x k
 cases x.1 with
 |none=>exact ht x.2 k
 |some d=>rfl
theorem yJ {σ τ:Type}{f:σ→Rho→Nat→SO}{g:τ→Rho→Nat→SO}(ρ:Rho) (k:Nat):exL f [] ρ k=exL g [] ρ k:=rfl
noncomputable def fdOf (P:Params) (f:Addr):FuncData:=match(kM P).lookup f with
 |some ⟨_,_,.func fd,_⟩=>fd
 |_=>default
noncomputable def fJ (P:Params) (f:Addr):List Stmt:=match(fdOf P f).body with
 |.stmts b=>b
 |_=>[]
noncomputable def lO:List RS→Nat→RS
 |[],_=>.bad
 |a::_,0=>a
 |_::r,n+1=>lO r n
theorem AN (ρ:Rho) (k:Nat):exS (cM P toks 357 calls) (fdOf P 357).scope 40 (Hd.nth (fJ P 357) 0) ρ k=exR (crM P calls) 40 (lO (dF P).body 0) ρ k:=by kernel_rfl
theorem AM (ρ:Rho) (k:Nat):exS (cM P toks 357 calls) (fdOf P 357).scope 40 (Hd.nth (fJ P 357) 1) ρ k=exR (crM P calls) 40 (lO (dF P).body 1) ρ k:=by kernel_rfl
theorem AL (ρ:Rho) (k:Nat):exS (cM P toks 357 calls) (fdOf P 357).scope 40 (Hd.nth (fJ P 357) 2) ρ k=exR (crM P calls) 40 (lO (dF P).body 2) ρ k:=by kernel_rfl
theorem AK (ρ:Rho) (k:Nat):exS (cM P toks 357 calls) (fdOf P 357).scope 40 (Hd.nth (fJ P 357) 3) ρ k=exR (crM P calls) 40 (lO (dF P).body 3) ρ k:=by kernel_rfl
theorem KC:fJ P 357=[Hd.nth (fJ P 357) 0,Hd.nth (fJ P 357) 1,Hd.nth (fJ P 357) 2,Hd.nth (fJ P 357) 3]:=by kernel_rfl
theorem Ib:(dF P).body=[lO (dF P).body 0,lO (dF P).body 1,lO (dF P).body 2,lO (dF P).body 3]:=by kernel_rfl
theorem uI (d0:D) (k:Nat):hO (cM P toks 357 calls) 357 [d0] k=cg (crM P calls) (dF P) [d0] k:=by
 have e1:hO (cM P toks 357 calls) 357 [d0] k=(exL (exS (cM P toks 357 calls) (fdOf P 357).scope 40) (fJ P 357) [(aq,d0)] k).bind fun r k=>.ok (r.1.getD (.py .none)) k:=by kernel_rfl
 have e2:cg (crM P calls) (dF P) [d0] k=(exL (exR (crM P calls) 40) (dF P).body [(aq,d0)] k).bind fun r k=>.ok (r.1.getD (.py .none)) k:=by kernel_rfl
 rw[e1,e2,KC,Ib,hG (AN P toks calls) (hG (AM P toks calls) (hG (AL P toks calls) (hG (AK P toks calls) yJ)))]
theorem Ai:Sok P toks calls 357 (dF P):=so1 rfl rfl (uI P toks calls)
theorem Ah:Sok P toks calls 362 (xT P):=so1 rfl rfl (fun _ _=>by kernel_rfl)
theorem Ag:Sok P toks calls 369 (xS P):=so3 rfl rfl (fun _ _ _ _=>by kernel_rfl)
theorem Af:Sok P toks calls 376 (xR P):=so1 rfl rfl (fun _ _=>by kernel_rfl)
theorem Ae:Sok P toks calls 383 (xQ P):=so2 rfl rfl (fun _ _ _=>by kernel_rfl)
theorem Ad:Sok P toks calls 397 (xP P):=so3 rfl rfl (fun _ _ _ _=>by kernel_rfl)
theorem Ac:Sok P toks calls 404 (xO P):=so1 rfl rfl (fun _ _=>by kernel_rfl)
theorem Ab:Sok P toks calls 411 (xN P):=so1 rfl rfl (fun _ _=>by kernel_rfl)
theorem Aa:Sok P toks calls 418 (xM P):=so1 rfl rfl (fun _ _=>by kernel_rfl)
theorem z9:Sok P toks calls 423 (xL P):=so1 rfl rfl (fun _ _=>by kernel_rfl)
theorem z8:Sok P toks calls 437 (xK P):=so1 rfl rfl (fun _ _=>by kernel_rfl)
theorem z7:Sok P toks calls 444 (xJ P):=so1 rfl rfl (fun _ _=>by kernel_rfl)
theorem z6:Sok P toks calls 451 (xI P):=so1 rfl rfl (fun _ _=>by kernel_rfl)
theorem z5:Sok P toks calls 456 (xH P):=so3 rfl rfl (fun _ _ _ _=>by kernel_rfl)
theorem z4:Sok P toks calls 463 (xG P):=so2 rfl rfl (fun _ _ _=>by kernel_rfl)
theorem z3:Sok P toks calls 470 (xF P):=so1 rfl rfl (fun _ _=>by kernel_rfl)
theorem z2:Sok P toks calls 477 (xE P):=so3 rfl rfl (fun _ _ _ _=>by kernel_rfl)
theorem z1:Sok P toks calls 491 (xD P):=so1 rfl rfl (fun _ _=>by kernel_rfl)
theorem z0:Sok P toks calls 498 (xC P):=so2 rfl rfl (fun _ _ _=>by kernel_rfl)
theorem zZ:Sok P toks calls 505 (xB P):=so2 rfl rfl (fun _ _ _=>by kernel_rfl)
theorem zY:Sok P toks calls 512 (xA P):=so2 rfl rfl (fun _ _ _=>by kernel_rfl)
theorem zX:Sok P toks calls 526 (xz P):=so2 rfl rfl (fun _ _ _=>by kernel_rfl)
theorem zW:Sok P toks calls 533 (xy P):=so2 rfl rfl (fun _ _ _=>by kernel_rfl)
theorem zV:Sok P toks calls 589 (jn P):=so1 rfl rfl (fun _ _=>by kernel_rfl)
theorem zU:Sok P toks calls 597 (gD P):=Gn rfl rfl (fun _ _ _=>by kernel_rfl) (fun _ _ _ _=>by kernel_rfl)
theorem zS:Sok P toks calls 604 (or P):=so2 rfl rfl (fun _ _ _=>by kernel_rfl)
theorem zR:Sok P toks calls 611 (lh P):=so2 rfl rfl (fun _ _ _=>by kernel_rfl)
theorem zQ:Sok P toks calls 618 (xx P):=so2 rfl rfl (fun _ _ _=>by kernel_rfl)
theorem zP:Sok P toks calls 625 (xw P):=so2 rfl rfl (fun _ _ _=>by kernel_rfl)
theorem zO:Sok P toks calls 640 (xu P):=DW rfl rfl (fun _ _=>by kernel_rfl) (fun _ _ _=>by kernel_rfl)
theorem zN:Sok P toks calls 647 (xt P):=so1 rfl rfl (fun _ _=>by kernel_rfl)
theorem zM:Sok P toks calls 662 (jm P):=Gn rfl rfl (fun _ _ _=>by kernel_rfl) (fun _ _ _ _=>by kernel_rfl)
theorem zL:Sok P toks calls 669 (lg P):=so2 rfl rfl (fun _ _ _=>by kernel_rfl)
theorem zK:Sok P toks calls 676 (oq P):=so2 rfl rfl (fun _ _ _=>by kernel_rfl)
theorem zJ:Sok P toks calls 683 (rf P):=so1 rfl rfl (fun _ _=>by kernel_rfl)
theorem zH:Sok P toks calls 690 (xr P):=so1 rfl rfl (fun _ _=>by kernel_rfl)
theorem zG:Sok P toks calls 726 (xq P):=so1 rfl rfl (fun _ _=>by kernel_rfl)
theorem zF:Sok P toks calls 733 (xo P):=so1 rfl rfl (fun _ _=>by kernel_rfl)
theorem zE:Sok P toks calls 738 (xn P):=so1 rfl rfl (fun _ _=>by kernel_rfl)
theorem zD:Sok P toks calls 745 (xm P):=so1 rfl rfl (fun _ _=>by kernel_rfl)
theorem zC:Sok P toks calls 762 (xl P):=so3 rfl rfl (fun _ _ _ _=>by kernel_rfl)
theorem zB:Sok P toks calls 769 (xk P):=so2 rfl rfl (fun _ _ _=>by kernel_rfl)
theorem zA:Sok P toks calls 774 (xj P):=so1 rfl rfl (fun _ _=>by kernel_rfl)
theorem zz:Sok P toks calls 779 (xi P):=so1 rfl rfl (fun _ _=>by kernel_rfl)
theorem zy:Sok P toks calls 784 (xh P):=so1 rfl rfl (fun _ _=>by kernel_rfl)
theorem zx:Sok P toks calls 789 (xg P):=so2 rfl rfl (fun _ _ _=>by kernel_rfl)
theorem zw:Sok P toks calls 810 (xf P):=so2 rfl rfl (fun _ _ _=>by kernel_rfl)
theorem r7:Sok P toks calls 839 (lf P):=so1 rfl rfl (fun _ _=>by kernel_rfl)
theorem zv:Sok P toks calls 846 (xe P):=so1 rfl rfl (fun _ _=>by kernel_rfl)
theorem zu:Sok P toks calls 855 (xc P):=DW rfl rfl (fun _ _=>by kernel_rfl) (fun _ _ _=>by kernel_rfl)
theorem zt:Sok P toks calls 862 (xa P):=so2 rfl rfl (fun _ _ _=>by kernel_rfl)
theorem r6:Sok P toks calls 881 (lc P):=so2 rfl rfl (fun _ _ _=>by kernel_rfl)
end
inductive TR where
 |leaf (f:Nat) (r:RF)
 |node (m:Nat) (a b:TR)
noncomputable def TR.get:TR→Nat→Option RF
 |.leaf f r,g=>match Nat.beq f g with
  |true=>some r
  |false=>none
 |.node m a b,g=>match Nat.ble g m with
  |true=>a.get g
  |false=>b.get g
noncomputable def TR.All (Q:Nat→RF→Prop):TR→Prop
 |.leaf f r=>Q f r
 |.node _ a b=>a.All Q∧b.All Q
theorem TR.All.get {Q:Nat→RF→Prop}:∀{t:TR},t.All Q→∀{f:Nat}{r:RF},t.get f=some r→Q f r
 |.leaf f r,h,g,q,e=>by
  unfold TR.get at e
  induction hb:Nat.beq f g using Bool.casesOn with
  |true=>rw[hb]at e;cases e;cases Nat.eq_of_beq_eq_true hb;exact h
  |false=>rw[hb]at e;injection e
 |.node m a b,h,g,q,e=>by
  unfold TR.get at e
  induction hb:Nat.ble g m using Bool.casesOn with
  |true=>rw[hb]at e;exact h.1.get e
  |false=>rw[hb]at e;exact h.2.get e
noncomputable def irT (P:Params):TR:=(.node 462 (.node 313 (.node 237 (.node 183 (.node 130 (.node 123 (.leaf 89 (CB P)) (.leaf 124 (yq P))) (.node 137 (.leaf 131 (yo P)) (.leaf 138 (yn P)))) (.node 204 (.node 190 (.leaf 184 (ym P)) (.leaf 191 (yl P))) (.node 218 (.leaf 205 (yk P)) (.node 225 (.leaf 219 (yj P)) (.leaf 226 (yi P)))))) (.node 271 (.node 249 (.node 242 (.leaf 238 (yh P)) (.leaf 243 (yg P))) (.node 256 (.leaf 250 (yf P)) (.node 264 (.leaf 257 (ye P)) (.leaf 265 (yd P))))) (.node 285 (.node 278 (.leaf 272 (jp P)) (.leaf 279 (yc P))) (.node 292 (.leaf 286 (yb P)) (.node 306 (.leaf 293 (ya P)) (.leaf 307 (xZ P))))))) (.node 382 (.node 341 (.node 327 (.node 320 (.leaf 314 (xY P)) (.leaf 321 (xX P))) (.node 334 (.leaf 328 (xW P)) (.leaf 335 (xV P)))) (.node 361 (.node 356 (.leaf 342 (xU P)) (.leaf 357 (dF P))) (.node 368 (.leaf 362 (xT P)) (.node 375 (.leaf 369 (xS P)) (.leaf 376 (xR P)))))) (.node 422 (.node 403 (.node 396 (.leaf 383 (xQ P)) (.leaf 397 (xP P))) (.node 410 (.leaf 404 (xO P)) (.node 417 (.leaf 411 (xN P)) (.leaf 418 (xM P))))) (.node 443 (.node 436 (.leaf 423 (xL P)) (.leaf 437 (xK P))) (.node 450 (.leaf 444 (xJ P)) (.node 455 (.leaf 451 (xI P)) (.leaf 456 (xH P)))))))) (.node 675 (.node 588 (.node 497 (.node 476 (.node 469 (.leaf 463 (xG P)) (.leaf 470 (xF P))) (.node 490 (.leaf 477 (xE P)) (.leaf 491 (xD P)))) (.node 511 (.node 504 (.leaf 498 (xC P)) (.leaf 505 (xB P))) (.node 525 (.leaf 512 (xA P)) (.node 532 (.leaf 526 (xz P)) (.leaf 533 (xy P)))))) (.node 624 (.node 603 (.node 596 (.leaf 589 (jn P)) (.leaf 597 (gD P))) (.node 610 (.leaf 604 (or P)) (.node 617 (.leaf 611 (lh P)) (.leaf 618 (xx P))))) (.node 646 (.node 639 (.leaf 625 (xw P)) (.leaf 640 (xu P))) (.node 661 (.leaf 647 (xt P)) (.node 668 (.leaf 662 (jm P)) (.leaf 669 (lg P))))))) (.node 773 (.node 732 (.node 689 (.node 682 (.leaf 676 (oq P)) (.leaf 683 (rf P))) (.node 725 (.leaf 690 (xr P)) (.leaf 726 (xq P)))) (.node 744 (.node 737 (.leaf 733 (xo P)) (.leaf 738 (xn P))) (.node 761 (.leaf 745 (xm P)) (.node 768 (.leaf 762 (xl P)) (.leaf 769 (xk P)))))) (.node 838 (.node 783 (.node 778 (.leaf 774 (xj P)) (.leaf 779 (xi P))) (.node 788 (.leaf 784 (xh P)) (.node 809 (.leaf 789 (xg P)) (.leaf 810 (xf P))))) (.node 854 (.node 845 (.leaf 839 (lf P)) (.leaf 846 (xe P))) (.node 861 (.leaf 855 (xc P)) (.node 880 (.leaf 862 (xa P)) (.leaf 881 (lc P)))))))))
theorem ES (P:Params) (toks:List (Str×Str×Int)) (calls:Orc):(irT P).All fun f r=>∀ args k,Sim Eq (hO (cM P toks f calls) f args k) (cg (crM P calls) r args k):=⟨⟨⟨⟨⟨⟨DY P toks calls,AG P toks calls⟩,⟨AF P toks calls,AE P toks calls⟩⟩,⟨⟨AD P toks calls,AC P toks calls⟩,⟨AA P toks calls,⟨Az P toks calls,Ay P toks calls⟩⟩⟩⟩,⟨⟨⟨Ax P toks calls,Aw P toks calls⟩,⟨Av P toks calls,⟨Au P toks calls,At P toks calls⟩⟩⟩,⟨⟨As P toks calls,Ar P toks calls⟩,⟨Aq P toks calls,⟨Ap P toks calls,Ao P toks calls⟩⟩⟩⟩⟩,⟨⟨⟨⟨An P toks calls,Am P toks calls⟩,⟨Al P toks calls,Ak P toks calls⟩⟩,⟨⟨Aj P toks calls,Ai P toks calls⟩,⟨Ah P toks calls,⟨Ag P toks calls,Af P toks calls⟩⟩⟩⟩,⟨⟨⟨Ae P toks calls,Ad P toks calls⟩,⟨Ac P toks calls,⟨Ab P toks calls,Aa P toks calls⟩⟩⟩,⟨⟨z9 P toks calls,z8 P toks calls⟩,⟨z7 P toks calls,⟨z6 P toks calls,z5 P toks calls⟩⟩⟩⟩⟩⟩,⟨⟨⟨⟨⟨z4 P toks calls,z3 P toks calls⟩,⟨z2 P toks calls,z1 P toks calls⟩⟩,⟨⟨z0 P toks calls,zZ P toks calls⟩,⟨zY P toks calls,⟨zX P toks calls,zW P toks calls⟩⟩⟩⟩,⟨⟨⟨zV P toks calls,zU P toks calls⟩,⟨zS P toks calls,⟨zR P toks calls,zQ P toks calls⟩⟩⟩,⟨⟨zP P toks calls,zO P toks calls⟩,⟨zN P toks calls,⟨zM P toks calls,zL P toks calls⟩⟩⟩⟩⟩,⟨⟨⟨⟨zK P toks calls,zJ P toks calls⟩,⟨zH P toks calls,zG P toks calls⟩⟩,⟨⟨zF P toks calls,zE P toks calls⟩,⟨zD P toks calls,⟨zC P toks calls,zB P toks calls⟩⟩⟩⟩,⟨⟨⟨zA P toks calls,zz P toks calls⟩,⟨zy P toks calls,⟨zx P toks calls,zw P toks calls⟩⟩⟩,⟨⟨r7 P toks calls,zv P toks calls⟩,⟨zu P toks calls,⟨zt P toks calls,r6 P toks calls⟩⟩⟩⟩⟩⟩⟩
noncomputable def pj:List Nat→List Nat→Bool
 |[],_=>true
 |_::_,[]=>false
 |a::p,b::t=>match Nat.beq a b with
  |true=>pj p t
  |false=>false
noncomputable def lQ (p:List Nat):List Nat→Bool
 |[]=>pj p []
 |b::t=>match pj p (b::t)with
  |true=>true
  |false=>lQ p t
theorem preL_iff:∀{p t:List Nat},pj p t=true↔t.take p.length=p
 |[],t=>by simp[pj]
 |_::_,[]=>by simp[pj]
 |a::p,b::t=>by
  unfold pj
  induction hb:Nat.beq a b using Bool.casesOn with
  |true =>
   have:=Nat.eq_of_beq_eq_true hb
   subst this
   dsimp only
   rw[preL_iff]
   simp
  |false =>
   dsimp only
   have:a≠b:=Nat.ne_of_beq_eq_false hb
   simp
   intro h;exact absurd h.symm this
theorem lm {p:List Nat}:∀{t:List Nat},lQ p t=true↔∃ i,i+p.length≤t.length∧(t.drop i).take p.length=p
 |[]=>by
  unfold lQ
  rw[preL_iff]
  constructor
  ·intro h;refine⟨0,?_,h⟩
   have:=congrArg List.length h
   simp at this
   simp[← this]
  ·rintro⟨i,h,e⟩
   simpa using e
 |b::t=>by
  unfold lQ
  induction hp:pj p (b::t)using Bool.casesOn with
  |true =>
   dsimp only
   have h:=preL_iff.mp hp
   refine⟨fun _=>⟨0,?_,h⟩,fun _=>rfl⟩
   have:=congrArg List.length h
   rw[List.length_take]at this
   omega
  |false =>
   dsimp only
   rw[lm]
   constructor
   ·rintro⟨i,h,e⟩
    exact⟨i+1,by simp;omega,e⟩
   ·rintro⟨i,h,e⟩
    induction i using Nat.casesOn with
    |zero =>
     have:=preL_iff.mpr e
     rw[List.drop_zero,hp]at this;injection this
    |succ i=>exact⟨i,by simp at h;omega,e⟩
theorem subAt_list {t:List Nat}{y:Str}{i:Nat}:subAt ⟨t.toArray⟩ y i=true↔(t.drop i).take y.cps.toList.length=y.cps.toList:=by
 unfold subAt
 rw[beq_iff_eq,← Array.toList_inj]
 simp[Str.length,List.extract_eq_take_drop]
theorem qp (y:Str) (t:List Nat):kh y ⟨t.toArray⟩=lQ y.cps.toList t:=by
 unfold kh
 rw[Bool.eq_iff_iff,PySem.StrLaws.found_iff,lm]
 constructor
 ·rintro⟨i,h,e⟩
  exact⟨i,by simpa [Str.length]using h,subAt_list.mp e⟩
 ·rintro⟨i,h,e⟩
  exact⟨i,by simpa [Str.length]using h,subAt_list.mpr e⟩
noncomputable abbrev np:List (Str×Bool):=[("T",false),("J",false),("A",false),("C",false),("D",false),("GIVING",true),("TO",true),("FROM",true),("BY",true),("INTO",true),("END-ADD",true),("END-SUBTRACT",true),("END-MULTIPLY",true)]
noncomputable def resT:List (Str×Bool)→Str→Option Bool
 |[],_=>none
 |p::r,x=>match ac p.1 x with
  |true=>some p.2
  |false=>resT r x
noncomputable def pad (w:Str):Str:=⟨(32::(w.cps.toList++[32])).toArray⟩
theorem AP (w:Str):kh (pad w) (Hd.str89)=lQ (32::(w.cps.toList++[32])) Hd.resvL:=by
 rw[Hd.resv_eq,qp]
 simp[pad]
noncomputable def KY (P:Params) (toks:List (Str×Str×Int)) (calls:Orc) (w:Str):Prop:=∀ k,hO (cM P toks 540 calls) 540 [.py (.str w)] k=.ok (.py (.bool (kh (pad w) (Hd.str89)^^false))) k
theorem pb {Q:Str→Bool→Prop}:∀{l:List (Str×Bool)},(∀ p∈l,Q p.1 p.2)→∀{x b},resT l x=some b→Q x b
 |[],_,_,_,e=>by injection e
 |p::r,h,x,b,e=>by
  unfold resT at e
  induction hs:ac p.1 x using Bool.casesOn with
  |true=>rw[hs]at e;obtain rfl:=si e;exact(ay _ _).mp hs▸h p (.head _)
  |false=>rw[hs]at e;exact pb (fun q m=>h q (.tail _ m)) e
theorem AQ (P:Params) (toks:List (Str×Str×Int)) (calls:Orc):∀ p∈np,KY P toks calls p.1∧lQ (32::(p.1.cps.toList++[32])) Hd.resvL=p.2:=by
 intro p h
 simp only[np,List.mem_cons,List.not_mem_nil,or_false]at h
 rcases h with rfl | rfl | rfl | rfl | rfl | rfl | rfl | rfl | rfl | rfl | rfl | rfl | rfl
 all_goals exact⟨fun k=>by kernel_rfl,by kernel_rfl⟩
theorem Ef (P:Params) (toks:List (Str×Str×Int)) (calls:Orc) {w:Str}{b:Bool}(h:resT np w=some b) (k:Nat):hO (cM P toks 540 calls) 540 [.py (.str w)] k=.ok (.py (.bool b)) k:=by
 have q:=pb (Q:=fun x b=>KY P toks calls x∧lQ (32::(x.cps.toList++[32])) Hd.resvL=b) (AQ P toks calls) h
 rw[q.1 k,AP,q.2,Bool.xor_false]
noncomputable abbrev Tk:=Str×Str×Int
noncomputable def C7 {κ:Type}(mk:qc κ→CR κ) (T:TR) (b:Addr→List D→κ→Option (OutK κ D)):Nat→qc κ
 |0,_,_,_=>.no
 |n+1,f,args,k=>(b f args k).getD ((T.get f).elim .no fun r=>cg (mk (C7 mk T b n)) r args k)
noncomputable def iE (t:Tk):D:=.tok t.1 t.2.1 t.2.2
noncomputable def pkD:List Tk→Nat→D
 |[],_=>.py .none
 |t::_,0=>iE t
 |_::r,n+1=>pkD r n
noncomputable def rA:List D→Option (List D)
 |[]=>none
 |d::r=>bif pe d then some r else none
theorem fZ {args r:List D}(h:rA args=some r):args=.rdr::r:=by
 induction args using List.casesOn with
 |nil=>exact nn h
 |cons d l =>
  replace h:(bif pe d then some l else none)=some r:=h
  induction hd:pe d using Bool.casesOn with
  |false=>rw[hd]at h;exact nn h
  |true=>rw[hd]at h;rw[gW hd,si h]
noncomputable def nA (r:List D):Option Nat:=bif r.isEmpty then some 0 else(one r).bind kI
theorem sw {r:List D}{a:Nat}(h:nA r=some a):(r=[]∧a=0)∨r=[.py (.int (.ofNat a))]:=by
 induction r using List.casesOn with
 |nil=>exact .inl ⟨rfl,(si h).symm⟩
 |cons d l=>exact .inr (az h fun x h1 h2=>fP h2▸bB h1)
noncomputable def pkA (args:List D):Option Nat:=(rA args).bind nA
noncomputable def stA (args:List D):Option Str:=(one args).bind fM
theorem kj {args:List D}{w:Str}(h:stA args=some w):args=[.py (.str w)]:=az h fun x h1 h2=>bD h2▸bB h1
noncomputable abbrev Lf:List (Addr×Nat×Nat×Str):=[(309,225,36,"read_primary.<locals>.<lambda>"),(432,342,35,"number_here.<locals>.<lambda>")]
noncomputable abbrev cY (P:Params) (toks:List Tk):Nat→Orc:=sY (kM P) 714 279 dl Lf toks
theorem we (toks:List Tk) (k a:Nat):pkD (toks.drop k) a=match toks[k+a]? with | some t=>iE t | none=>.py .none:=by
 have:∀(l:List Tk) (a:Nat),pkD l a=match l[a]? with | some t=>iE t | none=>.py .none:=by
  intro l
  induction l with
  |nil=>intro a;rfl
  |cons t r ih=>intro a;induction a using Nat.casesOn with
   |zero=>rfl
   |succ a=>exact ih a
 rw[this,List.getElem?_drop]
noncomputable def ND (toks:List Tk) (ds:List D):Option D:=aS "len" ds
noncomputable def jo (P:Params) (toks:List Tk):RF:=⟨["self",ae],some (.py (.int 0)),[.ifs (.tst (.op2 (aj [] [] .Lt) (.op2 (aK .Add) (.at1 (.var "self")) (.var ae)) (.opN (aS "len") [.op1 (fun d=>gP toks "tokens" d 0) (.var "self")])))
 [.ret (.op2 (ah (kM P) dl) (.op1 (fun d=>gP toks "tokens" d 0) (.var "self")) (.op2 (aK .Add) (.at1 (.var "self")) (.var ae)))] [],.ret (.val (.py .none))]⟩
theorem uH (P:Params) (toks:List Tk) (calls:Orc) (d0:D) (k:Nat):hO (cM P toks 568 calls) 568 [d0] k=cg (crM P calls) (jo P toks) [d0] k:=by kernel_rfl
theorem uG (P:Params) (toks:List Tk) (calls:Orc) (d0 d1:D) (k:Nat):hO (cM P toks 568 calls) 568 [d0,d1] k=cg (crM P calls) (jo P toks) [d0,d1] k:=by kernel_rfl
section
variable {κ:Type}{c:CR κ}
theorem dW {n:Nat}{ρ:Rho}{o:D→D→Option D}{a b:RE}{k k1 k2:κ}{d e:D}(h1:evR c n ρ a k=.ok d k1) (h2:evR c n ρ b k1=.ok e k2):evR c (n+1) ρ (.op2 o a b) k=ofO (o d e) k2:=by
 show(evR c n ρ a k).bind _=_
 rw[h1]
 show(evR c n ρ b k1).bind _=_
 rw[h2];rfl
theorem cV {n:Nat}{ρ:Rho}{a:RE}{k k1:κ}{d:D}{b:Bool}(h1:evR c n ρ a k=.ok d k1) (h2:bV d=some b):cf c (n+1) ρ (.tst a) k=.ok b k1:=by
 show(evR c n ρ a k).bind _=_
 rw[h1]
 show ofO (bV d) k1=_
 rw[h2];rfl
theorem c9 {n:Nat}{ρ:Rho}{t:RB}{b o:List RS}{k k1:κ}{q:Bool}(h1:cf c n ρ t k=.ok q k1):exR c (n+1) (.ifs t b o) ρ k=if q then exL (exR c n) b ρ k1 else exL (exR c n) o ρ k1:=by
 show(cf c n ρ t k).bind _=_
 rw[h1];rfl
theorem aR {σ:Type}{f:σ→Rho→κ→SOK κ}{s:σ}{r:List σ}{ρ ρ':Rho}{k k1:κ}(h1:f s ρ k=.ok (none,ρ') k1):exL f (s::r) ρ k=exL f r ρ' k1:=by
 show(f s ρ k).bind _=_
 rw[h1];rfl
theorem oA {σ:Type}{f:σ→Rho→κ→SOK κ}{s:σ}{r:List σ}{ρ ρ':Rho}{k k1:κ}{d:D}(h1:f s ρ k=.ok (some d,ρ') k1):exL f (s::r) ρ k=.ok (some d,ρ') k1:=by
 show(f s ρ k).bind _=_
 rw[h1];rfl
end
theorem l8 (P:Params) (toks:List Tk) (calls:Orc) (k a:Nat) (h:sm toks.length=true):cg (crM P calls) (jo P toks) [.rdr,.py (.int (Int.ofNat a))] k=.ok (pkD (toks.drop k) a) k:=by
 have b:aS "len" [.toks toks]=some (.py (.int (Int.ofNat toks.length))):=by
  have:aS "len" [.toks toks]=(uk (.toks toks)).map fun(n:Nat)=>.py (.int n):=by kernel_rfl
  rw[this]
  simp[uk,smO,h]
 have cc:aj [] [] .Lt (.py (.int (Int.ofNat (k+a)))) (.py (.int (Int.ofNat toks.length)))=some (.py (.bool (decide (k+a<toks.length)))):=by
  exact congrArg (fun b=>some (D.py (.bool b))) (decide_eq_decide.mpr Int.ofNat_lt)
 let ρ:Rho:=[(("self":Str),.rdr),(ae,.py (.int (Int.ofNat a)))]
 have e2:∀ n,evR (crM P calls) (n+5) ρ (.opN (aS "len") [.op1 (fun d=>gP toks "tokens" d 0) (.var "self")]) k=ofO (aS "len" [.toks toks]) k:=fun n=>by kernel_rfl
 have e3:∀ n,evR (crM P calls) (n+5) ρ (.op2 (aK .Add) (.at1 (.var "self")) (.var ae)) k=.ok (.py (.int (Int.ofNat (k+a)))) k:=fun n=>by kernel_rfl
 have e4:∀ n,evR (crM P calls) (n+5) ρ (.op1 (fun d=>gP toks "tokens" d 0) (.var "self")) k=.ok (.toks toks) k:=fun n=>by kernel_rfl
 have e5:bV (.py (.bool (decide (k+a<toks.length))))=some (decide (k+a<toks.length)):=by kernel_rfl
 have e0:cg (crM P calls) (jo P toks) [.rdr,.py (.int (Int.ofNat a))] k=(exL (exR (crM P calls) 40) (jo P toks).body ρ k).bind fun r k=>.ok (r.1.getD (.py .none)) k:=by kernel_rfl
 have i1:=c9 (c:=crM P calls) (n:=39) (ρ:=ρ) (k:=k) (b:=[.ret (.op2 (ah (kM P) dl) (.op1 (fun d=>gP toks "tokens" d 0) (.var "self")) (.op2 (aK .Add) (.at1 (.var "self")) (.var ae)))]) (o:=[])
  (cV (n:=38) ((dW (n:=37) (o:=aj [] [] .Lt) (e3 32) ((e2 32).trans (congrArg (ofO · k) b))).trans (congrArg (ofO · k) cc)) e5)
 rw[e0]
 rw[we]
 by_cases q:k+a<toks.length
 ·have hd:decide (k+a<toks.length)=true:=decide_eq_true q
  have hs:sm (k+a)=true:=by
   simp only[sm,Nat.ble_eq]at h ⊢
   omega
  rw[hd]at i1
  rw[List.getElem?_eq_getElem q]
  have it:ah (kM P) dl (.toks toks) (.py (.int (Int.ofNat (k+a))))=some (iE toks[k+a]):=by
   have:ah (kM P) dl (.toks toks) (.py (.int (Int.ofNat (k+a))))=if sm (k+a)then(toks[k+a]?).map fun t=>.tok t.1 t.2.1 t.2.2 else none:=by kernel_rfl
   rw[this,if_pos hs,List.getElem?_eq_getElem q]
   rfl
  have r1:exR (crM P calls) 39 (.ret (.op2 (ah (kM P) dl) (.op1 (fun d=>gP toks "tokens" d 0) (.var "self")) (.op2 (aK .Add) (.at1 (.var "self")) (.var ae)))) ρ k=.ok (some (iE toks[k+a]),ρ) k:=by
   show(evR (crM P calls) 38 ρ _ k).bind _=_
   rw[dW (n:=37) (e4 32) (e3 32),it]
   rfl
  have r2:exR (crM P calls) 40 (lO (jo P toks).body 0) ρ k=.ok (some (iE toks[k+a]),ρ) k:=i1.trans (oA r1)
  exact(congrArg (fun o:SO=>o.bind fun r k=>OutK.ok (r.1.getD (.py .none)) k) (oA r2)).trans rfl
 ·have hd:decide (k+a<toks.length)=false:=decide_eq_false q
  rw[hd]at i1
  rw[List.getElem?_eq_none (by omega)]
  exact(congrArg (fun o:SO=>o.bind fun r k=>OutK.ok (r.1.getD (.py .none)) k) (aR i1)).trans rfl
theorem tY {args:List D}{a:Nat}(h:pkA args=some a):(args=[.rdr]∧a=0)∨args=[.rdr,.py (.int (.ofNat a))] :=
 az h fun r h1 h2=>(sw h2).imp (fun(e:r=[]∧a=0)=>⟨by rw[fZ h1,e.1],e.2⟩) fun e=>by rw[fZ h1,e]
theorem AW (P:Params) (toks:List Tk) (calls:Orc) (k a:Nat) (args:List D) (ha:pkA args=some a) (h:sm toks.length=true):hO (cM P toks 568 calls) 568 args k=.ok (pkD (toks.drop k) a) k:=by
 rcases tY ha with⟨rfl,rfl⟩ | rfl
 ·rw[uH]
  exact l8 P toks calls k 0 h
 ·rw[uG]
  exact l8 P toks calls k a h
noncomputable abbrev Zs:=Nat×List Tk
noncomputable abbrev OZ:=qc Zs
noncomputable def qv (κ:Zs) (k':Nat):Option Zs:=bif Nat.ble κ.1 k' then some (k',κ.2.drop (k' - κ.1))else none
noncomputable def crZ (P:Params) (calls:OZ):CR Zs:=⟨calls,fun κ=>κ.1,qv,(crM P fun _ _ _=>.no).kp,fun a=>dl.contains a,fun a ds=>sU (kM P) dl a ds,279⟩
noncomputable def RZ (toks:List Tk) (k:Nat) (κ:Zs):Prop:=κ.1=k∧κ.2=toks.drop k∧sm toks.length=true
theorem r8 {κ:Zs}{k:Nat}(q:Nat.ble κ.1 k=true):qv κ k=some (k,κ.2.drop (k-κ.1)):=by
 unfold qv
 rw[q];rfl
theorem Bw {P:Params}{toks:List Tk}{x:Orc}{y:OZ}(h:∀ f args k κ,RZ toks k κ→Sim (RZ toks) (x f args k) (y f args κ)):CSim (RZ toks) (crM P x) (crZ P y) where
 calls f args k κ e:=h f args k κ e
 pos k κ e:=e.1.symm
 set k κ k' κ' e h:=by
  refine⟨k',rfl,?_⟩
  replace h:qv κ k'=some κ':=h
  induction q:Nat.ble κ.1 k' using Bool.casesOn with
  |true =>
   obtain rfl:=si ((r8 q).symm.trans h)
   refine⟨rfl,?_,e.2.2⟩
   rw[e.2.1,List.drop_drop,← e.1,Nat.add_sub_cancel' (Nat.le_of_ble_eq_true q)]
  |false =>
   unfold qv at h
   rw[q]at h;exact nn h
 kp:=rfl
 dl:=rfl
 dg:=rfl
 rs:=rfl
theorem Sim.eqt {κ1 κ2 α:Type}{R:κ1→κ2→Prop}{o1 o2:OutK κ1 α}{o3:OutK κ2 α}(h:Sim Eq o1 o2) (g:Sim R o2 o3):Sim R o1 o3:=by
 induction o3 using OutK.casesOn with
 |no=>trivial
 |exc=>obtain rfl:=(show o2=.exc from g);exact h
 |ok a κ =>
  obtain⟨k2,rfl,s⟩:=g
  obtain⟨k1,rfl,rfl⟩:=h
  exact⟨k1,rfl,s⟩
noncomputable abbrev Nv:=List D→Zs→Option (OutK Zs D)
noncomputable def bT:List (Addr×Nv)→Addr→Nv
 |[],_,_,_=>none
 |p::r,f,args,κ=>bif Nat.beq f p.1 then p.2 args κ else bT r f args κ
noncomputable abbrev Rw1 (x:Nat→Orc) (toks:List Tk) (c:Nat) (f:Addr) (nv:Nv):Prop:=∀ n args k κ o,RZ toks k κ→nv args κ=some o→Sim (RZ toks) (x (n+c+1) f args k) o
noncomputable abbrev Gd (x:Nat→Orc) (toks:List Tk) (c:Nat) (t:List (Addr×Nv)):Prop:=∀ f,Rw1 x toks c f (bT t f)
theorem Gd.nil {x:Nat→Orc}{toks:List Tk}{c:Nat}:Gd x toks c []:=fun _ _ _ _ _ _ _ e=>nn e
theorem Gd.cons {x:Nat→Orc}{toks:List Tk}{c:Nat}{g:Addr}{nv:Nv}{t:List (Addr×Nv)}(h:Rw1 x toks c g nv) (H:Gd x toks c t):Gd x toks c ((g,nv)::t):=fun f n args k κ o r e=>by
 replace e:(bif Nat.beq f g then nv args κ else bT t f args κ)=some o:=e
 induction hb:Nat.beq f g using Bool.casesOn with
 |true=>rw[hb]at e;rw[Nat.eq_of_beq_eq_true hb];exact h n args k κ o r e
 |false=>rw[hb]at e;exact H f n args k κ o r e
theorem Gd.mono {x:Nat→Orc}{toks:List Tk}{c:Nat}{t:List (Addr×Nv)}(d:Nat) (H:Gd x toks c t):Gd x toks (d+c) t:=fun f n args k κ o r e=>Nat.add_assoc n d c▸H f (n+d) args k κ o r e
structure Src (P:Params) (toks:List Tk) (x:Nat→Orc):Prop where
 succ:∀ n f args k,Nat.beq f 874=false→x (n+1) f args k=hO (cM P toks f (x n)) f args k
noncomputable abbrev cT (P:Params) (t:List (Addr×Nv)) (n:Nat):OZ:=C7 (crZ P) (irT P) (bT t) n
noncomputable def nvZ:List (Addr×Nv):=[(568,fun args κ=>(pkA args).map fun a=>.ok (pkD κ.2 a) κ),(540,fun args κ=>(stA args).bind fun w=>(resT np w).map fun b=>.ok (.py (.bool b)) κ)]
section
variable {P:Params}{toks:List Tk}{x:Nat→Orc}(S:Src P toks x)
include S
theorem mz {c:Nat}{t:List (Addr×Nv)}(G:Gd x toks c t):∀ n f args k κ,RZ toks k κ→Sim (RZ toks) (x (n+c) f args k) (cT P t n f args κ)
 |0,_,_,_,_,_=>trivial
 |n+1,f,args,k,κ,r=>by
  show Sim _ _ (Option.getD (bT t f args κ) _)
  rw[Nat.add_right_comm]
  induction hb:bT t f args κ using Option.casesOn with
  |some o=>exact G f n args k κ o r hb
  |none =>
   show Sim _ _ (Option.elim ((irT P).get f) _ _)
   induction hr:(irT P).get f using Option.casesOn with
   |none=>trivial
   |some q =>
    have h0:Nat.beq f 874=false:=by
     induction h:Nat.beq f 874 using Bool.casesOn with
     |false=>rfl
     |true=>obtain rfl:=Nat.eq_of_beq_eq_true h;exact nn hr
    rw[S.succ _ _ _ _ h0]
    exact((ES P toks (x (n+c))).get hr args k).eqt (vN (Bw fun f args k κ r=>mz G n f args k κ r) q args r)
theorem gZ:Gd x toks 0 nvZ:=.cons (fun n args k κ o r e=>cA e fun a ha e=>by
 rw[S.succ _ _ _ _ rfl,AW P toks _ k a args ha r.2.2,← e,r.2.1]
 exact⟨k,rfl,r⟩) (.cons (fun n args k κ o r e=>az e fun w hw e=>cA e fun b hb e'=>by
 rw[kj hw,S.succ _ _ _ _ rfl,Ef P toks _ hb k,← e']
 exact⟨k,rfl,r⟩) .nil)
theorem Gd.of {c f:Nat}{t:List (Addr×Nv)}{nv:Nv}(G:Gd x toks c t) (j:Nat) (H:∀ n args κ o,nv args κ=some o→cT P t (n+(j+1)) f args κ=o):Rw1 x toks (j+c) f nv:=fun n args k κ o r e=>by
 have:=mz S G (n+(j+1)) f args k κ r
 rw[H n args κ o e]at this
 rwa [show n+(j+1)+c=n+(j+c)+1 by omega]at this
end
noncomputable abbrev cZ (P:Params) (n:Nat):OZ:=cT P nvZ n
section
variable {κ:Type}{c:CR κ}
theorem j5 {n:Nat}{ρ:Rho}{x:Str}{chk:D→Rho→Bool}{e:RE}{k k1:κ}{d:D}(h:evR c n ρ e k=.ok d k1) (hc:chk d ρ=true):exR c (n+1) (.asg x chk e) ρ k=.ok (none,bP ρ x d) k1:=by
 show(evR c n ρ e k).bind _=_
 rw[h]
 show(if chk d ρ=true then _ else _)=_
 rw[if_pos hc]
theorem j4 {n:Nat}{ρ:Rho}{e:RE}{k k1:κ}{p:PyData}(h:evR c n ρ e k=.ok (.py p) k1):exR c (n+1) (.ret e) ρ k=.ok (some (.py p),ρ) k1:=by
 show(evR c n ρ e k).bind _=_
 rw[h];rfl
theorem ly {n:Nat}{ρ:Rho}{e1 e2:RE}{k k1:κ}{b:Bool}{o:OutK κ D}(h1:evR c n ρ e1 k=.ok (.py (.bool b)) k1) (h2:b=true→evR c n ρ e2 k1=o) (h3:b=false→o=.ok (.py (.bool false)) k1):evR c (n+1) ρ (.boolv true [e1,e2]) k=o:=by
 show(evR c n ρ e1 k).bind _=_
 rw[h1]
 induction b using Bool.casesOn with
 |true=>exact h2 rfl
 |false=>exact(h3 rfl).symm
theorem bX {r:RF}{args:List D}{ρ:Rho}{k:κ}{o:OutK κ D}(h:pY r.ps r.dv args=some ρ) (e:(exL (exR c 40) r.body ρ k).bind (fun r k=>.ok (r.1.getD (.py .none)) k)=o):cg c r args k=o:=by
 unfold cg
 rw[h];exact e
end
noncomputable def sA (args:List D):Option (Str×Nat):=(rA args).bind fun r=>r.head?.bind fun d=>(fM d).bind fun x=>(nA r.tail).map fun a=>(x,a)
noncomputable def zn:D→Option (Str×Str)
 |.tok k w _=>some (k,w)
 |_=>none
noncomputable def nK (x:Str) (d:D):Bool:=(zn d).elim false fun t=>ac t.1 x^^false
noncomputable def nS (x:Str) (d:D):Bool:=(zn d).elim false fun t=>bif (ac t.1 aM^^false)then ac t.2 x^^false else false
theorem iI {args:List D}{x:Str}{a:Nat}(h:sA args=some (x,a)):(args=[.rdr,.py (.str x)]∧a=0)∨args=[.rdr,.py (.str x),.py (.int (.ofNat a))] :=
 az h fun r h1 h=>az h fun d h2 h=>az h fun y h3 h=>cA h fun b h4 h=>by
  cases h
  rw[fZ h1]
  induction r using List.casesOn with
  |nil=>exact nn h2
  |cons d' r =>
   obtain rfl:=si h2
   rw[bD h3]
   exact(sw h4).imp (fun h=>⟨congrArg _ (congrArg _ h.1),h.2⟩) fun h=>congrArg _ (congrArg _ h)
theorem fN (l:List Tk) (a:Nat):pkD l a=.py .none∨∃ t,pkD l a=iE t:=by
 induction l generalizing a with
 |nil=>exact .inl rfl
 |cons t r ih=>induction a using Nat.casesOn with
  |zero=>exact .inr ⟨t,rfl⟩
  |succ a=>exact ih a
theorem wi (l:List Tk) (a:Nat):nb (pkD l a)=true:=by
 rcases fN l a with h | ⟨t,h⟩<;>rw[h]<;>rfl
theorem nF {κ:Type}(l:List Tk) (a:Nat) (k:κ):nbO (.ok (pkD l a) k)=.ok (pkD l a) k:=if_pos (wi l a)
theorem j6 (P:Params) (n:Nat) (x:Str) (a:Nat) (args:List D) (h:sA args=some (x,a)) (κ:Zs):cZ P (n+2) 597 args κ=.ok (.py (.bool (nK x (pkD κ.2 a)))) κ:=by
 have e0:cZ P (n+2) 597 args κ=cg (crZ P (cZ P (n+1))) (gD P) args κ:=by
  rcases iI h with⟨rfl,rfl⟩ | rfl<;>kernel_rfl
 rw[e0]
 let ρ:Rho:=[(af,.rdr),(dh,.py (.str x)),(ae,.py (.int (.ofNat a)))]
 have hb:pY (gD P).ps (gD P).dv args=some ρ:=by
  rcases iI h with⟨rfl,rfl⟩ | rfl<;>kernel_rfl
 refine bX hb ?_
 have e1:evR (crZ P (cZ P (n+1))) 39 ρ (.meth (.var af) cu (some 568) [(.var ae)]) κ=nbO (.ok (pkD κ.2 a) κ):=by kernel_rfl
 rw[nF]at e1
 have s1:=j5 (c:=crZ P (cZ P (n+1))) (x:=aV) (chk:=aJ) e1 (by show(nb _&&true)=true;rw[wi];rfl)
 have s2:exL (exR (crZ P (cZ P (n+1))) 40) (gD P).body ρ κ=exL (exR (crZ P (cZ P (n+1))) 40) (gD P).body.tail (bP ρ aV (pkD κ.2 a)) κ:=aR (r:=(gD P).body.tail) s1
 rw[s2]
 rcases fN κ.2 a with h | ⟨t,h⟩<;>rw[h]<;>kernel_rfl
section
variable {κ:Type}{c:CR κ}{n:Nat}{ρ:Rho}
theorem sP {o:D→Option D}{a:RE}{k k1:κ}{d:D}(h1:evR c n ρ a k=.ok d k1):evR c (n+1) ρ (.op1 o a) k=ofO (o d) k1:=by
 show(evR c n ρ a k).bind _=_
 rw[h1];rfl
theorem i5 {b:RB}{k k1:κ}{q:Bool}(h1:cf c n ρ b k=.ok q k1):cf c (n+1) ρ (.neg b) k=.ok (!q) k1:=by
 show(cf c n ρ b k).bind _=_
 rw[h1];rfl
theorem iu {a:Bool}{e:RB}{r:List RB}{k k1:κ}(h1:cf c n ρ e k=.ok (!a) k1):eG (cf c n ρ) a (e::r) k=.ok (!a) k1:=by
 show(cf c n ρ e k).bind _=_
 rw[h1];induction a using Bool.casesOn<;>rfl
theorem lA {a:Bool}{e:RB}{r:List RB}{k k1:κ}(h1:cf c n ρ e k=.ok a k1):eG (cf c n ρ) a (e::r) k=eG (cf c n ρ) a r k1:=by
 show(cf c n ρ e k).bind _=_
 rw[h1];induction a using Bool.casesOn<;>rfl
theorem ju {e1 e2:RB}{k:κ}{a b:Bool}(h1:cf c n ρ e1 k=.ok a k) (h2:cf c n ρ e2 k=.ok b k):cf c (n+1) ρ (.ands false [e1,e2]) k=.ok (a||b) k:=by
 show eG (cf c n ρ) false [e1,e2] k=_
 induction a using Bool.casesOn with
 |true=>exact iu h1
 |false =>
  rw[lA h1]
  induction b using Bool.casesOn with
  |true=>exact iu h2
  |false=>rw[lA h2];rfl
theorem oz {x:Str}{e:RE}{k k1 k2:κ}{j:Nat}(hx:aH ρ x=some .rdr) (h:evR c n ρ e k=.ok (.py (.int (.ofNat j))) k1) (hs:c.set k1 j=some k2):exR c (n+1) (.at1 x e) ρ k=.ok (none,ρ) k2:=by
 show optK (aH ρ x) _=_
 rw[hx]
 show(evR c n ρ e k).bind _=_
 rw[h]
 show(ofO (c.set k1 j) k1).bind _=_
 rw[hs];rfl
theorem cE {s:RS}{k k1:κ}{d:D}{ρ':Rho}{r:List RS}(h1:exR c n s ρ k=.ok (some d,ρ') k1):exL (exR c n) (s::r) ρ k=.ok (some d,ρ') k1:=oA h1
end
theorem vK (p c:Nat) (l:List Tk):qv (p,l) (p+c)=some (p+c,l.drop c):=(r8 (Nat.ble_eq.mpr (Nat.le_add_right p c))).trans (by rw[Nat.add_sub_cancel_left])
theorem jg (p:Nat) (l:List Tk):qv (p,l) (p+1)=some (p+1,l.drop 1):=vK p 1 l
theorem qe (P:Params) (n:Nat) (x:Str) (a:Nat) (args:List D) (h:sA args=some (x,a)) (κ:Zs):cZ P (n+3) 662 args κ=.ok (.py (.bool (nS x (pkD κ.2 a)))) κ:=by
 have e0:cZ P (n+3) 662 args κ=cg (crZ P (cZ P (n+2))) (jm P) args κ:=by
  rcases iI h with⟨rfl,rfl⟩ | rfl<;>kernel_rfl
 rw[e0]
 let ρ:Rho:=[(af,.rdr),(aM,.py (.str x)),(ae,.py (.int (.ofNat a)))]
 have hb:pY (jm P).ps (jm P).dv args=some ρ:=by
  rcases iI h with⟨rfl,rfl⟩ | rfl<;>kernel_rfl
 refine bX hb ?_
 have e1:evR (crZ P (cZ P (n+2))) 38 ρ (.meth (.var af) bk (some 597) [(.val (.py (.str aM))),(.var ae)]) κ=nbO (cZ P (n+2) 597 [.rdr,.py (.str aM),.py (.int (.ofNat a))] κ):=by kernel_rfl
 rw[j6 P n aM a _ rfl]at e1
 have e2:evR (crZ P (cZ P (n+2))) 36 ρ (.meth (.var af) cu (some 568) [(.var ae)]) κ=nbO (.ok (pkD κ.2 a) κ):=by kernel_rfl
 rw[nF]at e2
 have r1:evR (crZ P (cZ P (n+2))) 39 ρ (.boolv true [(.meth (.var af) bk (some 597) [(.val (.py (.str aM))),(.var ae)]),(.op2 (aj [] [] .Eq) (.op1 (cn bo) (.meth (.var af) cu (some 568) [(.var ae)])) (.var aM))]) κ=.ok (.py (.bool (nS x (pkD κ.2 a)))) κ:=by
  refine ly (e1.trans rfl) (fun hk=>?_) fun hk=>?_
  ·rcases fN κ.2 a with h | ⟨⟨tk,tw,ti⟩,h⟩
   ·rw[h]at hk;injection hk
   ·refine(dW (n:=37) (ρ:=ρ) (o:=aj [] [] .Eq) (k1:=κ) (k2:=κ) (d:=.py (.str tw)) (e:=.py (.str x)) ?_ (by kernel_rfl)).trans ?_
    ·refine(sP (n:=36) (o:=cn bo) e2).trans ?_
     rw[h];rfl
    ·rw[h]at hk ⊢
     have q:nS x (iE (tk,tw,ti))=(ac tw x^^false):=by
      replace hk:(ac tk aM^^false)=true:=hk
      show(bif (ac tk aM^^false)then ac tw x^^false else false)=_
      rw[hk];rfl
     rw[q];rfl
  ·rcases fN κ.2 a with h | ⟨⟨tk,tw,ti⟩,h⟩
   ·rw[h];rfl
   ·rw[h]at hk ⊢
    replace hk:(ac tk aM^^false)=false:=hk
    have q:nS x (iE (tk,tw,ti))=false:=by
     show(bif (ac tk aM^^false)then ac tw x^^false else false)=_
     rw[hk];rfl
    rw[q]
 have s1:exL (exR (crZ P (cZ P (n+2))) 40) (jm P).body ρ κ=.ok (some (.py (.bool (nS x (pkD κ.2 a)))),ρ) κ:=cE (j4 (n:=39) r1)
 rw[s1];rfl
theorem uM (P:Params) (n:Nat) (x:Str) (p:Nat) (l:List Tk):cZ P (n+4) 669 [.rdr,.py (.str x)] (p,l)=bif nS x (pkD l 0)then .ok (.py (.bool true)) (p+1,l.drop 1)else .ok (.py (.bool false)) (p,l):=by
 have e0:cZ P (n+4) 669 [.rdr,.py (.str x)] (p,l)=cg (crZ P (cZ P (n+3))) (lg P) [.rdr,.py (.str x)] (p,l):=by kernel_rfl
 rw[e0]
 let ρ:Rho:=[(af,.rdr),(aM,.py (.str x))]
 refine bX (ρ:=ρ) (by kernel_rfl) ?_
 have e1:evR (crZ P (cZ P (n+3))) 37 ρ (.meth (.var af) bZ (some 662) [(.var aM)]) (p,l)=nbO (cZ P (n+3) 662 [.rdr,.py (.str x)] (p,l)):=by kernel_rfl
 rw[qe P n x 0 _ rfl]at e1
 have t1:=c9 (n:=39) (b:=[.ret (.val (.py (.bool false)))]) (o:=[]) (i5 (n:=38) (cV (n:=37) (e1.trans rfl) rfl))
 induction hS:nS x (pkD l 0)using Bool.casesOn with
 |true =>
  dsimp only at t1 ⊢
  rw[hS]at t1
  have t2:exR (crZ P (cZ P (n+3))) 40 (.at1 af (.op2 (aK .Add) (.at1 (.var af)) (.val (.py (.int (1)))))) ρ (p,l)=.ok (none,ρ) (p+1,l.drop 1) :=
   oz (n:=39) (k1:=(p,l)) (j:=p+1) (by kernel_rfl) (by kernel_rfl) (jg p l)
  have s:exL (exR (crZ P (cZ P (n+3))) 40) (lg P).body ρ (p,l)=.ok (some (.py (.bool true)),ρ) (p+1,l.drop 1):=(aR (ρ':=ρ) (k1:=(p,l)) t1).trans ((aR t2).trans (by kernel_rfl))
  rw[s];rfl
 |false =>
  dsimp only at t1 ⊢
  rw[hS]at t1
  have s:exL (exR (crZ P (cZ P (n+3))) 40) (lg P).body ρ (p,l)=.ok (some (.py (.bool false)),ρ) (p,l):=cE (t1.trans (by kernel_rfl))
  rw[s];rfl
theorem Dl (P:Params) (n:Nat) (p:Nat) (t:Tk) (l:List Tk):cZ P (n+2) 589 [.rdr] (p,t::l)=.ok (iE t) (p+1,l):=by
 have e0:cZ P (n+2) 589 [.rdr] (p,t::l)=cg (crZ P (cZ P (n+1))) (jn P) [.rdr] (p,t::l):=by kernel_rfl
 rw[e0]
 let ρ:Rho:=[(af,.rdr)]
 let ρ':Rho:=[(af,.rdr),(aV,iE t)]
 refine bX (ρ:=ρ) (by kernel_rfl) ?_
 have t1:exL (exR (crZ P (cZ P (n+1))) 40) (jn P).body ρ (p,t::l)=exL (exR (crZ P (cZ P (n+1))) 40) (jn P).body.tail.tail ρ' (p,t::l):=by kernel_rfl
 have t2:exR (crZ P (cZ P (n+1))) 40 (.at1 af (.op2 (aK .Add) (.at1 (.var af)) (.val (.py (.int (1)))))) ρ' (p,t::l)=.ok (none,ρ') (p+1,l) :=
  oz (n:=39) (k1:=(p,t::l)) (j:=p+1) (by kernel_rfl) (by kernel_rfl) (jg p (t::l))
 have s:exL (exR (crZ P (cZ P (n+1))) 40) (jn P).body ρ (p,t::l)=.ok (some (iE t),ρ') (p+1,l):=t1.trans ((aR t2).trans (by kernel_rfl))
 rw[s];rfl
theorem Dm (P:Params) (n:Nat) (x:Str) (p:Nat) (l:List Tk) (h:nS x (pkD l 0)=true):cZ P (n+5) 676 [.rdr,.py (.str x)] (p,l)=.ok (.py .none) (p+1,l.drop 1):=by
 have e0:cZ P (n+5) 676 [.rdr,.py (.str x)] (p,l)=cg (crZ P (cZ P (n+4))) (oq P) [.rdr,.py (.str x)] (p,l):=by kernel_rfl
 rw[e0]
 let ρ:Rho:=[(af,.rdr),(aM,.py (.str x))]
 refine bX (ρ:=ρ) (by kernel_rfl) ?_
 have e1:evR (crZ P (cZ P (n+4))) 37 ρ (.meth (.var af) dm (some 669) [(.var aM)]) (p,l)=nbO (cZ P (n+4) 669 [.rdr,.py (.str x)] (p,l)):=by kernel_rfl
 rw[uM,h]at e1
 have s:exL (exR (crZ P (cZ P (n+4))) 40) (oq P).body ρ (p,l)=.ok (none,ρ) (p+1,l.drop 1):=by
  refine(aR (ρ':=ρ) (k1:=(p+1,l.drop 1)) ?_).trans (by kernel_rfl)
  exact(c9 (n:=39) (i5 (n:=38) (cV (n:=37) (d:=.py (.bool true)) (b:=true) (e1.trans rfl) rfl))).trans (by kernel_rfl)
 rw[s];rfl
noncomputable def nG (l:List Str) (d:D):Str:=(zn d).elim t13 fun t=>bif (ac t.1 aM^^true)||(b8 t.2 l^^true)then t13 else t.2
theorem ze (P:Params) (n:Nat) (ss:List PyData) (l:List Str) (hs:cG ss=some l) (κ:Zs):cZ P (n+2) 272 [.rdr,.py (.tuple ss)] κ=.ok (.py (.str (nG l (pkD κ.2 0)))) κ:=by
 have e0:cZ P (n+2) 272 [.rdr,.py (.tuple ss)] κ=cg (crZ P (cZ P (n+1))) (jp P) [.rdr,.py (.tuple ss)] κ:=by kernel_rfl
 rw[e0]
 let ρ:Rho:=[(aa,.rdr),(gY,.py (.tuple ss))]
 refine bX (ρ:=ρ) (by kernel_rfl) ?_
 have e1:evR (crZ P (cZ P (n+1))) 39 ρ (.meth (.var aa) cu (some 568) []) κ=nbO (.ok (pkD κ.2 0) κ):=by kernel_rfl
 rw[nF]at e1
 have s1:=j5 (c:=crZ P (cZ P (n+1))) (x:=aV) (chk:=aJ) e1 (by show(nb _&&true)=true;rw[wi];rfl)
 have s2:exL (exR (crZ P (cZ P (n+1))) 40) (jp P).body ρ κ=exL (exR (crZ P (cZ P (n+1))) 40) (jp P).body.tail (bP ρ aV (pkD κ.2 0)) κ:=aR (r:=(jp P).body.tail) s1
 rw[s2]
 rcases fN κ.2 0 with h | ⟨⟨tk,tw,ti⟩,h⟩
 ·rw[h];kernel_rfl
 ·rw[h]
  let ρ':Rho:=[(aa,.rdr),(gY,.py (.tuple ss)),(aV,.tok tk tw ti)]
  have c1:cf (crZ P (cZ P (n+1))) 38 ρ' (.tst (.op2 (aj [] [] .Is) (.var aV) (.val (.py .none)))) κ=.ok false κ:=by kernel_rfl
  have c2:cf (crZ P (cZ P (n+1))) 38 ρ' (.tst (.op2 (aj [] [] .NotEq) (.op1 (cn dh) (.var aV)) (.val (.py (.str aM))))) κ=.ok (ac tk aM^^true) κ:=by kernel_rfl
  have c3:cf (crZ P (cZ P (n+1))) 38 ρ' (.tst (.op2 (aj (kM P) dl .NotIn) (.op1 (cn bo) (.var aV)) (.var gY))) κ=.ok (b8 tw l^^true) κ:=by
   refine cV (n:=37) (d:=.py (.bool (b8 tw l^^true))) ?_ rfl
   refine(dW (n:=36) (d:=.py (.str tw)) (e:=.py (.tuple ss)) (k1:=κ) (k2:=κ) (by kernel_rfl) (by kernel_rfl)).trans ?_
   have:aj (kM P) dl .NotIn (.py (.str tw)) (.py (.tuple ss))=((cG ss).map fun l=>b8 tw l^^true).map fun b=>D.py (.bool b):=by kernel_rfl
   rw[this,hs];rfl
  have t1:cf (crZ P (cZ P (n+1))) 39 ρ' (.ands false [(.tst (.op2 (aj [] [] .Is) (.var aV) (.val (.py .none)))),(.tst (.op2 (aj [] [] .NotEq) (.op1 (cn dh) (.var aV)) (.val (.py (.str aM))))),(.tst (.op2 (aj (kM P) dl .NotIn) (.op1 (cn bo) (.var aV)) (.var gY)))]) κ=.ok ((ac tk aM^^true)||(b8 tw l^^true)) κ :=
   (lA c1).trans (ju (n:=38) c2 c3)
  have t2:=c9 (n:=39) (b:=[.ret (.val (.py (.str t13)))]) (o:=[]) t1
  show(exL (exR (crZ P (cZ P (n+1))) 40) (_::_) ρ' κ).bind _=OutK.ok (D.py (.str (bif (ac tk aM^^true)||(b8 tw l^^true)then t13 else tw))) κ
  induction hc:(ac tk aM^^true)||(b8 tw l^^true)using Bool.casesOn with
  |true =>
   rw[hc]at t2
   rw[cE (t2.trans (by kernel_rfl):_=OutK.ok (some (.py (.str t13)),ρ') κ)];rfl
  |false =>
   rw[hc]at t2
   rw[aR (t2.trans (by kernel_rfl):_=OutK.ok (none,ρ') κ)]
   kernel_rfl
noncomputable def nN (l:List Tk):Bool:=bif nS t9 (pkD l 0)||nS t10 (pkD l 0)then nK aG (pkD l 1)else nK aG (pkD l 0)
theorem uN (P:Params) (n:Nat) (κ:Zs):cZ P (n+4) 683 [.rdr] κ=.ok (.py (.bool (nN κ.2))) κ:=by
 have e0:cZ P (n+4) 683 [.rdr] κ=cg (crZ P (cZ P (n+3))) (rf P) [.rdr] κ:=by kernel_rfl
 rw[e0]
 let ρ:Rho:=[(af,.rdr)]
 refine bX (ρ:=ρ) (by kernel_rfl) ?_
 have a1:evR (crZ P (cZ P (n+3))) 37 ρ (.meth (.var af) bZ (some 662) [(.val (.py (.str t9)))]) κ=nbO (cZ P (n+3) 662 [.rdr,.py (.str t9)] κ):=by kernel_rfl
 have a2:evR (crZ P (cZ P (n+3))) 37 ρ (.meth (.var af) bZ (some 662) [(.val (.py (.str t10)))]) κ=nbO (cZ P (n+3) 662 [.rdr,.py (.str t10)] κ):=by kernel_rfl
 have a3:evR (crZ P (cZ P (n+3))) 38 ρ (.meth (.var af) bk (some 597) [(.val (.py (.str aG))),(.val (.py (.int (1))))]) κ=nbO (cZ P (n+1+2) 597 [.rdr,.py (.str aG),.py (.int (.ofNat 1))] κ):=by kernel_rfl
 have a4:evR (crZ P (cZ P (n+3))) 39 ρ (.meth (.var af) bk (some 597) [(.val (.py (.str aG)))]) κ=nbO (cZ P (n+1+2) 597 [.rdr,.py (.str aG)] κ):=by kernel_rfl
 rw[qe P n _ 0 _ rfl]at a1 a2
 rw[j6 P (n+1) _ 1 _ rfl]at a3
 rw[j6 P (n+1) _ 0 _ rfl]at a4
 have t1:=c9 (n:=39) (b:=[(.ret (.meth (.var af) bk (some 597) [(.val (.py (.str aG))),(.val (.py (.int (1))))]))]) (o:=[]) (ju (n:=38) (cV (n:=37) (b:=nS t9 (pkD κ.2 0)) (a1.trans rfl) rfl) (cV (n:=37) (b:=nS t10 (pkD κ.2 0)) (a2.trans rfl) rfl))
 show(exL (exR (crZ P (cZ P (n+3))) 40) (_::_) ρ κ).bind _=OutK.ok (D.py (.bool (bif nS t9 (pkD κ.2 0)||nS t10 (pkD κ.2 0)then nK aG (pkD κ.2 1)else nK aG (pkD κ.2 0)))) κ
 induction hc:nS t9 (pkD κ.2 0)||nS t10 (pkD κ.2 0)using Bool.casesOn with
 |true =>
  rw[hc]at t1
  rw[cE (t1.trans (cE (j4 (n:=38) (p:=.bool (nK aG (pkD κ.2 1))) (k1:=κ) (a3.trans rfl))):_=OutK.ok (some (.py (.bool (nK aG (pkD κ.2 1)))),ρ) κ)];rfl
 |false =>
  rw[hc]at t1
  rw[aR (t1.trans (by kernel_rfl):_=OutK.ok (none,ρ) κ)]
  rw[show exL (exR (crZ P (cZ P (n+3))) 40) [(.ret (.meth (.var af) bk (some 597) [(.val (.py (.str aG)))]))] ρ κ=_ from cE (j4 (n:=39) (p:=.bool (nK aG (pkD κ.2 0))) (k1:=κ) (a4.trans rfl))];rfl
theorem mJ {κ:Type}{c:CR κ}{n:Nat}{ρ:Rho}{a:Bool}{e:RB}{r:List RB}{k k1:κ}(h1:cf c n ρ e k=.ok (!a) k1):cf c (n+1) ρ (.ands a (e::r)) k=.ok (!a) k1:=iu h1
theorem qr {w:Str}(h:lQ [32] w.cps.toList=false):Txt.split w ⟨#[32]⟩=[w]:=by
 unfold Txt.split
 split
 ·rfl
 ·rw[if_pos]
  rw[PySem.W.occ_nil_of_no]
  ·rfl
  ·intro i hi
   induction hs:subAt w ⟨#[32]⟩ i using Bool.casesOn with
   |false=>rfl
   |true =>
    have hs':subAt ⟨w.cps.toList.toArray⟩ ⟨#[32]⟩ i=true:=by rw[Array.toArray_toList];exact hs
    have:=lm (p:=[32]) (t:=w.cps.toList) |>.mpr ⟨i,by simpa [Str.length]using hi,subAt_list.mp hs'⟩
    rw[h]at this;injection this
noncomputable def tC (w:Str):Bool:=sm w.length&&!lQ [32] w.cps.toList
theorem kg {w:Str}(h:tC w=true):oS w bA [.py (.str t57)]=some (.py (.list [.str w])):=by
 unfold tC at h
 rw[Bool.and_eq_true,Bool.not_eq_true']at h
 have e:oS w bA [.py (.str t57)]=if(Str.length t57 != 0&&sm w.length&&sm (Txt.split w t57).length)=true then some (.py (.list ((Txt.split w t57).map .str)))else none:=by kernel_rfl
 rw[e,qr h.2,h.1]
 rfl
noncomputable def nW (w:Str) (d:D):Bool:=(zn d).elim false fun t=>bif (ac t.1 ai^^false)then !(ac t.2 w^^true)else false
theorem Dj (P:Params) (n:Nat) (w:Str) (hw:tC w=true) (κ:Zs):cZ P (n+3) 604 [.rdr,.py (.str w)] κ=.ok (.py (.bool (nW w (pkD κ.2 0)))) κ:=by
 have e0:cZ P (n+3) 604 [.rdr,.py (.str w)] κ=cg (crZ P (cZ P (n+2))) (or P) [.rdr,.py (.str w)] κ:=by kernel_rfl
 rw[e0]
 let ρ:Rho:=[(af,.rdr),(bf,.py (.str w)),(ae,.py (.int 0))]
 let ρ1:Rho:=[(af,.rdr),(bf,.py (.str w)),(ae,.py (.int 0)),(ai,.py (.str w))]
 refine bX (ρ:=[(af,.rdr),(bf,.py (.str w))]) (by kernel_rfl) ?_
 let bd:List RS:=[(.ifs (.ands false [(.neg (.tst (.meth (.var af) bk (some 597) [(.val (.py (.str ai))),(.var ae)]))),(.tst (.op2 (aj [] [] .NotEq) (.op1 (cn bo) (.meth (.var af) cu (some 568) [(.var ae)])) (.var ai)))]) [(.ret (.val (.py (.bool false))))] []),(.asg ae aJ (.op2 (aK .Add) (.var ae) (.val (.py (.int (1))))))]
 have s1:exL (exR (crZ P (cZ P (n+2))) 40) (or P).body [(af,.rdr),(bf,.py (.str w))] κ=exL (exR (crZ P (cZ P (n+2))) 40) (.frs (.name ai) (.meth (.var bf) bA none [(.val (.py (.str t57)))]) bd::[.ret (.val (.py (.bool true)))]) ρ κ:=by kernel_rfl
 rw[s1]
 have e1:evR (crZ P (cZ P (n+2))) 39 ρ (.meth (.var bf) bA none [(.val (.py (.str t57)))]) κ=ofO (oS w bA [.py (.str t57)]) κ:=by kernel_rfl
 rw[kg hw]at e1
 have a1:evR (crZ P (cZ P (n+2))) 35 ρ1 (.meth (.var af) bk (some 597) [(.val (.py (.str ai))),(.var ae)]) κ=nbO (cZ P (n+2) 597 [.rdr,.py (.str ai),.py (.int (.ofNat 0))] κ):=by kernel_rfl
 rw[j6 P n ai 0 _ rfl]at a1
 have a2:evR (crZ P (cZ P (n+2))) 34 ρ1 (.meth (.var af) cu (some 568) [(.var ae)]) κ=nbO (.ok (pkD κ.2 0) κ):=by kernel_rfl
 rw[nF]at a2
 have f1:exR (crZ P (cZ P (n+2))) 40 (.frs (.name ai) (.meth (.var bf) bA none [(.val (.py (.str t57)))]) bd) ρ κ=(exL (exR (crZ P (cZ P (n+2))) 39) bd ρ1 κ).bind fun r k=>match r.1 with
  |none=>.ok (none,r.2) k
  |some d=>.ok (some d,r.2) k:=by
  show(evR (crZ P (cZ P (n+2))) 39 ρ (.meth (.var bf) bA none [(.val (.py (.str t57)))]) κ).bind _=_
  rw[e1]
  kernel_rfl
 have c1:=i5 (n:=36) (cV (n:=35) (d:=.py (.bool (nK ai (pkD κ.2 0)))) (b:=nK ai (pkD κ.2 0)) (k1:=κ) (a1.trans rfl) rfl)
 have body:exL (exR (crZ P (cZ P (n+2))) 39) bd ρ1 κ=bif nW w (pkD κ.2 0)then .ok (none,[(af,.rdr),(bf,.py (.str w)),(ae,.py (.int 1)),(ai,.py (.str w))]) κ else .ok (some (.py (.bool false)),ρ1) κ:=by
  rcases fN κ.2 0 with h | ⟨⟨tk,tw,ti⟩,h⟩
  ·rw[h]at c1 ⊢
   exact cE ((c9 (n:=38) (q:=true) (mJ (n:=37) (a:=false) c1)).trans (by kernel_rfl))
  ·rw[h]at c1 ⊢
   have q:nW w (iE (tk,tw,ti))=bif (ac tk ai^^false)then !(ac tw w^^true)else false:=rfl
   rw[q]
   replace c1:cf (crZ P (cZ P (n+2))) 37 ρ1 _ κ=.ok (!(ac tk ai^^false)) κ:=c1
   induction hk:(ac tk ai^^false)using Bool.casesOn with
   |false =>
    rw[hk]at c1
    exact cE ((c9 (n:=38) (q:=true) (mJ (n:=37) (a:=false) c1)).trans (by kernel_rfl))
   |true =>
    rw[hk]at c1
    have c2:cf (crZ P (cZ P (n+2))) 37 ρ1 (.tst (.op2 (aj [] [] .NotEq) (.op1 (cn bo) (.meth (.var af) cu (some 568) [(.var ae)])) (.var ai))) κ=.ok (ac tw w^^true) κ:=by
     refine cV (n:=36) (d:=.py (.bool (ac tw w^^true))) ?_ rfl
     refine(dW (n:=35) (d:=.py (.str tw)) (e:=.py (.str w)) (k1:=κ) (k2:=κ) ?_ (by kernel_rfl)).trans (by kernel_rfl)
     refine(sP (n:=34) a2).trans ?_
     rw[h];rfl
    have c3:=c9 (n:=38) (b:=[(.ret (.val (.py (.bool false))))]) (o:=[]) (ju (n:=37) c1 c2)
    induction hx:(ac tw w^^true)using Bool.casesOn with
    |true =>
     rw[hx]at c3
     exact cE (c3.trans (by kernel_rfl))
    |false =>
     rw[hx]at c3
     exact(aR (c3.trans (by kernel_rfl):_=OutK.ok (none,ρ1) κ)).trans (by kernel_rfl)
 rw[body]at f1
 induction hW:nW w (pkD κ.2 0)using Bool.casesOn with
 |true =>
  rw[hW]at f1
  rw[aR f1];kernel_rfl
 |false =>
  rw[hW]at f1
  rw[cE f1];rfl
theorem zd (P:Params) (n:Nat) (w:Str) (hw:tC w=true) (p:Nat) (l:List Tk):cZ P (n+4) 611 [.rdr,.py (.str w)] (p,l)=bif nW w (pkD l 0)then .ok (.py (.bool true)) (p+1,l.drop 1)else .ok (.py (.bool false)) (p,l):=by
 have e0:cZ P (n+4) 611 [.rdr,.py (.str w)] (p,l)=cg (crZ P (cZ P (n+3))) (lh P) [.rdr,.py (.str w)] (p,l):=by kernel_rfl
 rw[e0]
 let ρ:Rho:=[(af,.rdr),(bf,.py (.str w))]
 refine bX (ρ:=ρ) (by kernel_rfl) ?_
 have e1:evR (crZ P (cZ P (n+3))) 37 ρ (.meth (.var af) mo (some 604) [(.var bf)]) (p,l)=nbO (cZ P (n+3) 604 [.rdr,.py (.str w)] (p,l)):=by kernel_rfl
 rw[Dj P n w hw]at e1
 have e2:evR (crZ P (cZ P (n+3))) 37 ρ (.meth (.var bf) bA none [(.val (.py (.str t57)))]) (p,l)=ofO (oS w bA [.py (.str t57)]) (p,l):=by kernel_rfl
 rw[kg hw]at e2
 have t1:=c9 (n:=39) (b:=[.ret (.val (.py (.bool false)))]) (o:=[]) (i5 (n:=38) (cV (n:=37) (d:=.py (.bool (nW w (pkD l 0)))) (b:=nW w (pkD l 0)) (k1:=(p,l)) (e1.trans rfl) rfl))
 induction hS:nW w (pkD l 0)using Bool.casesOn with
 |true =>
  rw[hS]at t1
  have e3:evR (crZ P (cZ P (n+3))) 38 ρ (.opN (aS "len") [(.meth (.var bf) bA none [(.val (.py (.str t57)))])]) (p,l)=.ok (.py (.int 1)) (p,l):=by
   show(evs (evR (crZ P (cZ P (n+3))) 37 ρ) [_] (p,l)).bind _=_
   show((evR (crZ P (cZ P (n+3))) 37 ρ (.meth (.var bf) bA none [(.val (.py (.str t57)))]) (p,l)).bind _).bind _=_
   rw[e2];kernel_rfl
  have t2:exR (crZ P (cZ P (n+3))) 40 (.at1 af (.op2 (aK .Add) (.at1 (.var af)) (.opN (aS "len") [(.meth (.var bf) bA none [(.val (.py (.str t57)))])]))) ρ (p,l)=.ok (none,ρ) (p+1,l.drop 1):=by
   refine oz (n:=39) (k1:=(p,l)) (j:=p+1) (by kernel_rfl) ?_ (jg p l)
   exact(dW (n:=38) (d:=.py (.int (.ofNat p))) (e:=.py (.int 1)) (k1:=(p,l)) (k2:=(p,l)) (by kernel_rfl) e3).trans (by kernel_rfl)
  have s:exL (exR (crZ P (cZ P (n+3))) 40) (lh P).body ρ (p,l)=.ok (some (.py (.bool true)),ρ) (p+1,l.drop 1):=(aR (ρ':=ρ) (k1:=(p,l)) t1).trans ((aR t2).trans (by kernel_rfl))
  rw[s];rfl
 |false =>
  rw[hS]at t1
  have s:exL (exR (crZ P (cZ P (n+3))) 40) (lh P).body ρ (p,l)=.ok (some (.py (.bool false)),ρ) (p,l):=cE (t1.trans (by kernel_rfl))
  rw[s];rfl
noncomputable def s1A (args:List D):Option Str:=(rA args).bind fun r=>(one r).bind fM
theorem ko {args:List D}{x:Str}(h:s1A args=some x):args=[.rdr,.py (.str x)]:=az h fun r h1 h=>az h fun d h2 h=>by rw[fZ h1,bB h2,bD h]
noncomputable def isN (l:List D):Option Unit:=bif l.isEmpty then some ()else none
theorem w9 {l:List D}{u:Unit}(h:isN l=some u):l=[]:=by
 induction l using List.casesOn with
 |nil=>rfl
 |cons=>exact nn h
noncomputable def r0A (args:List D):Option Unit:=(rA args).bind isN
theorem kB {args:List D}{u:Unit}(h:r0A args=some u):args=[.rdr]:=az h fun r h1 h=>by rw[fZ h1,w9 h]
noncomputable def nvN:List (Addr×Nv):=[(597,fun args κ=>(sA args).map fun x=>.ok (.py (.bool (nK x.1 (pkD κ.2 x.2)))) κ),
 (662,fun args κ=>(sA args).map fun x=>.ok (.py (.bool (nS x.1 (pkD κ.2 x.2)))) κ),
 (669,fun args κ=>(s1A args).map fun x=>bif nS x (pkD κ.2 0)then .ok (.py (.bool true)) (κ.1+1,κ.2.drop 1)else .ok (.py (.bool false)) κ),
 (676,fun args κ=>(s1A args).bind fun x=>bif nS x (pkD κ.2 0)then some (.ok (.py .none) (κ.1+1,κ.2.drop 1))else none),
 (589,fun args κ=>(r0A args).bind fun _=>κ.2.head?.map fun t=>.ok (iE t) (κ.1+1,κ.2.tail)),
 (272,fun args κ=>(rA args).bind fun r=>(one r).bind fun d=>(te d).bind fun ss=>(cG ss).map fun l=>.ok (.py (.str (nG l (pkD κ.2 0)))) κ),
 (683,fun args κ=>(r0A args).map fun _=>.ok (.py (.bool (nN κ.2))) κ),
 (611,fun args κ=>(s1A args).bind fun w=>bif tC w then some (bif nW w (pkD κ.2 0)then .ok (.py (.bool true)) (κ.1+1,κ.2.drop 1)else .ok (.py (.bool false)) κ)else none)]++nvZ
noncomputable abbrev cN (P:Params) (n:Nat):OZ:=cT P nvN n
section
variable {P:Params}{toks:List Tk}{x:Nat→Orc}(S:Src P toks x)
include S
theorem gN:Gd x toks 7 nvN:=by
 have G:=gZ S
 refine .cons (Gd.of S G 7 fun n args κ o e=>cA e fun x hs e=>(j6 P (n+6) x.1 x.2 args hs κ).trans e) (.cons (Gd.of S G 7 fun n args κ o e=>cA e fun x hs e=>(qe P (n+5) x.1 x.2 args hs κ).trans e)
  (.cons (Gd.of S G 7 fun n args κ o e=>cA e fun x hs e=>ko hs▸(uM P (n+4) x κ.1 κ.2).trans e) (.cons (Gd.of S G 7 fun n args κ o e=>az e fun x hs e=>ko hs▸?_)
  (.cons (Gd.of S G 7 fun n args κ o e=>az e fun u hs e=>cA e fun t ht e=>kB hs▸?_) (.cons (Gd.of S G 7 fun n args κ o e=>az e fun r h1 e=>az e fun d h2 e=>az e fun ss h3 e=>cA e fun l h4 e=>?_)
  (.cons (Gd.of S G 7 fun n args κ o e=>cA e fun u hs e=>kB hs▸(uN P (n+4) κ).trans e) (.cons (Gd.of S G 7 fun n args κ o e=>az e fun w hs e=>ko hs▸?_) (G.mono 7))))))))
 ·induction hS:nS x (pkD κ.2 0)using Bool.casesOn with
  |true=>rw[hS]at e;exact(Dm P (n+3) x κ.1 κ.2 hS).trans (si e)
  |false=>rw[hS]at e;exact nn e
 ·obtain⟨p,l⟩:=κ
  induction l using List.casesOn with
  |nil=>exact nn ht
  |cons t' r=>cases si ht;exact(Dl P (n+6) p t r).trans e
 ·rw[fZ h1,bB h2,gT h3]
  exact(ze P (n+6) ss l h4 κ).trans e
 ·induction hw:tC w using Bool.casesOn with
  |true=>rw[hw]at e;exact(zd P (n+4) w hw κ.1 κ.2).trans (si e)
  |false=>rw[hw]at e;exact nn e
theorem nq {n:Nat}{f:Addr}{args:List D}{k:Nat}{κ:Zs}(r:RZ toks k κ):Sim (RZ toks) (x (n+7) f args k) (cN P n f args κ):=mz S (gN S) n f args k κ r
end
noncomputable def nvH (ps d0:Nat) (out:OutK Zs D):List (Addr×Nv):=[(279,fun args κ=>(rA args).bind fun r=>(one r).bind fun d=>(kI d).bind fun j=>bif Nat.beq κ.1 ps&&Nat.beq j d0 then some out else none),
 (184,fun args κ=>(r0A args).bind fun _=>bif Nat.beq (κ.1+1) ps then some (.ok (.py (.bool false)) κ)else none)]++nvN
noncomputable abbrev cH (P:Params) (ps d0:Nat) (out:OutK Zs D) (n:Nat):OZ:=cT P (nvH ps d0 out) n
structure Hook (P:Params) (toks:List Tk) (ps d0 c:Nat) (out:OutK Zs D):Prop where
 sum:∀ n,cN P (n+c) 279 [.rdr,.py (.int (.ofNat d0))] (ps,toks.drop ps)=out
 part:∀ n p,p+1=ps→cN P (n+c) 184 [.rdr] (p,toks.drop p)=.ok (.py (.bool false)) (p,toks.drop p)
theorem lI {α:Type}{b:Bool}{o:Option α}{a:α}{P:Prop}(h:(bif b then o else none)=some a) (w:b=true→o=some a→P):P:=by
 induction b using Bool.casesOn with
 |true=>exact w rfl h
 |false=>exact nn h
theorem RZ.eq {toks:List Tk}{k:Nat}{κ:Zs}(r:RZ toks k κ):κ=(k,toks.drop k):=Prod.ext r.1 r.2.1
section
variable {P:Params}{toks:List Tk}{x:Nat→Orc}(S:Src P toks x)
include S
theorem KD (c n:Nat) {f:Addr}{args:List D}{k:Nat}{κ:Zs}{o:OutK Zs D}(r:RZ toks k κ) (h:cN P (n+1+c) f args κ=o):Sim (RZ toks) (x (n+(7+c)+1) f args k) o:=by
 have:=nq S (n:=n+1+c) (f:=f) (args:=args) r
 rwa [h,show n+1+c+7=n+(7+c)+1 by omega]at this
theorem gH {ps d0 c:Nat}{out:OutK Zs D}(H:Hook P toks ps d0 c out):Gd x toks (7+c) (nvH ps d0 out):=by
 refine .cons (fun n args k κ o r e=>az e fun l h1 e=>az e fun d h2 e=>az e fun j h3 e=>lI e fun q w=>?_) (.cons (fun n args k κ o r e=>az e fun u h1 e=>lI e fun q w=>?_) (Nat.add_comm 7 c▸(gN S).mono c))
 ·obtain⟨q1,q2⟩:=Bool.and_eq_true _ _▸q
  obtain rfl:=Nat.eq_of_beq_eq_true q2
  rw[fZ h1,bB h2,fP h3,← si w]
  refine KD S c n r ?_
  rw[r.eq,← r.1,Nat.eq_of_beq_eq_true q1]
  exact H.sum (n+1)
 ·rw[kB h1,← si w]
  refine KD S c n r ?_
  have e:=r.eq
  subst e
  exact H.part (n+1) k (Nat.eq_of_beq_eq_true q)
end
theorem DU (P:Params) (toks:List Tk):Src P toks (cY P toks):=⟨fun _ _ _ _ _=>rfl⟩
noncomputable abbrev mkS (l:List Nat):Str:=⟨l.toArray⟩
noncomputable def spL (c:Nat):List Nat→List (List Nat)
 |[]=>[[]]
 |a::r=>match Nat.beq a c with
  |true=>[]::spL c r
  |false=>match spL c r with
   |[]=>[[a]]
   |p::q=>(a::p)::q
noncomputable def rpl (c:Nat) (z:List Nat):List Nat→List Nat
 |[]=>[]
 |a::r=>match Nat.beq a c with
  |true=>z++rpl c z r
  |false=>a::rpl c z r
theorem rN {a c:Nat}(h:a≠c):Nat.beq a c=false:=by
 induction hb:Nat.beq a c using Bool.casesOn with
 |false=>rfl
 |true=>exact absurd (Nat.eq_of_beq_eq_true hb) h
theorem oY {c:Nat}:∀{p:List Nat},c∉p→spL c p=[p]
 |[],_=>rfl
 |a::r,h=>by
  unfold spL
  rw[rN (a:=a) (c:=c) fun e=>h (by rw[e];exact .head _),oY fun m=>h (.tail _ m)]
theorem r0 {c:Nat}:∀{p r:List Nat},c∉p→spL c (p++c::r)=p::spL c r
 |[],r,_=>by
  show spL c (c::r)=_
  rw[spL,Nat.beq_refl]
 |a::p,r,h=>by
  show spL c (a::(p++c::r))=_
  rw[spL,rN (a:=a) (c:=c) fun e=>h (by rw[e];exact .head _),r0 fun m=>h (.tail _ m)]
theorem cb (c:Nat) (z:List Nat):∀ a b:List Nat,rpl c z (a++b)=rpl c z a++rpl c z b
 |[],_=>rfl
 |k::r,b=>by
  show rpl c z (k::(r++b))=_
  rw[rpl,rpl,cb c z r b]
  induction Nat.beq k c using Bool.casesOn<;>simp
theorem kq {c:Nat}{z:List Nat}:∀{p:List Nat},c∉p→rpl c z p=p
 |[],_=>rfl
 |a::r,h=>by
  rw[rpl,rN (a:=a) (c:=c) fun e=>h (by rw[e];exact .head _),kq fun m=>h (.tail _ m)]
theorem oX {c:Nat}:∀{parts:List Str},parts≠[]→(∀ p∈parts,c∉p.cps.toList)→spL c (Str.join ⟨#[c]⟩ parts).cps.toList=parts.map (·.cps.toList)
 |[],h,_=>absurd rfl h
 |[p],_,h=>oY (h p (.head _))
 |p::q::r,_,h=>by
  have ih:=oX (parts:=q::r) (by simp) fun a ha=>h a (.tail _ ha)
  show spL c (p++⟨#[c]⟩++Str.join ⟨#[c]⟩ (q::r)).cps.toList=_
  simp only[Str.cps_append,Array.toList_append]
  rw[List.append_assoc]
  show spL c (p.cps.toList++c::_)=_
  rw[r0 (h p (.head _))]
  exact congrArg _ ih
theorem o6 {c:Nat}{z:List Nat}:∀{parts:List Str},(∀ p∈parts,c∉p.cps.toList)→rpl c z (Str.join ⟨#[c]⟩ parts).cps.toList=(Str.join (mkS z) parts).cps.toList
 |[],_=>rfl
 |[p],h=>kq (h p (.head _))
 |p::q::r,h=>by
  have ih:=o6 (z:=z) (parts:=q::r) fun a ha=>h a (.tail _ ha)
  show rpl c z (p++⟨#[c]⟩++Str.join ⟨#[c]⟩ (q::r)).cps.toList=(p++mkS z++Str.join (mkS z) (q::r)).cps.toList
  simp only[Str.cps_append,Array.toList_append]
  rw[cb,cb,ih,kq (h p (.head _))]
  congr 2
  show rpl c z [c]=_
  rw[rpl,Nat.beq_refl]
  simp[rpl]
theorem qU {c:Nat}{z:List Nat}:∀{l:List Nat},(rpl c z l).length≤(z.length+1)*l.length
 |[]=>Nat.zero_le _
 |a::r=>by
  have ih:=qU (c:=c) (z:=z) (l:=r)
  rw[rpl,List.length_cons,Nat.mul_add,Nat.mul_one]
  induction Nat.beq a c using Bool.casesOn<;>simp<;>omega
theorem wH {c:Nat}:∀{l:List Nat},(spL c l).length≤l.length+1
 |[]=>Nat.le_refl _
 |a::r=>by
  have ih:=wH (c:=c) (l:=r)
  rw[spL]
  induction Nat.beq a c using Bool.casesOn with
  |true=>simp;omega
  |false =>
   dsimp only
   induction h:spL c r using List.casesOn with
   |nil=>simp
   |cons p q=>rw[h]at ih;simp at ih ⊢;omega
theorem vD (x y:Str):Txt.split x y≠[]:=by
 unfold Txt.split
 split
 ·simp
 ·split
  ·simp
  ·rw[PySem.StrLaws.partsBetween_eq]
   obtain⟨p,r,e⟩:=PySem.StrLaws.partsFrom_ne x y.length 0 (occurrences x y 0 x.length (x.length+1))
   rw[e];simp
theorem kU (x:Str):mkS x.cps.toList=x:=by
 obtain⟨a⟩:=x
 simp[mkS]
theorem tB (l:List Nat) (c:Nat):Txt.split (mkS l) ⟨#[c]⟩=(spL c l).map mkS:=by
 have h:=oX (vD (mkS l) ⟨#[c]⟩) (PySem.StrLaws.split_free (mkS l) c)
 rw[PySem.StrLaws.join_split]at h
 have:l=(mkS l).cps.toList:=rfl
 rw[this,h,List.map_map]
 conv=>lhs;rw[← List.map_id (Txt.split _ _)]
 exact List.map_congr_left fun x _=>(kU x).symm
theorem jG (l z:List Nat) (c:Nat):Txt.replace (mkS l) ⟨#[c]⟩ (mkS z)=mkS (rpl c z l):=by
 rw[PySem.StrLaws.replace_one]
 have h:=o6 (z:=z) (PySem.StrLaws.split_free (mkS l) c)
 rw[PySem.StrLaws.join_split]at h
 have:l=(mkS l).cps.toList:=rfl
 rw[this,h,kU]
noncomputable abbrev sgL:List Str:=[t22,t24,t9,t10,t70,t71,lK]
noncomputable def kc (l:List Nat):Option PyData:=match(b8 (mkS l) sgL^^false)with
 |true=>some (.tuple [.str aM,.str (mkS l)])
 |false=>match(ac (mkS l) t13^^true)with
  |true=>some (.tuple [.str (match Txt.isdigit (mkS l)with | true=>aG | false=>ai),.str (mkS l)])
  |false=>none
noncomputable def cC (l:List Nat):List PyData:=(spL 32 (rpl 41 [32,41,32] (rpl 40 [32,40,32] l))).filterMap kc
section
variable {κ:Type}{c:CR κ}{n:Nat}{ρ:Rho}
theorem Bn {t:RB}{a b:RE}{k k1:κ}{q:Bool}(h:cf c n ρ t k=.ok q k1):evR c (n+1) ρ (.ife t a b) k=if q then evR c n ρ a k1 else evR c n ρ b k1:=by
 show(cf c n ρ t k).bind _=_
 rw[h];rfl
theorem pS {a b:RE}{k k1 k2:κ}{p q:PyData}(h1:evR c n ρ a k=.ok (.py p) k1) (h2:evR c n ρ b k1=.ok (.py q) k2):evR c (n+1) ρ (.tup [a,b]) k=.ok (.py (.tuple [p,q])) k2:=by
 show(evs (evR c n ρ) [a,b] k).bind _=_
 show((evR c n ρ a k).bind _).bind _=_
 rw[h1]
 show(((evR c n ρ b k1).bind _).bind _).bind _=_
 rw[h2];rfl
theorem sN {x:Str}{e f:RE}{l:List PyData}{p:PyData}{k k1:κ}(hx:aH ρ x=some (.bl l)) (h:evR c n ρ e k=.ok (.py p) k1) (hs:sm l.length=true):exR c (n+1) (.expr x (some aF) [e] f) ρ k=.ok (none,bP ρ x (.bl (l++[p]))) k1:=by
 show orK ((aH ρ x).bind blV) _ _=_
 rw[hx]
 show(((evR c n ρ e k).bind _).bind _)=_
 rw[h]
 show(ofO (blM aF l [.py p]) k1).bind _=_
 have:blM aF l [.py p]=if sm l.length then some (l++[p])else none:=by kernel_rfl
 rw[this,if_pos hs];rfl
end
section
variable {κ:Type}(c:CR κ) (P:Params)
noncomputable def kr (t:PyData) (acc:List PyData) (l:List Nat):Rho:=[(aw,.py t),(ag,.bl acc),(ai,.py (.str (mkS l)))]
noncomputable def mT:List RS:=match(lf P).body with
 |[_,.frs _ _ b,_]=>b
 |_=>[]
theorem Gg (t:PyData) (acc:List PyData) (l:List Nat) (hs:sm acc.length=true) (k:κ):exL (exR c 39) (mT P) (kr t acc l) k=.ok (none,kr t (acc++(kc l).toList) l) k:=by
 have e0:∃ e1 e2 e3,mT P=[(.ifs (.tst (.op2 (aj (kM P) dl .In) (.var ai) (.tup [(.val (.py (.str t22))),(.val (.py (.str t24))),(.val (.py (.str t9))),(.val (.py (.str t10))),(.val (.py (.str t70))),(.val (.py (.str t71))),(.val (.py (.str lK)))]))) [(.expr ag (some aF) [(.tup [(.val (.py (.str aM))),(.var ai)])] e1)]
  [(.ifs (.tst (.op2 (aj [] [] .NotEq) (.var ai) (.val (.py (.str t13))))) [(.expr ag (some aF) [(.tup [(.ife (.tst (.meth (.var ai) dP none [])) (.val (.py (.str aG))) (.val (.py (.str ai)))),(.var ai)])] e2)] e3)])]∧e3=[]:=⟨_,_,_,rfl,rfl⟩
 obtain⟨e1,e2,e3,e0,rfl⟩:=e0
 rw[e0]
 have c1:cf c 38 (kr t acc l) (.tst (.op2 (aj (kM P) dl .In) (.var ai) (.tup [(.val (.py (.str t22))),(.val (.py (.str t24))),(.val (.py (.str t9))),(.val (.py (.str t10))),(.val (.py (.str t70))),(.val (.py (.str t71))),(.val (.py (.str lK)))]))) k=.ok (b8 (mkS l) sgL^^false) k:=by kernel_rfl
 have c2:cf c 37 (kr t acc l) (.tst (.op2 (aj [] [] .NotEq) (.var ai) (.val (.py (.str t13))))) k=.ok (ac (mkS l) t13^^true) k:=by kernel_rfl
 have c3:cf c 34 (kr t acc l) (.tst (.meth (.var ai) dP none [])) k=.ok (Txt.isdigit (mkS l)) k:=by kernel_rfl
 have g:aH (kr t acc l) ag=some (.bl acc):=by kernel_rfl
 have r:∀ p,bP (kr t acc l) ag (.bl (acc++[p]))=kr t (acc++[p]) l:=fun p=>by kernel_rfl
 unfold kc
 have s1:=c9 (n:=38) (b:=[(.expr ag (some aF) [(.tup [(.val (.py (.str aM))),(.var ai)])] e1)]) (o:=[(.ifs (.tst (.op2 (aj [] [] .NotEq) (.var ai) (.val (.py (.str t13))))) [(.expr ag (some aF) [(.tup [(.ife (.tst (.meth (.var ai) dP none [])) (.val (.py (.str aG))) (.val (.py (.str ai)))),(.var ai)])] e2)] [])]) c1
 induction hc:(b8 (mkS l) sgL^^false)using Bool.casesOn with
 |true =>
  rw[hc]at s1
  have s2:=sN (c:=c) (n:=37) (f:=e1) g (pS (n:=36) (a:=.val (.py (.str aM))) (b:=.var ai) (p:=.str aM) (q:=.str (mkS l)) (k:=k) (k1:=k) (k2:=k) (by kernel_rfl) (by kernel_rfl)) hs
  rw[r]at s2
  exact(aR (s1.trans (aR s2):_=OutK.ok (none,_) k))
 |false =>
  rw[hc]at s1
  have s1':=c9 (n:=37) (b:=[(.expr ag (some aF) [(.tup [(.ife (.tst (.meth (.var ai) dP none [])) (.val (.py (.str aG))) (.val (.py (.str ai)))),(.var ai)])] e2)]) (o:=[]) c2
  dsimp only
  induction hx:(ac (mkS l) t13^^true)using Bool.casesOn with
  |false =>
   rw[hx]at s1'
   dsimp only
   rw[show acc++(none:Option PyData).toList=acc from List.append_nil _]
   exact(aR (s1.trans (aR s1'):_=OutK.ok (none,_) k))
  |true =>
   rw[hx]at s1'
   have i1:evR c 35 (kr t acc l) (.ife (.tst (.meth (.var ai) dP none [])) (.val (.py (.str aG))) (.val (.py (.str ai)))) k=.ok (.py (.str (match Txt.isdigit (mkS l)with | true=>aG | false=>ai))) k:=by
    rw[Bn c3]
    induction Txt.isdigit (mkS l)using Bool.casesOn<;>rfl
   have s2:=sN (c:=c) (n:=36) (f:=e2) g (pS (n:=35) (b:=.var ai) (q:=.str (mkS l)) (k2:=k) i1 (by kernel_rfl)) hs
   rw[r]at s2
   exact(aR (s1.trans (aR (s1'.trans (aR s2):_=OutK.ok (none,_) k)):_=OutK.ok (none,_) k))
noncomputable abbrev fW (d:D) (ρ:Rho) (k:κ):SOK κ:=optK (oN 4 (.name ai) d ρ) fun ρ=>exL (exR c 39) (mT P) ρ k
theorem Cu (t:PyData) (k:κ):∀(ws:List (List Nat)) (acc:List PyData) (ρ:Rho),(∀ l,bP ρ ai (.py (.str (mkS l)))=kr t acc l)→aH ρ ag=some (.bl acc)→acc.length+ws.length≤100000 →
 ∃ ρ',lu (fW c P) (ws.map fun l=>.py (.str (mkS l))) ρ k=.ok (none,ρ') k∧aH ρ' ag=some (.bl (acc++ws.filterMap kc))
 |[],acc,ρ,_,h,_=>⟨ρ,rfl,by rw[h];simp⟩
 |w::ws,acc,ρ,hr,h,hl=>by
  have hl':acc.length+(ws.length+1)≤100000:=hl
  have e1:fW c P (.py (.str (mkS w))) ρ k=exL (exR c 39) (mT P) (bP ρ ai (.py (.str (mkS w)))) k:=rfl
  rw[hr,Gg c P t acc w (Nat.ble_eq.mpr (by omega))]at e1
  have hlen:(acc++(kc w).toList).length≤acc.length+1:=by induction kc w using Option.casesOn<;>simp
  obtain⟨ρ',q1,q2⟩:=Cu t k ws (acc++(kc w).toList) (kr t (acc++(kc w).toList) w) (fun l=>by kernel_rfl) (by kernel_rfl) (by omega)
  refine⟨ρ',?_,?_⟩
  ·show(fW c P (.py (.str (mkS w))) ρ k).bind _=_
   rw[e1];exact q1
  ·rw[q2,List.append_assoc]
   congr 3
   rw[List.filterMap_cons]
   induction kc w using Option.casesOn<;>rfl
theorem s7 (l:List Nat) (k:κ) (hl:l.length≤4000):cg c (lf P) [.py (.str (mkS l))] k=.ok (.py (.list (cC l))) k:=by
 refine bX (ρ:=[(aw,.py (.str (mkS l)))]) (by kernel_rfl) ?_
 let ρ:Rho:=[(aw,.py (.str (mkS l))),(ag,.bl [])]
 let l1:=rpl 40 [32,40,32] l
 let l2:=rpl 41 [32,41,32] l1
 have h1:l1.length≤16000:=Nat.le_trans qU (by simp;omega)
 have h2:l2.length≤64000:=Nat.le_trans qU (by simp;omega)
 have h3:(spL 32 l2).length≤64001:=Nat.le_trans wH (by omega)
 have hs:∀{n},n≤100000→sm n=true:=fun h=>Nat.ble_eq.mpr h
 have e1:evR c 37 ρ (.repl t22 t183 (.var aw)) k=if(sm (mkS l).length&&Nat.ble t183.length 14)=true then .ok (.py (.str (Txt.replace (mkS l) t22 t183))) k else .no:=by kernel_rfl
 rw[jG,show sm (mkS l).length=true from hs (show l.toArray.size≤100000 by simp;omega)]at e1
 have e2:evR c 38 ρ (.repl t24 t182 (.repl t22 t183 (.var aw))) k=if(sm (mkS l1).length&&Nat.ble t182.length 14)=true then .ok (.py (.str (Txt.replace (mkS l1) t24 t182))) k else .no:=by
  show(evR c 37 ρ (.repl t22 t183 (.var aw)) k).bind _=_
  rw[e1];rfl
 rw[jG,show sm (mkS l1).length=true from hs (show l1.toArray.size≤100000 by simp;omega)]at e2
 have e3:evR c 39 ρ (.meth (.repl t24 t182 (.repl t22 t183 (.var aw))) bA none [(.val (.py (.str t57)))]) k=.ok (.py (.list ((spL 32 l2).map fun l=>.str (mkS l)))) k:=by
  show(evR c 38 ρ (.repl t24 t182 (.repl t22 t183 (.var aw))) k).bind _=_
  rw[e2]
  show ofO (oS (mkS l2) bA [.py (.str t57)]) k=_
  have e:oS (mkS l2) bA [.py (.str t57)]=if(Str.length t57 != 0&&sm (mkS l2).length&&sm (Txt.split (mkS l2) t57).length)=true then some (.py (.list ((Txt.split (mkS l2) t57).map .str)))else none:=by kernel_rfl
  rw[e,tB,show sm (mkS l2).length=true from hs (show l2.toArray.size≤100000 by simp;omega),show sm ((spL 32 l2).map mkS).length=true from hs (by simp;omega),List.map_map]
  rfl
 have e4:hX (.py (.list ((spL 32 l2).map fun l=>.str (mkS l))))=some ((spL 32 l2).map fun l=>.py (.str (mkS l))):=by
  show(if sm ((spL 32 l2).map fun l=>PyData.str (mkS l)).length=true then some (((spL 32 l2).map fun l=>PyData.str (mkS l)).map D.py)else none)=_
  rw[if_pos (hs (by simp;omega)),List.map_map]
  rfl
 obtain⟨ρ',q1,q2⟩:=Cu c P (.str (mkS l)) k (spL 32 l2) [] ρ (fun l=>by kernel_rfl) (by kernel_rfl) (by simp;omega)
 have f1:exR c 40 (.frs (.name ai) (.meth (.repl t24 t182 (.repl t22 t183 (.var aw))) bA none [(.val (.py (.str t57)))]) (mT P)) ρ k=.ok (none,ρ') k:=by
  show(evR c 39 ρ (.meth (.repl t24 t182 (.repl t22 t183 (.var aw))) bA none [(.val (.py (.str t57)))]) k).bind _=_
  rw[e3]
  show optK (if nb (.py (.list ((spL 32 l2).map fun l=>.str (mkS l))))then hX (.py (.list ((spL 32 l2).map fun l=>.str (mkS l))))else none) (fun ds=>lu (fW c P) ds ρ k)=_
  rw[show nb (.py (.list ((spL 32 l2).map fun l=>.str (mkS l))))=true from rfl,if_pos rfl,e4]
  exact q1
 have s1:exL (exR c 40) (lf P).body [(aw,.py (.str (mkS l)))] k=exL (exR c 40) [.frs (.name ai) (.meth (.repl t24 t182 (.repl t22 t183 (.var aw))) bA none [(.val (.py (.str t57)))]) (mT P),.ret (.var ag)] ρ k:=by kernel_rfl
 rw[s1,aR f1]
 have s2:exR c 40 (.ret (.var ag)) ρ' k=.ok (some (.py (.list (cC l))),ρ') k:=by
  show(ofO (aH ρ' ag) k).bind _=_
  rw[q2];rfl
 rw[cE s2];rfl
end
noncomputable abbrev kS:Str:=⟨#[115,105,103,110]⟩
noncomputable abbrev kW:Str:=⟨#[119,111,114,100]⟩
noncomputable abbrev kN:Str:=⟨#[110,117,109,98,101,114]⟩
noncomputable abbrev tS (c:Nat):Tk:=(kS,⟨#[c]⟩,0)
noncomputable abbrev tW (c:Nat):Tk:=(kW,⟨#[c]⟩,0)
noncomputable abbrev tN (c:Nat):Tk:=(kN,⟨#[c]⟩,0)
noncomputable abbrev ch (c:Nat):PyData:=.str ⟨#[c]⟩
noncomputable def tV (c:Nat) (s:List PyData):PyData:=.tuple [.str dM,ch c,.tuple [],.tuple s,.none]
noncomputable def Nn (X:PyData):List PyData :=
 let t:=tV 84 [X];let a:=tV 65 [];let c:=tV 67 []
 [.tuple [ch 43,t,a],.tuple [ch 43,a,t],.tuple [ch 45,c,.tuple [ch 43,t,a]],.tuple [ch 45,t,.tuple [ch 43,a,c]],.tuple [ch 42,t,a],.tuple [ch 42,a,t],.tuple [ch 47,t,a],.tuple [ch 47,a,t],.tuple [ch 43,t,a],.tuple [ch 43,a,t],t]
noncomputable def Ij:PyData:=.tuple [.str kN,.tuple [.int 1,.int 0]]
noncomputable def ak:Nat→PyData
 |0=>.tuple [.str ⟨#[45]⟩,.tuple [.str ⟨#[114,101,102]⟩,.str ⟨#[74]⟩,.tuple [],.tuple [],.none],Ij]
 |m+1=>.tuple [.str ⟨#[45]⟩,Ij,ak m]
noncomputable def ba:Nat→List Tk→List Tk
 |0,r=>tW 74::tS 45::tN 49::r
 |m+1,r=>tN 49::tS 45::tS 40::ba m (tS 41::r)
noncomputable def goalL:List Nat:=[67,67,68,68,67,67,67,67,67,67,67]
noncomputable def wayL:List Nat:=[61,61,61,61,61,61,61,61,43,45,42]
noncomputable def aZ (f:Nat) (X:PyData):PyData:=.tuple [.str eN,(Nn X).getD f .none,.tuple [.tuple [tV (goalL.getD f 0) [],.bool false,ch (wayL.getD f 0)]],.tuple []]
noncomputable abbrev pre_f0:List Tk:=[(kW,⟨#[65,68,68]⟩,0),(kW,⟨#[84]⟩,0),(kS,⟨#[40]⟩,0)]
noncomputable abbrev tail_f0:List Tk:=[(kS,⟨#[41]⟩,0),(kW,⟨#[65]⟩,0),(kW,⟨#[71,73,86,73,78,71]⟩,0),(kW,⟨#[67]⟩,0),(kS,⟨#[46]⟩,0)]
theorem H7 (P:Params) (n L:Nat) (X:PyData) (S:List Tk):cH P 3 2 (.ok (.py X) (L+3,tail_f0)) (n+25) 498 [.rdr,.glob (.ref 869)] (0,pre_f0++S)=.ok (.py (aZ 0 X)) (L+7,[tS 46]):=by kernel_rfl
theorem G0 (P:Params) (n:Nat) (S:List Tk):cH P 3 2 .exc (n+25) 498 [.rdr,.glob (.ref 869)] (0,pre_f0++S)=.exc:=by kernel_rfl
noncomputable abbrev pre_f1:List Tk:=[(kW,⟨#[65,68,68]⟩,0),(kW,⟨#[65]⟩,0),(kW,⟨#[84,79]⟩,0),(kW,⟨#[84]⟩,0),(kS,⟨#[40]⟩,0)]
noncomputable abbrev tail_f1:List Tk:=[(kS,⟨#[41]⟩,0),(kW,⟨#[71,73,86,73,78,71]⟩,0),(kW,⟨#[67]⟩,0),(kS,⟨#[46]⟩,0)]
theorem H6 (P:Params) (n L:Nat) (S:List Tk):∀ m,Nat.ble m 18=true→cH P 5 2 (.ok (.py (ak m)) (L+5,tail_f1)) (n+25) 498 [.rdr,.glob (.ref 869)] (0,pre_f1++S)=.ok (.py (aZ 1 (ak m))) (L+8,[tS 46]):=fE (by kernel_rfl)
theorem GZ (P:Params) (n:Nat) (S:List Tk):cH P 5 2 .exc (n+25) 498 [.rdr,.glob (.ref 869)] (0,pre_f1++S)=.exc:=by kernel_rfl
noncomputable abbrev pre_f2:List Tk:=[(kW,⟨#[83,85,66,84,82,65,67,84]⟩,0),(kW,⟨#[84]⟩,0),(kS,⟨#[40]⟩,0)]
noncomputable abbrev tail_f2:List Tk:=[(kS,⟨#[41]⟩,0),(kW,⟨#[65]⟩,0),(kW,⟨#[70,82,79,77]⟩,0),(kW,⟨#[67]⟩,0),(kW,⟨#[71,73,86,73,78,71]⟩,0),(kW,⟨#[68]⟩,0),(kS,⟨#[46]⟩,0)]
theorem H5 (P:Params) (n L:Nat) (X:PyData) (S:List Tk):cH P 3 2 (.ok (.py X) (L+3,tail_f2)) (n+25) 505 [.rdr,.glob (.ref 869)] (0,pre_f2++S)=.ok (.py (aZ 2 X)) (L+9,[tS 46]):=by kernel_rfl
theorem GY (P:Params) (n:Nat) (S:List Tk):cH P 3 2 .exc (n+25) 505 [.rdr,.glob (.ref 869)] (0,pre_f2++S)=.exc:=by kernel_rfl
noncomputable abbrev pre_f3:List Tk:=[(kW,⟨#[83,85,66,84,82,65,67,84]⟩,0),(kW,⟨#[65]⟩,0),(kW,⟨#[67]⟩,0),(kW,⟨#[70,82,79,77]⟩,0),(kW,⟨#[84]⟩,0),(kS,⟨#[40]⟩,0)]
noncomputable abbrev tail_f3:List Tk:=[(kS,⟨#[41]⟩,0),(kW,⟨#[71,73,86,73,78,71]⟩,0),(kW,⟨#[68]⟩,0),(kS,⟨#[46]⟩,0)]
theorem H4 (P:Params) (n L:Nat) (S:List Tk):∀ m,Nat.ble m 18=true→cH P 6 2 (.ok (.py (ak m)) (L+6,tail_f3)) (n+25) 505 [.rdr,.glob (.ref 869)] (0,pre_f3++S)=.ok (.py (aZ 3 (ak m))) (L+9,[tS 46]):=fE (by kernel_rfl)
theorem GX (P:Params) (n:Nat) (S:List Tk):cH P 6 2 .exc (n+25) 505 [.rdr,.glob (.ref 869)] (0,pre_f3++S)=.exc:=by kernel_rfl
noncomputable abbrev pre_f4:List Tk:=[(kW,⟨#[77,85,76,84,73,80,76,89]⟩,0),(kW,⟨#[84]⟩,0),(kS,⟨#[40]⟩,0)]
noncomputable abbrev tail_f4:List Tk:=[(kS,⟨#[41]⟩,0),(kW,⟨#[66,89]⟩,0),(kW,⟨#[65]⟩,0),(kW,⟨#[71,73,86,73,78,71]⟩,0),(kW,⟨#[67]⟩,0),(kS,⟨#[46]⟩,0)]
theorem H3 (P:Params) (n L:Nat) (X:PyData) (S:List Tk):cH P 3 2 (.ok (.py X) (L+3,tail_f4)) (n+25) 512 [.rdr,.glob (.ref 869)] (0,pre_f4++S)=.ok (.py (aZ 4 X)) (L+8,[tS 46]):=by kernel_rfl
theorem GW (P:Params) (n:Nat) (S:List Tk):cH P 3 2 .exc (n+25) 512 [.rdr,.glob (.ref 869)] (0,pre_f4++S)=.exc:=by kernel_rfl
noncomputable abbrev pre_f5:List Tk:=[(kW,⟨#[77,85,76,84,73,80,76,89]⟩,0),(kW,⟨#[65]⟩,0),(kW,⟨#[66,89]⟩,0),(kW,⟨#[84]⟩,0),(kS,⟨#[40]⟩,0)]
noncomputable abbrev tail_f5:List Tk:=[(kS,⟨#[41]⟩,0),(kW,⟨#[71,73,86,73,78,71]⟩,0),(kW,⟨#[67]⟩,0),(kS,⟨#[46]⟩,0)]
theorem H1 (P:Params) (n L:Nat) (S:List Tk):∀ m,Nat.ble m 18=true→cH P 5 2 (.ok (.py (ak m)) (L+5,tail_f5)) (n+25) 512 [.rdr,.glob (.ref 869)] (0,pre_f5++S)=.ok (.py (aZ 5 (ak m))) (L+8,[tS 46]):=fE (by kernel_rfl)
theorem GV (P:Params) (n:Nat) (S:List Tk):cH P 5 2 .exc (n+25) 512 [.rdr,.glob (.ref 869)] (0,pre_f5++S)=.exc:=by kernel_rfl
noncomputable abbrev pre_f6:List Tk:=[(kW,⟨#[68,73,86,73,68,69]⟩,0),(kW,⟨#[84]⟩,0),(kS,⟨#[40]⟩,0)]
noncomputable abbrev tail_f6:List Tk:=[(kS,⟨#[41]⟩,0),(kW,⟨#[66,89]⟩,0),(kW,⟨#[65]⟩,0),(kW,⟨#[71,73,86,73,78,71]⟩,0),(kW,⟨#[67]⟩,0),(kS,⟨#[46]⟩,0)]
theorem HZ (P:Params) (n L:Nat) (X:PyData) (S:List Tk):cH P 3 2 (.ok (.py X) (L+3,tail_f6)) (n+25) 526 [.rdr,.glob (.ref 869)] (0,pre_f6++S)=.ok (.py (aZ 6 X)) (L+8,[tS 46]):=by kernel_rfl
theorem GU (P:Params) (n:Nat) (S:List Tk):cH P 3 2 .exc (n+25) 526 [.rdr,.glob (.ref 869)] (0,pre_f6++S)=.exc:=by kernel_rfl
noncomputable abbrev pre_f7:List Tk:=[(kW,⟨#[68,73,86,73,68,69]⟩,0),(kW,⟨#[84]⟩,0),(kS,⟨#[40]⟩,0)]
noncomputable abbrev tail_f7:List Tk:=[(kS,⟨#[41]⟩,0),(kW,⟨#[73,78,84,79]⟩,0),(kW,⟨#[65]⟩,0),(kW,⟨#[71,73,86,73,78,71]⟩,0),(kW,⟨#[67]⟩,0),(kS,⟨#[46]⟩,0)]
theorem HY (P:Params) (n L:Nat) (X:PyData) (S:List Tk):cH P 3 2 (.ok (.py X) (L+3,tail_f7)) (n+25) 526 [.rdr,.glob (.ref 869)] (0,pre_f7++S)=.ok (.py (aZ 7 X)) (L+8,[tS 46]):=by kernel_rfl
theorem GS (P:Params) (n:Nat) (S:List Tk):cH P 3 2 .exc (n+25) 526 [.rdr,.glob (.ref 869)] (0,pre_f7++S)=.exc:=by kernel_rfl
noncomputable abbrev pre_f8:List Tk:=[(kW,⟨#[65,68,68]⟩,0),(kW,⟨#[84]⟩,0),(kS,⟨#[40]⟩,0)]
noncomputable abbrev tail_f8:List Tk:=[(kS,⟨#[41]⟩,0),(kW,⟨#[65]⟩,0),(kW,⟨#[84,79]⟩,0),(kW,⟨#[67]⟩,0),(kS,⟨#[46]⟩,0)]
theorem HX (P:Params) (n L:Nat) (X:PyData) (S:List Tk):cH P 3 2 (.ok (.py X) (L+3,tail_f8)) (n+25) 498 [.rdr,.glob (.ref 869)] (0,pre_f8++S)=.ok (.py (aZ 8 X)) (L+7,[tS 46]):=by kernel_rfl
theorem GR (P:Params) (n:Nat) (S:List Tk):cH P 3 2 .exc (n+25) 498 [.rdr,.glob (.ref 869)] (0,pre_f8++S)=.exc:=by kernel_rfl
noncomputable abbrev pre_f9:List Tk:=[(kW,⟨#[83,85,66,84,82,65,67,84]⟩,0),(kW,⟨#[65]⟩,0),(kW,⟨#[84]⟩,0),(kS,⟨#[40]⟩,0)]
noncomputable abbrev tail_f9:List Tk:=[(kS,⟨#[41]⟩,0),(kW,⟨#[70,82,79,77]⟩,0),(kW,⟨#[67]⟩,0),(kS,⟨#[46]⟩,0)]
theorem HW (P:Params) (n L:Nat) (X:PyData) (S:List Tk):cH P 4 2 (.ok (.py X) (L+4,tail_f9)) (n+25) 505 [.rdr,.glob (.ref 869)] (0,pre_f9++S)=.ok (.py (aZ 9 X)) (L+7,[tS 46]):=by kernel_rfl
theorem GQ (P:Params) (n:Nat) (S:List Tk):cH P 4 2 .exc (n+25) 505 [.rdr,.glob (.ref 869)] (0,pre_f9++S)=.exc:=by kernel_rfl
noncomputable abbrev pre_f10:List Tk:=[(kW,⟨#[77,85,76,84,73,80,76,89]⟩,0),(kW,⟨#[84]⟩,0),(kS,⟨#[40]⟩,0)]
noncomputable abbrev tail_f10:List Tk:=[(kS,⟨#[41]⟩,0),(kW,⟨#[66,89]⟩,0),(kW,⟨#[67]⟩,0),(kS,⟨#[46]⟩,0)]
theorem Eh (P:Params) (n L:Nat) (X:PyData) (S:List Tk):cH P 3 2 (.ok (.py X) (L+3,tail_f10)) (n+25) 512 [.rdr,.glob (.ref 869)] (0,pre_f10++S)=.ok (.py (aZ 10 X)) (L+6,[tS 46]):=by kernel_rfl
theorem D9 (P:Params) (n:Nat) (S:List Tk):cH P 3 2 .exc (n+25) 512 [.rdr,.glob (.ref 869)] (0,pre_f10++S)=.exc:=by kernel_rfl
noncomputable abbrev pre_s0:List Tk:=[(kW,⟨#[67,79,77,80,85,84,69]⟩,0),(kW,⟨#[67]⟩,0),(kS,⟨#[61]⟩,0),(kW,⟨#[84]⟩,0),(kS,⟨#[40]⟩,0)]
noncomputable abbrev tail_s0:List Tk:=[(kS,⟨#[41]⟩,0),(kS,⟨#[43]⟩,0),(kW,⟨#[65]⟩,0),(kW,⟨#[69,78,68,45,67,79,77,80,85,84,69]⟩,0),(kS,⟨#[46]⟩,0)]
theorem HV (P:Params) (n L:Nat) (X:PyData) (S:List Tk):cH P 5 1 (.ok (.py X) (L+5,tail_s0)) (n+25) 533 [.rdr,.glob (.ref 869)] (0,pre_s0++S)=.ok (.py (aZ 0 X)) (L+9,[tS 46]):=by kernel_rfl
noncomputable abbrev pre_s1:List Tk:=[(kW,⟨#[67,79,77,80,85,84,69]⟩,0),(kW,⟨#[67]⟩,0),(kS,⟨#[61]⟩,0),(kW,⟨#[65]⟩,0),(kS,⟨#[43]⟩,0),(kW,⟨#[84]⟩,0),(kS,⟨#[40]⟩,0)]
noncomputable abbrev tail_s1:List Tk:=[(kS,⟨#[41]⟩,0),(kW,⟨#[69,78,68,45,67,79,77,80,85,84,69]⟩,0),(kS,⟨#[46]⟩,0)]
theorem HU (P:Params) (n L:Nat) (X:PyData) (S:List Tk):cH P 7 1 (.ok (.py X) (L+7,tail_s1)) (n+25) 533 [.rdr,.glob (.ref 869)] (0,pre_s1++S)=.ok (.py (aZ 1 X)) (L+9,[tS 46]):=by kernel_rfl
noncomputable abbrev pre_s2:List Tk:=[(kW,⟨#[67,79,77,80,85,84,69]⟩,0),(kW,⟨#[68]⟩,0),(kS,⟨#[61]⟩,0),(kW,⟨#[67]⟩,0),(kS,⟨#[45]⟩,0),(kS,⟨#[40]⟩,0),(kW,⟨#[84]⟩,0),(kS,⟨#[40]⟩,0)]
noncomputable abbrev tail_s2:List Tk:=[(kS,⟨#[41]⟩,0),(kS,⟨#[43]⟩,0),(kW,⟨#[65]⟩,0),(kS,⟨#[41]⟩,0),(kW,⟨#[69,78,68,45,67,79,77,80,85,84,69]⟩,0),(kS,⟨#[46]⟩,0)]
theorem HT (P:Params) (n L:Nat) (X:PyData) (S:List Tk):cH P 8 2 (.ok (.py X) (L+8,tail_s2)) (n+25) 533 [.rdr,.glob (.ref 869)] (0,pre_s2++S)=.ok (.py (aZ 2 X)) (L+13,[tS 46]):=by kernel_rfl
noncomputable abbrev pre_s3:List Tk:=[(kW,⟨#[67,79,77,80,85,84,69]⟩,0),(kW,⟨#[68]⟩,0),(kS,⟨#[61]⟩,0),(kW,⟨#[84]⟩,0),(kS,⟨#[40]⟩,0)]
noncomputable abbrev tail_s3:List Tk:=[(kS,⟨#[41]⟩,0),(kS,⟨#[45]⟩,0),(kS,⟨#[40]⟩,0),(kW,⟨#[65]⟩,0),(kS,⟨#[43]⟩,0),(kW,⟨#[67]⟩,0),(kS,⟨#[41]⟩,0),(kW,⟨#[69,78,68,45,67,79,77,80,85,84,69]⟩,0),(kS,⟨#[46]⟩,0)]
theorem HR (P:Params) (n L:Nat) (X:PyData) (S:List Tk):cH P 5 1 (.ok (.py X) (L+5,tail_s3)) (n+25) 533 [.rdr,.glob (.ref 869)] (0,pre_s3++S)=.ok (.py (aZ 3 X)) (L+13,[tS 46]):=by kernel_rfl
noncomputable abbrev pre_s4:List Tk:=[(kW,⟨#[67,79,77,80,85,84,69]⟩,0),(kW,⟨#[67]⟩,0),(kS,⟨#[61]⟩,0),(kW,⟨#[84]⟩,0),(kS,⟨#[40]⟩,0)]
noncomputable abbrev tail_s4:List Tk:=[(kS,⟨#[41]⟩,0),(kS,⟨#[42]⟩,0),(kW,⟨#[65]⟩,0),(kW,⟨#[69,78,68,45,67,79,77,80,85,84,69]⟩,0),(kS,⟨#[46]⟩,0)]
theorem HQ (P:Params) (n L:Nat) (X:PyData) (S:List Tk):cH P 5 1 (.ok (.py X) (L+5,tail_s4)) (n+25) 533 [.rdr,.glob (.ref 869)] (0,pre_s4++S)=.ok (.py (aZ 4 X)) (L+9,[tS 46]):=by kernel_rfl
noncomputable abbrev pre_s5:List Tk:=[(kW,⟨#[67,79,77,80,85,84,69]⟩,0),(kW,⟨#[67]⟩,0),(kS,⟨#[61]⟩,0),(kW,⟨#[65]⟩,0),(kS,⟨#[42]⟩,0),(kW,⟨#[84]⟩,0),(kS,⟨#[40]⟩,0)]
noncomputable abbrev tail_s5:List Tk:=[(kS,⟨#[41]⟩,0),(kW,⟨#[69,78,68,45,67,79,77,80,85,84,69]⟩,0),(kS,⟨#[46]⟩,0)]
theorem HP (P:Params) (n L:Nat) (X:PyData) (S:List Tk):cH P 7 1 (.ok (.py X) (L+7,tail_s5)) (n+25) 533 [.rdr,.glob (.ref 869)] (0,pre_s5++S)=.ok (.py (aZ 5 X)) (L+9,[tS 46]):=by kernel_rfl
noncomputable abbrev pre_s6:List Tk:=[(kW,⟨#[67,79,77,80,85,84,69]⟩,0),(kW,⟨#[67]⟩,0),(kS,⟨#[61]⟩,0),(kW,⟨#[84]⟩,0),(kS,⟨#[40]⟩,0)]
noncomputable abbrev tail_s6:List Tk:=[(kS,⟨#[41]⟩,0),(kS,⟨#[47]⟩,0),(kW,⟨#[65]⟩,0),(kW,⟨#[69,78,68,45,67,79,77,80,85,84,69]⟩,0),(kS,⟨#[46]⟩,0)]
theorem HO (P:Params) (n L:Nat) (X:PyData) (S:List Tk):cH P 5 1 (.ok (.py X) (L+5,tail_s6)) (n+25) 533 [.rdr,.glob (.ref 869)] (0,pre_s6++S)=.ok (.py (aZ 6 X)) (L+9,[tS 46]):=by kernel_rfl
noncomputable abbrev pre_s7:List Tk:=[(kW,⟨#[67,79,77,80,85,84,69]⟩,0),(kW,⟨#[67]⟩,0),(kS,⟨#[61]⟩,0),(kW,⟨#[65]⟩,0),(kS,⟨#[47]⟩,0),(kW,⟨#[84]⟩,0),(kS,⟨#[40]⟩,0)]
noncomputable abbrev tail_s7:List Tk:=[(kS,⟨#[41]⟩,0),(kW,⟨#[69,78,68,45,67,79,77,80,85,84,69]⟩,0),(kS,⟨#[46]⟩,0)]
theorem HN (P:Params) (n L:Nat) (X:PyData) (S:List Tk):cH P 7 1 (.ok (.py X) (L+7,tail_s7)) (n+25) 533 [.rdr,.glob (.ref 869)] (0,pre_s7++S)=.ok (.py (aZ 7 X)) (L+9,[tS 46]):=by kernel_rfl
noncomputable abbrev pre_s8:List Tk:=[(kW,⟨#[65,68,68]⟩,0),(kW,⟨#[84]⟩,0),(kS,⟨#[40]⟩,0)]
noncomputable abbrev tail_s8:List Tk:=[(kS,⟨#[41]⟩,0),(kW,⟨#[65]⟩,0),(kW,⟨#[84,79]⟩,0),(kW,⟨#[67]⟩,0),(kW,⟨#[69,78,68,45,65,68,68]⟩,0),(kS,⟨#[46]⟩,0)]
theorem HK (P:Params) (n L:Nat) (X:PyData) (S:List Tk):cH P 3 2 (.ok (.py X) (L+3,tail_s8)) (n+25) 498 [.rdr,.glob (.ref 869)] (0,pre_s8++S)=.ok (.py (aZ 8 X)) (L+8,[tS 46]):=by kernel_rfl
noncomputable abbrev pre_s9:List Tk:=[(kW,⟨#[83,85,66,84,82,65,67,84]⟩,0),(kW,⟨#[65]⟩,0),(kW,⟨#[84]⟩,0),(kS,⟨#[40]⟩,0)]
noncomputable abbrev tail_s9:List Tk:=[(kS,⟨#[41]⟩,0),(kW,⟨#[70,82,79,77]⟩,0),(kW,⟨#[67]⟩,0),(kW,⟨#[69,78,68,45,83,85,66,84,82,65,67,84]⟩,0),(kS,⟨#[46]⟩,0)]
theorem HJ (P:Params) (n L:Nat) (X:PyData) (S:List Tk):cH P 4 2 (.ok (.py X) (L+4,tail_s9)) (n+25) 505 [.rdr,.glob (.ref 869)] (0,pre_s9++S)=.ok (.py (aZ 9 X)) (L+8,[tS 46]):=by kernel_rfl
noncomputable abbrev pre_s10:List Tk:=[(kW,⟨#[77,85,76,84,73,80,76,89]⟩,0),(kW,⟨#[84]⟩,0),(kS,⟨#[40]⟩,0)]
noncomputable abbrev tail_s10:List Tk:=[(kS,⟨#[41]⟩,0),(kW,⟨#[66,89]⟩,0),(kW,⟨#[67]⟩,0),(kW,⟨#[69,78,68,45,77,85,76,84,73,80,76,89]⟩,0),(kS,⟨#[46]⟩,0)]
theorem Eg (P:Params) (n L:Nat) (X:PyData) (S:List Tk):cH P 3 2 (.ok (.py X) (L+3,tail_s10)) (n+25) 512 [.rdr,.glob (.ref 869)] (0,pre_s10++S)=.ok (.py (aZ 10 X)) (L+7,[tS 46]):=by kernel_rfl
theorem LB (P:Params) (n p:Nat) (r:List Tk):∀ m,Nat.ble m 18=true→cN P (n+120) 279 [.rdr,.py (.int (.ofNat 1))] (p,ba m (tS 41::r))=.ok (.py (ak m)) (p+(4*m+3),tS 41::r):=fE (by kernel_rfl)
theorem LA (P:Params) (n p:Nat) (r:List Tk):∀ m,Nat.ble m 18=true→cN P (n+120) 279 [.rdr,.py (.int (.ofNat 2))] (p,ba m (tS 41::r))=.ok (.py (ak m)) (p+(4*m+3),tS 41::r):=fE (by kernel_rfl)
theorem Ly (P:Params) (n p:Nat) (r:List Tk):cN P (n+120) 279 [.rdr,.py (.int (.ofNat 2))] (p,ba 19 (tS 41::r))=.exc:=by kernel_rfl
theorem part (P:Params) (n p:Nat) (r:List Tk):∀ m,Nat.ble m 19=true→cN P (n+120) 184 [.rdr] (p,tS 40::ba m (tS 41::r))=.ok (.py (.bool false)) (p,tS 40::ba m (tS 41::r)):=fE (by kernel_rfl)
noncomputable def Fs (f:PyData→PyData→Bool):List PyData→List PyData→Bool
 |[],r=>r.isEmpty
 |a::l,r=>(uQ r).elim false fun q=>f a q.1.1&&Fs f l q.1.2
noncomputable def noP:PyData→Bool
 |.none=>true
 |_=>false
theorem pn {p:PyData}(h:noP p=true):p=.none:=by cases p<;>first | rfl | exact ft h
theorem kC {p:PyData}{l:List PyData}(h:sd p=some l):p=.tuple l:=by cases p<;>first | exact nn h | exact congrArg _ (si h)
noncomputable def eqF:Nat→PyData→PyData→Bool
 |0,_,_=>false
 |n+1,a,b=>(jH a).elim ((se a).elim ((sd a).elim (noP a&&noP b) fun l=>(sd b).elim false (Fs (eqF n) l)) fun i=>(se b).elim false fun j=>decide (i=j)) fun s=>(jH b).elim false (ac s)
theorem oel {α:Type}{o:Option α}{z:Bool}{f:α→Bool}{Q:Prop}(h:o.elim z f=true) (h1:∀ a,o=some a→f a=true→Q) (h2:o=none→z=true→Q):Q:=by
 cases o with
 |none=>exact h2 rfl h
 |some a=>exact h1 a rfl h
theorem sZ {f:PyData→PyData→Bool}(H:∀ a b,f a b=true→a=b):∀{l r:List PyData},Fs f l r=true→l=r
 |[],r,h=>(List.isEmpty_iff.mp h).symm
 |a::l,r,h=>oel h (fun q _ h=>(congr (congrArg _ (H _ _ (am h).1)) (sZ H (am h).2)).trans q.2.symm) fun _ h=>ft h
theorem yO:∀ n a b,eqF n a b=true→a=b
 |0,_,_,h=>ft h
 |n+1,a,b,h=>oel h (fun s h1 h=>oel h (fun t h2 h=>by rw[eV h1,eV h2,(ay _ _).mp h]) fun _ h=>ft h) fun _ h=>oel h (fun i h1 h=>oel h (fun j h2 h=>by rw[ii h1,ii h2,of_decide_eq_true h]) fun _ h=>ft h)
  fun _ h=>oel h (fun l h1 h=>oel h (fun r h2 h=>by rw[kC h1,kC h2,sZ (yO n) h]) fun _ h=>ft h) fun _ h=>(pn (am h).1).trans (pn (am h).2).symm
noncomputable def aT:Nat→List Nat
 |0=>[74,32,45,32,49]
 |m+1=>49::32::45::32::40::(aT m++[41])
noncomputable def nvS (m:Nat):List (Addr×Nv):=(335,fun args κ=>(one args).bind fun d=>(pyV d).bind fun Y=>bif eqF 40 Y (ak m)then some (.ok (.py (.str (mkS (aT m)))) κ)else none)::nvN
noncomputable abbrev cS (P:Params) (m n:Nat):OZ:=cT P (nvS m) n
noncomputable abbrev Dh (x:Nat→Orc) (toks:List Tk) (c m:Nat):Prop:=∀ n k κ,RZ toks k κ→Sim (RZ toks) (x (n+c+1) 335 [.py (ak m)] k) (.ok (.py (.str (mkS (aT m)))) κ)
theorem vI (P:Params) (n:Nat) (κ:Zs):∀ m,Nat.ble m 17=true→cS P m (n+5) 335 [.py (ak (m+1))] κ=.ok (.py (.str (mkS (aT (m+1))))) κ:=fE (by kernel_rfl)
section
variable {P:Params}{toks:List Tk}{x:Nat→Orc}(S:Src P toks x)
include S
theorem gS {c m:Nat}(H:Dh x toks (c+7) m):Gd x toks (c+7) (nvS m) :=
 .cons (fun n args k κ o r e=>az e fun d h1 e=>az e fun Y h2 e=>lI e fun q w=>by
  rw[bB h1,cU h2,yO _ _ _ q,← si w]
  exact H n k κ r) ((gN S).mono c)
omit S in
theorem Sim.cast {n n':Nat}{f:Addr}{args:List D}{k:Nat}{o o':OutK Zs D}(h:Sim (RZ toks) (x n f args k) o) (e:n=n') (e2:o=o'):Sim (RZ toks) (x n' f args k) o':=by
 cases e;cases e2;exact h
omit S in
theorem GC (n:Nat) (κ:Zs):cN P (n+20) 335 [.py (ak 0)] κ=.ok (.py (.str (mkS (aT 0)))) κ:=by kernel_rfl
omit S in
theorem ad1 (n m:Nat):n+5+(19+4*m+7)=n+(19+4*(m+1)+7)+1:=by omega
theorem Ci:∀ m,Nat.ble m 18=true→Dh x toks (19+4*m+7) m
 |0,_=>fun n k κ r=>Sim.cast (nq S r) rfl (GC n κ)
 |m+1,h=>fun n k κ r=>Sim.cast (mz S (gS S (Ci m (Nat.ble_eq.mpr (Nat.le_of_succ_le (Nat.le_of_ble_eq_true h))))) (n+5) 335 [.py (ak (m+1))] k κ r) (ad1 n m) (vI P n κ m h)
end
noncomputable abbrev Mh:List Nat:=[67,79,77,80,85,84,69,32,67,32,61,32,84,32,40]
noncomputable abbrev LX:List Nat:=[41,32,43,32,65,32,69,78,68,45,67,79,77,80,85,84,69]
noncomputable abbrev Mg:List Nat:=[67,79,77,80,85,84,69,32,67,32,61,32,65,32,43,32,84,32,40]
noncomputable abbrev LU:List Nat:=[41,32,69,78,68,45,67,79,77,80,85,84,69]
noncomputable abbrev Mf:List Nat:=[67,79,77,80,85,84,69,32,68,32,61,32,67,32,45,32,40,84,32,40]
noncomputable abbrev LR:List Nat:=[41,32,43,32,65,41,32,69,78,68,45,67,79,77,80,85,84,69]
noncomputable abbrev Me:List Nat:=[67,79,77,80,85,84,69,32,68,32,61,32,84,32,40]
noncomputable abbrev LQ:List Nat:=[41,32,45,32,40,65,32,43,32,67,41,32,69,78,68,45,67,79,77,80,85,84,69]
noncomputable abbrev Md:List Nat:=[67,79,77,80,85,84,69,32,67,32,61,32,84,32,40]
noncomputable abbrev LP:List Nat:=[41,32,42,32,65,32,69,78,68,45,67,79,77,80,85,84,69]
noncomputable abbrev Mc:List Nat:=[67,79,77,80,85,84,69,32,67,32,61,32,65,32,42,32,84,32,40]
noncomputable abbrev LN:List Nat:=[41,32,69,78,68,45,67,79,77,80,85,84,69]
noncomputable abbrev Mb:List Nat:=[67,79,77,80,85,84,69,32,67,32,61,32,84,32,40]
noncomputable abbrev LM:List Nat:=[41,32,47,32,65,32,69,78,68,45,67,79,77,80,85,84,69]
noncomputable abbrev Ma:List Nat:=[67,79,77,80,85,84,69,32,67,32,61,32,65,32,47,32,84,32,40]
noncomputable abbrev LK:List Nat:=[41,32,69,78,68,45,67,79,77,80,85,84,69]
noncomputable abbrev LZ:List Nat:=[65,68,68,32,84,32,40]
noncomputable abbrev LJ:List Nat:=[41,32,65,32,84,79,32,67,32,69,78,68,45,65,68,68]
noncomputable abbrev LY:List Nat:=[83,85,66,84,82,65,67,84,32,65,32,84,32,40]
noncomputable abbrev LG:List Nat:=[41,32,70,82,79,77,32,67,32,69,78,68,45,83,85,66,84,82,65,67,84]
noncomputable abbrev Gm:List Nat:=[77,85,76,84,73,80,76,89,32,84,32,40]
noncomputable abbrev Gk:List Nat:=[41,32,66,89,32,67,32,69,78,68,45,77,85,76,84,73,80,76,89]
noncomputable abbrev Shw (P:Params) (i:Nat) (p q:List Nat):Prop:=∀ n κ m,Nat.ble m 18=true→cS P m (n+20) 810 [.py (aZ i (ak m)),.py .none] κ=.ok (.py (.str (mkS (p++(aT m++q))))) κ
theorem GB (P:Params):Shw P 0 Mh LX:=fun n κ=>fE (by kernel_rfl)
theorem GA (P:Params):Shw P 1 Mg LU:=fun n κ=>fE (by kernel_rfl)
theorem Gz (P:Params):Shw P 2 Mf LR:=fun n κ=>fE (by kernel_rfl)
theorem Gy (P:Params):Shw P 3 Me LQ:=fun n κ=>fE (by kernel_rfl)
theorem Gw (P:Params):Shw P 4 Md LP:=fun n κ=>fE (by kernel_rfl)
theorem Gv (P:Params):Shw P 5 Mc LN:=fun n κ=>fE (by kernel_rfl)
theorem Gu (P:Params):Shw P 6 Mb LM:=fun n κ=>fE (by kernel_rfl)
theorem Gs (P:Params):Shw P 7 Ma LK:=fun n κ=>fE (by kernel_rfl)
theorem Gr (P:Params):Shw P 8 LZ LJ:=fun n κ=>fE (by kernel_rfl)
theorem Gq (P:Params):Shw P 9 LY LG:=fun n κ=>fE (by kernel_rfl)
theorem D0 (P:Params):Shw P 10 Gm Gk:=fun n κ=>fE (by kernel_rfl)
end Mine
end
section
namespace Mine
open PySem PySem.W PySem.Spec PySem.Calls PyProof.Rows Builtin.Str
noncomputable abbrev lX:List (Addr×Nat×Nat×Str):=[(309,225,36,"read_primary.<locals>.<lambda>"),(432,342,35,"number_here.<locals>.<lambda>")]
theorem Nh (P:Params) (x:Str):plainGet (Hd.kM P) 714 x=true:=by kernel_rfl
theorem JN (P:Params):hasDictIn (Hd.kM P) 714=true:=by kernel_rfl
theorem JO (P:Params):findIn (Hd.kM P) (.ref 714) "at"=some none:=by kernel_rfl
theorem JJ (P:Params):findIn (Hd.kM P) (.ref 714) "tokens"=some none:=by kernel_rfl
theorem JL (P:Params):findIn (Hd.kM P) (.ref 714) "__setattr__"=some (some (.builtin "object.__setattr__")):=by kernel_rfl
theorem JM (P:Params):plainOver (Hd.kM P) 714=true:=by kernel_rfl
theorem JK (P:Params):takerIn (Hd.kM P) 714 "at"=some none:=by kernel_rfl
theorem Nf (P:Params) (x:Str):plainGet (Hd.kM P) 164 x=true:=by kernel_rfl
theorem JI (P:Params):hasDictIn (Hd.kM P) 164=true:=by kernel_rfl
theorem Nd (P:Params):findIn (Hd.kM P) (.ref 164) "kind"=some none:=by kernel_rfl
theorem Nc (P:Params):findIn (Hd.kM P) (.ref 164) "worth"=some none:=by kernel_rfl
theorem Ng (P:Params):findIn (Hd.kM P) (.ref 164) "at"=some none:=by kernel_rfl
noncomputable def jU (P:Params) (a:Addr):List DictEntry×Nat:=match(Hd.kM P).lookup a with
 |some ⟨_,_,.dict es n,_⟩=>(es.toList,n)
 |_=>([],0)
noncomputable def enL (P:Params):List (Str×Tok×Value)→List DictEntry
 |[]=>[]
 |e::r=>⟨PyData.keyHash P e.1,.str e.1 e.2.1,e.2.2⟩::enL P r
noncomputable def stL:List DictEntry→List (Str×Tok×Value)
 |[]=>[]
 |e::r=>(match e.key with
  |.str x t=>(x,t,e.val)
  |_=>("",0,.none))::stL r
theorem k7 (P:Params):∀ l,KeysLit P (enL P l)
 |[]=>trivial
 |e::r=>⟨⟨e.1,e.2.1,by with_reducible rfl,by with_reducible rfl⟩,k7 P r⟩
theorem A7 {P:Params}{l:List DictEntry}(h:l=enL P (stL l)):KeysLit P l:=by
 generalize stL l=m at h
 subst h
 exact k7 P m
theorem dk1 (P:Params):(Hd.kM P).lookup 258=some ⟨.type "dict",none,.dict (jU P 258).1.toArray (jU P 258).2,#[]⟩:=by kernel_rfl
theorem dk2 (P:Params):(Hd.kM P).lookup 176=some ⟨.type "dict",none,.dict (jU P 176).1.toArray (jU P 176).2,#[]⟩:=by kernel_rfl
theorem dk3 (P:Params):(Hd.kM P).lookup 177=some ⟨.type "dict",none,.dict (jU P 177).1.toArray (jU P 177).2,#[]⟩:=by kernel_rfl
theorem dl1 (P:Params):(jU P 258).1=enL P (stL (jU P 258).1):=by kernel_rfl
theorem dl2 (P:Params):(jU P 176).1=enL P (stL (jU P 176).1):=by kernel_rfl
theorem dl3 (P:Params):(jU P 177).1=enL P (stL (jU P 177).1):=by kernel_rfl
theorem kZ {P:Params}{K:Frag}{a:Addr}{l:List DictEntry}{n:Nat}(h1:K.lookup a=some ⟨.type "dict",none,.dict l.toArray n,#[]⟩) (h2:l=enL P (stL l)):∃ es n,K.lookup a=some ⟨.type "dict",none,.dict es n,#[]⟩∧KeysLit P es.toList :=
 ⟨l.toArray,n,h1,A7 h2⟩
theorem n9 {cx:Sx}{a:Addr}(hK:cx.K=Hd.kM cx.w.params) (h:∃ es n,(Hd.kM cx.w.params).lookup a=some ⟨.type "dict",none,.dict es n,#[]⟩∧KeysLit cx.w.params es.toList) (h3:(a==sysModules)=false):jC cx a:=by
 obtain⟨es,n,e,k⟩:=h
 exact⟨es,n,by rw[hK];exact e,k,h3⟩
theorem rg (P:Params):(Hd.kM P).lookup 72=some (excClassObj "GrammarFault" "GrammarFault" 72 71 [.ref 47] [.ref 47,.type "Exception",.type "BaseException",.type "object"] true [] [] false none none (some (.ref 63)) none (some (.str "GrammarFault" 252)) (some (.str "GrammarFault" 260)) (some (.bool true)) "Exception.__new__"):=by kernel_rfl
structure RealCx (cx:Sx):Prop where
 K:cx.K=Hd.kM cx.w.params
 rc:cx.rc=714
 tc:cx.tc=164
 gf:cx.gf=72
 rs:cx.rs=279
 dl:cx.dl=[258,176,177]
 tabs:cx.tabs=lX
theorem dS {cx:Sx}(R:RealCx cx):KF cx:=by
 refine⟨?_,?_,?_,?_,?_,?_,?_,?_,?_,?_,?_,?_,?_,?_⟩
 ·rw[R.tabs]
  intro t h t' h' e
  simp only[lX,List.mem_cons,List.not_mem_nil,or_false]at h h'
  rcases h with rfl | rfl<;>rcases h' with rfl | rfl<;>first | rfl | cases e
 ·rw[R.dl]
  intro a h
  simp only[List.mem_cons,List.not_mem_nil,or_false]at h
  rcases h with rfl | rfl | rfl
  ·exact n9 R.K (kZ (dk1 _) (dl1 _)) (by decide +kernel)
  ·exact n9 R.K (kZ (dk2 _) (dl2 _)) (by decide +kernel)
  ·exact n9 R.K (kZ (dk3 _) (dl3 _)) (by decide +kernel)
 all_goals rw[R.K]
 ·rw[R.rc];exact Nh _
 ·rw[R.rc];exact JN _
 ·rw[R.rc];exact JO _
 ·rw[R.rc];exact JJ _
 ·rw[R.rc];exact JL _
 ·rw[R.rc];exact JM _
 ·rw[R.rc];exact JK _
 ·rw[R.tc];exact Nf _
 ·rw[R.tc];exact JI _
 ·rw[R.tc];exact Nd _
 ·rw[R.tc];exact Nc _
 ·rw[R.tc];exact Ng _
theorem f8 {cx:Sx}(R:RealCx cx):GfOk cx:=by
 refine⟨?_⟩
 rw[R.K,R.gf]
 exact⟨_,_,_,_,_,_,_,_,_,_,_,_,_,_,_,_,_,rg _,by decide⟩
theorem fc1:findCls [] (.type "Exception") (.type "type") "__init__"=some (.val (.builtin "Exception.__init__")):=by kernel_rfl
theorem fi1 (P:Params):findIn (Hd.kM P) (.ref 72) "__init__"=some (some (.ref 37)):=by kernel_rfl
theorem fi2 (P:Params):typeIn (Hd.kM P) (.ref 37)=some (.type "function"):=by kernel_rfl
theorem fi3 (P:Params):dR (Hd.kM P) 714 "fault"=some 582:=by kernel_rfl
theorem fi4 (P:Params):keepIn (Hd.kM P) (.ref 582)=true:=by kernel_rfl
theorem rl (self:Value):refuseLoop self "__setattr__" [.type "Exception",.type "BaseException",.type "object"]=pure ():=by kernel_rfl
theorem fi5 (P:Params):(clsIn (Hd.kM P) 72).map (·.mro)=some [.ref 72,.ref 47,.type "Exception",.type "BaseException",.type "object"]:=by kernel_rfl
theorem fi6 (P:Params):takerIn (Hd.kM P) 72 "what"=some none:=by kernel_rfl
theorem fi7 (P:Params):takerIn (Hd.kM P) 72 "at"=some none:=by kernel_rfl
theorem fi8 (P:Params):hasDictIn (Hd.kM P) 72=true:=by kernel_rfl
theorem fi9 (P:Params):findIn (Hd.kM P) (.ref 72) "__setattr__"=some (some (.builtin "object.__setattr__")):=by kernel_rfl
theorem M9 (P:Params):d7 (Hd.kM P) "GrammarFault"=some (.glob (.ref 72)):=by kernel_rfl
theorem M8 (P:Params):d7 (Hd.kM P) "Exception"=some (.glob (.type "Exception")):=by kernel_rfl
theorem M7 (P:Params):d7 (Hd.kM P) "min"=some (.glob (.builtin "min")):=by kernel_rfl
@[irreducible] noncomputable def fdK (P:Params) (a:Addr):FuncData:=match(Hd.kM P).lookup a with
 |some ⟨_,_,.func fd,_⟩=>fd
 |_=>default
theorem M5 (P:Params):(Hd.kM P).lookup 37=some ⟨.type "function",none,.func (fdK P 37),#[]⟩:=by kernel_rfl
theorem Jv (P:Params):(Hd.kM P).lookup 582=some ⟨.type "function",none,.func (fdK P 582),#[]⟩:=by kernel_rfl
theorem M6 (P:Params):ir (Hd.kM P) (fdK P 37)=true:=by kernel_rfl
theorem JD (P:Params):ir (Hd.kM P) (fdK P 582)=true:=by kernel_rfl
theorem Nt (P:Params) (a b c:D):dk (Hd.kM P) (fdK P 37) [a,b,c]=some [(("self":Str),a),(("what":Str),b),(("at":Str),c)]:=by kernel_rfl
theorem Kx (P:Params) (a b:D):dk (Hd.kM P) (fdK P 582) [a,b]=some [(("self":Str),a),(("what":Str),b)]:=by kernel_rfl
theorem Nq (P:Params):(fdK P 37).body=.stmts [
 .Expr (.Call (.Attribute (.Name "Exception" ⟨8,8,8,17⟩) "__init__" ⟨8,8,8,26⟩) [.Name "self" ⟨8,27,8,31⟩,.Name "what" ⟨8,33,8,37⟩] [] ⟨8,8,8,38⟩) ⟨8,8,8,38⟩,
 .Assign [.Attribute (.Name "self" ⟨9,8,9,12⟩) "what" ⟨9,8,9,17⟩] (.Name "what" ⟨9,20,9,24⟩) ⟨9,8,9,24⟩,
 .Assign [.Attribute (.Name "self" ⟨10,8,10,12⟩) "at" ⟨10,8,10,15⟩] (.Name "at" ⟨10,18,10,20⟩) ⟨10,8,10,20⟩]:=by kernel_rfl
end Mine
end
section
namespace Mine
open PySem PySem.W PySem.Spec PySem.Calls PyProof.Rows Builtin.Str Builtin.ObjectAttr
section
variable {prog:Program}{w:World}{A:Around}{E:Value→Shared→Prop}{s:Shared}{K:Frag}{x C C2:Addr}{name:Str}{v:Value}{tk:Tok}
theorem Cp {ox:Obj}{od:Option Obj}{R:Result→Shared→Prop}(X:K.In s.heap) (I:InstAt s.heap x ox C od) (hm:(clsIn K C).map (·.mro)=some [.ref C,.ref C2,.type "Exception",.type "BaseException",.type "object"]) (ht:takerIn K C name=some none):oH prog w A x C name tk v R s:=by
 intro h
 have SF:=PySem.F.store_object
 obtain⟨cd,hc,ho⟩:=Option.map_eq_some_iff.mp hm
 have sub:Looks (model prog w) s.heap (isInstance (.ref x) (.type "object")) true:=I.type.andThen (looks_mroIn X (by unfold mroIn;rw[hc,Option.bind_some,ho];rfl))
 refine codeAny_call_builtin SF.slot.plain SF.entry (@check_slot (model prog w) _ _ s "object.__setattr__" "object" "__setattr__" (.ref x) [.str name tk,v] [] _ SF.kind SF.split sub (SF.args (.ref x) (.str name tk) v) ?_)
 obtain⟨attr,ha,hr⟩:=Option.bind_eq_some_iff.mp ht
 have hl:Looks (model prog w) s.heap (mroOf (.ref C)) cd.mro:=(looks_clsIn X hc).andThen .now
 have L3:Looks (model prog w) s.heap (storeTaker? attr) none:=by
  induction attr using Option.casesOn with
  |none=>cases hr;exact .now
  |some a =>
   obtain⟨b,hb,e⟩:=Option.map_eq_some_iff.mp hr
   refine(looks_takesIn X hb).andThen ?_
   induction b using Bool.casesOn
   ·exact .now
   ·injection e
 rw[osa_eq,refuse_eq]
 refine wpAny_bind (wpAny_bind (I.type.here (wpAny_bind (hl.here ?_))))
 rw[ho,refuseLoop_ref,refuseLoop_ref,rl]
 refine wpAny_pure (wpAny_bind (I.type.here (wpAny_bind ((looks_findIn X ha).here (wpAny_bind (L3.here ?_))))))
 exact h _
end
theorem Mi (P:Params):(fdK P 37).scope.names.lookup ("self":Str)=some NameKind.local∧(fdK P 37).scope.names.lookup ("what":Str)=some NameKind.local∧(fdK P 37).scope.names.lookup ("at":Str)=some NameKind.local∧(fdK P 37).scope.names.lookup ("Exception":Str)=some NameKind.globalImplicit:=⟨by kernel_rfl,by kernel_rfl,by kernel_rfl,by kernel_rfl⟩
noncomputable abbrev uv (p q:Pos):Expr:=.Attribute (.Name "self" p) "tokens" q
theorem fr0 {h:Heap}{L:Addr}{m:Str→Option Value}(hn:h.Ns L m):Fr {} L h m:=⟨hn,fun b o e=>(by simp[Heap.get?]at e),Nat.zero_le _⟩
theorem in0 (h:Heap):Frag.In [] h:=fun _ _ e=>by injection e
theorem DA:typeOf (.type "Exception")=pure (.type "type"):=by kernel_rfl
theorem vy:Manifest.isStub "Exception"=false:=by decide +kernel
noncomputable abbrev i4 (d:Option Addr) (t:Addr):Obj:={cls:=.ref 72,dict:=d,data:=.fields #[.ref t,.none,.none,.none,.bool false,.none]}
theorem Io (d:Option Addr) (t:Addr):notCls (i4 d t)=true:=rfl
section
variable {prog:Program}{w:World}{A:Around}{E:Value→Shared→Prop}{s:Shared}{K:Frag}{e a0:Addr}{v:Value}{Q:Unit→Shared→Prop}
theorem vJ (X:K.In s.heap) (he:s.heap.get? e=some (i4 none a0)) (hs:findIn K (.ref 72) "__setattr__"=some (some (.builtin "object.__setattr__"))) (hm:(clsIn K 72).map (·.mro)=some [.ref 72,.ref 47,.type "Exception",.type "BaseException",.type "object"])
 (ht:takerIn K 72 "what"=some none) (hh:hasDictIn K 72=true)
 (h:∀ h' d t,s.heap.get? d=none→h'.get? d=some (dictOf [⟨PyData.keyHash w.params "what",.str "what" t,v⟩] 1)→h'.get? e=some (i4 (some d) a0)→Heap.ExtBut e s.heap h'→Q () {s with heap:=h',toks:=s.toks+1+1}) :
 wpAny (model prog w) A (setAttr (.ref e) "what" v) Q E s:=by
 have I:InstAt s.heap e (i4 none a0) 72 none:=⟨he,rfl,rfl,trivial⟩
 refine set_plain X I hs (ua (s:={s with toks:=s.toks+1}) X he rfl (fun d=>rfl) (Cp (s:={s with toks:=s.toks+1}) X I hm ht) hh fun h' d q1 q2 q3 q4=>?_)
 exact h h' d _ q1 q2 q3 q4
theorem D2 {d:Addr}{t:Tok}{u:Value}(X:K.In s.heap) (he:s.heap.get? e=some (i4 (some d) a0)) (hd:s.heap.get? d=some (dictOf [⟨PyData.keyHash w.params "what",.str "what" t,u⟩] 1)) (hs:findIn K (.ref 72) "__setattr__"=some (some (.builtin "object.__setattr__"))) (hm:(clsIn K 72).map (·.mro)=some [.ref 72,.ref 47,.type "Exception",.type "BaseException",.type "object"])
 (ht:takerIn K 72 "at"=some none) (hh:hasDictIn K 72=true)
 (h:∀ h' es n,h'.get? d=some (dictOf es n)→Heap.SameBut d s.heap h'→Q () {s with heap:=h',toks:=s.toks+1+1}) :
 wpAny (model prog w) A (setAttr (.ref e) "at" v) Q E s:=by
 have I:InstAt s.heap e (i4 (some d) a0) 72 (some (dictOf [⟨PyData.keyHash w.params "what",.str "what" t,u⟩] 1)):=⟨he,rfl,rfl,hd⟩
 refine set_plain X I hs (ma (s:={s with toks:=s.toks+1}) (es':=[⟨PyData.keyHash w.params "what",.str "what" t,u⟩,⟨PyData.keyHash w.params "at",.str "at" (s.toks+1),v⟩]) (n':=2) X I rfl (Cp (s:={s with toks:=s.toks+1}) X I hm ht) hh (by rfl) (by rfl) (show(2:Nat)≤1000 by decide) fun h' q1 q2=>?_)
 exact h h' _ _ q1 q2
end
section
variable {cx:Sx}{g:Gh}{V0 V:List Addr}{me:Option Addr}{k n:Nat}{A:Around}{l:List Env}{s:Shared}{Q E:Value→Shared→Prop}
theorem Ba (R:RealCx cx) (ao:AOk A (n+1) l) (ch:Chain cx g l s.heap) (G:Good cx (g.at V0 me) V s.heap k) (ht:1≤s.toks) {e a0:Addr}{x:Str}{t:Tok}{va:Value}(he:s.heap.get? e=some (i4 none a0)) (hz:cx.H0.get? e=none)
 (hq:∀ h' tk' d t',1≤tk'→h'.get? e=some (i4 (some d) t')→Heap.ExtBut e s.heap h'→Q .none {s with heap:=h',toks:=tk'}) :
 wpAny (model cx.prog cx.w) A (call (.ref 37) [.ref e,.str x t,va]) Q E s:=by
 have hK37:cx.K.lookup 37=some ⟨.type "function",none,.func (fdK cx.w.params 37),#[]⟩:=by rw[R.K];exact M5 _
 refine cw (args:=[.glob (.ref e),.py (.str x),.glob va]) (k:=k) ao ch G ht rfl ⟨rfl,bO _ _,rfl,trivial⟩ hK37 (by rw[R.K];exact Nt _ _ _ _) (Nq _) (by rw[R.K];exact M6 _) fun env V' h₁ tk₁ N=>?_
 obtain⟨sc1,sc2,sc3,sc4⟩:=Mi cx.w.params
 have k1:=(N.kof "self").trans sc1
 have k2:=(N.kof "what").trans sc2
 have k3:=(N.kof "at").trans sc3
 have k4:=(N.kof "Exception").trans sc4
 obtain⟨m,hn,hl,_⟩:=N.ss.st.fr.loc
 obtain⟨_,m1,e1⟩:=hl "self" (.glob (.ref e)) (by rfl) k1
 obtain⟨_,m2,⟨_,r2⟩⟩:=hl "what" (.py (.str x)) (by rfl) k2
 cases r2 with | str _ t2 =>
 obtain⟨_,m3,e3⟩:=hl "at" (.glob va) (by rfl) k3
 obtain rfl:=e1;obtain rfl:=e3
 have kd:=N.ss.st.fr.kind
 have tk1:1≤tk₁:=N.ss.st.tk
 have hLn:s.heap.get? env.locals=none:=by
  rcases N.new _ N.ss.st.fr.LV with q | q
  ·exact absurd q N.ss.fz
  ·exact q
 have eL:e≠env.locals:=fun q=>by first | exact nn (hLn.symm.trans (q▸he)) | (rw[q,hLn]at he;cases he)
 have X1:cx.K.In h₁:=N.ss.st.good.X
 have he1:=N.keep _ _ he
 have hgf:h₁.get? 72=_:=X1 _ _ (by rw[R.K];exact rg _)
 refine wpAny_execs_cons (wpAny_Expr (methodCall_KW ?_ (bx (by rfl))) (lj N.ss) ib)
 refine cr N.ss.st k4 (by rfl) (by rw[R.K];exact M8 _) fun v hv=>?_
 obtain rfl:=hv
 refine method_type (K:=[]) (fr0 hn) (in0 _) DA vy fc1 rfl ?_
 refine callWith_of (P:=fun _=>True) rfl (fun h' _=>dj _) ?_
 refine evalArgs_plain ?_
 show wpAny _ _ (spliced (backTo _ (starEach [.Name "self" ⟨8,27,8,31⟩,.Name "what" ⟨8,33,8,37⟩] env))) _ _ _
 refine wpAny_items_cons (wpAny_Name (wpAny_loadName_local kd k1 hn m1 ?_))
 refine wpAny_items_cons (wpAny_Name (wpAny_loadName_local kd k2 hn m2 (wpAny_items_nil ⟨trivial,?_⟩)))
 refine lS PySem.F.excBase_Exception (by decide) hgf he1 (by rw[sizeLine_eq];show(1:Nat)≤_;decide) fun h2 he2 xb2=>?_
 have ns:∀{h h':Heap},Heap.ExtBut e h h'→h.Ns env.locals m→h'.Ns env.locals m:=fun xb hn=>by
  obtain⟨o,es,ep,e,r⟩:=hn
  exact⟨o,es,ep,xb _ _ (Ne.symm eL) e,r⟩
 have kx:∀{h h':Heap},Heap.ExtBut e h h'→cx.K.In h→cx.K.In h':=fun xb X b o q=>xb b o (fun q'=>by
  rw[q']at q
  have:=cx.X _ _ q
  first | exact nn (hz.symm.trans this) | (rw[hz]at this;cases this)) (X _ _ q)
 have hn2:=ns xb2 hn
 have X2:=kx xb2 X1
 refine wpAny_execs_cons (plainObj_wpAny_Assign_Attribute (wpAny_Name (wpAny_loadName_local kd k2 hn2 m2 (wpAny_Name (wpAny_loadName_local kd k1 hn2 m1 ?_)))))
 refine vJ (w:=cx.w) X2 he2 (by rw[R.K];exact fi9 _) (by rw[R.K];exact fi5 _) (by rw[R.K];exact fi6 _) (by rw[R.K];exact fi8 _) fun h3 d tt q1 q2 q3 xb3=>?_
 have hn3:=ns xb3 hn2
 have X3:=kx xb3 X2
 refine wpAny_execs_cons (plainObj_wpAny_Assign_Attribute (wpAny_Name (wpAny_loadName_local kd k3 hn3 m3 (wpAny_Name (wpAny_loadName_local kd k1 hn3 m1 ?_)))))
 have ed:e≠d:=fun q=>by rw[← q,he2]at q1;injection q1
 refine D2 (w:=cx.w) X3 q3 q2 (by rw[R.K];exact fi9 _) (by rw[R.K];exact fi5 _) (by rw[R.K];exact fi7 _) (by rw[R.K];exact fi8 _) fun h4 es nn q4 sb4=>?_
 refine wpAny_execs_nil ?_
 refine hq h4 _ d h₁.objs.size (by omega) ((sb4.2 _ ed).trans q3) fun b o hb eb=>?_
 have eb1:=N.keep _ _ eb
 have eb2:=xb2 _ _ hb eb1
 exact(sb4.2 b (fun q=>by first | exact nn (q1.symm.trans (q▸eb2)) | (rw[q,q1]at eb2;injection eb2))).trans (xb3 _ _ hb eb2)
theorem Kn (P:Params):(fdK P 582).body=.stmts [
 .If (.UnaryOp .Not (.Attribute (.Name "self" ⟨485,15,485,19⟩) "tokens" ⟨485,15,485,26⟩) ⟨485,11,485,26⟩)
  [.Return (some (.Call (.Name "GrammarFault" ⟨486,19,486,31⟩) [.Name "what" ⟨486,32,486,36⟩,.Tuple [.Constant (.int 0) 0 ⟨486,39,486,40⟩,.Constant (.int 0) 0 ⟨486,42,486,43⟩] 0 ⟨486,38,486,44⟩] [] ⟨486,19,486,45⟩)) ⟨486,12,486,45⟩] [] ⟨485,8,486,45⟩,
 .Return (some (.Call (.Name "GrammarFault" ⟨487,15,487,27⟩) [.Name "what" ⟨487,28,487,32⟩,
  .Attribute (.Subscript (.Attribute (.Name "self" ⟨487,34,487,38⟩) "tokens" ⟨487,34,487,45⟩)
   (.Call (.Name "min" ⟨487,46,487,49⟩) [.Attribute (.Name "self" ⟨487,50,487,54⟩) "at" ⟨487,50,487,57⟩,
    .BinOp (.Call (.Name "len" ⟨487,59,487,62⟩) [.Attribute (.Name "self" ⟨487,63,487,67⟩) "tokens" ⟨487,63,487,74⟩] [] ⟨487,59,487,75⟩) .Sub (.Constant (.int 1) 0 ⟨487,78,487,79⟩) ⟨487,59,487,79⟩] [] ⟨487,46,487,80⟩) ⟨487,34,487,81⟩) "at" ⟨487,34,487,84⟩] [] ⟨487,15,487,85⟩)) ⟨487,8,487,85⟩]:=by kernel_rfl
theorem GK (P:Params):(fdK P 582).scope.names.lookup ("self":Str)=some NameKind.local∧(fdK P 582).scope.names.lookup ("what":Str)=some NameKind.local∧(fdK P 582).scope.names.lookup ("GrammarFault":Str)=some NameKind.globalImplicit∧(fdK P 582).scope.names.lookup ("min":Str)=some NameKind.globalImplicit:=⟨by kernel_rfl,by kernel_rfl,by kernel_rfl,by kernel_rfl⟩
theorem M1 (P:Params):keepIn (Hd.kM P) (.ref 72)=true:=by kernel_rfl
theorem Bh (h:Heap) (o1:Obj) (t:Addr):((h.push o1).push (i4 none t)).get? (h.objs.size+1)=some (i4 none t):=by
 have:=Heap.get?_push_size (h.push o1) (o:=i4 none t) rfl
 rwa [Heap.size_push]at this
theorem EG {L k:Nat}(h:0<L) (t6 t7:Tok):∃(j:Nat) (tj:Tok),j<L∧(if((L:Int)-1)<(k:Int)then Value.int ((L:Int)-1) t7 else Value.int (k:Int) t6)=.int (Int.ofNat j) tj:=by
 by_cases c:((L:Int)-1)<(k:Int)
 ·refine⟨L-1,t7,by omega,?_⟩
  rw[if_pos c]
  have:((L:Int)-1)=Int.ofNat (L-1):=by
   show _=((L-1:Nat):Int)
   omega
  rw[this]
 ·refine⟨k,t6,by omega,?_⟩
  rw[if_neg c]
  rfl
end
theorem gQ {cx:Sx}{g:Gh}(R:RealCx cx) (V:List Addr) (f:Addr) (calls:Orc):cx.C (g.at V (some f)) calls=cM cx.w.params g.toks f calls:=by
 show(⟨cx.K,cx.rc,cx.rs,cx.dl,cx.tabs,g.toks,some f,calls⟩:Cx)=_
 rw[R.K,R.rc,R.rs,R.dl,R.tabs];rfl
section
variable {cx:Sx}{g:Gh}{h0:Heap}{B:Bs}{V:List Addr}{k n:Nat}{A:Around}{env:Env}{l:List Env}{ρ:Rho}{s:Shared}{f:Expr→Nat→Out D}{h:Heap}{tk:Nat}{P E:Value→Shared→Prop}
noncomputable abbrev SSk (cx:Sx) (g:Gh) (h0:Heap) (B:Bs) (l:List Env) (n:Nat) (A:Around) (env:Env) (V:List Addr) (ρ:Rho) (k:Nat) (s:Shared) (h:Heap) (tk:Nat):Prop:=SS cx g h0 B l n A env V ρ k {s with heap:=h,toks:=tk}
theorem oW (Hf:bC cx g V (env::l) n A env ρ f) (x:SSk cx g h0 B l n A env V ρ k s h tk) {e:Expr}{d:D}(he:f e k=.ok d k)
 (H:∀ h' tk' v,SSk cx g h0 B l n A env V ρ k s h' tk'→Ext (g.W cx) h h'→Rep cx g V h' v d→P v {s with heap:=h',toks:=tk'}):wpAny (model cx.prog cx.w) A (eval e env) P E {s with heap:=h,toks:=tk} :=
 Hf _ k _ _ _ x.st (by rw[he];exact fun h' tk' v t' ex G' rv=>H h' tk' v (x.step t' ex G') ex rv)
theorem SSk.keeps (x:SSk cx g h0 B l n A env V ρ k s h tk) {h':Heap}{tk':Nat}(ht:1≤tk') (hk:Keeps' h h'):SSk cx g h0 B l n A env V ρ k s h' tk':=x.step ht (.of_keeps hk) (x.st.good.keeps hk)
theorem rk (R:RealCx cx) (hpos:0<g.toks.length) (hsm:sm g.toks.length=true) (Hf:bC cx g V (env::l) n A env ρ f) (x:SSk cx g h0 B l n A env V ρ k s h tk) (k4:env.kindOf "min"=some .globalImplicit) {p q r t u v p1 p2 p3:Pos}{e1 e2:Expr}{op:Operator}
 (vT:∀ p q,f (uv p q) k=.ok (.toks g.toks) k) (vA:f (.Attribute (.Name "self" p1) "at" p2) k=.ok (.py (.int k)) k) (vL:f (.BinOp e1 op e2 p3) k=.ok (.py (.int ((g.toks.length:Int)-1))) k)
 (H:∀ h' tk' va,SSk cx g h0 B l n A env V ρ k s h' tk'→P va {s with heap:=h',toks:=tk'}) :
 wpAny (model cx.prog cx.w) A (eval (.Attribute (.Subscript (uv p q) (.Call (.Name "min" r) [.Attribute (.Name "self" p1) "at" p2,.BinOp e1 op e2 p3] [] t) u) "at" v) env) P E {s with heap:=h,toks:=tk}:=by
 have F:=dS R
 refine Attribute_any_ (Subscript_ (oW Hf x (vT _ _) fun h5 tk5 v5 x5 _ rv5=>?_)) ?_
 ·rw[aU (by intro _ _ _;nofun)]
  refine wpAny_bind (cr x5.st k4 (by rfl) (by rw[R.K];exact M7 _) fun w rw=>?_)
  obtain rfl:=rw
  refine callWith_of (P:=fun _=>True) rfl (fun h' _=>dj _) ?_
  refine evalArgs_plain ?_
  show wpAny _ _ (spliced (backTo _ (starEach [.Attribute (.Name "self" p1) "at" p2,.BinOp e1 op e2 p3] env))) _ _ _
  refine wpAny_items_cons (oW Hf x5 vA fun h6 tk6 v6 x6 e6 rv6=>?_)
  obtain⟨t6,rfl⟩:=au rv6
  refine wpAny_items_cons (oW Hf x6 vL fun h7 tk7 v7 x7 e7 rv7=>?_)
  obtain⟨t7,rfl⟩:=au rv7
  refine wpAny_items_nil ⟨trivial,?_⟩
  refine wpAny_with_toks x7.st.tk (min_two_ints x7.st.ao.handled fun h8 tk8 hk8 (ht8:1≤tk8)=>?_)
  have x8:=x7.keeps ht8 hk8
  obtain⟨j,tj,hj,ej⟩:=EG (k:=k) hpos t6 t7
  rw[ej]
  have it:ah cx.K cx.dl (.toks g.toks) (.py (.int (Int.ofNat j)))=some (.tok (g.toks[j]).1 (g.toks[j]).2.1 (g.toks[j]).2.2):=by
   show(if sm j=true then(g.toks[j]?).map fun t=>D.tok t.1 t.2.1 t.2.2 else none)=_
   rw[if_pos (show sm j=true from Nat.ble_eq.mpr (Nat.le_trans (Nat.le_of_lt hj) (Nat.ble_eq.mp hsm))),List.getElem?_eq_getElem hj];rfl
  refine wpAny_with_toks (s:={s with heap:=h8,toks:=tk8}) ht8 (sH (s:={s with heap:=h8,toks:=tk8}) F.dict x8.st.good (by rfl) (rv5.ext ((e6.trans e7).trans (.of_keeps hk8)) x5.st.good.WV) (ck (Int.ofNat j) tj) it fun h9 tk9 v9 hk9 rv9 (ht9:1≤tk9)=>?_)
  have x9:=x8.keeps (tk':=tk9+1) (Nat.le_add_left 1 _) hk9
  obtain⟨y,dx,es,nn,u1,u2,va,rfl,y1,y2,y3,y4,y5,y6⟩:=rv9
  exact fV (cx:=cx) (s:={s with heap:=h9,toks:=tk9}) x9.st.good.X (of_hideAll _ y1) (of_hideAll _ y2) (F.tG _) F.tD F.tA y5 y6 (H h9 (tk9+1) va x9)
 ·rfl
end
section
variable {cx:Sx}{g:Gh}{V0 V:List Addr}{me:Option Addr}{k n:Nat}{A:Around}{l:List Env}{s:Shared}{Q E:Value→Shared→Prop}
theorem rj (R:RealCx cx) {env:Env}{V':List Addr}{h₁:Heap}{ρ:Rho}{h9:Heap}{tk9:Nat}{x:Str}{t4:Tok}{va:Value}{m:Nat}(x9:SSk cx (g.at V (some m)) s.heap ⟨h₁,V',V'⟩ l (n+4) (A.deeper env) env V' ρ k s h9 tk9)
 (hq:∀ h' tk' x,1≤tk'→MadeF cx (g.at V0 me) V k s.heap h' x→Q (.ref x) {s with heap:=h',toks:=tk'}):wpAny (model cx.prog cx.w) (A.deeper env) (call (.ref 72) [.str x t4,va]) Q E {s with heap:=h9,toks:=tk9}:=by
 have G9:=x9.st.good
 have X72:ExcCls cx.K "Exception" 72 [.ref 47,.type "Exception",.type "BaseException",.type "object"] 37:=⟨by decide,by decide,by decide,by rw[R.K];exact fi1 _,by rw[R.K];exact fi2 _⟩
 have hgf:h9.get? 72=_:=G9.X _ _ (by rw[R.K];exact rg _)
 refine yI PySem.F.excBase_Exception X72 G9.X hgf (by rw[sizeLine_eq];show(2:Nat)≤_;decide) fun A' a1 a2 (a3:A'.depth≤(A.deeper env).depth+1) (a4:A'.units≤(A.deeper env).units+20)=>?_
 have kp0:Keeps' h9 ((h9.push {cls:=Value.type "tuple",data:=Data.seq [Value.str x t4,va].toArray}).push (i4 none h9.objs.size)):=fun b o e=>Heap.get?_push_of_some _ (Heap.get?_push_of_some _ e)
 have he0:=Bh h9 {cls:=Value.type "tuple",data:=Data.seq [Value.str x t4,va].toArray} h9.objs.size
 have lt9:∀{b o},h9.get? b=some o→b≠h9.objs.size+1:=fun e q=>by have h1:=Heap.lt_size e;rw[q]at h1;exact absurd h1 (Nat.not_lt_of_le (Nat.le_succ _))
 show wpAny _ _ _ _ _ {s with heap:=(h9.push {cls:=Value.type "tuple",data:=Data.seq [Value.str x t4,va].toArray}).push (i4 none h9.objs.size),toks:=tk9}
 generalize(h9.push {cls:=Value.type "tuple",data:=Data.seq [Value.str x t4,va].toArray}).push (i4 none h9.objs.size)=hh at kp0 he0 ⊢
 generalize h9.objs.size+1=e at lt9 he0 ⊢
 have nw:∀{h:Heap},(∀ o,h.get? e=some o→False)→h.get? e=none:=fun {h} H=>by
  induction q:h.get? e using Option.casesOn with
  |none=>rfl
  |some o=>exact(H o q).elim
 have d1:=x9.st.ao.depth
 have d2:=x9.st.ao.units
 have ao':AOk A' (n+1) (env::l):=⟨a2.trans x9.st.ao.handled,a1.trans x9.st.ao.frames,by omega,by omega⟩
 refine Ba R (n:=n) (V0:=V) (me:=some m) (V:=V') (k:=k) (l:=env::l) (s:={s with heap:=hh,toks:=tk9}) ao' (x9.st.ch.ext (.of_keeps kp0)) (G9.keeps kp0) x9.st.tk he0 (nw fun o q=>lt9 (G9.keep _ _ q) rfl) fun h10 tk10 d t' ht10 he10 xb=>⟨rfl,?_⟩
 have kp':Keeps' h9 h10:=fun b o e=>xb b o (lt9 e) (kp0 b o e)
 refine hq h10 tk10 e ht10 ⟨x9.ext.trans (.of_keeps kp'),((x9.shrinkG).to V0 me).keeps (s:={s with heap:=h9,toks:=tk9}) kp',nw fun o q=>?_,t',some d,_,by rw[R.gf];exact he10⟩
 by_cases hw:e∈(g.at V (some m)).W cx
 ·exact let⟨o',e'⟩:=G9.alive _ (G9.WV _ hw);lt9 e' rfl
 ·exact lt9 (x9.ext.keep _ _ hw q) rfl
theorem i2 (R:RealCx cx) (hne:g.toks≠[]) (hsm:sm g.toks.length=true) (n:Nat):dJ cx g (n+5):=by
 refine⟨582,by rw[R.K,R.rc];exact fi3 _,by rw[R.K];exact fi4 _,fun V0 V me k x t s A l Q E ao ch G ht hr hq=>?_⟩
 refine cw (args:=[.rdr,.py (.str x)]) (k:=k) (n:=n+4) ao ch G ht rfl ⟨⟨hr,rfl⟩,bO _ _,trivial⟩ (by rw[R.K];exact Jv _) (by rw[R.K];exact Kx _ _ _) (Kn _) (by rw[R.K];exact JD _) fun env V' h₁ tk₁ N=>?_
 obtain⟨sc1,sc2,sc3,sc4⟩:=GK cx.w.params
 have O:OOk cx (g.at V (some 582)) (fun _ _ _=>.no) (n+4):=fun _ _ _ _ _ _ _ _ _ _ _ _ _ _ _ _ _ _ hp=>hp.elim
 have Hf:=(gb (dS R) O N.ab 8).1 V' (env::l) env (fdK cx.w.params 582).scope [(("self":Str),.rdr),(("what":Str),.py (.str x))] N.sc
 have vT:∀ p q,evE (cx.C (g.at V (some 582)) fun _ _ _=>.no) (fdK cx.w.params 582).scope 8 [(("self":Str),.rdr),(("what":Str),.py (.str x))] (uv p q) k=.ok (.toks g.toks) k:=fun p q=>by kernel_rfl
 have vA:∀ p q,evE (cx.C (g.at V (some 582)) fun _ _ _=>.no) (fdK cx.w.params 582).scope 8 [(("self":Str),.rdr),(("what":Str),.py (.str x))] (.Attribute (.Name "self" p) "at" q) k=.ok (.py (.int k)) k:=fun p q=>by kernel_rfl
 have vW:∀ p,evE (cx.C (g.at V (some 582)) fun _ _ _=>.no) (fdK cx.w.params 582).scope 8 [(("self":Str),.rdr),(("what":Str),.py (.str x))] (.Name "what" p) k=.ok (.py (.str x)) k:=fun p=>by kernel_rfl
 have vL:∀ p q r t u v,evE (cx.C (g.at V (some 582)) fun _ _ _=>.no) (fdK cx.w.params 582).scope 8 [(("self":Str),.rdr),(("what":Str),.py (.str x))] (.BinOp (.Call (.Name "len" p) [uv q r] [] t) .Sub (.Constant (.int 1) 0 u) v) k=.ok (.py (.int ((g.toks.length:Int)-1))) k:=fun p q r t u v=>by
  have e2:evE (cx.C (g.at V (some 582)) fun _ _ _=>.no) (fdK cx.w.params 582).scope 8 [(("self":Str),.rdr),(("what":Str),.py (.str x))] (.BinOp (.Call (.Name "len" p) [uv q r] [] t) .Sub (.Constant (.int 1) 0 u) v) k=(ofO ((smO g.toks.length).map fun(n:Nat)=>.py (.int n)) k).bind fun a k=>ofO (aK .Sub a (.py (.int 1))) k:=by
   rw[gQ R];kernel_rfl
  rw[e2,smO,if_pos hsm];rfl
 generalize evE (cx.C (g.at V (some 582)) fun _ _ _=>.no) (fdK cx.w.params 582).scope 8 [(("self":Str),.rdr),(("what":Str),.py (.str x))]=f at *
 have hpos:0<g.toks.length:=List.length_pos_iff.mpr hne
 refine wpAny_execs_cons (wpAny_If ?_)
 rw[arm_isTrue_UnaryOp]
 refine wpAny_bind (wpAny_isTrue_value (oW Hf N.ss (vT _ _) fun h2 tk2 v x2 _ rv=>?_) (by rfl))
 obtain⟨a,vs,rfl,⟨o,nn,q1,q2,q3⟩,ta⟩:=rv
 have hvl:vs.length=g.toks.length:=ta.length
 refine wpAny_truthy_list (bE (of_hideAll _ q1) q2 q3) (by rw[List.size_toArray,hvl];exact oZ hsm) (wpAny_pure ?_)
 rw[show(!vs.toArray.isEmpty)=true by induction vs using List.casesOn with
  |nil=>exact absurd (hvl▸hpos) (Nat.lt_irrefl _)
  |cons=>rfl]
 refine wpAny_execs_nil ?_
 have x3:SSk cx (g.at V (some 582)) s.heap ⟨h₁,V',V'⟩ l (n+4) (A.deeper env) env V' _ k s h2 (tk2+1+1):=SSk.keeps x2 (Nat.le_add_left 1 _) fun _ _ e=>e
 refine wpAny_execs_cons (wpAny_Return_some ?_)
 rw[aU (by intro _ _ _;nofun)]
 refine wpAny_bind (cr x3.st ((N.kof "GrammarFault").trans sc3) (by rfl) (by rw[R.K];exact M9 _) fun w rw=>?_)
 obtain rfl:=rw
 refine callWith_of (P:=fun h'=>cx.K.In h') rfl (fun h' X=>keeps_K (by rw[R.K];exact M1 _) h' X) ?_
 refine evalArgs_plain ?_
 show wpAny _ _ (spliced (backTo _ (starEach [.Name "what" ⟨487,28,487,32⟩,.Attribute (.Subscript (uv ⟨487,34,487,38⟩ ⟨487,34,487,45⟩) (.Call (.Name "min" ⟨487,46,487,49⟩) [_,_] [] ⟨487,46,487,80⟩) ⟨487,34,487,81⟩) "at" ⟨487,34,487,84⟩] env))) _ _ _
 refine wpAny_items_cons (oW Hf x3 (vW _) fun h4 tk4 v4 x4 _ rv4=>?_)
 obtain⟨t4,rfl⟩:=av rv4
 exact wpAny_items_cons (rk (g:=g.at V (some 582)) R hpos hsm Hf x4 ((N.kof "min").trans sc4) vT (vA _ _) (vL _ _ _ _ _ _) fun h9 tk9 va x9=>wpAny_items_nil ⟨x9.st.good.X,rj R x9 hq⟩)
end
theorem IJ (P:Params):makesIn (Hd.kM P) 164=true:=by kernel_rfl
theorem II (P:Params):makesIn (Hd.kM P) 714=true:=by kernel_rfl
theorem EV (P:Params):findIn (Hd.kM P) (.ref 164) "__init__"=some (some (.ref 154)):=by kernel_rfl
theorem EU (P:Params):findIn (Hd.kM P) (.ref 714) "__init__"=some (some (.ref 560)):=by kernel_rfl
theorem FJ (P:Params):typeIn (Hd.kM P) (.ref 154)=some (.type "function"):=by kernel_rfl
theorem FH (P:Params):typeIn (Hd.kM P) (.ref 560)=some (.type "function"):=by kernel_rfl
theorem GP (P:Params):findIn (Hd.kM P) (.ref 164) "__setattr__"=some (some (.builtin "object.__setattr__")):=by kernel_rfl
theorem Ih (P:Params):plainOver (Hd.kM P) 164=true:=by kernel_rfl
theorem FT (P:Params):takerIn (Hd.kM P) 164 "kind"=some none∧takerIn (Hd.kM P) 164 "worth"=some none∧takerIn (Hd.kM P) 164 "at"=some none∧takerIn (Hd.kM P) 164 "is_in_a"=some none:=⟨by kernel_rfl,by kernel_rfl,by kernel_rfl,by kernel_rfl⟩
theorem FS (P:Params):takerIn (Hd.kM P) 714 "tokens"=some none∧takerIn (Hd.kM P) 714 "named"=some none∧takerIn (Hd.kM P) 714 "shared"=some none:=⟨by kernel_rfl,by kernel_rfl,by kernel_rfl⟩
theorem Jx (P:Params):(Hd.kM P).lookup 154=some ⟨.type "function",none,.func (fdK P 154),#[]⟩:=by kernel_rfl
theorem Jw (P:Params):(Hd.kM P).lookup 560=some ⟨.type "function",none,.func (fdK P 560),#[]⟩:=by kernel_rfl
theorem JF (P:Params):ir (Hd.kM P) (fdK P 154)=true:=by kernel_rfl
theorem JE (P:Params):ir (Hd.kM P) (fdK P 560)=true:=by kernel_rfl
theorem Kz (P:Params) (a b c d:D):dk (Hd.kM P) (fdK P 154) [a,b,c,d]=some [(("self":Str),a),(("kind":Str),b),(("worth":Str),c),(("at":Str),d),(("is_in_a":Str),.py (.bool false))]:=by kernel_rfl
theorem Ky (P:Params) (a b:D):dk (Hd.kM P) (fdK P 560) [a,b]=some [(("self":Str),a),(("tokens":Str),b),(("at":Str),.py (.int 0))]:=by kernel_rfl
theorem GN (P:Params):(fdK P 154).scope.names.lookup ("self":Str)=some NameKind.local∧(fdK P 154).scope.names.lookup ("kind":Str)=some NameKind.local∧(fdK P 154).scope.names.lookup ("worth":Str)=some NameKind.local∧(fdK P 154).scope.names.lookup ("at":Str)=some NameKind.local∧(fdK P 154).scope.names.lookup ("is_in_a":Str)=some NameKind.local:=⟨by kernel_rfl,by kernel_rfl,by kernel_rfl,by kernel_rfl,by kernel_rfl⟩
theorem GL (P:Params):(fdK P 560).scope.names.lookup ("self":Str)=some NameKind.local∧(fdK P 560).scope.names.lookup ("tokens":Str)=some NameKind.local∧(fdK P 560).scope.names.lookup ("at":Str)=some NameKind.local:=⟨by kernel_rfl,by kernel_rfl,by kernel_rfl⟩
theorem Kq (P:Params):(fdK P 154).body=.stmts [
 .Assign [.Attribute (.Name "self" ⟨76,8,76,12⟩) "kind" ⟨76,8,76,17⟩] (.Name "kind" ⟨76,20,76,24⟩) ⟨76,8,76,24⟩,
 .Assign [.Attribute (.Name "self" ⟨77,8,77,12⟩) "worth" ⟨77,8,77,18⟩] (.Name "worth" ⟨77,21,77,26⟩) ⟨77,8,77,26⟩,
 .Assign [.Attribute (.Name "self" ⟨78,8,78,12⟩) "at" ⟨78,8,78,15⟩] (.Name "at" ⟨78,18,78,20⟩) ⟨78,8,78,20⟩,
 .Assign [.Attribute (.Name "self" ⟨79,8,79,12⟩) "is_in_a" ⟨79,8,79,20⟩] (.Name "is_in_a" ⟨79,23,79,30⟩) ⟨79,8,79,30⟩]:=by kernel_rfl
theorem Ko (P:Params):(fdK P 560).body=.stmts [
 .Assign [.Attribute (.Name "self" ⟨471,8,471,12⟩) "tokens" ⟨471,8,471,19⟩] (.Name "tokens" ⟨471,22,471,28⟩) ⟨471,8,471,28⟩,
 .Assign [.Attribute (.Name "self" ⟨472,8,472,12⟩) "at" ⟨472,8,472,15⟩] (.Name "at" ⟨472,18,472,20⟩) ⟨472,8,472,20⟩,
 .Assign [.Attribute (.Name "self" ⟨473,8,473,12⟩) "named" ⟨473,8,473,18⟩] (.Dict [] [] ⟨473,21,473,23⟩) ⟨473,8,473,23⟩,
 .Assign [.Attribute (.Name "self" ⟨474,8,474,12⟩) "shared" ⟨474,8,474,19⟩] (.Dict [] [] ⟨474,22,474,24⟩) ⟨474,8,474,24⟩]:=by kernel_rfl
section
variable {cx:Sx}{g:Gh}{V0 V:List Addr}{me:Option Addr}{k n:Nat}{A:Around}{l:List Env}{s:Shared}{Q E:Value→Shared→Prop}
structure Opened (cx:Sx) (s:Shared) (env:Env) (x dx:Addr) (C:Addr) (m:Str→Option Value) (h:Heap) (es:List DictEntry) (n:Nat):Prop where
 kd:env.scope.kind=.function
 fz:s.heap.get? env.locals=none
 hz:cx.H0.get? dx=none
 xd:x≠dx
 X:cx.K.In h
 ns:h.Ns env.locals m
 self:m "self"=some (.ref x)∧env.kindOf "self"=some .local
 ob:h.get? x=some (instObj C dx)
 di:h.get? dx=some (dictOf es n)
 eb:Heap.ExtBut dx s.heap h
 al:∃ o,s.heap.get? dx=some o
theorem Opened.eval {env:Env}{x dx C:Addr}{m:Str→Option Value}{h:Heap}{es:List DictEntry}{nn:Nat}(O:Opened cx s env x dx C m h es nn) {y:Str}{p:Pos}{v:Value}{M:Model}{tk:Nat}(hv:m y=some v) (hk:env.kindOf y=some .local) (hd:(y==("__debug__":Str))=false) (hq:Q v {s with heap:=h,toks:=tk}):wpAny M A (eval (.Name y p) env) Q E {s with heap:=h,toks:=tk} :=
 wpAny_Name (wpAny_loadName_local O.kd hk O.ns hv hq) hd
theorem Opened.put {env:Env}{x dx C:Addr}{m:Str→Option Value}{h:Heap}{es:List DictEntry}{nn:Nat}(O:Opened cx s env x dx C m h es nn) {name:Str}{v:Value}{tk:Nat}{Qu:Unit→Shared→Prop}
 (hs:findIn cx.K (.ref C) "__setattr__"=some (some (.builtin "object.__setattr__"))) (hp:plainOver cx.K C=true) (ht:takerIn cx.K C name=some none) (hh:hasDictIn cx.K C=true) (hl:(getL name es).isSome=true)
 (e:(putL name (PyData.keyHash cx.w.params name) (.str name (tk+1)) v es,putN name es nn)=(es++[⟨PyData.keyHash cx.w.params name,.str name (tk+1),v⟩],nn+1)) (hz:es.length+1≤1000)
 (hq:∀ h',Opened cx s env x dx C m h' (es++[⟨PyData.keyHash cx.w.params name,.str name (tk+1),v⟩]) (nn+1)→Qu () {s with heap:=h',toks:=tk+2}):wpAny (model cx.prog cx.w) A (setAttr (.ref x) name v) Qu E {s with heap:=h,toks:=tk}:=by
 refine lZ (s:={s with heap:=h,toks:=tk}) O.X ⟨O.ob,rfl,rfl,O.di⟩ rfl hs hp ht hh hl e (by rw[List.length_append];exact hz) fun h' q1 q2=>hq h' ?_
 have dl:env.locals≠dx:=fun q=>by
  obtain⟨o,e⟩:=O.al
  rw[← q,O.fz]at e;injection e
 refine⟨O.kd,O.fz,O.hz,O.xd,fun b o q=>(q2.2 b fun q'=>?_).trans (O.X _ _ q),?_,O.self,(q2.2 _ O.xd).trans O.ob,q1,fun b o hb e=>(q2.2 b hb).trans (O.eb b o hb e),O.al⟩
 ·rw[q']at q
  have:=cx.X _ _ q
  first | exact nn (O.hz.symm.trans this) | (rw[O.hz]at this;injection this)
 ·obtain⟨o,es,ep,e,r⟩:=O.ns
  exact⟨o,es,ep,(q2.2 _ dl).trans e,r⟩
structure SetC (cx:Sx) (C:Addr):Prop where
 hs:findIn cx.K (.ref C) "__setattr__"=some (some (.builtin "object.__setattr__"))
 hp:plainOver cx.K C=true
 hh:hasDictIn cx.K C=true
theorem Opened.asg {env:Env}{x dx C:Addr}{m:Str→Option Value}{h:Heap}{es:List DictEntry}{nn:Nat}(O:Opened cx s env x dx C m h es nn) (K:SetC cx C) {name y:Str}{v:Value}{tk:Nat}{p1 p2 p3 p4:Pos}{r:List Stmt}{Qf:Flow→Shared→Prop}(hv:m y=some v) (hk:env.kindOf y=some .local) (hd:(y==("__debug__":Str))=false)
 (ht:takerIn cx.K C name=some none) (hl:(getL name es).isSome=true)
 (e:(putL name (PyData.keyHash cx.w.params name) (.str name (tk+1)) v es,putN name es nn)=(es++[⟨PyData.keyHash cx.w.params name,.str name (tk+1),v⟩],nn+1)) (hz:es.length+1≤1000)
 (hq:∀ h',Opened cx s env x dx C m h' (es++[⟨PyData.keyHash cx.w.params name,.str name (tk+1),v⟩]) (nn+1)→wpAny (model cx.prog cx.w) A (execs r env) Qf E {s with heap:=h',toks:=tk+2}) :
 wpAny (model cx.prog cx.w) A (execs (.Assign [.Attribute (.Name "self" p1) name p2] (.Name y p3) p4::r) env) Qf E {s with heap:=h,toks:=tk} :=
 wpAny_execs_cons (plainObj_wpAny_Assign_Attribute (O.eval hv hk hd (O.eval O.self.1 O.self.2 (by rfl) (O.put K.hs K.hp ht K.hh hl e hz hq))))
theorem opened {env:Env}{V':List Addr}{h₁:Heap}{tk₁:Nat}{fd:FuncData}{f:Addr}{ρ:Rho}{x dx C:Addr}(N:Entered cx (g.at V (some f)) s l n A fd env V V' ρ k h₁ tk₁) (hself:aH ρ "self"=some (.glob (.ref x))) (sc:fd.scope.names.lookup ("self":Str)=some NameKind.local)
 (hx:s.heap.get? x=some (instObj C dx)) (hd:s.heap.get? dx=some (dictOf [] 0)) (xd:x≠dx) (hz:cx.H0.get? dx=none) :
 ∃ m,Opened cx s env x dx C m h₁ [] 0∧∀ y d,aH ρ y=some d→fd.scope.names.lookup y=some .local→∃ v,m y=some v∧Rep cx (g.at V (some f)) V' h₁ v d:=by
 obtain⟨m,hn,hl,_⟩:=N.ss.st.fr.loc
 have k1:=(N.kof "self").trans sc
 obtain⟨_,m1,e1⟩:=hl "self" _ hself k1
 obtain rfl:=e1
 have hLn:s.heap.get? env.locals=none:=by
  rcases N.new _ N.ss.st.fr.LV with q | q
  ·exact absurd q N.ss.fz
  ·exact q
 exact⟨m,⟨N.ss.st.fr.kind,hLn,hz,xd,N.ss.st.good.X,hn,⟨m1,k1⟩,N.keep _ _ hx,N.keep _ _ hd,fun b o _ e=>N.keep _ _ e,⟨_,hd⟩⟩,fun y d e q=>hl y d e ((N.kof y).trans q)⟩
theorem uY {Rr:Result→Shared→Prop}(R:RealCx cx) (ao:AOk A (n+1) l) (ch:Chain cx g l s.heap) (G:Good cx (g.at V0 me) V s.heap k) (ht:1≤s.toks) {x dx:Addr}{kd w:Str}{t1 t2:Tok}{va:Value}
 (hx:s.heap.get? x=some (instObj 164 dx)) (hd:s.heap.get? dx=some (dictOf [] 0)) (xd:x≠dx) (hz:cx.H0.get? dx=none)
 (hq:∀ h' tk' es nn u1 u2,1≤tk'→h'.get? dx=some (dictOf es nn)→getL "kind" es=some (some (.str kd u1))→getL "worth" es=some (some (.str w u2))→getL "at" es=some (some va)→Heap.ExtBut dx s.heap h'→Rr (.ok (.ret .none)) {s with heap:=h',toks:=tk'}) :
 codeAny (model cx.prog cx.w) A (.call (.ref 154) ⟨[.ref x,.str kd t1,.str w t2,va],[]⟩) Rr s:=by
 refine gK (args:=[.glob (.ref x),.py (.str kd),.py (.str w),.glob va]) (k:=k) ao ch G ht rfl ⟨rfl,bO _ _,bO _ _,rfl,trivial⟩ (by rw[R.K];exact Jx _) (by rw[R.K];exact Kz _ _ _ _ _) (Kq _) (by rw[R.K];exact JF _) fun env V' h₁ tk₁ N=>?_
 obtain⟨c1,c2,c3,c4,c5⟩:=GN cx.w.params
 obtain⟨m,O1,hm⟩:=opened N (by rfl) c1 hx hd xd hz
 obtain⟨_,m2,r2⟩:=hm "kind" (.py (.str kd)) (by rfl) c2
 obtain⟨u1,rfl⟩:=av r2
 obtain⟨_,m3,r3⟩:=hm "worth" (.py (.str w)) (by rfl) c3
 obtain⟨u2,rfl⟩:=av r3
 obtain⟨_,m4,e4⟩:=hm "at" (.glob va) (by rfl) c4
 obtain rfl:_=va:=e4
 obtain⟨_,m5,r5⟩:=hm "is_in_a" (.py (.bool false)) (by rfl) c5
 obtain⟨q1,q2,q3,q4⟩:=FT cx.w.params
 have K:SetC cx 164:=⟨by rw[R.K];exact GP _,by rw[R.K];exact Ih _,by rw[R.K];exact JI _⟩
 rw[← R.K]at q1 q2 q3 q4
 exact O1.asg K m2 ((N.kof _).trans c2) (by rfl) q1 (by rfl) (by rfl) (show(0:Nat)+1≤1000 by decide) fun h2 O2=>O2.asg K m3 ((N.kof _).trans c3) (by rfl) q2 (by rfl) (by rfl) (show(1:Nat)+1≤1000 by decide) fun h3 O3 =>
  O3.asg K m4 ((N.kof _).trans c4) (by rfl) q3 (by rfl) (by rfl) (show(2:Nat)+1≤1000 by decide) fun h4 O4=>O4.asg K m5 ((N.kof _).trans c5) (by rfl) q4 (by rfl) (by rfl) (show(3:Nat)+1≤1000 by decide) fun h5 O5 =>
   wpAny_execs_nil (hq h5 _ _ _ u1 u2 (Nat.le_add_left 1 _) O5.di (by rfl) (by rfl) (by rfl) O5.eb)
theorem Opened.keeps {env:Env}{x dx C:Addr}{m:Str→Option Value}{h h':Heap}{es:List DictEntry}{nn:Nat}(O:Opened cx s env x dx C m h es nn) (kp:∀ b o,h.get? b=some o→h'.get? b=some o):Opened cx s env x dx C m h' es nn:=by
 refine⟨O.kd,O.fz,O.hz,O.xd,O.X.keeps kp,?_,O.self,kp _ _ O.ob,kp _ _ O.di,fun b o hb e=>kp _ _ (O.eb b o hb e),O.al⟩
 obtain⟨o,es,ep,e,r⟩:=O.ns
 exact⟨o,es,ep,kp _ _ e,r⟩
theorem vZ {Rr:Result→Shared→Prop}(R:RealCx cx) (ao:AOk A (n+1) l) (ch:Chain cx g l s.heap) (G:Good cx (g.at V0 me) V s.heap k) (ht:1≤s.toks) {x dx TL:Addr}
 (hx:s.heap.get? x=some (instObj 714 dx)) (hd:s.heap.get? dx=some (dictOf [] 0)) (xd:x≠dx) (hz:cx.H0.get? dx=none)
 (hq:∀ h' tk' tk t1 t2 t3 t4 a1 a2 nn,1≤tk'→h'.get? dx=some (dictOf (kA cx.w.params TL 0 tk t1 t2 t3 t4 a1 a2) nn)→Heap.ExtBut dx s.heap h'→Rr (.ok (.ret .none)) {s with heap:=h',toks:=tk'}) :
 codeAny (model cx.prog cx.w) A (.call (.ref 560) ⟨[.ref x,.ref TL],[]⟩) Rr s:=by
 refine gK (args:=[.glob (.ref x),.glob (.ref TL)]) (k:=k) ao ch G ht rfl ⟨rfl,rfl,trivial⟩ (by rw[R.K];exact Jw _) (by rw[R.K];exact Ky _ _ _) (Ko _) (by rw[R.K];exact JE _) fun env V' h₁ tk₁ N=>?_
 obtain⟨c1,c2,c3⟩:=GL cx.w.params
 obtain⟨m,O1,hm⟩:=opened N (by rfl) c1 hx hd xd hz
 obtain⟨_,m2,e2⟩:=hm "tokens" (.glob (.ref TL)) (by rfl) c2
 obtain rfl:_=Value.ref TL:=e2
 obtain⟨_,m3,r3⟩:=hm "at" (.py (.int 0)) (by rfl) c3
 obtain⟨u3,rfl⟩:=au r3
 obtain⟨q1,q3,q4⟩:=FS cx.w.params
 have K:SetC cx 714:=⟨by rw[R.K];exact JL _,by rw[R.K];exact JM _,by rw[R.K];exact JN _⟩
 rw[← R.K]at q1 q3 q4
 refine O1.asg K m2 ((N.kof _).trans c2) (by rfl) q1 (by rfl) (by rfl) (show(0:Nat)+1≤1000 by decide) fun h2 O2=>O2.asg K m3 ((N.kof _).trans c3) (by rfl) (by rw[R.K];exact JK _) (by rfl) (by rfl) (show(1:Nat)+1≤1000 by decide) fun h3 O3=>?_
 have O3':=O3.keeps (h':=h3.push {cls:=.type "dict",data:=.dict #[]}) fun b o e=>Heap.get?_push_of_some _ e
 refine wpAny_execs_cons (plainObj_wpAny_Assign_Attribute (wpAny_Dict_empty (O3'.eval O3.self.1 O3.self.2 (by rfl) (O3'.put K.hs K.hp q3 K.hh (by rfl) (by rfl) (show(2:Nat)+1≤1000 by decide) fun h4 O4=>?_))))
 have O4':=O4.keeps (h':=h4.push {cls:=.type "dict",data:=.dict #[]}) fun b o e=>Heap.get?_push_of_some _ e
 refine wpAny_execs_cons (plainObj_wpAny_Assign_Attribute (wpAny_Dict_empty (O4'.eval O4.self.1 O4.self.2 (by rfl) (O4'.put K.hs K.hp q4 K.hh (by rfl) (by rfl) (show(3:Nat)+1≤1000 by decide) fun h5 O5=>?_))))
 refine wpAny_execs_nil ?_
 exact hq h5 _ u3 _ _ _ _ _ _ _ (Nat.le_add_left 1 _) O5.di O5.eb
theorem oJ {M:Model}{c:Code}(ao:AOk A (n+2) l) (hc:A.under c={A with depth:=(A.under c).depth,units:=(A.under c).units}) (h1:(A.under c).depth≤A.depth+1) (h2:(A.under c).units≤A.units+4):AOk (A.under c) (n+1) l:=by
 have a1:=ao.depth
 have a2:=ao.units
 exact⟨by rw[hc];exact ao.handled,by rw[hc];exact ao.frames,by omega,by omega⟩
theorem zl (R:RealCx cx) (ao:AOk A (n+2) l) (ch:Chain cx g l s.heap) (G:Good cx (g.at V0 me) V s.heap k) (ht:1≤s.toks) {kd w:Str}{t1 t2:Tok}{va:Value}
 (hq:∀ h' tk' x dx es nn u1 u2,1≤tk'→s.heap.get? x=none→s.heap.get? dx=none→h'.get? x=some (instObj 164 dx)→h'.get? dx=some (dictOf es nn)→getL "kind" es=some (some (.str kd u1))→getL "worth" es=some (some (.str w u2))→getL "at" es=some (some va) →
  Keeps' s.heap h'→Q (.ref x) {s with heap:=h',toks:=tk'}) :
 wpAny (model cx.prog cx.w) A (call (.ref 164) [.str kd t1,.str w t2,va]) Q E s:=by
 obtain⟨h,gg,dd,tt,os⟩:=s
 have X:=G.X
 refine wpAny_call (make_core (makes_of X (by rw[R.K];exact IJ _)) (looks_findIn X (by rw[R.K];exact EV _)) (fun self=>bind_fn X self (by rw[R.K];exact FJ _)) (.inl rfl) ?_)
 have kp:∀ b o,h.get? b=some o→((h.push emptyDict).push (instObj 164 h.objs.size)).get? b=some o:=fun b o e=>Heap.get?_push_of_some _ (Heap.get?_push_of_some _ e)
 have n1:h.get? h.objs.size=none:=bv (Nat.le_refl _)
 have n2:h.get? (h.objs.size+1)=none:=bv (Nat.le_succ _)
 have hd1:((h.push emptyDict).push (instObj 164 h.objs.size)).get? h.objs.size=some (dictOf [] 0):=Heap.get?_push_of_some _ (Heap.get?_push_size _ rfl)
 have hx1:((h.push emptyDict).push (instObj 164 h.objs.size)).get? (h.objs.size+1)=some (instObj 164 h.objs.size):=by
  have:=Heap.get?_push_size (h.push emptyDict) (o:=instObj 164 h.objs.size) rfl
  rwa [Heap.size_push]at this
 refine uY R (V0:=V0) (me:=me) (V:=V) (k:=k) (s:=⟨(h.push emptyDict).push (instObj 164 h.objs.size),gg,dd,tt,os⟩) (oJ (M:=model cx.prog cx.w) ao rfl (by show A.depth+_≤_;exact Nat.le_refl _) (by first | exact Nat.le_refl _ | exact Nat.add_le_add_left (show(1:Nat)≤4 by decide) _)) (ch.ext (.of_keeps kp)) (G.keeps kp) ht hx1 hd1 (by exact Nat.succ_ne_self _) ?_ fun h' tk' es nn u1 u2 q1 q2 q3 q4 q5 q6=>?_
 ·induction q:cx.H0.get? h.objs.size using Option.casesOn with
  |none=>rfl
  |some o=>have:=G.keep _ _ q;first | exact nn (n1.symm.trans this) | (rw[n1]at this;cases this)
 ·exact⟨rfl,hq h' tk' _ _ es nn u1 u2 q1 n2 n1 (q6 _ _ (Nat.succ_ne_self _) hx1) q2 q3 q4 q5 fun b o e=>q6 _ _ (fun q=>by first | exact nn (n1.symm.trans (q▸e)) | (rw[q,n1]at e;injection e)) (kp b o e)⟩
theorem AR (R:RealCx cx) (ao:AOk A (n+2) l) (ch:Chain cx g l s.heap) (G:Good cx (g.at V0 me) V s.heap k) (ht:1≤s.toks) {TL:Addr}
 (hq:∀ h' tk' x dx tk t1 t2 t3 t4 a1 a2 nn,1≤tk'→x≠dx→s.heap.get? x=none→s.heap.get? dx=none→h'.get? x=some (instObj 714 dx)→h'.get? dx=some (dictOf (kA cx.w.params TL 0 tk t1 t2 t3 t4 a1 a2) nn) →
  Keeps' s.heap h'→Q (.ref x) {s with heap:=h',toks:=tk'}) :
 wpAny (model cx.prog cx.w) A (call (.ref 714) [.ref TL]) Q E s:=by
 obtain⟨h,gg,dd,tt,os⟩:=s
 have X:=G.X
 refine wpAny_call (make_core (makes_of X (by rw[R.K];exact II _)) (looks_findIn X (by rw[R.K];exact EU _)) (fun self=>bind_fn X self (by rw[R.K];exact FH _)) (.inl rfl) ?_)
 have kp:∀ b o,h.get? b=some o→((h.push emptyDict).push (instObj 714 h.objs.size)).get? b=some o:=fun b o e=>Heap.get?_push_of_some _ (Heap.get?_push_of_some _ e)
 have n1:h.get? h.objs.size=none:=bv (Nat.le_refl _)
 have n2:h.get? (h.objs.size+1)=none:=bv (Nat.le_succ _)
 have hd1:((h.push emptyDict).push (instObj 714 h.objs.size)).get? h.objs.size=some (dictOf [] 0):=Heap.get?_push_of_some _ (Heap.get?_push_size _ rfl)
 have hx1:((h.push emptyDict).push (instObj 714 h.objs.size)).get? (h.objs.size+1)=some (instObj 714 h.objs.size):=by
  have:=Heap.get?_push_size (h.push emptyDict) (o:=instObj 714 h.objs.size) rfl
  rwa [Heap.size_push]at this
 refine vZ R (V0:=V0) (me:=me) (V:=V) (k:=k) (s:=⟨(h.push emptyDict).push (instObj 714 h.objs.size),gg,dd,tt,os⟩) (oJ (M:=model cx.prog cx.w) ao rfl (by show A.depth+_≤_;exact Nat.le_refl _) (by first | exact Nat.le_refl _ | exact Nat.add_le_add_left (show(1:Nat)≤4 by decide) _)) (ch.ext (.of_keeps kp)) (G.keeps kp) ht hx1 hd1 (by exact Nat.succ_ne_self _) ?_ fun h' tk' tk t1 t2 t3 t4 a1 a2 nn q1 q2 q6=>?_
 ·induction q:cx.H0.get? h.objs.size using Option.casesOn with
  |none=>rfl
  |some o=>have:=G.keep _ _ q;first | exact nn (n1.symm.trans this) | (rw[n1]at this;cases this)
 ·exact⟨rfl,hq h' tk' _ _ tk t1 t2 t3 t4 a1 a2 nn q1 (Nat.succ_ne_self _) n2 n1 (q6 _ _ (Nat.succ_ne_self _) hx1) q2 fun b o e=>q6 _ _ (fun q=>by first | exact nn (n1.symm.trans (q▸e)) | (rw[q,n1]at e;injection e)) (kp b o e)⟩
end
noncomputable abbrev Tk3:=Str×Str×Int
noncomputable abbrev pyT (t:Tk3):PyData:=.tuple [.str t.1,.str t.2.1]
inductive TokR (h0:Heap) (xs:List Addr) (h:Heap):Value→Tk3→Prop
 |mk {x dx:Addr}{es:List DictEntry}{nn:Nat}{t1 t2:Tok}{va:Value}{t:Tk3}(nx:h0.get? x=none) (nd:h0.get? dx=none) (ox:x∉xs) (od:dx∉xs) (q1:h.get? x=some (instObj 164 dx)) (q2:h.get? dx=some (dictOf es nn))
  (r:getL "kind" es=some (some (.str t.1 t1))∧getL "worth" es=some (some (.str t.2.1 t2))∧getL "at" es=some (some va)∧handedIn va=true):TokR h0 xs h (.ref x) t
noncomputable def TokF (h0:Heap) (xs:List Addr) (h:Heap):List Value→List Tk3→Prop
 |[],[]=>True
 |v::vs,t::ts=>TokR h0 xs h v t∧TokF h0 xs h vs ts
 |_,_=>False
theorem TokR.mod {h0 h h':Heap}{xs:List Addr}(k:∀ b o,b∉xs→h.get? b=some o→h'.get? b=some o) {v:Value}{t:Tk3}(r:TokR h0 xs h v t):TokR h0 xs h' v t:=by
 obtain⟨a,b,c,d,q1,q2,r⟩:=r
 exact .mk a b c d (k _ _ c q1) (k _ _ d q2) r
theorem TokF.mod {h0 h h':Heap}{xs:List Addr}(k:∀ b o,b∉xs→h.get? b=some o→h'.get? b=some o):∀{vs:List Value}{ts:List Tk3},TokF h0 xs h vs ts→TokF h0 xs h' vs ts
 |[],[],_=>trivial
 |_::_,_::_,r=>⟨r.1.mod k,TokF.mod k r.2⟩
 |[],_::_,h=>h.elim
 |_::_,[],h=>h.elim
theorem TokF.snoc {h0 h:Heap}{xs:List Addr}{v:Value}{t:Tk3}:∀{vs:List Value}{ts:List Tk3},TokF h0 xs h vs ts→TokR h0 xs h v t→TokF h0 xs h (vs++[v]) (ts++[t])
 |[],[],_,q=>⟨q,trivial⟩
 |_::_,_::_,r,q=>⟨r.1,TokF.snoc r.2 q⟩
 |[],_::_,h,_=>h.elim
 |_::_,[],h,_=>h.elim
theorem TokF.all {h0 h h':Heap}{xs V:List Addr}(k:∀ b o,b∉xs→h.get? b=some o→h'.get? b=some o) (hV:∀ a∈V,∃ o,h0.get? a=some o):∀{vs:List Value}{ts:List Tk3},TokF h0 xs h vs ts→TokAll (hideAll h' V) 164 vs ts
 |[],[],_=>trivial
 |_::_,_::_,r=>by
  have out:∀{y},h0.get? y=none→y∉V:=fun e m=>let⟨o,e'⟩:=hV _ m;nn (e.symm.trans e')
  refine⟨?_,TokF.all k hV r.2⟩
  obtain⟨a,b,c,d,q1,q2,r⟩:=r.1
  exact⟨_,_,_,_,_,_,_,rfl,hideAll_get V (k _ _ c q1) (out a),hideAll_get V (k _ _ d q2) (out b),r⟩
 |[],_::_,h=>h.elim
 |_::_,[],h=>h.elim
noncomputable def scT:Scope:=⟨.function,[(".0",.local),("at",.local),("kind",.local),("worth",.local),("Token",.globalImplicit)],false,false,[]⟩
noncomputable abbrev ng:Expr:=.Tuple [.Name "at" ⟨711,58,711,60⟩,.Tuple [.Name "kind" ⟨711,63,711,67⟩,.Name "worth" ⟨711,69,711,74⟩] 0 ⟨711,62,711,75⟩] 0 ⟨711,58,711,75⟩
noncomputable abbrev KI:List Expr:=[.Name "kind" ⟨711,27,711,31⟩,.Name "worth" ⟨711,33,711,38⟩,.Tuple [.BinOp (.Name "at" ⟨711,41,711,43⟩) .Add (.Constant (.int 1) 0 ⟨711,46,711,47⟩) ⟨711,41,711,47⟩,.Constant (.int 12) 0 ⟨711,49,711,51⟩] 0 ⟨711,40,711,52⟩]
noncomputable abbrev rt:Expr:=.Call (.Name "Token" ⟨711,21,711,26⟩) KI [] ⟨711,21,711,53⟩
noncomputable abbrev itT:Expr:=.Call (.Name "enumerate" ⟨711,79,711,88⟩) [.Name "tokens" ⟨711,89,711,95⟩] [] ⟨711,79,711,96⟩
theorem MW (P:Params):d7 (Hd.kM P) "Token"=some (.glob (.ref 164)):=by kernel_rfl
theorem IH (P:Params):d7 (Hd.kM P) "enumerate"=some (.glob (.type "enumerate")):=by kernel_rfl
theorem I8 (P:Params):keepIn (Hd.kM P) (.ref 164)=true:=by kernel_rfl
theorem tu (i:Int) (t:Tk3):gq scT 4 ng (.py (.tuple [.int i,pyT t])) []=some [(("at":Str),.py (.int i)),(("kind":Str),.py (.str t.1)),(("worth":Str),.py (.str t.2.1))]:=by kernel_rfl
section
variable {cx:Sx}{g:Gh}{V:List Addr}{l:List Env}{n:Nat}{A:Around}{env:Env}{ρ:Rho}{k:Nat}{s:Shared}{Q E:Value→Shared→Prop}{C L e it lst:Addr}{items:Array Value}{toks:List Tk3}
structure TI (cx:Sx) (s:Shared) (C L e it lst:Addr) (items:Array Value) (toks:List Tk3) (i:Nat) (h:Heap) (ys:Array Value) (m:Str→Option Value):Prop where
 kp:Keeps' s.heap h
 ns:h.Ns C m
 st:(∃ old,IsEnum h e it i old)∧h.IsListIter it lst i∧h.IsList lst items
 dl:h.IsList L ys
 sz:ys.size=i
 tf:TokF s.heap [C,L,e,it] h ys.toList (toks.take i)
structure TB (cx:Sx) (g:Gh) (V:List Addr) (s:Shared) (C L e it lst:Addr) (items:Array Value) (toks:List Tk3):Prop where
 ra:∃ as,ReadsAll (hideAll s.heap V) items.toList (toks.map pyT) as
 ls:∃ o,s.heap.get? lst=some o
 ne:s.heap.get? e=none
 nit:s.heap.get? it=none
 nD:s.heap.get? L=none
 nC:s.heap.get? C=none
 eit:e≠it
 eD:e≠L
 eC:e≠C
 iD:it≠L
 iC:it≠C
 DC:L≠C
 sz:toks.length≤1000
theorem TB.size (B:TB cx g V s C L e it lst items toks):items.size=toks.length:=by
 obtain⟨as,ra⟩:=B.ra
 have:=readsAll_len ra
 rw[Array.length_toList,List.length_map]at this
 exact this
theorem TB.nones (B:TB cx g V s C L e it lst items toks):∀ b∈[C,L,e,it],s.heap.get? b=none:=mc B.nC (mc B.nD (mc B.ne (mc B.nit m0)))
theorem TB.old (B:TB cx g V s C L e it lst items toks) {b:Addr}{o:Obj}(q:s.heap.get? b=some o):b∉[C,L,e,it]:=fun m=>nn ((B.nones b m).symm.trans q)
theorem TB.noLs (B:TB cx g V s C L e it lst items toks) {b:Addr}(q:s.heap.get? b=none):b≠lst:=fun z=>let⟨_,e'⟩:=B.ls;nn (q.symm.trans (z▸e'))
theorem TB.CE (B:TB cx g V s C L e it lst items toks):C∉[e,it]:=fun m=>mc (P:=fun b=>b≠C) B.eC (mc B.iC m0) C m rfl
theorem TB.LE (B:TB cx g V s C L e it lst items toks):L∉[e,it]:=fun m=>mc (P:=fun b=>b≠L) B.eD (mc B.iD m0) L m rfl
theorem TB.ei (B:TB cx g V s C L e it lst items toks) {b:Addr}(q:b∉[C,L,e,it]):b∉[e,it]:=fun m=>q (.tail _ (.tail _ m))
noncomputable abbrev Hz (i:Int) (t:Tk3):Rho:=[(("at":Str),.py (.int i)),(("kind":Str),.py (.str t.1)),(("worth":Str),.py (.str t.2.1))]
theorem zm (R:RealCx cx) {cenv:Env}{V':List Addr}{i:Int}{t:Tk3}(hk:cenv.kindOf "Token"=some .globalImplicit) (ka:cenv.kindOf "at"=some .local) (kk:cenv.kindOf "kind"=some .local) (kw:cenv.kindOf "worth"=some .local) {h:Heap}{tk:Nat}(x:St cx g V' l (n+2) A cenv (Hz i t) k {s with heap:=h,toks:=tk})
 {P:Value→Shared→Prop}(hq:∀ h' tk' x dx es nn u1 u2 va,1≤tk'→h.get? x=none→h.get? dx=none→h'.get? x=some (instObj 164 dx)→h'.get? dx=some (dictOf es nn)→getL "kind" es=some (some (.str t.1 u1))→getL "worth" es=some (some (.str t.2.1 u2))→getL "at" es=some (some va)→handedIn va=true →
  Keeps' h h'→P (.ref x) {s with heap:=h',toks:=tk'}) :
 wpAny (model cx.prog cx.w) A (eval rt cenv) P E {s with heap:=h,toks:=tk}:=by
 have F:=dS R
 obtain⟨m,hn,hl,_⟩:=x.fr.loc
 obtain⟨_,m1,r1⟩:=hl "at" (.py (.int i)) (by rfl) ka
 obtain⟨t0,rfl⟩:=au r1
 obtain⟨_,m2,r2⟩:=hl "kind" (.py (.str t.1)) (by rfl) kk
 obtain⟨t1,rfl⟩:=av r2
 obtain⟨_,m3,r3⟩:=hl "worth" (.py (.str t.2.1)) (by rfl) kw
 obtain⟨t2,rfl⟩:=av r3
 have kd:=x.fr.kind
 rw[aU (by intro _ _ _;nofun)]
 refine wpAny_bind (cr x hk (by rfl) (by rw[R.K];exact MW _) fun w rw=>?_)
 obtain rfl:=rw
 refine callWith_of (P:=fun h'=>cx.K.In h') rfl (fun h' X=>keeps_K (by rw[R.K];exact I8 _) h' X) ?_
 refine evalArgs_plain ?_
 show wpAny _ _ (spliced (backTo _ (starEach KI cenv))) _ _ _
 refine wpAny_items_cons (wpAny_Name (wpAny_loadName_local kd kk hn m2 ?_))
 refine wpAny_items_cons (wpAny_Name (wpAny_loadName_local kd kw hn m3 ?_))
 refine wpAny_items_cons (wpAny_Tuple (wpAny_items_cons (wpAny_BinOp (wpAny_Name (wpAny_loadName_local kd ka hn m1 (wpAny_Constant_int (PySem.P.add_int (wpAny_items_cons (wpAny_Constant_int (wpAny_items_nil ⟨by rw[sizeLine_eq];show(2:Nat)≤_;decide,?_⟩))))))))))
 refine wpAny_items_nil ?_
 show cx.K.In (h.push _)∧wpAny _ _ _ _ _ {s with heap:=h.push {cls:=.type "tuple",data:=.seq [Value.int (i+1) (tk+1),Value.int 12 (tk+1+1)].toArray},toks:=tk+1+1+1}
 have kp:Keeps' h (h.push {cls:=.type "tuple",data:=.seq [Value.int (i+1) (tk+1),Value.int 12 (tk+1+1)].toArray}):=fun b o e=>Heap.get?_push_of_some _ e
 generalize h.push {cls:=.type "tuple",data:=.seq [Value.int (i+1) (tk+1),Value.int 12 (tk+1+1)].toArray}=h0 at kp ⊢
 have G5:=x.good.keeps kp
 refine⟨G5.X,?_⟩
 refine zl R (n:=n) (V0:=g.V0) (me:=g.me) (V:=V') (k:=k) (l:=l) (s:={s with heap:=h0,toks:=tk+1+1+1}) x.ao (x.ch.ext (.of_keeps kp)) G5 (Nat.le_add_left 1 _) fun h6 tk6 y dy es nn u1 u2 t6 ny nd q1 q2 q3 q4 q5 k6=>?_
 have back:∀{b:Addr},h0.get? b=none→h.get? b=none:=fun {b} e=>by
  induction q:h.get? b using Option.casesOn with
  |none=>rfl
  |some o=>exact Mine.nn (e.symm.trans (kp _ _ q))
 exact hq h6 tk6 y dy es nn u1 u2 _ t6 (back ny) (back nd) q1 q2 q3 q4 q5 rfl fun b o e=>k6 _ _ (kp _ _ e)
theorem th (R:RealCx cx) {sc:Scope}(hs:bI sc env) (x0:St cx g V l (n+2) A env ρ k s) (hc:CompSc sc scT ρ) (hcap:gh scT ρ=[]) (hgw:∀ a∈g.W cx,a∈V) (B:TB cx g V s C L e it lst items toks) {i:Nat}{h:Heap}{tk:Nat}{ys:Array Value}{m:Str→Option Value}
 (I:TI cx s C L e it lst items toks i h ys m) (htk:1≤tk) (hlt:i<toks.length) {P:Shared→Prop}{E2:Value→Shared→Prop}{Pn:Option Value→Shared→Prop}
 (hq:∀ h' tk' ys' m',1≤tk'→TI cx s C L e it lst items toks (i+1) h' ys' m'→P {s with heap:=h',toks:=tk'})
 (hP:∀ v s₁,wpAny (model cx.prog cx.w) A (letOwnedTupleGo ng (.ref e) v) (fun _ s₁'=>wpAny (model cx.prog cx.w) A (assign ng (ge scT C (dN env.cells scT.names []) env) v) (fun _ s₂ =>
  wpAny (model cx.prog cx.w) A (eval rt (ge scT C (dN env.cells scT.names []) env)) (fun x s₄=>wpAny (model cx.prog cx.w) A (call (.builtin "list.append") [.ref L,x]) (fun _ s₅=>P s₅) E2 s₄) E2 s₂) E2 s₁') E2 s₁→Pn (some v) s₁) :
 wpAny (model cx.prog cx.w) A (pyNext (.ref e)) Pn E2 {s with heap:=h,toks:=tk}:=by
 obtain⟨as,ra⟩:=B.ra
 obtain⟨t,ht⟩:∃ t,toks[i]?=some t:=⟨_,List.getElem?_eq_getElem hlt⟩
 have old:∀{b:Addr}{o:Obj},s.heap.get? b=some o→b∉[e,it]:=fun q=>B.ei (B.old q)
 have hle:lst≠e:=(B.noLs B.ne).symm
 have hli:lst≠it:=(B.noLs B.nit).symm
 have W:=WalksT.enumerate (prog:=cx.prog) (w:=cx.w) (A:=A) x0.ao.handled e it lst B.eit hle hli items
 refine wpAny_with_toks (s:={s with heap:=h,toks:=tk}) htk (W.item i _ _ _ (by rw[B.size];exact hlt) I.st fun T vals h2 tk2 hPt hT0 hT hM kp2 ht2=>hP _ _ ?_)
 have ht2:1≤tk2:=ht2
 obtain⟨ti,xv,hx,rfl⟩:=hPt
 refine W.go _ _ _ i T _ _ _ hM fun h3 st3 kp3=>?_
 have k3:Keeps' s.heap h3:=fun b o q=>kp3 b o (old q) (kp2 b o (old q) (I.kp b o q))
 have m2:∀ b o,b∉[C,L,e,it]→h.get? b=some o→h3.get? b=some o:=fun b o q q'=>kp3 b o (B.ei q) (kp2 b o (B.ei q) q')
 have CE:C∉[e,it]:=B.CE
 have LE:L∉[e,it]:=B.LE
 have ns3:h3.Ns C m:=by
  obtain⟨o,es,ep,q,r⟩:=I.ns
  exact⟨o,es,ep,kp3 _ _ CE (kp2 _ _ CE q),r⟩
 have D3:h3.IsList L ys:=I.dl.at fun o q=>kp3 _ _ LE (kp2 _ _ LE q)
 have aE:∃ o,h3.get? e=some o:=let⟨⟨_,q⟩,_⟩:=st3;⟨_,q⟩
 have aL:∃ o,h3.get? L=some o:=let⟨o,q,_⟩:=D3;⟨o,q⟩
 have x3:=sW hs x0 hc (I:=e) (D:=L) (C:=C) k3 B.ne B.nD B.nC aE aL ns3 ht2
 rw[hcap]at x3
 have hT3:h3.IsTuple T #[.int i ti,xv]:=hT.at fun o q=>kp3 _ _ (W.apart i T h2 hM) q
 have TV:T∉C::L::e::V:=fun m=>by
  have lt:∀{b:Addr},(∃ o,h.get? b=some o)→b≠T:=fun⟨o,q⟩ q'=>absurd (q'▸Heap.lt_size q) (Nat.not_lt_of_le hT0)
  exact mc (P:=fun b=>b≠T) (lt (let⟨o,_,_,q',_⟩:=I.ns;⟨o,q'⟩)) (mc (lt (let⟨o,q',_⟩:=I.dl;⟨o,q'⟩)) (mc (lt (let⟨⟨_,q'⟩,_⟩:=I.st;⟨_,q'⟩)) fun b hb=>lt (let⟨o,q'⟩:=x0.good.alive b hb;⟨o,I.kp _ _ q'⟩))) T m rfl
 obtain⟨xv',bs,hx',rx⟩:=cz ra (i:=i) (d:=pyT t) (by rw[List.getElem?_map,ht];rfl)
 rw[Array.getElem?_toList,hx]at hx'
 obtain rfl:=si hx'
 have rx3:=Reads.keeps (cj (V:=V) (V':=C::L::e::V) k3 (mc (.inr B.nC) (mc (.inr B.nD) (mc (.inr B.ne) fun b hb=>.inl hb)))) rx
 obtain⟨oT,hTg,hTc,nT,hTd⟩:=hT3
 have rT:Rep cx g (C::L::e::V) h3 (.ref T) (.py (.tuple [.int (i:Int),pyT t])):=⟨_,reads_tuple_at (hideAll_get _ hTg TV) hTc hTd (.cons (.int _ _) (.cons rx3 .nil))⟩
 refine fY l5 4 ng _ [] (Hz i t) k _ (.ref T) _ _ x3 (tu i t) rT fun h4 tk4 t4 xb4 x4=>?_
 replace xb4:Heap.ExtBut C h3 h4:=xb4
 have hkk:∀ y kd,scT.names.lookup y=some kd→kd≠.free→(ge scT C (dN env.cells scT.names []) env).kindOf y=some kd:=fun y kd e hf=>by
  show(relabel scT env).names.lookup y=some kd
  rw[eW,e]
  show some (if(kd==NameKind.free&&_&&_)=true then NameKind.cell else kd)=some kd
  rw[if_neg]
  simp[hf]
 refine zm R (V':=C::L::e::V) (i:=(i:Int)) (t:=t) (k:=k) (l:=l) (n:=n) (hkk "Token" _ (by kernel_rfl) (by decide)) (hkk "at" _ (by kernel_rfl) (by decide)) (hkk "kind" _ (by kernel_rfl) (by decide)) (hkk "worth" _ (by kernel_rfl) (by decide)) x4 fun h5 tk5 x dx es nn u1 u2 va t5 nx nd q1 q2 q3 q4 q5 q6 k5=>?_
 have o3:∀{b:Addr},h4.get? b=none→s.heap.get? b=none:=fun {b} q=>by
  induction q':s.heap.get? b using Option.casesOn with
  |none=>rfl
  |some o =>
   have:=xb4 b o (fun z=>by rw[z,B.nC]at q';injection q') (k3 _ _ q')
   first | exact nn (q.symm.trans this) | (rw[q]at this;injection this)
 have Ce:C≠lst:=B.noLs B.nC
 have Le:L≠lst:=B.noLs B.nD
 have D4:h4.IsList L ys:=D3.at fun o q=>xb4 _ _ B.DC q
 obtain⟨m4,ns4,_⟩:=x4.fr.loc
 replace ns4:h4.Ns C m4:=ns4
 have st4:=W.frame (i+1) h3 h4 st3 fun b hb o q=>xb4 b o (mc (P:=fun b=>b≠C) B.eC (mc B.iC (mc Ce.symm m0)) b hb) q
 refine wpAny_list_append (D4.at fun o q=>k5 _ _ q) (fun h6 hD6 sb6=>?_) (by rw[I.sz,sizeLine_eq];have:=B.sz;omega)
 have m6:∀ b o,b∉[C,L,e,it]→h.get? b=some o→h6.get? b=some o:=fun b o q q' =>
  (sb6.2 b fun z=>q (by rw[z];simp)).trans (k5 _ _ (xb4 b o (fun z=>q (by rw[z];simp)) (m2 b o q q')))
 have a4:∀ b,b∈[C,L,e,it]→∃ o,h4.get? b=some o :=
  mc (let⟨o,_,_,q,_⟩:=ns4;⟨o,q⟩) (mc (let⟨o,q,_⟩:=D4;⟨o,q⟩) (mc (let⟨⟨_,q⟩,_⟩:=st4;⟨_,q⟩) (mc (let⟨_,⟨_,q,_⟩,_⟩:=st4;⟨_,q⟩) m0)))
 have out:∀{b:Addr},h4.get? b=none→b∉[C,L,e,it]:=fun {b} q m=>let⟨o,q'⟩:=a4 b m;Mine.nn (q.symm.trans q')
 have p6:∀ b o,b≠L→h5.get? b=some o→h6.get? b=some o:=fun b o q q'=>(sb6.2 b q).trans q'
 refine hq h6 tk5 (ys.push (.ref x)) m4 t5 ⟨fun b o q=>m6 b o (B.old q) (I.kp b o q),?_,?_,hD6,by rw[Array.size_push,I.sz],?_⟩
 ·obtain⟨o,es',ep,q,r⟩:=ns4
  exact⟨o,es',ep,p6 _ _ (fun z=>B.DC z.symm) (k5 _ _ q),r⟩
 ·exact W.frame (i+1) h4 h6 st4 fun b hb o q=>p6 b o (mc (P:=fun b=>b≠L) B.eD (mc B.iD (mc Le.symm m0)) b hb) (k5 _ _ q)
 ·have e1:toks.take (i+1)=toks.take i++[t]:=by
   rw[List.take_add_one,ht];rfl
  rw[Array.toList_push,e1]
  exact(I.tf.mod m6).snoc (.mk (o3 nx) (o3 nd) (out nx) (out nd) (p6 _ _ (fun z=>out nx (by rw[z];simp)) q1) (p6 _ _ (fun z=>out nd (by rw[z];simp)) q2) ⟨q3,q4,q5,q6⟩)
inductive TL (cx:Sx) (s:Shared) (C L e it lst:Addr) (items:Array Value) (toks:List Tk3):Nat→Shared→Prop
 |mk {i:Nat}{h:Heap}{tk:Nat}{ys:Array Value}{m:Str→Option Value}(hi:i≤toks.length) (htk:1≤tk) (I:TI cx s C L e it lst items toks i h ys m):TL cx s C L e it lst items toks (toks.length-i) {s with heap:=h,toks:=tk}
theorem tn (R:RealCx cx) {sc:Scope}(hs:bI sc env) (x0:St cx g V l (n+2) A env ρ k s) (hc:CompSc sc scT ρ) (hcap:gh scT ρ=[]) (hgw:∀ a∈g.W cx,a∈V) (B:TB cx g V s C L e it lst items toks) {h:Heap}{tk:Nat}{m:Str→Option Value}{pos:Pos}
 (I0:TI cx s C L e it lst items toks 0 h #[] m) (htk:1≤tk) {Rr:Result→Shared→Prop}
 (hR:∀ h' tk' ys m',1≤tk'→Keeps' s.heap h'→h'.Ns C m'→h'.IsList L ys→TokF s.heap [C,L,e,it] h' ys.toList toks→Rr (.ok .next) {s with heap:=h',toks:=tk'}) :
 codeAny (model cx.prog cx.w) A (.compLoop (.ListComp rt [⟨ng,itT,[],0⟩] scT pos) 0 (.ref e) (.ref L) (ge scT C (dN env.cells scT.names []) env)) Rr {s with heap:=h,toks:=tk}:=by
 refine eh (TL cx s C L e it lst items toks) ?_ toks.length (.mk (Nat.zero_le _) htk I0)
 rintro m s' ⟨hi,htk,I⟩
 rename_i i h tk ys mm
 by_cases hlt:i<toks.length
 ·refine th R hs x0 hc hcap hgw B I htk hlt (P:=fun s5=>∃ m,m<toks.length-i∧TL cx s C L e it lst items toks m s5)
   (fun h' tk' ys' m' t' I'=>⟨_,Nat.sub_lt_sub_left hlt (Nat.lt_succ_self i),.mk hlt t' I'⟩) fun v s₁ H=>?_
  exact wpAny_mono H (fun _ _ h1=>wpAny_mono h1 (fun _ _ h2=>wpAny_pure h2) fun _ _ z=>z) fun _ _ z=>z
 ·obtain rfl:=Nat.le_antisymm hi (Nat.le_of_not_lt hlt)
  have hle:lst≠e:=(B.noLs B.ne).symm
  have hli:lst≠it:=(B.noLs B.nit).symm
  have W:=WalksT.enumerate (prog:=cx.prog) (w:=cx.w) (A:=A) x0.ao.handled e it lst B.eit hle hli items
  refine wpAny_with_toks (s:={s with heap:=h,toks:=tk}) htk (W.done _ _ _ (by rw[B.size];exact I.st) fun h2 tk2 kp2 ht2=>?_)
  have CE:C∉[e,it]:=B.CE
  have LE:L∉[e,it]:=B.LE
  refine hR h2 tk2 ys mm ht2 (fun b o q=>kp2 b o (B.ei (B.old q)) (I.kp b o q)) ?_ (I.dl.at fun o q=>kp2 _ _ LE q) ?_
  ·obtain⟨o,es,ep,q,r⟩:=I.ns
   exact⟨o,es,ep,kp2 _ _ CE q,r⟩
  ·have tf:=I.tf
   rw[List.take_length]at tf
   exact tf.mod fun b o q q'=>kp2 b o (B.ei q) q'
theorem uy (R:RealCx cx) {sc:Scope}(hs:bI sc env) (x0:St cx g V l (n+2) A env ρ k s) (hcs:gI sc scT ρ=true) (hcap:gh scT ρ=[]) (hgw:∀ a∈g.W cx,a∈V) (kt:env.kindOf "tokens"=some .local) (hen:env.kindOf "enumerate"=some .globalImplicit)
 (hv:aH ρ "tokens"=some (.py (.list (toks.map pyT)))) (hsz:toks.length≤1000) {pos:Pos}
 (hq:∀ h' tk' L ys xs,1≤tk'→Keeps' s.heap h'→h'.IsList L ys→s.heap.get? L=none→TokF s.heap xs h' ys.toList toks→Q (.ref L) {s with heap:=h',toks:=tk'}) :
 wpAny (model cx.prog cx.w) A (eval (.ListComp rt [⟨ng,itT,[],0⟩] scT pos) env) Q E s:=by
 have hc:=mN hcs
 obtain⟨m,hn,hl,_⟩:=x0.fr.loc
 obtain⟨v,mv,⟨as,rv⟩⟩:=hl "tokens" _ hv kt
 obtain⟨a,o,vs,nn,bs,rfl,e1,e2,e3,ra⟩:=de rv
 have e1':=of_hideAll V e1
 rw[eval_ListComp]
 refine wpAny_comprehension_free (use:=none) (cl:=dN env.cells scT.names []) rfl (fun x=>f9 rfl) (dX fun x hx=>by
  obtain⟨d,c,v,_,e1,_⟩:=frees hs x0 hc hx
  rw[e1];rfl) hc.kind hc.loc ?_
 show wpAny _ A (eval itT env) _ _ _
 rw[aU (by intro _ _ _;nofun)]
 refine wpAny_bind (cr x0 hen (by rfl) (by rw[R.K];exact IH _) fun w rw=>?_)
 obtain rfl:=rw
 refine callWith_of (P:=fun _=>True) rfl (fun h' _=>k8 _) ?_
 refine evalArgs_plain ?_
 show wpAny _ A (spliced (backTo _ (starEach [.Name "tokens" _] env))) _ _ _
 refine wpAny_items_cons (wpAny_Name (wpAny_loadName_local x0.fr.kind kt hn mv (wpAny_items_nil ⟨trivial,?_⟩)))
 refine call_enumerate_list (bE e1' e2 e3) fun h1 hE hI hz1 kp1=>?_
 have al:a≠s.heap.objs.size+1:=fun q=>by have:=Heap.lt_size e1';rw[q]at this;exact absurd this (Nat.not_lt_of_le (Nat.le_succ _))
 have al':a≠s.heap.objs.size:=fun q=>by have:=Heap.lt_size e1';rw[q]at this;exact absurd this (Nat.lt_irrefl _)
 have W:=WalksT.enumerate (prog:=cx.prog) (w:=cx.w) (A:=A) x0.ao.handled (s.heap.objs.size+1) s.heap.objs.size a (Nat.succ_ne_self _) al al' vs
 have st1:(∃ old,IsEnum h1 (s.heap.objs.size+1) s.heap.objs.size (0:Nat) old)∧h1.IsListIter s.heap.objs.size a 0∧h1.IsList a vs:=⟨⟨_,hE⟩,hI,(bE e1' e2 e3).at fun o q=>kp1 _ _ q⟩
 refine W.self 0 _ _ _ st1 ?_
 refine wpAny_newObj_type ?_ (by size_fits)
 refine wpAny_newFunctionEnv hc.cell (by intro y hy;cases hy) (fun h3 hns hsb=>?_) hc.kind
 generalize hH2:h1.push {cls:=.type "list",data:=.seq ([]:List Value).toArray}=H2 at hns hsb ⊢
 have hC0:@Eq Nat H2.objs.size (s.heap.objs.size+3):=by rw[← hH2,Heap.size_push,hz1]
 have kp3:Keeps' h1 h3:=fun b o q=>hsb.extBut b o (by
  have:=Heap.lt_size q
  intro z
  rw[z,hz1]at this
  have:@LT.lt Nat _ H2.objs.size (s.heap.objs.size+2):=this
  omega) (Heap.get?_push_of_some _ (by rw[← hH2];exact Heap.get?_push_of_some _ q))
 generalize hCC:H2.objs.size=C at *
 have q3:@Eq Nat C (s.heap.objs.size+3):=hC0
 have qL:@Eq Nat h1.objs.size (s.heap.objs.size+2):=hz1
 have frs:∀ b:Nat,s.heap.objs.size≤b→s.heap.get? b=none:=fun b hb=>bv hb
 have nCD:¬ (h1.objs.size=C):=fun q=>by have h:@Eq Nat h1.objs.size C:=q;omega
 have aD:h3.IsList h1.objs.size #[]:=⟨_,hsb.extBut _ _ nCD (Heap.get?_push_of_some _ (by rw[← hH2];exact Heap.get?_push_size _ rfl)),rfl,_,rfl⟩
 have B:TB cx g V s C h1.objs.size (s.heap.objs.size+1) s.heap.objs.size a vs toks:=⟨⟨_,ra⟩,⟨_,e1'⟩,frs _ (by omega),frs _ (Nat.le_refl _),frs _ (by omega),frs C (by omega),Nat.succ_ne_self _,
  fun q=>by have h:@Eq Nat (s.heap.objs.size+1) h1.objs.size:=q;omega,fun q=>by have h:@Eq Nat (s.heap.objs.size+1) C:=q;omega,fun q=>by have h:@Eq Nat s.heap.objs.size h1.objs.size:=q;omega,fun q=>by have h:@Eq Nat s.heap.objs.size C:=q;omega,nCD,hsz⟩
 have k13:Keeps' s.heap h3:=fun b o q=>kp3 b o (kp1 b o q)
 have st3:=W.frame 0 h1 h3 st1 fun b _ o q=>kp3 b o q
 have I0:TI cx s C h1.objs.size (s.heap.objs.size+1) s.heap.objs.size a vs toks 0 h3 #[] _:=⟨k13,hns,st3,aD,rfl,trivial⟩
 have loop:=tn R hs x0 hc hcap hgw B (pos:=pos) (tk:=s.toks+0) I0 x0.tk (Rr:=compPost (model cx.prog cx.w) A E none Q (.ref h1.objs.size) C) fun h' tk' ys m' t' kp ns dl tf=>⟨m',ns,fun h'' sb=>?_⟩
 ·exact codeAny_compStart_list loop (W.self 0 _ _ _ st3 loop)
 ·refine hq h'' tk' _ ys [C,h1.objs.size,s.heap.objs.size+1,s.heap.objs.size] t' (fun b o q=>(sb.2 b fun z=>?_).trans (kp b o q)) (dl.at fun o q=>(sb.2 _ nCD).trans q) (frs _ (by omega)) (tf.mod fun b o q q'=>(sb.2 b fun z=>q (by rw[z];simp)).trans q')
  rw[z,B.nC]at q;injection q
end
section
variable {cx:Sx}{g:Gh}{V:List Addr}{h0:Heap}{B:Bs}{l:List Env}{n:Nat}{A:Around}{env:Env}{ρ:Rho}{k:Nat}{s:Shared}{R RD TL:Addr}{toks:List Tk3}
noncomputable abbrev gR (g:Gh) (R RD TL:Addr) (toks:List Tk3):Gh:=⟨true,R,RD,TL,toks,RD::g.V0,g.me⟩
theorem E1 (hr0:g.rdr=false) {a:Addr}(h:a∈(gR g R RD TL toks).W cx):a=RD∨a∈g.W cx:=by
 unfold Gh.W at h ⊢
 rw[hr0]
 rcases List.mem_append.mp h with h | h
 ·exact .inl (List.mem_singleton.mp h)
 ·exact .inr h
theorem KV (hr0:g.rdr=false) {a:Addr}(h:a∈g.W cx):a∈(gR g R RD TL toks).W cx:=by
 unfold Gh.W at h ⊢
 rw[hr0]at h
 exact List.mem_append_right _ h
theorem DD (hr0:g.rdr=false) (x:SS cx g h0 B l n A env V ρ k s) (hpy:∀ y d,aH ρ y=some d→∃ p,d=.py p) (hcell:∀ y,env.kindOf y≠some .cell) {h2:Heap}{tk2:Nat}(t2:1≤tk2) (kp:Keeps' s.heap h2)
 (nR:s.heap.get? R=none) (nRD:s.heap.get? RD=none) (RRD:R≠RD) (hR:h2.get? R=some (instObj cx.rc RD)) (hRD:∃ tk t1 t2 t3 t4 a1 a2 nn,h2.get? RD=some (dictOf (kA cx.w.params TL 0 tk t1 t2 t3 t4 a1 a2) nn))
 {vs:List Value}(hTL:rU h2 TL vs) (nTL:TL∉RD::V) (hT:TokAll (hideAll h2 (RD::V)) cx.tc vs toks) :
 SS cx (gR g R RD TL toks) h0 ⟨h2,RD::V,RD::V⟩ l n A env (RD::V) ρ 0 {s with heap:=h2,toks:=tk2}:=by
 have G:=x.st.good
 have al:∀{a:Addr}{o:Obj},s.heap.get? a=some o→a≠RD:=fun e q=>by rw[q,nRD]at e;injection e
 have hm:=cj (V:=V) (V':=RD::V) kp fun b hb=>by
  rcases List.mem_cons.mp hb with rfl | hb
  ·exact .inr nRD
  ·exact .inl hb
 have vout:∀{a:Addr},s.heap.get? a=none→a∉V:=fun e m=>by
  obtain⟨o,e'⟩:=G.alive _ m
  first | exact nn (e.symm.trans e') | (rw[e]at e';cases e')
 have aL:∃ o,s.heap.get? env.locals=some o:=G.alive _ x.st.fr.LV
 have mvd:∀{v:Value}{d:D},(∃ p,d=.py p)→Rep cx g V s.heap v d→Rep cx (gR g R RD TL toks) (RD::V) h2 v d:=fun hp r=>by
  obtain⟨p,rfl⟩:=hp
  obtain⟨as,r⟩:=r
  exact⟨as,Reads.keeps hm r⟩
 have LRD:env.locals≠RD:=let⟨o,e⟩:=aL;al e
 have WR:∀{a:Addr},a∈(gR g R RD TL toks).W cx→a=RD∨a∈g.W cx:=E1 hr0
 have good:Good cx (gR g R RD TL toks) (RD::V) h2 0:=by
  refine⟨fun b o e=>kp _ _ (G.keep b o e),fun a ha=>?_,fun a ha=>?_,fun a ha=>?_,fun t ht=>?_,fun _=>?_⟩
  ·rcases List.mem_cons.mp ha with rfl | ha
   ·obtain⟨_,_,_,_,_,_,_,_,e⟩:=hRD;exact⟨_,e⟩
   ·obtain⟨o,e⟩:=G.alive a ha;exact⟨o,kp _ _ e⟩
  ·rcases WR ha with rfl | ha
   ·exact .head _
   ·exact .tail _ (G.WV a ha)
  ·rcases List.mem_cons.mp ha with rfl | ha
   ·induction q:cx.H0.get? a using Option.casesOn with
    |none=>rfl
    |some o=>have:=G.keep _ _ q;first | exact nn (nRD.symm.trans this) | (rw[nRD]at this;cases this)
   ·exact G.V0 a ha
  ·obtain⟨ps,e,r⟩:=G.tabs t ht
   exact⟨ps,kp _ _ e,r.imp id fun⟨c',e1,e2⟩=>⟨c',e1,e2.keeps hm⟩⟩
  ·refine⟨hideAll_get _ hR fun m=>?_,hRD,vs,?_,hT⟩
   ·rcases List.mem_cons.mp m with q | m
    ·exact RRD q
    ·exact vout nR m
   ·obtain⟨o,nn,e,e1⟩:=hTL
    exact⟨o,nn,hideAll_get _ e nTL,e1⟩
 have st:St cx (gR g R RD TL toks) (RD::V) (env::l) n A env ρ 0 {s with heap:=h2,toks:=tk2}:=by
  refine⟨x.st.ao,fun env' he=>?_,⟨x.st.fr.kind,x.st.fr.gl,x.st.fr.bi,.tail _ x.st.fr.LV,fun m=>?_,?_,fun y d e kk=>?_,x.st.fr.cd,fun y l1 e=>?_⟩,good,t2⟩
  ·obtain⟨k1,L,o,f,w,z,a,b⟩:=x.st.ch env' he
   exact⟨k1,L,o,f,fun m=>(WR m).elim (al a) w,z,kp _ _ a,b⟩
  ·exact(WR m).elim LRD x.st.fr.LW
  ·obtain⟨m,hn,hl,hb⟩:=x.st.fr.loc
   refine⟨m,?_,fun y d e kk=>let⟨v,e1,r⟩:=hl y d e kk;⟨v,e1,mvd (hpy y d e) r⟩,fun y z l1 l2 e=>?_⟩
   ·obtain⟨o,es,ep,e,r⟩:=hn
    exact⟨o,es,ep,kp _ _ e,r⟩
   ·obtain⟨p,q⟩:=hpy y _ e;injection q
  ·rcases kk with kk | kk
   ·exact absurd kk (hcell y)
   ·exact absurd kk (x.noFree y)
  ·obtain⟨p,q⟩:=hpy y _ e;injection q
 refine⟨st,fun a ha=>?_,fun a ha=>?_,⟨fun b o hb e=>kp _ _ (x.ext.keep b o (fun m=>hb (KV hr0 m)) e)⟩,fun a ha=>?_,x.fr,fun m=>?_,fun b o _ e=>e,.tail _ x.st.fr.LV,good.WV,fun a ha _ _ _ _ _ _=>.inl ha,fun b o e=>⟨o,e⟩,fun _ h=>h,fun _ h=>.inl h,fun y e=>absurd e (hcell y),fun y z c e=>absurd e (hcell y),x.noFree⟩
 ·rcases List.mem_cons.mp ha with rfl | ha
  ·exact .head _
  ·exact .tail _ (x.sub a ha)
 ·rcases WR ha with rfl | ha
  ·exact .head _
  ·exact .tail _ (x.WV0 a ha)
 ·rcases List.mem_cons.mp ha with rfl | ha
  ·refine .inr ?_
   induction q:h0.get? a using Option.casesOn with
   |none=>rfl
   |some o =>
    by_cases hw:a∈g.W cx
    ·exact absurd (G.WV _ hw) (vout nRD)
    ·have:=x.ext.keep _ _ hw q;first | exact nn (nRD.symm.trans this) | (rw[nRD]at this;cases this)
  ·exact(x.new a ha).imp (.tail _) id
 ·rcases List.mem_cons.mp m with q | m
  ·exact LRD q
  ·exact x.fz m
end
end Mine
end
section
namespace Mine
open PySem PySem.W PySem.Calls PyProof.Rows Builtin.Str
noncomputable def Ny (P:Params):List Stmt:=match(fdK P 874).body with
 |.stmts b=>b
 |_=>[]
noncomputable abbrev bq (P:Params):Scope:=(fdK P 874).scope
noncomputable def gp (P:Params) (i:Nat):Stmt:=Hd.nth (Ny P) i
theorem BJ (P:Params):(fdK P 874).body=.stmts [gp P 0,gp P 1,gp P 2,gp P 3,gp P 4]:=by kernel_rfl
noncomputable def tg (P:Params):List Stmt:=@Stmt.Try.elim (fun _=>List Stmt) (gp P 3) (by kernel_rfl) fun b _ _ _ _=>b
theorem uV (P:Params):gp P 3=.Try (tg P) [.ExceptHandler (some (.Name "GrammarFault" ⟨722,11,722,23⟩)) none [.Return (some (.Constant .none 0 ⟨723,15,723,19⟩)) ⟨723,8,723,19⟩] ⟨722,4,723,19⟩] [] [] ⟨713,4,723,19⟩:=by kernel_rfl
theorem Js (P:Params):(Hd.kM P).lookup 874=some ⟨.type "function",none,.func (fdK P 874),#[]⟩:=by kernel_rfl
theorem JA (P:Params):ir (Hd.kM P) (fdK P 874)=true:=by kernel_rfl
theorem Ku (P:Params) (a:D):dk (Hd.kM P) (fdK P 874) [a]=some [(("text":Str),a)]:=by kernel_rfl
noncomputable abbrev lV:PyData:=.tuple [.str aM,.str ⟨#[46]⟩]
theorem qf (P:Params) (toks:List Tk) (n:Nat) (x:List Nat) (k:Nat) (hx:x.length≤4000):cY P toks (n+1) 839 [.py (.str (mkS x))] k=.ok (.py (.list (cC x))) k:=by
 have h:=r7 P toks (cY P toks n) [.py (.str (mkS x))] k
 rw[s7 (crM P (cY P toks n)) P x k hx]at h
 obtain⟨k',e,rfl⟩:=h
 rw[(DU P toks).succ n 839 _ _ rfl]
 exact e
theorem gu {n:Nat}(h:n≤100000):sm n=true:=Nat.ble_eq.mpr h
section
variable (P:Params) (toks:List Tk) (calls:Orc) (x:Str) (k:Nat)
theorem JR {W:List PyData}(h:calls 839 [.py (.str x)] k=.ok (.py (.list W)) k) (hW:W.length+1≤100000):exS (cM P toks 874 calls) (bq P) 20 (gp P 0) [(("text":Str),.py (.str x))] k=.ok (none,[(("text":Str),.py (.str x)),(("tokens":Str),.py (.list (W++[lV])))]) k:=by
 let ρ:Rho:=[(("text":Str),.py (.str x))]
 let a1:Expr:=.Call (.Name "_law_words" ⟨710,13,710,23⟩) [.Name "text" ⟨710,24,710,28⟩] [] ⟨710,13,710,29⟩
 let a2:Expr:=.List [.Tuple [.Constant (.str "sign") 0 ⟨710,34,710,40⟩,.Constant (.str ".") 0 ⟨710,42,710,45⟩] 0 ⟨710,33,710,46⟩] ⟨710,32,710,47⟩
 have e1:evE (cM P toks 874 calls) (bq P) 18 ρ a1 k=nbO (calls 839 [.py (.str x)] k):=by kernel_rfl
 rw[h]at e1
 have e2:∀ k,evE (cM P toks 874 calls) (bq P) 18 ρ a2 k=.ok (.py (.list [lV])) k:=fun k=>by kernel_rfl
 have e0:exS (cM P toks 874 calls) (bq P) 20 (gp P 0) ρ k=(((evE (cM P toks 874 calls) (bq P) 18 ρ a1 k).bind fun a k=>(evE (cM P toks 874 calls) (bq P) 18 ρ a2 k).bind fun b k=>ofO (aK .Add a b) k)).bind fun d k=>if nb d&&(aO (bq P) "tokens" .local||(aO (bq P) "tokens" .cell&&eF d&&ρ.all fun p=>eF p.2))then .ok (none,bP ρ "tokens" d) k else .no:=by kernel_rfl
 rw[e0,e1]
 show(((evE (cM P toks 874 calls) (bq P) 18 ρ a2 k).bind fun b k=>ofO (aK .Add (.py (.list W)) b) k)).bind _=_
 rw[e2]
 show((ofO (aK .Add (.py (.list W)) (.py (.list [lV]))) k)).bind _=_
 have e3:aK .Add (.py (.list W)) (.py (.list [lV]))=if sm (W.length+1)then some (.py (.list (W++[lV])))else none:=by kernel_rfl
 rw[e3,gu hW]
 kernel_rfl
theorem JQ (kd w:Str) (tl:List PyData) (ρ0:D):exS (cM P toks 874 calls) (bq P) 20 (gp P 2) [(("text":Str),ρ0),(("tokens":Str),.py (.list (.tuple [.str kd,.str w]::tl))),(("reader":Str),.rdr)] k =
 .ok (none,[(("text":Str),ρ0),(("tokens":Str),.py (.list (.tuple [.str kd,.str w]::tl))),(("reader":Str),.rdr),(("verb":Str),.py (.str w))]) k:=by kernel_rfl
noncomputable abbrev ku (ρ0 D1:D) (w:Str):Rho:=[(("text":Str),ρ0),(("tokens":Str),D1),(("reader":Str),.rdr),(("verb":Str),.py (.str w))]
noncomputable abbrev nl (ρ0 D1:D) (w:Str) (d:D):Rho:=[(("text":Str),ρ0),(("tokens":Str),D1),(("reader":Str),.rdr),(("verb":Str),.py (.str w)),(("found":Str),d)]
noncomputable abbrev jA:List D:=[.rdr,.glob (.ref 869)]
noncomputable abbrev bj:List (Str×Nat):=[("ADD",498),("SUBTRACT",505),("MULTIPLY",512),("DIVIDE",526),("COMPUTE",533)]
end
section
variable {c:Cx}{sc:Scope}{n:Nat}{ρ ρ':Rho}{k k':Nat}{t:Expr}{b o:List Stmt}{p:Pos}{r:SO}
noncomputable def Good2 (r:SO):Prop:=r=.exc∨∃ ρ' k',r=.ok (none,ρ') k'
theorem EY (h:evB c sc n ρ t k=.ok true k) (e:exL (exS c sc n) b ρ k=r) (g:Good2 r):exL (exS c sc (n+1)) [.If t b o p] ρ k=r:=by
 have e1:exS c sc (n+1) (.If t b o p) ρ k=(evB c sc n ρ t k).bind fun q k=>if q then exL (exS c sc n) b ρ k else exL (exS c sc n) o ρ k:=rfl
 show(exS c sc (n+1) (.If t b o p) ρ k).bind _=_
 rw[e1,h]
 show(exL (exS c sc n) b ρ k).bind _=_
 rw[e]
 rcases g with rfl | ⟨ρ',k',rfl⟩<;>rfl
theorem ou (h:evB c sc n ρ t k=.ok false k) (e:exL (exS c sc n) o ρ k=r) (g:Good2 r):exL (exS c sc (n+1)) [.If t b o p] ρ k=r:=by
 have e1:exS c sc (n+1) (.If t b o p) ρ k=(evB c sc n ρ t k).bind fun q k=>if q then exL (exS c sc n) b ρ k else exL (exS c sc n) o ρ k:=rfl
 show(exS c sc (n+1) (.If t b o p) ρ k).bind _=_
 rw[e1,h]
 show(exL (exS c sc n) o ρ k).bind _=_
 rw[e]
 rcases g with rfl | ⟨ρ',k',rfl⟩<;>rfl
theorem vH {s:Stmt}(e:exS c sc n s ρ k=r) (g:Good2 r):exL (exS c sc n) [s] ρ k=r:=by
 show(exS c sc n s ρ k).bind _=_
 rw[e]
 rcases g with rfl | ⟨ρ',k',rfl⟩<;>rfl
theorem Dq {l r:Expr}{op:Operator}{k1 k2:Nat}{a b:D}(h1:evE c sc n ρ l k=.ok a k1) (h2:evE c sc n ρ r k1=.ok b k2):evE c sc (n+1) ρ (.BinOp l op r p) k=ofO (aK op a b) k2:=by
 show(evE c sc n ρ l k).bind _=_
 rw[h1]
 show(evE c sc n ρ r k1).bind _=_
 rw[h2];rfl
theorem Dp {l r:Expr}{op:CmpOp}{k1 k2:Nat}{a b:D}(hr:cJ r=true) (h1:evE c sc n ρ l k=.ok a k1) (h2:evE c sc n ρ r k1=.ok b k2):evE c sc (n+1) ρ (.Compare l [op] [r] p) k=ofO ((gJ c.K c.dl op a b).map fun b=>.py (.bool b)) k2:=by
 show(if cJ r=true then(evE c sc n ρ l k).bind fun a k=>(evE c sc n ρ r k).bind fun b k=>ofO ((gJ c.K c.dl op a b).map fun b=>D.py (.bool b)) k else .no)=_
 rw[if_pos hr,h1]
 show(evE c sc n ρ r k1).bind _=_
 rw[h2];rfl
theorem Dr {l:Expr}{ops:List CmpOp}{rs:List Expr}{k1:Nat}{b:Bool}(h:evE c sc (n+1) ρ (.Compare l ops rs p) k=.ok (.py (.bool b)) k1):evB c sc (n+1) ρ (.Compare l ops rs p) k=.ok b k1:=by
 show(evE c sc (n+1) ρ (.Compare l ops rs p) k).bind _=_
 rw[h];rfl
theorem Do {t a b:Expr}{k1:Nat}{q:Bool}(h:evB c sc n ρ t k=.ok q k1):evE c sc (n+1) ρ (.IfExp t a b p) k=if q then evE c sc n ρ a k1 else evE c sc n ρ b k1:=by
 show(evB c sc n ρ t k).bind _=_
 rw[h];rfl
theorem Dn {e:Expr}{k1:Nat}{d:PyData}(h:evE c sc n ρ e k=.ok (.py d) k1):exS c sc (n+1) (.Return (some e) p) ρ k=.ok (some (.py d),ρ) k1:=by
 show(evE c sc n ρ e k).bind _=_
 rw[h];rfl
end
noncomputable def tI1 (P:Params):Stmt:=Hd.nth (tg P) 0
noncomputable def if1 (P:Params):Expr×List Stmt×List Stmt:=@Stmt.If.elim (fun _=>_) (tI1 P) (by kernel_rfl) fun t b o _=>(t,b,o)
noncomputable def tI2 (P:Params):Stmt:=Hd.nth (if1 P).2.2 0
noncomputable def if2 (P:Params):Expr×List Stmt×List Stmt:=@Stmt.If.elim (fun _=>_) (tI2 P) (by kernel_rfl) fun t b o _=>(t,b,o)
noncomputable def tI3 (P:Params):Stmt:=Hd.nth (if2 P).2.2 0
noncomputable def if3 (P:Params):Expr×List Stmt×List Stmt:=@Stmt.If.elim (fun _=>_) (tI3 P) (by kernel_rfl) fun t b o _=>(t,b,o)
theorem DE (P:Params):tg P=[.If (if1 P).1 (if1 P).2.1 [tI2 P] ⟨714,8,721,107⟩]:=by kernel_rfl
theorem nh (P:Params):tI2 P=.If (if2 P).1 (if2 P).2.1 [tI3 P] ⟨716,8,721,107⟩:=by kernel_rfl
theorem qm (P:Params):tI3 P=.If (if3 P).1 (if3 P).2.1 (if3 P).2.2 ⟨718,8,721,107⟩:=by kernel_rfl
noncomputable def oy (ρ0 D1:D) (w:Str):Out D→SO
 |.ok d k=>if nb d then .ok (none,nl ρ0 D1 w d) k else .no
 |.exc=>.exc
 |.no=>.no
section
variable (P:Params) (toks:List Tk) (calls:Orc) (k:Nat) (ρ0 D1:D)
theorem BF {κ α β:Type}{a:α}{k:κ}(q:α→Bool) (f:α→κ→OutK κ β) (h:q a=true):((OutK.ok a k).bind fun d k=>if q d then f d k else .no)=f a k:=if_pos h
theorem Et {κ:Type}(p:PyData) (k:κ):nbO (.ok (.py p) k)=.ok (.py p) k:=rfl
theorem iX {n:Nat}{s:Stmt}{w:Str}{a:Addr}(e:exS (cM P toks 874 calls) (bq P) n s (ku ρ0 D1 w) k=(nbO (calls a jA k)).bind fun d k=>if nb d&&(aO (bq P) "found" .local||(aO (bq P) "found" .cell&&eF d&&(ku ρ0 D1 w).all fun p=>eF p.2))then .ok (none,bP (ku ρ0 D1 w) "found" d) k else .no)
 {o:Out D}(ho:calls a jA k=o) (hno:o=.exc∨∃ p k',o=.ok (.py p) k'):exS (cM P toks 874 calls) (bq P) n s (ku ρ0 D1 w) k=oy ρ0 D1 w o∧Good2 (oy ρ0 D1 w o):=by
 rw[e,ho]
 rcases hno with rfl | ⟨p,k',rfl⟩
 ·exact⟨rfl,.inl rfl⟩
 ·refine⟨?_,.inr ⟨_,_,rfl⟩⟩
  have h1:aO (bq P) "found" .local=true:=by kernel_rfl
  have hif:(nb (.py p)&&(aO (bq P) "found" .local||(aO (bq P) "found" .cell&&eF (.py p)&&(ku ρ0 D1 w).all fun p=>eF p.2)))=true:=by rw[h1];rfl
  have h2:bP (ku ρ0 D1 w) "found" (.py p)=nl ρ0 D1 w (.py p):=by kernel_rfl
  have h3:oy ρ0 D1 w (.ok (.py p) k')=.ok (none,bP (ku ρ0 D1 w) "found" (.py p)) k':=by rw[h2];rfl
  rw[h3,Et]
  exact BF (fun d=>nb d&&(aO (bq P) "found" .local||(aO (bq P) "found" .cell&&eF d&&(ku ρ0 D1 w).all fun p=>eF p.2))) (fun d k=>.ok (none,bP (ku ρ0 D1 w) "found" d) k) hif
theorem yK (v:Str×Nat) (hv:v∈bj) {o:Out D}(ho:calls v.2 jA k=o) (hno:o=.exc∨∃ p k',o=.ok (.py p) k'):exL (exS (cM P toks 874 calls) (bq P) 20) (tg P) (ku ρ0 D1 v.1) k=oy ρ0 D1 v.1 o:=by
 rw[DE]
 simp only[bj,List.mem_cons,List.not_mem_nil,or_false]at hv
 rcases hv with rfl | rfl | rfl | rfl | rfl
 ·obtain⟨q1,q2⟩:=iX P toks calls k ρ0 D1 (n:=19) (s:=Hd.nth (if1 P).2.1 0) (w:="ADD") (a:=498) (by kernel_rfl) ho hno
  exact EY (by kernel_rfl) ((show(if1 P).2.1=[Hd.nth (if1 P).2.1 0]by kernel_rfl)▸vH q1 q2) q2
 ·obtain⟨q1,q2⟩:=iX P toks calls k ρ0 D1 (n:=18) (s:=Hd.nth (if2 P).2.1 0) (w:="SUBTRACT") (a:=505) (by kernel_rfl) ho hno
  exact ou (by kernel_rfl) (nh P▸EY (by kernel_rfl) ((show(if2 P).2.1=[Hd.nth (if2 P).2.1 0]by kernel_rfl)▸vH q1 q2) q2) q2
 ·obtain⟨q1,q2⟩:=iX P toks calls k ρ0 D1 (n:=17) (s:=Hd.nth (if3 P).2.1 0) (w:="MULTIPLY") (a:=512) (by kernel_rfl) ho hno
  exact ou (by kernel_rfl) (nh P▸ou (by kernel_rfl) (qm P▸EY (by kernel_rfl) ((show(if3 P).2.1=[Hd.nth (if3 P).2.1 0]by kernel_rfl)▸vH q1 q2) q2) q2) q2
 ·obtain⟨q1,q2⟩:=iX P toks calls k ρ0 D1 (n:=17) (s:=Hd.nth (if3 P).2.2 0) (w:="DIVIDE") (a:=526) (by kernel_rfl) ho hno
  exact ou (by kernel_rfl) (nh P▸ou (by kernel_rfl) (qm P▸ou (by kernel_rfl) ((show(if3 P).2.2=[Hd.nth (if3 P).2.2 0]by kernel_rfl)▸vH q1 q2) q2) q2) q2
 ·obtain⟨q1,q2⟩:=iX P toks calls k ρ0 D1 (n:=17) (s:=Hd.nth (if3 P).2.2 0) (w:="COMPUTE") (a:=533) (by kernel_rfl) ho hno
  exact ou (by kernel_rfl) (nh P▸ou (by kernel_rfl) (qm P▸ou (by kernel_rfl) ((show(if3 P).2.2=[Hd.nth (if3 P).2.2 0]by kernel_rfl)▸vH q1 q2) q2) q2) q2
theorem By (K:Frag) (dl:List Addr) (a:Int):gJ K dl .Eq (.py (.int a)) (.py (.int a))=some true:=by
 have e:gJ K dl .Eq (.py (.int a)) (.py (.int a))=some (PyData.eqv (.int a) (.int a)^^false):=by kernel_rfl
 rw[e]
 simp[PyData.eqv]
noncomputable abbrev JT:Expr:=.Call (.Name "len" ⟨724,33,724,36⟩) [.Name "tokens" ⟨724,37,724,43⟩] [] ⟨724,33,724,44⟩
noncomputable abbrev eAt:Expr:=.Attribute (.Name "reader" ⟨724,20,724,26⟩) "at" ⟨724,20,724,29⟩
noncomputable abbrev JS:Expr:=.BinOp JT .Sub (.Constant (.int 1) 0 ⟨724,47,724,48⟩) ⟨724,33,724,48⟩
noncomputable abbrev CT:Expr:=.Compare eAt [.Eq] [JS] ⟨724,20,724,48⟩
noncomputable abbrev eIf:Expr:=.IfExp CT (.Name "found" ⟨724,11,724,16⟩) (.Constant .none 0 ⟨724,54,724,58⟩) ⟨724,11,724,58⟩
theorem D7 (P:Params):gp P 4=.Return (some eIf) ⟨724,4,724,58⟩:=by kernel_rfl
theorem E5 {L:List PyData}(w:Str) (p:PyData) (h:k+1=L.length) (hs:L.length≤100000):exS (cM P toks 874 calls) (bq P) 20 (gp P 4) (nl ρ0 (.py (.list L)) w (.py p)) k=.ok (some (.py p),nl ρ0 (.py (.list L)) w (.py p)) k:=by
 have a1:evE (cM P toks 874 calls) (bq P) 17 (nl ρ0 (.py (.list L)) w (.py p)) eAt k=.ok (.py (.int (Int.ofNat k))) k:=by kernel_rfl
 have a2:evE (cM P toks 874 calls) (bq P) 16 (nl ρ0 (.py (.list L)) w (.py p)) JT k=ofO (aS "len" [.py (.list L)]) k:=by kernel_rfl
 have hl:aS "len" [.py (.list L)]=some (.py (.int L.length)):=by
  have:aS "len" [.py (.list L)]=(uk (.py (.list L))).map fun(n:Nat)=>.py (.int n):=by kernel_rfl
  rw[this];simp[uk,IU,smO,gu hs]
 rw[hl]at a2
 have e2:(((k+1:Nat):Int)-1)=Int.ofNat k:=by show((k+1:Nat):Int)-1=(k:Int);omega
 have a3:evE (cM P toks 874 calls) (bq P) 17 (nl ρ0 (.py (.list L)) w (.py p)) JS k=.ok (.py (.int (Int.ofNat k))) k:=by
  refine(Dq (n:=16) (k2:=k) (b:=.py (.int 1)) a2 (by kernel_rfl)).trans ?_
  rw[← h]
  have:aK .Sub (.py (.int ((k+1:Nat):Int))) (.py (.int 1))=some (.py (.int (((k+1:Nat):Int)-1))):=by kernel_rfl
  rw[this,e2];rfl
 have a4:evE (cM P toks 874 calls) (bq P) 18 (nl ρ0 (.py (.list L)) w (.py p)) CT k=.ok (.py (.bool true)) k:=by
  refine(Dp (n:=17) rfl a1 a3).trans ?_
  rw[By];rfl
 have a6:evE (cM P toks 874 calls) (bq P) 18 (nl ρ0 (.py (.list L)) w (.py p)) (.Name "found" ⟨724,11,724,16⟩) k=.ok (.py p) k:=by kernel_rfl
 have a7:=(Do (n:=18) (p:=⟨724,11,724,58⟩) (a:=.Name "found" ⟨724,11,724,16⟩) (b:=.Constant .none 0 ⟨724,54,724,58⟩) (Dr (n:=17) a4)).trans ((if_pos rfl).trans a6)
 rw[D7]
 exact Dn (n:=19) a7
end
end Mine
end
section
namespace Mine
open PySem PySem.W PySem.Spec PySem.Calls PyProof.Rows Builtin.Str Builtin.ObjectAttr
theorem D8 (P:Params):gp P 1=.Assign [.Name "reader" ⟨711,4,711,10⟩] (.Call (.Name "Reader" ⟨711,13,711,19⟩) [.ListComp rt [⟨ng,itT,[],0⟩] scT ⟨711,20,711,97⟩] [] ⟨711,13,711,98⟩) ⟨711,4,711,98⟩:=by kernel_rfl
theorem MX (P:Params):d7 (Hd.kM P) "Reader"=some (.glob (.ref 714)):=by kernel_rfl
theorem I7 (P:Params):keepIn (Hd.kM P) (.ref 714)=true:=by kernel_rfl
theorem nk (P:Params):(bq P).names.lookup ("tokens":Str)=some NameKind.local∧(bq P).names.lookup ("enumerate":Str)=some NameKind.globalImplicit∧(bq P).names.lookup ("Reader":Str)=some NameKind.globalImplicit∧(bq P).names.lookup ("GrammarFault":Str)=some NameKind.globalImplicit:=⟨by kernel_rfl,by kernel_rfl,by kernel_rfl,by kernel_rfl⟩
theorem sa (P:Params):(bq P).names.all (fun p=>match p.2 with | .cell=>false | _=>true)=true:=by kernel_rfl
theorem Bx (P:Params) (ρ:Rho):gI (bq P) scT ρ=true:=by kernel_rfl
section
variable {cx:Sx}{g:Gh}
theorem rI (R:RealCx cx) (toks:List Tk) (n:Nat):sY cx.K cx.rc cx.rs cx.dl cx.tabs toks n=cY cx.w.params toks n:=by
 rw[R.K,R.rc,R.rs,R.dl,R.tabs]
theorem i3 (R:RealCx cx) (h:g.rdr=false) (n:Nat):dJ cx g n :=
 ⟨582,by rw[R.K,R.rc];exact fi3 _,by rw[R.K];exact fi4 _,fun _ _ _ _ _ _ _ _ _ _ _ _ _ _ _ hr=>by first | exact nn (h.symm.trans hr) | (rw[h]at hr;injection hr)⟩
theorem i8 (R:RealCx cx) (h:g.rdr=false∨(g.toks≠[]∧sm g.toks.length=true)) (n:Nat):OOk cx g (cY cx.w.params g.toks n) (n+5):=by
 rw[← rI R]
 refine pW (dS R) (f8 R) (fun n=>?_) n
 rcases h with h | ⟨h1,h2⟩
 ·exact i3 R h _
 ·exact i2 R h1 h2 n
theorem nE {names:List (Str×NameKind)}(h:names.all (fun p=>match p.2 with | .cell=>false | _=>true)=true) {y:Str}:names.lookup y≠some .cell:=fun e=>by
 have:=List.all_eq_true.mp h _ (mem_of_lookup e)
 injection this
structure AtTry (cx:Sx) (g:Gh) (V:List Addr) (A:Around) (l:List Env) (n:Nat) (s:Shared) (toks:List Tk3) (ρ0 D1:D) (w:Str) (env:Env) (V':List Addr) (Ra RD TL:Addr) (B:Bs) (h:Heap) (tk:Nat):Prop where
 ss:SS cx (gR (g.at V (some 874)) Ra RD TL toks) s.heap B l n (A.deeper env) env V' (ku ρ0 D1 w) 0 {s with heap:=h,toks:=tk}
 ab:AB (A.deeper env) n
 sc:bI (bq cx.w.params) env
 kof:∀ y,env.kindOf y=(bq cx.w.params).names.lookup y
 fr:(A.deeper env).frames=some (env::l)
 ef:env.frame=some env.locals
 nRD:s.heap.get? RD=none
noncomputable abbrev vQ (x:Str) (toks:List Tk3):Rho:=[(("text":Str),.py (.str x)),(("tokens":Str),.py (.list (toks.map pyT)))]
noncomputable abbrev MN:Expr:=.Call (.Name "Reader" ⟨711,13,711,19⟩) [.ListComp rt [⟨ng,itT,[],0⟩] scT ⟨711,20,711,97⟩] [] ⟨711,13,711,98⟩
theorem AO {x:Str}{toks:List Tk3}(y:Str) (d:D) (e:aH (vQ x toks) y=some d):∃ p,d=.py p:=by
 unfold aH at e
 split at e
 ·obtain rfl:=si e;exact⟨_,rfl⟩
 ·unfold aH at e
  split at e
  ·obtain rfl:=si e;exact⟨_,rfl⟩
  ·injection e
theorem vY (R:RealCx cx) (hr0:g.rdr=false) {h0:Heap}{B:Bs}{l:List Env}{N:Nat}{A:Around}{env:Env}{V2:List Addr}{x:Str}{toks:List Tk3}{k:Nat}{s:Shared}{Q:Flow→Shared→Prop}{E:Value→Shared→Prop}(x2:SS cx g h0 B l (N+6) A env V2 (vQ x toks) k s)
 (kof:∀ y,env.kindOf y=(bq cx.w.params).names.lookup y) (sc:bI (bq cx.w.params) env) (hlen:toks.length≤1000)
 (H:∀ h' tk' V' Ra RD TL B',s.heap.get? RD=none→SS cx (gR g Ra RD TL toks) h0 B' l (N+6) A env V' (bP (vQ x toks) "reader" .rdr) 0 {s with heap:=h',toks:=tk'}→Q .next {s with heap:=h',toks:=tk'}) :
 wpAny (model cx.prog cx.w) A (exec (.Assign [.Name "reader" ⟨711,4,711,10⟩] MN ⟨711,4,711,98⟩) env) Q E s:=by
 obtain⟨q1,q2,q3,q4⟩:=nk cx.w.params
 have hcell:∀ y,env.kindOf y≠some .cell:=fun y e=>nE (sa cx.w.params) ((kof y).symm.trans e)
 refine wpAny_Assign_Name ?_ (dY rfl)
 rw[aU (by intro _ _ _;nofun)]
 refine wpAny_bind (cr x2.st ((kof _).trans q3) (by rfl) (by rw[R.K];exact MX _) fun w rw=>?_)
 obtain rfl:=rw
 refine callWith_of (P:=fun h'=>cx.K.In h') rfl (fun h' X=>keeps_K (by rw[R.K];exact I7 _) h' X) ?_
 refine evalArgs_plain ?_
 show wpAny _ _ (spliced (backTo _ (starEach [.ListComp rt [⟨ng,itT,[],0⟩] scT ⟨711,20,711,97⟩] env))) _ _ _
 refine wpAny_items_cons (uy (n:=N+4) R sc x2.st (Bx _ _) (by kernel_rfl) x2.st.good.WV ((kof _).trans q1) ((kof _).trans q2) (toks:=toks) (by rfl) hlen fun h3 tk3 L ys xs t3 kp3 dl nL tf=>?_)
 have G3:=x2.st.good.keeps kp3
 refine wpAny_items_nil ⟨G3.X,?_⟩
 refine AR R (n:=N+4) (V0:=g.V0) (me:=g.me) (V:=V2) (k:=k) (l:=env::l) (s:={s with heap:=h3,toks:=tk3}) x2.st.ao (x2.st.ch.ext (.of_keeps kp3)) G3 t3 fun h4 tk4 Ra RD tk u1 u2 u3 u4 a1 a2 nn t4 RRD nR nRD q5 q6 kp4=>?_
 have back:∀{b:Addr},h3.get? b=none→s.heap.get? b=none:=fun {b} e=>by
  induction q:s.heap.get? b using Option.casesOn with
  |none=>rfl
  |some o=>have:=kp3 _ _ q;first | exact nn (e.symm.trans this) | (rw[e]at this;injection this)
 have al2:∀ a∈V2,∃ o,s.heap.get? a=some o:=x2.st.good.alive
 have nV:∀{b:Addr},s.heap.get? b=none→b∉V2:=fun e m=>by
  obtain⟨o,e'⟩:=al2 _ m
  first | exact nn (e.symm.trans e') | (rw[e]at e';injection e')
 obtain⟨oL,L1,L2,nL3,L3⟩:=dl
 have hT3:TokAll (hideAll h3 V2) 164 ys.toList toks:=TokF.all (fun _ _ _ e=>e) al2 tf
 have hT4:TokAll (hideAll h4 (RD::V2)) cx.tc ys.toList toks:=by
  rw[R.tc]
  exact hT3.keeps (cj kp4 fun b hb=>by
   rcases List.mem_cons.mp hb with rfl | hb
   ·exact .inr nRD
   ·exact .inl hb)
 have LRD:L≠RD:=fun q=>by first | exact nn (nRD.symm.trans (q▸L1)) | (rw[q,nRD]at L1;injection L1)
 have x4:=DD hr0 x2 AO hcell t4 (fun b o e=>kp4 _ _ (kp3 _ _ e)) (back nR) (back nRD) RRD (by rw[R.rc];exact q5) ⟨_,_,_,_,_,_,_,_,q6⟩ (vs:=ys.toList) ⟨oL,nL3,kp4 _ _ L1,L2,by rw[Array.toArray_toList];exact L3⟩
  (fun m=>by
   rcases List.mem_cons.mp m with q | m
   ·exact LRD q
   ·exact nV nL m) hT4
 have hif:oV (bq cx.w.params) (vQ x toks) "reader" D.rdr=true:=by kernel_rfl
 refine jf (Q:=Q) sc (y:="reader") (v:=.ref Ra) (d:=.rdr) x4 ⟨rfl,rfl⟩ ?_
 rw[hif,if_pos rfl]
 exact fun h5 tk5 V5 x5=>H h5 tk5 V5 Ra RD L _ (back nRD) x5
set_option maxHeartbeats 1000000 in
theorem iY (R:RealCx cx) (hr0:g.rdr=false) {V0 V:List Addr}{me:Option Addr}{k N:Nat}{A:Around}{l:List Env}{s:Shared}{Q E:Value→Shared→Prop}(ao:AOk A (N+7) l) (ch:Chain cx g l s.heap) (G:Good cx (g.at V0 me) V s.heap k) (ht:1≤s.toks)
 {x:List Nat}{t:Tok}(hx:x.length≤4000) {kd w:Str}{i:Int}{tl:List Tk3}(hw:cC x++[lV]=((kd,w,i)::tl).map pyT) (hlen:((kd,w,i)::tl).length≤1000)
 (H:∀ env V' Ra RD TL B h tk,AtTry cx g V A l (N+6) s ((kd,w,i)::tl) (.py (.str (mkS x))) (.py (.list (((kd,w,i)::tl).map pyT))) w env V' Ra RD TL B h tk →
  wpAny (model cx.prog cx.w) (A.deeper env) (execs [gp cx.w.params 3,gp cx.w.params 4] env) (fun fl s'=>Q (match fl with | .ret v=>v | _=>.none) s') (fun e s'=>wpAny (model cx.prog cx.w) (A.deeper env) (leaving env e) (fun _ s''=>E e s'') (fun e' s''=>E e' s'') s') {s with heap:=h,toks:=tk}) :
 wpAny (model cx.prog cx.w) A (call (.ref 874) [.str (mkS x) t]) Q E s:=by
 have F:=dS R
 have GF:=f8 R
 have hK:cx.K.lookup 874=some ⟨.type "function",none,.func (fdK cx.w.params 874),#[]⟩:=by rw[R.K];exact Js _
 refine cw (args:=[.py (.str (mkS x))]) (k:=k) (n:=N+6) ao ch G ht rfl ⟨bO _ _,trivial⟩ hK (by rw[R.K];exact Ku _ _) (BJ _) (by rw[R.K];exact JA _) fun env V' h₁ tk₁ M=>?_
 obtain⟨q1,q2,q3,q4⟩:=nk cx.w.params
 have hcell:∀ y,env.kindOf y≠some .cell:=fun y e=>nE (sa cx.w.params) ((M.kof y).symm.trans e)
 have O:OOk cx g (cY cx.w.params g.toks (N+1)) (N+6):=i8 R (.inl hr0) (N+1)
 have hW:(cC x).length+1≤100000:=by
  have:=congrArg List.length hw
  rw[List.length_append,List.length_map]at this
  have h1:(cC x).length+1=((kd,w,i)::tl).length:=this
  omega
 have e0:=JR cx.w.params g.toks (cY cx.w.params g.toks (N+1)) (mkS x) k (qf cx.w.params g.toks N x k hx) hW
 rw[hw]at e0
 refine wpAny_execs_cons (gF F GF (g:=g.at V (some 874)) O (i3 R hr0 _) M.ab M.sc M.kof 20 _ (gp cx.w.params 0) V' _ k _ _ _ M.ss ?_)
 rw[gQ R,show(fdK cx.w.params 874).scope=bq cx.w.params from rfl,e0]
 intro h2 tk2 V2 x2
 rw[D8]
 refine wpAny_execs_cons (vY (g:=g.at V (some 874)) R hr0 x2 M.kof M.sc hlen fun h5 tk5 V5 Ra RD TL B5 nRD x5=>?_)
 have nRD0:s.heap.get? RD=none:=by
  induction q:s.heap.get? RD using Option.casesOn with
  |none=>rfl
  |some o =>
   by_cases hw:RD∈(g.at V (some 874)).W cx
   ·obtain⟨o',e'⟩:=x2.st.good.alive _ (x2.st.good.WV _ hw)
    first | exact nn (nRD.symm.trans e') | (rw[nRD]at e';cases e')
   ·have:=x2.ext.keep _ _ hw q;first | exact nn (nRD.symm.trans this) | (rw[nRD]at this;cases this)
 have O2:OOk cx (gR (g.at V (some 874)) Ra RD TL ((kd,w,i)::tl)) (cY cx.w.params ((kd,w,i)::tl) (N+1)) (N+6):=i8 R (.inr ⟨List.cons_ne_nil _ _,gu (Nat.le_trans hlen (by decide))⟩) (N+1)
 have FO2:dJ cx (gR (g.at V (some 874)) Ra RD TL ((kd,w,i)::tl)) (N+6):=i2 R (List.cons_ne_nil _ _) (gu (Nat.le_trans hlen (by decide))) (N+1)
 refine wpAny_execs_cons (gF F GF O2 FO2 M.ab M.sc M.kof 20 _ (gp cx.w.params 2) V5 _ 0 _ _ _ x5 ?_)
 rw[show cx.C (gR (g.at V (some 874)) Ra RD TL ((kd,w,i)::tl))=fun calls=>cM cx.w.params ((kd,w,i)::tl) 874 calls from funext fun calls=>gQ (g:=gR (g.at V (some 874)) Ra RD TL ((kd,w,i)::tl)) R (RD::V) 874 calls,show(fdK cx.w.params 874).scope=bq cx.w.params from rfl]
 have e2:=JQ cx.w.params ((kd,w,i)::tl) (cY cx.w.params ((kd,w,i)::tl) (N+1)) 0 kd w (tl.map pyT) (.py (.str (mkS x)))
 have hset:bP (vQ (mkS x) ((kd,w,i)::tl)) "reader" .rdr=[(("text":Str),.py (.str (mkS x))),(("tokens":Str),.py (.list (.tuple [.str kd,.str w]::tl.map pyT))),(("reader":Str),.rdr)]:=by kernel_rfl
 rw[hset,e2]
 intro h6 tk6 V6 x6
 exact H env V6 Ra RD TL B5 h6 tk6 ⟨x6,M.ab,M.sc,M.kof,M.fr,M.ef,nRD0⟩
theorem uq (hr0:g.rdr=false) {V V0:List Addr}{me:Option Addr}{Ra RD TL:Addr}{toks:List Tk3}{h h':Heap}{k k':Nat}(G:Good cx (g.at V0 me) V h k) (G':Good cx (gR (g.at V (some 874)) Ra RD TL toks) (RD::V) h' k'):Good cx (g.at V0 me) V h' k:=by
 have hk:=fT (h:=h') (V:=V) (V':=RD::V) fun _ hb=>.tail _ hb
 refine⟨G'.keep,fun a ha=>G'.alive a (.tail _ ha),G.WV,G.V0,fun t ht=>?_,fun hr=>by rw[show(g.at V0 me).rdr=g.rdr from rfl,hr0]at hr;injection hr⟩
 obtain⟨ps,e,r⟩:=G'.tabs t ht
 exact⟨ps,e,r.imp id fun⟨c',e1,e2⟩=>⟨c',e1,e2.keeps hk⟩⟩
theorem qV (R:RealCx cx) (hr0:g.rdr=false) {V0 V:List Addr}{me:Option Addr}{k N:Nat}{A:Around}{l:List Env}{s:Shared}{Q E:Value→Shared→Prop}(ao:AOk A (N+7) l) (ch:Chain cx g l s.heap) (G:Good cx (g.at V0 me) V s.heap k) (ht:1≤s.toks)
 {x:List Nat}{t:Tok}(hx:x.length≤4000) {v:Str×Nat}(hv:v∈bj) {kd:Str}{i:Int}{tl:List Tk3}(hw:cC x++[lV]=((kd,v.1,i)::tl).map pyT) (hlen:((kd,v.1,i)::tl).length≤1000) {d:PyData}{k':Nat}
 (ho:cY cx.w.params ((kd,v.1,i)::tl) (N+1) v.2 jA 0=.ok (.py d) k') (hk':k'+1=((kd,v.1,i)::tl).length)
 (H:∀ h' tk' u,1≤tk'→Ext (g.W cx) s.heap h'→Good cx (g.at V0 me) V h' k→Rep cx (g.at V0 me) V h' u (.py d)→Q u {s with heap:=h',toks:=tk'}) :
 wpAny (model cx.prog cx.w) A (call (.ref 874) [.str (mkS x) t]) Q E s:=by
 have F:=dS R
 have GF:=f8 R
 refine iY R hr0 ao ch G ht hx hw hlen fun env V' Ra RD TL B h tk T=>?_
 have O2:OOk cx (gR (g.at V (some 874)) Ra RD TL ((kd,v.1,i)::tl)) (cY cx.w.params ((kd,v.1,i)::tl) (N+1)) (N+6):=i8 R (.inr ⟨List.cons_ne_nil _ _,gu (Nat.le_trans hlen (by decide))⟩) (N+1)
 have FO2:dJ cx (gR (g.at V (some 874)) Ra RD TL ((kd,v.1,i)::tl)) (N+6):=i2 R (List.cons_ne_nil _ _) (gu (Nat.le_trans hlen (by decide))) (N+1)
 have hC:cx.C (gR (g.at V (some 874)) Ra RD TL ((kd,v.1,i)::tl))=fun calls=>cM cx.w.params ((kd,v.1,i)::tl) 874 calls:=funext fun calls=>gQ (g:=gR (g.at V (some 874)) Ra RD TL ((kd,v.1,i)::tl)) R (RD::V) 874 calls
 rw[uV]
 refine wpAny_execs_cons (wpAny_Try_except (gG (gF F GF O2 FO2 T.ab T.sc T.kof 20) (tg cx.w.params) B V' _ 0 _ _ _ T.ss ?_))
 rw[hC]
 have e3:=yK cx.w.params ((kd,v.1,i)::tl) (cY cx.w.params ((kd,v.1,i)::tl) (N+1)) 0 (.py (.str (mkS x))) (.py (.list (((kd,v.1,i)::tl).map pyT))) v hv ho (.inr ⟨_,_,rfl⟩)
 rw[e3]
 intro h7 tk7 V7 x7
 refine wpAny_execs_nil ?_
 refine wpAny_execs_cons (gF F GF O2 FO2 T.ab T.sc T.kof 20 _ (gp cx.w.params 4) V7 _ k' _ _ _ x7 ?_)
 rw[hC]
 have e4:=E5 cx.w.params ((kd,v.1,i)::tl) (cY cx.w.params ((kd,v.1,i)::tl) (N+1)) k' (.py (.str (mkS x))) (L:=((kd,v.1,i)::tl).map pyT) v.1 d (by rw[List.length_map];exact hk') (by rw[List.length_map];exact Nat.le_trans hlen (by decide))
 rw[e4]
 intro h8 tk8 u t8 ex8 G8 rv8
 refine H h8 tk8 u t8 ⟨fun b o hb e=>ex8.keep b o (fun m=>?_) e⟩ (uq hr0 G G8) ?_
 ·rcases E1 (g:=g.at V (some 874)) hr0 m with q | q
  ·rw[q,T.nRD]at e;injection e
  ·exact hb q
 ·obtain⟨as,r⟩:=rv8
  exact⟨as,Reads.keeps (fT (h:=h8) (V:=V) (V':=RD::V) fun _ hb=>.tail _ hb) r⟩
end
structure Caught (cx:Sx) (W:List Addr) (h h':Heap):Prop where
 ex:∃ hr ls,Ext W h hr∧TabInv cx.tabs hr hr∧(∀ b o,cx.H0.get? b=some o→hr.get? b=some o)∧KZ cx W hr ls∧(hideAll hr ls).StaysIn h'∧hr.UpToSlots h'
theorem MT (P:Params):nsIn (Hd.kM P) mainGlobals "GrammarFault"=some (some (.ref 72)):=by kernel_rfl
section
variable {cx:Sx}{g:Gh}
theorem uU (R:RealCx cx) {env:Env}{l:List Env}{A:Around}{h0:Heap}{s:Shared}{Q:Flow→Shared→Prop}{E:Value→Shared→Prop}{p1 p2 p3 p4:Pos}{L:Addr}
 (hfr:A.frames=some (env::l)) (hf:env.frame=some L) (kd:env.scope.kind=.function) (gl:env.globals=mainGlobals) (hk:env.kindOf "GrammarFault"=some .globalImplicit)
 {tk:Nat}{h:Heap}{e:Value}(fl:FlB cx g env l h0 h e) (ht:1≤tk)
 (H:∀ h' tk',1≤tk'→Caught cx (g.W cx) h0 h'→Q (.ret .none) {s with heap:=h',toks:=tk'}) :
 wpAny (model cx.prog cx.w) A (noteFrame e env) (fun _ s₂=>wpAny (model cx.prog cx.w) A (setFlight e none) (fun _ s₃=>wpAny (model cx.prog cx.w) A (handleBy e env [.ExceptHandler (some (.Name "GrammarFault" p1)) none [.Return (some (.Constant .none 0 p2)) p3] p4]) Q E s₃) E s₂) E {s with heap:=h,toks:=tk}:=by
 refine pQ (s:={s with toks:=tk}) hfr hf fl fun h2 hr x ex ee HA=>?_
 obtain⟨t,k0,ls,L',a0,hls,hf',hw,u⟩:=HA
 rw[ee]
 refine wpAny_landsW hw fun h3 hfl u3=>?_
 have kp:∀ b o,cx.H0.get? b=some o→h3.get? b=some o:=fun b o e=>hfl.1 _ _ (hideAll_get ls (k0 _ _ e) fun m=>nn ((hls b m).2.2.symm.trans e))
 obtain⟨oe,he,hcls⟩:=hfl.there
 obtain⟨nm,q,N,bs,bm,hdct,sn,sub,ab,col,dd0,k0',k1,k2,k3,k5,newId,hK,hbase⟩:=(f8 R).cls
 refine wpAny_handleBy_cons (codeAny_handlers_test ?_) (by intro q;injection q)
 refine Name_function_global kd hk ?_ (by rfl)
 refine loadGlobal_global (gl▸cx.T.g.keeps kp) (mg_of cx.X cx.T.g (R.K▸MT _)) ?_
 rw[show(Value.ref 72:Value)=.ref cx.gf by rw[R.gf]]
 refine wpAny_excMatches_sub_self (kp _ _ (cx.X _ _ hK)) he hcls hbase ?_
 refine codeAny_handlers_suite ?_
 refine lands_againW (s:={s with heap:=h3,toks:=tk}) hfl fun h4 hfl4 u4=>?_
 refine wpAny_execs_cons (wpAny_Return_some (wpAny_Constant_none ?_))
 exact H h4 tk ht ⟨hr,ls,ex,t,k0,hls,hfl4.1,(u.trans u3).trans u4⟩
theorem pD (R:RealCx cx) (hr0:g.rdr=false) {V0 V:List Addr}{me:Option Addr}{k N:Nat}{A:Around}{l:List Env}{s:Shared}{Q E:Value→Shared→Prop}(ao:AOk A (N+7) l) (ch:Chain cx g l s.heap) (G:Good cx (g.at V0 me) V s.heap k) (ht:1≤s.toks)
 {x:List Nat}{t:Tok}(hx:x.length≤4000) {v:Str×Nat}(hv:v∈bj) {kd:Str}{i:Int}{tl:List Tk3}(hw:cC x++[lV]=((kd,v.1,i)::tl).map pyT) (hlen:((kd,v.1,i)::tl).length≤1000)
 (ho:cY cx.w.params ((kd,v.1,i)::tl) (N+1) v.2 jA 0=.exc) (H:∀ h' tk',1≤tk'→Caught cx (g.W cx) s.heap h'→Q .none {s with heap:=h',toks:=tk'}) :
 wpAny (model cx.prog cx.w) A (call (.ref 874) [.str (mkS x) t]) Q E s:=by
 have F:=dS R
 have GF:=f8 R
 refine iY R hr0 ao ch G ht hx hw hlen fun env V' Ra RD TL B h tk T=>?_
 have O2:OOk cx (gR (g.at V (some 874)) Ra RD TL ((kd,v.1,i)::tl)) (cY cx.w.params ((kd,v.1,i)::tl) (N+1)) (N+6):=i8 R (.inr ⟨List.cons_ne_nil _ _,gu (Nat.le_trans hlen (by decide))⟩) (N+1)
 have FO2:dJ cx (gR (g.at V (some 874)) Ra RD TL ((kd,v.1,i)::tl)) (N+6):=i2 R (List.cons_ne_nil _ _) (gu (Nat.le_trans hlen (by decide))) (N+1)
 have hC:cx.C (gR (g.at V (some 874)) Ra RD TL ((kd,v.1,i)::tl))=fun calls=>cM cx.w.params ((kd,v.1,i)::tl) 874 calls:=funext fun calls=>gQ (g:=gR (g.at V (some 874)) Ra RD TL ((kd,v.1,i)::tl)) R (RD::V) 874 calls
 rw[uV]
 refine wpAny_execs_cons (wpAny_Try_except (gG (gF F GF O2 FO2 T.ab T.sc T.kof 20) (tg cx.w.params) B V' _ 0 _ _ _ T.ss ?_))
 rw[hC]
 rw[yK cx.w.params ((kd,v.1,i)::tl) (cY cx.w.params ((kd,v.1,i)::tl) (N+1)) 0 (.py (.str (mkS x))) (.py (.list (((kd,v.1,i)::tl).map pyT))) v hv ho (.inl rfl)]
 intro h7 tk7 e t7 fl
 refine uU R T.fr T.ef T.ss.st.fr.kind T.ss.st.fr.gl ((T.kof _).trans (nk _).2.2.2) fl t7 fun h' tk' t' c=>H h' tk' t' ?_
 obtain⟨hr,ls,ex,c2,c3,c4,c5,c6⟩:=c
 refine⟨hr,ls,⟨fun b o hb e=>ex.keep b o (fun m=>(E1 (g:=g.at V (some 874)) hr0 m).elim (fun q=>nn (T.nRD.symm.trans (q▸e))) hb) e⟩,c2,c3,fun L m=>⟨(c4 L m).1,fun mm=>(c4 L m).2.1 ?_,(c4 L m).2.2⟩,c5,c6⟩
 exact KV (g:=g.at V (some 874)) hr0 mm
end
end Mine
end
section
namespace Mine
open PySem PySem.W PySem.Spec PySem.Calls PyProof.Rows Builtin.Str
noncomputable abbrev NR:Nat:=151
noncomputable def bg (P:Params) (x:Str) (r:PyData):Prop:=∃(l:List Nat) (v:Str×Nat) (kd:Str) (i:Int) (tl:List Tk) (k':Nat),x=mkS l∧l.length≤4000∧v∈bj∧cC l++[lV]=((kd,v.1,i)::tl).map pyT∧((kd,v.1,i)::tl).length≤1000 ∧
 cY P ((kd,v.1,i)::tl) (NR+1) v.2 jA 0=.ok (.py r) k'∧k'+1=((kd,v.1,i)::tl).length
noncomputable def bz (P:Params) (rd:Str→Option PyData):Nat→Orc
 |0,_,_,_=>.no
 |n+1,f,args,k=>bif Nat.beq f 874 then(stA args).elim .no fun x=>ofO ((rd x).map D.py) k else hO (cM P [] f (bz P rd n)) f args k
theorem lE {P:Params}{rd:Str→Option PyData}{n:Nat}{f:Addr}{args:List D}{k:Nat}:bz P rd (n+1) f args k=bif Nat.beq f 874 then(stA args).elim .no fun x=>ofO ((rd x).map D.py) k else hO (cM P [] f (bz P rd n)) f args k:=rfl
theorem tz (P:Params) (rd:Str→Option PyData):Src P [] (bz P rd):=⟨fun n f args k hf=>by rw[lE,hf,cond_false]⟩
theorem mR {P:Params}{rd:Str→Option PyData}{n:Nat}{x:Str}(k:Nat):bz P rd (n+1) 874 [.py (.str x)] k=ofO ((rd x).map D.py) k:=rfl
section
variable {cx:Sx}{g:Gh}
theorem AOk.mono {A:Around}{n m:Nat}{l:List Env}(a:AOk A n l) (h:m≤n):AOk A m l:=by
 have h1:=a.depth
 have h2:=a.units
 exact⟨a.handled,a.frames,by omega,by omega⟩
theorem lG (R:RealCx cx) (hr0:g.rdr=false) (hg:g.toks=[]) {rd:Str→Option PyData}(hrd:∀ x r,rd x=some r→bg cx.w.params x r):∀ n,OOk cx g (bz cx.w.params rd n) (n+(NR+7))
 |0=>fun _ _ _ _ _ _ _ _ _ _ _ _ _ _ _ _ _ _ hp=>hp.elim
 |n+1=>fun V0 V me f args vs k s A l Q E ao ch G ht hnb rs hp=>by
  induction h874:Nat.beq f 874 using Bool.casesOn with
  |true =>
   obtain rfl:=Nat.eq_of_beq_eq_true h874
   rw[lE,h874,cond_true]at hp
   induction hs:stA args using Option.casesOn with
   |none=>rw[hs]at hp;exact hp.elim
   |some x =>
    rw[hs]at hp
    obtain rfl:=kj hs
    match vs,rs with
    |[v],⟨⟨_,rv⟩,_⟩ =>
    cases rv with | str _ t =>
    induction hx:rd x using Option.casesOn with
    |none=>rw[Option.elim_some,hx]at hp;exact hp.elim
    |some r =>
     rw[Option.elim_some,hx]at hp
     replace hp:PO cx (g.at V0 me) V l (Rep cx (g.at V0 me) V) (.ok (.py r) k) s Q E:=hp
     obtain⟨lx,vb,kd,i,tl,k',rfl,h1,h2,h3,h4,h5,h6⟩:=hrd x r hx
     exact qV R hr0 (ao.mono (show NR+7≤n+1+(NR+7)by omega)) ch G ht h1 h2 h3 h4 h5 h6 fun h' tk' u t' ex G' rv=>hp h' tk' u t' ex G' rv
  |false =>
   rw[(tz _ _).succ _ _ _ _ h874]at hp
   have O:=lG R hr0 hg hrd n
   have hC:cx.C (g.at V (some f)) (bz cx.w.params rd n)=cM cx.w.params [] f (bz cx.w.params rd n):=by rw[gQ R,hg]
   rw[← hC]at hp
   have ao':AOk A (n+(NR+7)+1) l:=ao.mono (by omega)
   exact sX (dS R) (f8 R) (i3 R hr0 _) O ao' ch G ht hnb rs hp
end
end Mine
end
section
namespace Mine
open PySem PySem.W PySem.Calls PyProof.Rows Builtin.Str
theorem DV (c:Nat):∀ l,spL c l≠[]
 |[]=>by simp[spL]
 |a::r=>by
  rw[spL]
  induction Nat.beq a c using Bool.casesOn with
  |true=>simp
  |false =>
   dsimp only
   induction spL c r using List.casesOn<;>simp
theorem gU (c:Nat):∀(a r:List Nat),spL c (a++c::r)=spL c a++spL c r
 |[],r=>by
  have:spL c (c::r)=[]::spL c r:=by rw[spL,Nat.beq_refl]
  exact this
 |x::a,r=>by
  show spL c (x::(a++c::r))=_
  rw[spL,spL,gU c a r]
  induction Nat.beq x c using Bool.casesOn with
  |true=>rfl
  |false =>
   dsimp only
   induction h:spL c a using List.casesOn with
   |nil=>exact absurd h (DV c a)
   |cons p q=>rfl
noncomputable abbrev z40:List Nat:=[32,40,32]
noncomputable abbrev z41:List Nat:=[32,41,32]
theorem K5 (a r:List Nat):cC (a++32::r)=cC a++cC r:=by
 unfold cC
 have e1:rpl 40 z40 (a++32::r)=rpl 40 z40 a++32::rpl 40 z40 r:=by rw[cb];rfl
 have e2:rpl 41 z41 (rpl 40 z40 a++32::rpl 40 z40 r)=rpl 41 z41 (rpl 40 z40 a)++32::rpl 41 z41 (rpl 40 z40 r):=by rw[cb];rfl
 rw[e1,e2,gU,List.filterMap_append]
theorem FR:(spL 32 [40]).filterMap kc=[pyT (tS 40)]:=by kernel_rfl
theorem FQ:(spL 32 [41]).filterMap kc=[pyT (tS 41)]:=by kernel_rfl
theorem sC (a r:List Nat):cC (a++40::r)=cC a++pyT (tS 40)::cC r:=by
 unfold cC
 have e1:rpl 40 z40 (a++40::r)=rpl 40 z40 a++32::([40]++32::rpl 40 z40 r):=by rw[cb];rfl
 have e2:rpl 41 z41 (rpl 40 z40 a++32::([40]++32::rpl 40 z40 r))=rpl 41 z41 (rpl 40 z40 a)++32::([40]++32::rpl 41 z41 (rpl 40 z40 r)):=by rw[cb];rfl
 rw[e1,e2,gU,gU,List.filterMap_append,List.filterMap_append,FR];rfl
theorem sD (a r:List Nat):cC (a++41::r)=cC a++pyT (tS 41)::cC r:=by
 unfold cC
 have e1:rpl 40 z40 (a++41::r)=rpl 40 z40 a++41::rpl 40 z40 r:=by rw[cb];rfl
 have e2:rpl 41 z41 (rpl 40 z40 a++41::rpl 40 z40 r)=rpl 41 z41 (rpl 40 z40 a)++32::([41]++32::rpl 41 z41 (rpl 40 z40 r)):=by rw[cb];rfl
 rw[e1,e2,gU,gU,List.filterMap_append,List.filterMap_append,FQ];rfl
theorem kf:∀(m:Nat) (r:List Nat) (T:List Tk),cC r=T.map pyT→cC (aT m++41::r)=(ba m (tS 41::T)).map pyT
 |0,r,T,h=>by
  rw[sD,h]
  have:cC (aT 0)=[pyT (tW 74),pyT (tS 45),pyT (tN 49)]:=by kernel_rfl
  rw[this];rfl
 |m+1,r,T,h=>by
  have e:aT (m+1)++41::r=[49,32,45,32]++40::(aT m++41::(41::r)):=by simp[aT]
  have h1:cC (41::r)=(tS 41::T).map pyT:=by
   have:=sD [] r
   rw[List.nil_append]at this
   rw[this,h];rfl
  rw[e,sC,kf m (41::r) (tS 41::T) h1]
  have:cC [49,32,45,32]=[pyT (tN 49),pyT (tS 45)]:=by kernel_rfl
  rw[this];rfl
theorem oQ:∀(m:Nat) (r z:List Tk),ba m r++z=ba m (r++z)
 |0,_,_=>rfl
 |m+1,r,z=>by
  show tN 49::tS 45::tS 40::(ba m (tS 41::r)++z)=_
  rw[oQ m];rfl
theorem ke (a b:List Nat) (pre tl tl0:List Tk) (m:Nat) (ha:cC a++[pyT (tS 40)]=pre.map pyT) (hb:cC b=tl0.map pyT) (ht:tl=tl0++[tS 46]):cC (a++40::(aT m++41::b))++[pyT (tS 46)]=(pre++ba m (tS 41::tl)).map pyT:=by
 rw[sC,kf m b tl0 hb,List.map_append,← ha,ht]
 have:ba m (tS 41::(tl0++[tS 46]))=ba m (tS 41::tl0)++[tS 46]:=by rw[oQ];rfl
 rw[this,List.map_append]
 simp
theorem kY:∀(m:Nat) (r:List Tk),(ba m r).length=4*m+3+r.length
 |0,r=>by simp[ba];omega
 |m+1,r=>by
  have:=kY m (tS 41::r)
  simp[ba]at this ⊢
  omega
theorem iW:∀(m:Nat),(aT m).length=6*m+5
 |0=>rfl
 |m+1=>by
  have:=iW m
  simp[aT]
  omega
noncomputable def m9 (P:Params) (d m:Nat) (o:Nat→List Tk→OutK Zs D):Prop:=∀ n p r,cN P (n+120) 279 [.rdr,.py (.int (.ofNat d))] (p,ba m (tS 41::r))=o p r
theorem Bd {P:Params}{pre pr tl:List Tk}{m d:Nat}{o:Nat→List Tk→OutK Zs D}(hm:Nat.ble m 19=true) (hpre:pre=pr++[tS 40]) (hsum:m9 P d m o):Hook P (pre++ba m (tS 41::tl)) pre.length d 120 (o pre.length tl) where
 sum n:=by
  rw[List.drop_left]
  exact hsum n _ _
 part n p hp:=by
  have hp':p=pr.length:=by rw[hpre]at hp;simp at hp;exact hp
  subst hp'
  have:(pre++ba m (tS 41::tl)).drop pr.length=tS 40::ba m (tS 41::tl):=by
   rw[hpre,List.append_assoc,List.drop_left];rfl
  rw[this]
  exact part P n pr.length tl m hm
theorem qt {n:Nat}(h:n≤1000):sm n=true:=Nat.ble_eq.mpr (Nat.le_trans h (by decide))
theorem pc {P:Params}{pre pr tl:List Tk}{m d addr:Nat}{o:Nat→List Tk→OutK Zs D}(hm:Nat.ble m 19=true) (hpre:pre=pr++[tS 40]) (hsum:m9 P d m o) (hlen:(pre++ba m (tS 41::tl)).length≤1000) {r:OutK Zs D}
 (h:cH P pre.length d (o pre.length tl) (0+25) addr jA (0,pre++ba m (tS 41::tl))=r):Sim (RZ (pre++ba m (tS 41::tl))) (cY P (pre++ba m (tS 41::tl)) (NR+1) addr jA 0) r :=
 h▸mz (DU _ _) (gH (DU _ _) (Bd (tl:=tl) hm hpre hsum)) 25 addr jA 0 (0,pre++ba m (tS 41::tl)) ⟨rfl,rfl,qt hlen⟩
theorem ic (P:Params) {m:Nat}(hm:Nat.ble m 18=true):m9 P 1 m fun p r=>.ok (.py (ak m)) (4*m+3+p,tS 41::r):=fun n p r=>(LB P n p r m hm).trans (by rw[Nat.add_comm])
theorem da (P:Params) {m:Nat}(hm:Nat.ble m 18=true):m9 P 2 m fun p r=>.ok (.py (ak m)) (4*m+3+p,tS 41::r):=fun n p r=>(LA P n p r m hm).trans (by rw[Nat.add_comm])
theorem DS (P:Params):m9 P 2 19 fun _ _=>.exc:=fun n p r=>Ly P n p r
theorem y8 {m:Nat}(h:Nat.ble m 18=true):Nat.ble m 19=true:=Nat.ble_eq.mpr (Nat.le_trans (Nat.le_of_ble_eq_true h) (by decide))
theorem cF {P:Params}{a b:List Nat}{pre pr pre' tl tl0:List Tk}{v:Str×Nat}{kd:Str}{i:Int}{m d e:Nat}{res:PyData}(hm:Nat.ble m 18=true) (hv:v∈bj) (ha:cC a++[pyT (tS 40)]=pre.map pyT) (hb:cC b=tl0.map pyT) (htl:tl=tl0++[tS 46]) (hpre:pre=pr++[tS 40]) (hhd:pre=(kd,v.1,i)::pre')
 (hsum:m9 P d m fun p r=>.ok (.py (ak m)) (4*m+3+p,tS 41::r)) (hl1:a.length+b.length≤200) (hl2:pre.length+tl.length≤100) (he:e=pre.length+tl.length)
 (h:cH P pre.length d (.ok (.py (ak m)) (4*m+3+pre.length,tS 41::tl)) (0+25) v.2 jA (0,pre++ba m (tS 41::tl))=.ok (.py res) (4*m+3+e,[tS 46])):bg P (mkS (a++40::(aT m++41::b))) res:=by
 have hm':=Nat.le_of_ble_eq_true hm
 have hlen:(pre++ba m (tS 41::tl)).length=pre.length+(4*m+3+(tl.length+1)):=by rw[List.length_append,kY];rfl
 have q:=pc (y8 hm) hpre hsum (by rw[hlen];omega) h
 obtain⟨k,e1,e2,_⟩:=q
 have hw:=ke a b pre tl tl0 m ha hb htl
 have hc:pre++ba m (tS 41::tl)=(kd,v.1,i)::(pre'++ba m (tS 41::tl)):=by rw[hhd];rfl
 rw[hc]at e1 hw hlen
 refine⟨_,v,kd,i,_,k,rfl,?_,hv,hw,by rw[hlen];omega,e1,?_⟩
 ·rw[List.length_append,List.length_cons,List.length_append,List.length_cons,iW];omega
 ·rw[hlen,← e2,he]
  show 4*m+3+(pre.length+tl.length)+1=_
  omega
noncomputable abbrev vv:List Nat:=[65,68,68,32,84,32]
noncomputable abbrev vg:List Nat:=[32,65,32,71,73,86,73,78,71,32,67]
theorem Hy (P:Params) {m:Nat}(hm:Nat.ble m 18=true):bg P (mkS (vv++40::(aT m++41::vg))) (aZ 0 (ak m)) :=
 cF (pre:=pre_f0) (pr:=pre_f0.dropLast) (pre':=pre_f0.tail) (tl:=tail_f0.tail) (tl0:=tail_f0.tail.dropLast) (v:=("ADD",498)) (kd:=kW) (i:=0) (d:=2) (e:=pre_f0.length+tail_f0.tail.length) hm (by simp[bj]) (by kernel_rfl) (by kernel_rfl) rfl rfl (by kernel_rfl) (da P hm) (by decide) (by decide) rfl (H7 P 0 (4*m+3) (ak m) (ba m tail_f0))
noncomputable abbrev vu:List Nat:=[65,68,68,32,65,32,84,79,32,84,32]
noncomputable abbrev vf:List Nat:=[32,71,73,86,73,78,71,32,67]
theorem Hx (P:Params) {m:Nat}(hm:Nat.ble m 18=true):bg P (mkS (vu++40::(aT m++41::vf))) (aZ 1 (ak m)) :=
 cF (pre:=pre_f1) (pr:=pre_f1.dropLast) (pre':=pre_f1.tail) (tl:=tail_f1.tail) (tl0:=tail_f1.tail.dropLast) (v:=("ADD",498)) (kd:=kW) (i:=0) (d:=2) (e:=pre_f1.length+tail_f1.tail.length) hm (by simp[bj]) (by kernel_rfl) (by kernel_rfl) rfl rfl (by kernel_rfl) (da P hm) (by decide) (by decide) rfl (H6 P 0 (4*m+3) (ba m tail_f1) m hm)
noncomputable abbrev vt:List Nat:=[83,85,66,84,82,65,67,84,32,84,32]
noncomputable abbrev ve:List Nat:=[32,65,32,70,82,79,77,32,67,32,71,73,86,73,78,71,32,68]
theorem Hw (P:Params) {m:Nat}(hm:Nat.ble m 18=true):bg P (mkS (vt++40::(aT m++41::ve))) (aZ 2 (ak m)) :=
 cF (pre:=pre_f2) (pr:=pre_f2.dropLast) (pre':=pre_f2.tail) (tl:=tail_f2.tail) (tl0:=tail_f2.tail.dropLast) (v:=("SUBTRACT",505)) (kd:=kW) (i:=0) (d:=2) (e:=pre_f2.length+tail_f2.tail.length) hm (by simp[bj]) (by kernel_rfl) (by kernel_rfl) rfl rfl (by kernel_rfl) (da P hm) (by decide) (by decide) rfl (H5 P 0 (4*m+3) (ak m) (ba m tail_f2))
noncomputable abbrev vq:List Nat:=[83,85,66,84,82,65,67,84,32,65,32,67,32,70,82,79,77,32,84,32]
noncomputable abbrev vd:List Nat:=[32,71,73,86,73,78,71,32,68]
theorem Hv (P:Params) {m:Nat}(hm:Nat.ble m 18=true):bg P (mkS (vq++40::(aT m++41::vd))) (aZ 3 (ak m)) :=
 cF (pre:=pre_f3) (pr:=pre_f3.dropLast) (pre':=pre_f3.tail) (tl:=tail_f3.tail) (tl0:=tail_f3.tail.dropLast) (v:=("SUBTRACT",505)) (kd:=kW) (i:=0) (d:=2) (e:=pre_f3.length+tail_f3.tail.length) hm (by simp[bj]) (by kernel_rfl) (by kernel_rfl) rfl rfl (by kernel_rfl) (da P hm) (by decide) (by decide) rfl (H4 P 0 (4*m+3) (ba m tail_f3) m hm)
noncomputable abbrev vo:List Nat:=[77,85,76,84,73,80,76,89,32,84,32]
noncomputable abbrev vc:List Nat:=[32,66,89,32,65,32,71,73,86,73,78,71,32,67]
theorem Hu (P:Params) {m:Nat}(hm:Nat.ble m 18=true):bg P (mkS (vo++40::(aT m++41::vc))) (aZ 4 (ak m)) :=
 cF (pre:=pre_f4) (pr:=pre_f4.dropLast) (pre':=pre_f4.tail) (tl:=tail_f4.tail) (tl0:=tail_f4.tail.dropLast) (v:=("MULTIPLY",512)) (kd:=kW) (i:=0) (d:=2) (e:=pre_f4.length+tail_f4.tail.length) hm (by simp[bj]) (by kernel_rfl) (by kernel_rfl) rfl rfl (by kernel_rfl) (da P hm) (by decide) (by decide) rfl (H3 P 0 (4*m+3) (ak m) (ba m tail_f4))
noncomputable abbrev vn:List Nat:=[77,85,76,84,73,80,76,89,32,65,32,66,89,32,84,32]
noncomputable abbrev u9:List Nat:=[32,71,73,86,73,78,71,32,67]
theorem Hs (P:Params) {m:Nat}(hm:Nat.ble m 18=true):bg P (mkS (vn++40::(aT m++41::u9))) (aZ 5 (ak m)) :=
 cF (pre:=pre_f5) (pr:=pre_f5.dropLast) (pre':=pre_f5.tail) (tl:=tail_f5.tail) (tl0:=tail_f5.tail.dropLast) (v:=("MULTIPLY",512)) (kd:=kW) (i:=0) (d:=2) (e:=pre_f5.length+tail_f5.tail.length) hm (by simp[bj]) (by kernel_rfl) (by kernel_rfl) rfl rfl (by kernel_rfl) (da P hm) (by decide) (by decide) rfl (H1 P 0 (4*m+3) (ba m tail_f5) m hm)
noncomputable abbrev vm:List Nat:=[68,73,86,73,68,69,32,84,32]
noncomputable abbrev u8:List Nat:=[32,66,89,32,65,32,71,73,86,73,78,71,32,67]
theorem Hr (P:Params) {m:Nat}(hm:Nat.ble m 18=true):bg P (mkS (vm++40::(aT m++41::u8))) (aZ 6 (ak m)) :=
 cF (pre:=pre_f6) (pr:=pre_f6.dropLast) (pre':=pre_f6.tail) (tl:=tail_f6.tail) (tl0:=tail_f6.tail.dropLast) (v:=("DIVIDE",526)) (kd:=kW) (i:=0) (d:=2) (e:=pre_f6.length+tail_f6.tail.length) hm (by simp[bj]) (by kernel_rfl) (by kernel_rfl) rfl rfl (by kernel_rfl) (da P hm) (by decide) (by decide) rfl (HZ P 0 (4*m+3) (ak m) (ba m tail_f6))
noncomputable abbrev vl:List Nat:=[68,73,86,73,68,69,32,84,32]
noncomputable abbrev u7:List Nat:=[32,73,78,84,79,32,65,32,71,73,86,73,78,71,32,67]
theorem Hq (P:Params) {m:Nat}(hm:Nat.ble m 18=true):bg P (mkS (vl++40::(aT m++41::u7))) (aZ 7 (ak m)) :=
 cF (pre:=pre_f7) (pr:=pre_f7.dropLast) (pre':=pre_f7.tail) (tl:=tail_f7.tail) (tl0:=tail_f7.tail.dropLast) (v:=("DIVIDE",526)) (kd:=kW) (i:=0) (d:=2) (e:=pre_f7.length+tail_f7.tail.length) hm (by simp[bj]) (by kernel_rfl) (by kernel_rfl) rfl rfl (by kernel_rfl) (da P hm) (by decide) (by decide) rfl (HY P 0 (4*m+3) (ak m) (ba m tail_f7))
noncomputable abbrev vj:List Nat:=[65,68,68,32,84,32]
noncomputable abbrev u6:List Nat:=[32,65,32,84,79,32,67]
theorem Hp (P:Params) {m:Nat}(hm:Nat.ble m 18=true):bg P (mkS (vj++40::(aT m++41::u6))) (aZ 8 (ak m)) :=
 cF (pre:=pre_f8) (pr:=pre_f8.dropLast) (pre':=pre_f8.tail) (tl:=tail_f8.tail) (tl0:=tail_f8.tail.dropLast) (v:=("ADD",498)) (kd:=kW) (i:=0) (d:=2) (e:=pre_f8.length+tail_f8.tail.length) hm (by simp[bj]) (by kernel_rfl) (by kernel_rfl) rfl rfl (by kernel_rfl) (da P hm) (by decide) (by decide) rfl (HX P 0 (4*m+3) (ak m) (ba m tail_f8))
noncomputable abbrev vi:List Nat:=[83,85,66,84,82,65,67,84,32,65,32,84,32]
noncomputable abbrev u5:List Nat:=[32,70,82,79,77,32,67]
theorem Ho (P:Params) {m:Nat}(hm:Nat.ble m 18=true):bg P (mkS (vi++40::(aT m++41::u5))) (aZ 9 (ak m)) :=
 cF (pre:=pre_f9) (pr:=pre_f9.dropLast) (pre':=pre_f9.tail) (tl:=tail_f9.tail) (tl0:=tail_f9.tail.dropLast) (v:=("SUBTRACT",505)) (kd:=kW) (i:=0) (d:=2) (e:=pre_f9.length+tail_f9.tail.length) hm (by simp[bj]) (by kernel_rfl) (by kernel_rfl) rfl rfl (by kernel_rfl) (da P hm) (by decide) (by decide) rfl (HW P 0 (4*m+3) (ak m) (ba m tail_f9))
noncomputable abbrev qk:List Nat:=[77,85,76,84,73,80,76,89,32,84,32]
noncomputable abbrev qj:List Nat:=[32,66,89,32,67]
theorem Ec (P:Params) {m:Nat}(hm:Nat.ble m 18=true):bg P (mkS (qk++40::(aT m++41::qj))) (aZ 10 (ak m)) :=
 cF (pre:=pre_f10) (pr:=pre_f10.dropLast) (pre':=pre_f10.tail) (tl:=tail_f10.tail) (tl0:=tail_f10.tail.dropLast) (v:=("MULTIPLY",512)) (kd:=kW) (i:=0) (d:=2) (e:=pre_f10.length+tail_f10.tail.length) hm (by simp[bj]) (by kernel_rfl) (by kernel_rfl) rfl rfl (by kernel_rfl) (da P hm) (by decide) (by decide) rfl (Eh P 0 (4*m+3) (ak m) (ba m tail_f10))
noncomputable abbrev Ca:List Nat:=[67,79,77,80,85,84,69,32,67,32,61,32,84,32]
noncomputable abbrev BZ:List Nat:=[32,43,32,65,32,69,78,68,45,67,79,77,80,85,84,69]
theorem Hn (P:Params) {m:Nat}(hm:Nat.ble m 18=true):bg P (mkS (Ca++40::(aT m++41::BZ))) (aZ 0 (ak m)) :=
 cF (pre:=pre_s0) (pr:=pre_s0.dropLast) (pre':=pre_s0.tail) (tl:=tail_s0.tail) (tl0:=tail_s0.tail.dropLast) (v:=("COMPUTE",533)) (kd:=kW) (i:=0) (d:=1) (e:=pre_s0.length+tail_s0.tail.length) hm (by simp[bj]) (by kernel_rfl) (by kernel_rfl) rfl rfl (by kernel_rfl) (ic P hm) (by decide) (by decide) rfl (HV P 0 (4*m+3) (ak m) (ba m tail_s0))
noncomputable abbrev B9:List Nat:=[67,79,77,80,85,84,69,32,67,32,61,32,65,32,43,32,84,32]
noncomputable abbrev BY:List Nat:=[32,69,78,68,45,67,79,77,80,85,84,69]
theorem Hm (P:Params) {m:Nat}(hm:Nat.ble m 18=true):bg P (mkS (B9++40::(aT m++41::BY))) (aZ 1 (ak m)) :=
 cF (pre:=pre_s1) (pr:=pre_s1.dropLast) (pre':=pre_s1.tail) (tl:=tail_s1.tail) (tl0:=tail_s1.tail.dropLast) (v:=("COMPUTE",533)) (kd:=kW) (i:=0) (d:=1) (e:=pre_s1.length+tail_s1.tail.length) hm (by simp[bj]) (by kernel_rfl) (by kernel_rfl) rfl rfl (by kernel_rfl) (ic P hm) (by decide) (by decide) rfl (HU P 0 (4*m+3) (ak m) (ba m tail_s1))
noncomputable abbrev B8:List Nat:=[67,79,77,80,85,84,69,32,68,32,61,32,67,32,45,32,40,84,32]
noncomputable abbrev BX:List Nat:=[32,43,32,65,41,32,69,78,68,45,67,79,77,80,85,84,69]
theorem Hl (P:Params) {m:Nat}(hm:Nat.ble m 18=true):bg P (mkS (B8++40::(aT m++41::BX))) (aZ 2 (ak m)) :=
 cF (pre:=pre_s2) (pr:=pre_s2.dropLast) (pre':=pre_s2.tail) (tl:=tail_s2.tail) (tl0:=tail_s2.tail.dropLast) (v:=("COMPUTE",533)) (kd:=kW) (i:=0) (d:=2) (e:=pre_s2.length+tail_s2.tail.length) hm (by simp[bj]) (by kernel_rfl) (by kernel_rfl) rfl rfl (by kernel_rfl) (da P hm) (by decide) (by decide) rfl (HT P 0 (4*m+3) (ak m) (ba m tail_s2))
noncomputable abbrev B7:List Nat:=[67,79,77,80,85,84,69,32,68,32,61,32,84,32]
noncomputable abbrev BW:List Nat:=[32,45,32,40,65,32,43,32,67,41,32,69,78,68,45,67,79,77,80,85,84,69]
theorem Hj (P:Params) {m:Nat}(hm:Nat.ble m 18=true):bg P (mkS (B7++40::(aT m++41::BW))) (aZ 3 (ak m)) :=
 cF (pre:=pre_s3) (pr:=pre_s3.dropLast) (pre':=pre_s3.tail) (tl:=tail_s3.tail) (tl0:=tail_s3.tail.dropLast) (v:=("COMPUTE",533)) (kd:=kW) (i:=0) (d:=1) (e:=pre_s3.length+tail_s3.tail.length) hm (by simp[bj]) (by kernel_rfl) (by kernel_rfl) rfl rfl (by kernel_rfl) (ic P hm) (by decide) (by decide) rfl (HR P 0 (4*m+3) (ak m) (ba m tail_s3))
noncomputable abbrev B6:List Nat:=[67,79,77,80,85,84,69,32,67,32,61,32,84,32]
noncomputable abbrev BV:List Nat:=[32,42,32,65,32,69,78,68,45,67,79,77,80,85,84,69]
theorem Hi (P:Params) {m:Nat}(hm:Nat.ble m 18=true):bg P (mkS (B6++40::(aT m++41::BV))) (aZ 4 (ak m)) :=
 cF (pre:=pre_s4) (pr:=pre_s4.dropLast) (pre':=pre_s4.tail) (tl:=tail_s4.tail) (tl0:=tail_s4.tail.dropLast) (v:=("COMPUTE",533)) (kd:=kW) (i:=0) (d:=1) (e:=pre_s4.length+tail_s4.tail.length) hm (by simp[bj]) (by kernel_rfl) (by kernel_rfl) rfl rfl (by kernel_rfl) (ic P hm) (by decide) (by decide) rfl (HQ P 0 (4*m+3) (ak m) (ba m tail_s4))
noncomputable abbrev B4:List Nat:=[67,79,77,80,85,84,69,32,67,32,61,32,65,32,42,32,84,32]
noncomputable abbrev BU:List Nat:=[32,69,78,68,45,67,79,77,80,85,84,69]
theorem Hh (P:Params) {m:Nat}(hm:Nat.ble m 18=true):bg P (mkS (B4++40::(aT m++41::BU))) (aZ 5 (ak m)) :=
 cF (pre:=pre_s5) (pr:=pre_s5.dropLast) (pre':=pre_s5.tail) (tl:=tail_s5.tail) (tl0:=tail_s5.tail.dropLast) (v:=("COMPUTE",533)) (kd:=kW) (i:=0) (d:=1) (e:=pre_s5.length+tail_s5.tail.length) hm (by simp[bj]) (by kernel_rfl) (by kernel_rfl) rfl rfl (by kernel_rfl) (ic P hm) (by decide) (by decide) rfl (HP P 0 (4*m+3) (ak m) (ba m tail_s5))
noncomputable abbrev B3:List Nat:=[67,79,77,80,85,84,69,32,67,32,61,32,84,32]
noncomputable abbrev BS:List Nat:=[32,47,32,65,32,69,78,68,45,67,79,77,80,85,84,69]
theorem Hg (P:Params) {m:Nat}(hm:Nat.ble m 18=true):bg P (mkS (B3++40::(aT m++41::BS))) (aZ 6 (ak m)) :=
 cF (pre:=pre_s6) (pr:=pre_s6.dropLast) (pre':=pre_s6.tail) (tl:=tail_s6.tail) (tl0:=tail_s6.tail.dropLast) (v:=("COMPUTE",533)) (kd:=kW) (i:=0) (d:=1) (e:=pre_s6.length+tail_s6.tail.length) hm (by simp[bj]) (by kernel_rfl) (by kernel_rfl) rfl rfl (by kernel_rfl) (ic P hm) (by decide) (by decide) rfl (HO P 0 (4*m+3) (ak m) (ba m tail_s6))
noncomputable abbrev B2:List Nat:=[67,79,77,80,85,84,69,32,67,32,61,32,65,32,47,32,84,32]
noncomputable abbrev BR:List Nat:=[32,69,78,68,45,67,79,77,80,85,84,69]
theorem He (P:Params) {m:Nat}(hm:Nat.ble m 18=true):bg P (mkS (B2++40::(aT m++41::BR))) (aZ 7 (ak m)) :=
 cF (pre:=pre_s7) (pr:=pre_s7.dropLast) (pre':=pre_s7.tail) (tl:=tail_s7.tail) (tl0:=tail_s7.tail.dropLast) (v:=("COMPUTE",533)) (kd:=kW) (i:=0) (d:=1) (e:=pre_s7.length+tail_s7.tail.length) hm (by simp[bj]) (by kernel_rfl) (by kernel_rfl) rfl rfl (by kernel_rfl) (ic P hm) (by decide) (by decide) rfl (HN P 0 (4*m+3) (ak m) (ba m tail_s7))
noncomputable abbrev B1:List Nat:=[65,68,68,32,84,32]
noncomputable abbrev BQ:List Nat:=[32,65,32,84,79,32,67,32,69,78,68,45,65,68,68]
theorem Hc (P:Params) {m:Nat}(hm:Nat.ble m 18=true):bg P (mkS (B1++40::(aT m++41::BQ))) (aZ 8 (ak m)) :=
 cF (pre:=pre_s8) (pr:=pre_s8.dropLast) (pre':=pre_s8.tail) (tl:=tail_s8.tail) (tl0:=tail_s8.tail.dropLast) (v:=("ADD",498)) (kd:=kW) (i:=0) (d:=2) (e:=pre_s8.length+tail_s8.tail.length) hm (by simp[bj]) (by kernel_rfl) (by kernel_rfl) rfl rfl (by kernel_rfl) (da P hm) (by decide) (by decide) rfl (HK P 0 (4*m+3) (ak m) (ba m tail_s8))
noncomputable abbrev B0:List Nat:=[83,85,66,84,82,65,67,84,32,65,32,84,32]
noncomputable abbrev BP:List Nat:=[32,70,82,79,77,32,67,32,69,78,68,45,83,85,66,84,82,65,67,84]
theorem Ha (P:Params) {m:Nat}(hm:Nat.ble m 18=true):bg P (mkS (B0++40::(aT m++41::BP))) (aZ 9 (ak m)) :=
 cF (pre:=pre_s9) (pr:=pre_s9.dropLast) (pre':=pre_s9.tail) (tl:=tail_s9.tail) (tl0:=tail_s9.tail.dropLast) (v:=("SUBTRACT",505)) (kd:=kW) (i:=0) (d:=2) (e:=pre_s9.length+tail_s9.tail.length) hm (by simp[bj]) (by kernel_rfl) (by kernel_rfl) rfl rfl (by kernel_rfl) (da P hm) (by decide) (by decide) rfl (HJ P 0 (4*m+3) (ak m) (ba m tail_s9))
noncomputable abbrev vh:List Nat:=[77,85,76,84,73,80,76,89,32,84,32]
noncomputable abbrev u0:List Nat:=[32,66,89,32,67,32,69,78,68,45,77,85,76,84,73,80,76,89]
theorem Eb (P:Params) {m:Nat}(hm:Nat.ble m 18=true):bg P (mkS (vh++40::(aT m++41::u0))) (aZ 10 (ak m)) :=
 cF (pre:=pre_s10) (pr:=pre_s10.dropLast) (pre':=pre_s10.tail) (tl:=tail_s10.tail) (tl0:=tail_s10.tail.dropLast) (v:=("MULTIPLY",512)) (kd:=kW) (i:=0) (d:=2) (e:=pre_s10.length+tail_s10.tail.length) hm (by simp[bj]) (by kernel_rfl) (by kernel_rfl) rfl rfl (by kernel_rfl) (da P hm) (by decide) (by decide) rfl (Eg P 0 (4*m+3) (ak m) (ba m tail_s10))
theorem mQ {P:Params}{rd:Str→Option PyData}{n:Nat}{f:Addr}{args:List D}{k:Nat}{d:D}{κ:Zs}(h:Sim (RZ []) (bz P rd n f args k) (.ok d κ)) (hk:κ.1=k):bz P rd n f args k=.ok d k:=by
 obtain⟨k2,e2,r2⟩:=h
 rw[e2,← r2.1,hk]
theorem rz0 (k:Nat):RZ [] k (k,[]):=⟨rfl,List.drop_nil.symm,rfl⟩
theorem fX {P:Params}{rd:Str→Option PyData}{n:Nat}{f:Addr}{args:List D}{k:Nat}{d:D}(h:cN P n f args (k,[])=.ok d (k,[])):bz P rd (n+7) f args k=.ok d k :=
 mQ (h▸nq (tz P rd) (rz0 k)) rfl
theorem Km (P:Params) (n:Nat) (κ:Zs):∀ m,Nat.ble m 19=true→cN P (n+5) 846 [.py (.int (Int.ofNat m))] κ=.ok (.py (.tuple [.str (mkS (aT m)),ak m])) κ:=fE (by kernel_rfl)
theorem Kl (P:Params) (n:Nat) (κ:Zs) (X:PyData):cN P (n+5) 855 [.py (.str n_T),.py (.tuple [X])] κ=.ok (.py (tV 84 [X])) κ:=by kernel_rfl
theorem Kk (P:Params) (n:Nat) (κ:Zs) (X:PyData):∀ f,Nat.ble f 10=true→cN P (n+5) 862 [.py (.int (Int.ofNat f)),.py (tV 84 [X])] κ=.ok (.py (aZ f X)) κ:=fE (by kernel_rfl)
section
variable {κ:Type}{c:CR κ}{n:Nat}{ρ:Rho}
theorem js {f:Addr}{a:RE}{k k1:κ}{p:PyData}(h:evR c n ρ a k=.ok (.py p) k1):evR c (n+1) ρ (.call f [a]) k=nbO (c.calls f [.py p] k1):=by
 show((evR c n ρ a k).bind _).bind _=_
 rw[h];rfl
theorem jr {f:Addr}{a b:RE}{k k1 k2:κ}{p q:PyData}(h1:evR c n ρ a k=.ok (.py p) k1) (h2:evR c n ρ b k1=.ok (.py q) k2):evR c (n+1) ρ (.call f [a,b]) k=nbO (c.calls f [.py p,.py q] k2):=by
 show((evR c n ρ a k).bind _).bind _=_
 rw[h1]
 show(((evR c n ρ b k1).bind _).bind _).bind _=_
 rw[h2];rfl
theorem Bm {t:RT}{e:RE}{k k1:κ}{d:D}{ρ':Rho}(h:evR c n ρ e k=.ok d k1) (ht:oN 4 t d ρ=some ρ'):exR c (n+1) (.tup t e) ρ k=.ok (none,ρ') k1:=by
 show(evR c n ρ e k).bind _=_
 rw[h]
 show(ofO (oN 4 t d ρ) k1).bind _=_
 rw[ht];rfl
theorem Bo {y c1 x c2 w z:Str}{o:RE}{k k1:κ}(hx:aH ρ x=some (.py (.str w))) (hw:Nat.blt 0 w.length=true) (ho:evR c n ρ o k=.ok (.py (.str z)) k1) (hc:jQ z y (c1++w++c2)=true):evR c (n+1) ρ (.cat y c1 x c2 o) k=.ok (.py (.str (Txt.replace z y (c1++w++c2)))) k1:=by
 show optK ((aH ρ x).bind fM) _=_
 rw[hx]
 show(if Nat.blt 0 w.length then(evR c n ρ o k).bind fun d k=>Kj d y c1 w c2 k else .no)=_
 rw[if_pos hw,ho]
 exact if_pos hc
end
noncomputable abbrev formsL:List Str:=[DQ,DP,DO,DN,DM,DL,DK,DJ,DH,DG,DF]
noncomputable abbrev o9 (f m:Nat):Rho:=[(bS,.py (.int (Int.ofNat f))),(be,.py (.int (Int.ofNat m)))]
noncomputable abbrev l6 (f m:Nat) (S:Str) (X:PyData):Rho:=[(bS,.py (.int (Int.ofNat f))),(be,.py (.int (Int.ofNat m))),(aw,.py (.str S)),(bH,.py X)]
noncomputable abbrev iJ (f m:Nat) (S:Str) (X due:PyData):Rho:=[(bS,.py (.int (Int.ofNat f))),(be,.py (.int (Int.ofNat m))),(aw,.py (.str S)),(bH,.py X),(dB,.py due)]
noncomputable abbrev jF (f m:Nat) (S:Str) (X due told:PyData):Rho:=[(bS,.py (.int (Int.ofNat f))),(be,.py (.int (Int.ofNat m))),(aw,.py (.str S)),(bH,.py X),(dB,.py due),(bM,.py told)]
noncomputable abbrev Gj:RS:=.tup (.tup [(.name aw),(.name bH)]) (.call 846 [(.var be)])
noncomputable abbrev Gi:RS:=.asg dB aJ (.call 862 [(.var bS),(.call 855 [(.val (.py (.str n_T))),(.tup [(.var bH)])])])
noncomputable abbrev C4 (P:Params):RE:=.cat t203 t204 aw t205 (.op2 (ah (kM P) dl) (.val (.py (.tuple (formsL.map .str)))) (.var bS))
section
variable (P:Params) (calls:Orc) (k:Nat) {f m:Nat}{S t1 z:Str}{X REF due:PyData}
theorem Ck (h846:calls 846 [.py (.int (Int.ofNat m))] k=.ok (.py (.tuple [.str S,X])) k):exR (crM P calls) 40 Gj (o9 f m) k=.ok (none,l6 f m S X) k:=by
 have a1:evR (crM P calls) 39 (o9 f m) (.call 846 [(.var be)]) k=.ok (.py (.tuple [.str S,X])) k:=(js (n:=38) (p:=.int (Int.ofNat m)) (k1:=k) (by kernel_rfl)).trans (by rw[show(crM P calls).calls=calls from rfl,h846];rfl)
 exact Bm (n:=39) a1 (by kernel_rfl)
theorem Cj (h855:calls 855 [.py (.str n_T),.py (.tuple [X])] k=.ok (.py REF) k) (h862:calls 862 [.py (.int (Int.ofNat f)),.py REF] k=.ok (.py due) k):exR (crM P calls) 40 Gi (l6 f m S X) k=.ok (none,iJ f m S X due) k:=by
 have a2:evR (crM P calls) 38 (l6 f m S X) (.call 855 [(.val (.py (.str n_T))),(.tup [(.var bH)])]) k=.ok (.py REF) k:=(jr (n:=37) (p:=.str n_T) (q:=.tuple [X]) (k1:=k) (k2:=k) (by kernel_rfl) (by kernel_rfl)).trans (by rw[show(crM P calls).calls=calls from rfl,h855];rfl)
 have a3:evR (crM P calls) 39 (l6 f m S X) (.call 862 [(.var bS),(.call 855 [(.val (.py (.str n_T))),(.tup [(.var bH)])])]) k=.ok (.py due) k:=(jr (n:=38) (p:=.int (Int.ofNat f)) (q:=REF) (k1:=k) (k2:=k) (by kernel_rfl) a2).trans (by rw[show(crM P calls).calls=calls from rfl,h862];rfl)
 exact(j5 (n:=39) a3 rfl).trans (by kernel_rfl)
theorem vM (hz:ah (kM P) dl (.py (.tuple (formsL.map .str))) (.py (.int (Int.ofNat f)))=some (.py (.str z))) (hS:Nat.blt 0 S.length=true) (hc:jQ z t203 (t204++S++t205)=true) (ht:Txt.replace z t203 (t204++S++t205)=t1):evR (crM P calls) 38 (iJ f m S X due) (C4 P) k=.ok (.py (.str t1)) k:=by
 have a4:evR (crM P calls) 37 (iJ f m S X due) (.op2 (ah (kM P) dl) (.val (.py (.tuple (formsL.map .str)))) (.var bS)) k=.ok (.py (.str z)) k:=(dW (n:=36) (d:=.py (.tuple (formsL.map .str))) (e:=.py (.int (Int.ofNat f))) (k1:=k) (k2:=k) (by kernel_rfl) (by kernel_rfl)).trans (by rw[hz];rfl)
 exact(Bo (n:=37) (w:=S) (by kernel_rfl) hS a4 hc).trans (by rw[ht])
end
theorem tH (P:Params) (calls:Orc) (k:Nat) {f m:Nat}{S t1 t2 z:Str}{X REF due:PyData}
 (h846:calls 846 [.py (.int (Int.ofNat m))] k=.ok (.py (.tuple [.str S,X])) k) (h855:calls 855 [.py (.str n_T),.py (.tuple [X])] k=.ok (.py REF) k) (h862:calls 862 [.py (.int (Int.ofNat f)),.py REF] k=.ok (.py due) k)
 (hz:ah (kM P) dl (.py (.tuple (formsL.map .str))) (.py (.int (Int.ofNat f)))=some (.py (.str z))) (hS:Nat.blt 0 S.length=true) (hc:jQ z t203 (t204++S++t205)=true) (ht:Txt.replace z t203 (t204++S++t205)=t1)
 (h1:calls 874 [.py (.str t1)] k=.ok (.py due) k) (hm:m≤18) (hdue:aj [] [] .Eq (.py due) (.py due)=some (.py (.bool true)))
 (h810:calls 810 [.py due,.py .none] k=.ok (.py (.str t2)) k) (h2:calls 874 [.py (.str t2)] k=.ok (.py due) k) :
 cg (crM P calls) (lc P) [.py (.int (Int.ofNat f)),.py (.int (Int.ofNat m))] k=.ok (.py (.bool true)) k:=by
 refine bX (ρ:=o9 f m) (by kernel_rfl) ?_
 have s1:=Ck P calls k (f:=f) h846
 have s2:=Cj P calls k (m:=m) (S:=S) h855 h862
 have a5:=vM P calls k (m:=m) (X:=X) (due:=due) hz hS hc ht
 have a6:evR (crM P calls) 39 (iJ f m S X due) (.call 874 [(.cat t203 t204 aw t205 (.op2 (ah (kM P) dl) (.val (.py (.tuple (formsL.map .str)))) (.var bS)))]) k=.ok (.py due) k:=(js (n:=38) a5).trans (by rw[show(crM P calls).calls=calls from rfl,h1];rfl)
 have s3:exR (crM P calls) 40 (.asg bM aJ (.call 874 [(.cat t203 t204 aw t205 (.op2 (ah (kM P) dl) (.val (.py (.tuple (formsL.map .str)))) (.var bS)))])) (iJ f m S X due) k=.ok (none,jF f m S X due due) k:=(j5 (n:=39) a6 rfl).trans (by kernel_rfl)
 have hgt:aj [] [] .Gt (.py (.int (Int.ofNat m))) (.py (.int 18))=some (.py (.bool false)):=by
  have e:aj [] [] .Gt (.py (.int (Int.ofNat m))) (.py (.int 18))=some (.py (.bool (decide ((Int.ofNat m:Int) > 18)))):=by kernel_rfl
  rw[e,decide_eq_false (by show ¬ ((m:Int) > 18);omega)]
 have b4:cf (crM P calls) 39 (jF f m S X due due) (.tst (.op2 (aj [] [] .Gt) (.var be) (.val (.py (.int (18)))))) k=.ok false k:=cV (n:=38) ((dW (n:=37) (d:=.py (.int (Int.ofNat m))) (e:=.py (.int 18)) (k1:=k) (k2:=k) (by kernel_rfl) (by kernel_rfl)).trans (by rw[hgt];rfl)) rfl
 have s4:=c9 (n:=39) (b:=[(.ret (.op2 (aj [] [] .Is) (.var bM) (.val (.py .none))))]) (o:=[]) b4
 have a7:evR (crM P calls) 38 (jF f m S X due due) (.op2 (aj [] [] .Eq) (.var bM) (.var dB)) k=.ok (.py (.bool true)) k:=(dW (n:=37) (d:=.py due) (e:=.py due) (k1:=k) (k2:=k) (by kernel_rfl) (by kernel_rfl)).trans (by rw[hdue];rfl)
 have a8:evR (crM P calls) 36 (jF f m S X due due) (.call 810 [(.var dB),(.val (.py .none))]) k=.ok (.py (.str t2)) k:=(jr (n:=35) (p:=due) (q:=.none) (k1:=k) (k2:=k) (by kernel_rfl) (by kernel_rfl)).trans (by rw[show(crM P calls).calls=calls from rfl,h810];rfl)
 have a9:evR (crM P calls) 37 (jF f m S X due due) (.call 874 [(.call 810 [(.var dB),(.val (.py .none))])]) k=.ok (.py due) k:=(js (n:=36) a8).trans (by rw[show(crM P calls).calls=calls from rfl,h2];rfl)
 have a10:evR (crM P calls) 38 (jF f m S X due due) (.op2 (aj [] [] .Eq) (.call 874 [(.call 810 [(.var dB),(.val (.py .none))])]) (.var dB)) k=.ok (.py (.bool true)) k:=(dW (n:=37) (d:=.py due) (e:=.py due) (k1:=k) (k2:=k) a9 (by kernel_rfl)).trans (by rw[hdue];rfl)
 have a11:evR (crM P calls) 39 (jF f m S X due due) (.boolv true [(.op2 (aj [] [] .Eq) (.var bM) (.var dB)),(.op2 (aj [] [] .Eq) (.call 874 [(.call 810 [(.var dB),(.val (.py .none))])]) (.var dB))]) k=.ok (.py (.bool true)) k:=ly (n:=38) a7 (fun _=>a10) (fun q=>by injection q)
 have e0:(lc P).body=[(.tup (.tup [(.name aw),(.name bH)]) (.call 846 [(.var be)])),(.asg dB aJ (.call 862 [(.var bS),(.call 855 [(.val (.py (.str n_T))),(.tup [(.var bH)])])])),(.asg bM aJ (.call 874 [(.cat t203 t204 aw t205 (.op2 (ah (kM P) dl) (.val (.py (.tuple (formsL.map .str)))) (.var bS)))])),
  (.ifs (.tst (.op2 (aj [] [] .Gt) (.var be) (.val (.py (.int (18)))))) [(.ret (.op2 (aj [] [] .Is) (.var bM) (.val (.py .none))))] []),(.ret (.boolv true [(.op2 (aj [] [] .Eq) (.var bM) (.var dB)),(.op2 (aj [] [] .Eq) (.call 874 [(.call 810 [(.var dB),(.val (.py .none))])]) (.var dB))]))]:=by kernel_rfl
 rw[e0,aR s1,aR s2,aR s3]
 rw[aR (ρ':=jF f m S X due due) (k1:=k) s4,cE (j4 (n:=39) a11)]
 rfl
noncomputable def txt (a b:List Nat) (m:Nat):Str:=mkS (a++40::(aT m++41::b))
theorem zq {x y:Str}(h:x.cps.toList=y.cps.toList):x=y:=by
 induction x using Str.casesOn;induction y using Str.casesOn;congr 1;exact Array.toList_inj.mp h
theorem E0 (p q l:List Nat):glued (t204++mkS l++t205) [mkS p,mkS q]=mkS (p++(32::84::32::40::(l++(41::32::q)))):=by
 apply zq
 show(p.toArray++(t204.cps++l.toArray++t205.cps)++q.toArray).toList=_
 simp
noncomputable def uL (z:Str) (p q:List Nat):Bool:=!(occurrences z t203 0 z.length (z.length+1)).isEmpty&&(match partsBetween z (occurrences z t203 0 z.length (z.length+1)) 3 with
 |[x,y]=>ac x (mkS p)&&ac y (mkS q)
 |_=>false)&&Nat.ble z.length 100
theorem uK {z:Str}{p q a b:List Nat}(m:Nat) (h:uL z p q=true) (ha:p++[32,84,32]=a) (hb:32::q=b):Txt.replace z t203 (t204++mkS (aT m)++t205)=txt a b m∧z.length≤100:=by
 unfold uL at h
 obtain⟨h,hl⟩:=Bool.and_eq_true _ _▸h
 obtain⟨h1,h2⟩:=Bool.and_eq_true _ _▸h
 refine⟨?_,Nat.le_of_ble_eq_true hl⟩
 unfold Txt.replace
 rw[if_neg (by
  rw[Bool.not_eq_true']at h1
  rw[h1]
  exact Bool.false_ne_true)]
 show glued _ (partsBetween z (occurrences z t203 0 z.length (z.length+1)) 3)=_
 generalize partsBetween z (occurrences z t203 0 z.length (z.length+1)) 3=l at h2
 split at h2
 ·obtain⟨e1,e2⟩:=Bool.and_eq_true _ _▸h2
  obtain rfl:=(ay _ _).mp e1
  obtain rfl:=(ay _ _).mp e2
  rw[E0]
  subst ha hb
  unfold txt
  congr 1
  simp
 ·injection h2
theorem rF {z:Str}{m:Nat}(hz:z.length≤100) (hm:m≤19):jQ z t203 (t204++mkS (aT m)++t205)=true:=by
 have hn:(t204++mkS (aT m)++t205).length=6*m+11:=by
  show(t204.cps++(aT m).toArray++t205.cps).size=_
  have:=iW m
  simp[this]
 have hne:ac t203 (t204++mkS (aT m)++t205)=false:=by
  induction h:ac t203 (t204++mkS (aT m)++t205)using Bool.casesOn with
  |false=>rfl
  |true =>
   have:=congrArg Str.length ((ay _ _).mp h)
   rw[hn]at this
   have e:t203.length=3:=rfl
   omega
 unfold jQ
 rw[hn,hne,qt (show z.length≤1000 by omega),qt (show 6*m+11≤1000 by omega),Nat.ble_eq.mpr]
 ·rfl
 ·have:(z.length+1)*(6*m+11)≤101*125:=Nat.mul_le_mul (by omega) (by omega)
  omega
noncomputable def dI (P:Params) (f:Nat) (a b:List Nat):Prop:=∃ z,ah (kM P) dl (.py (.tuple (formsL.map .str))) (.py (.int (Int.ofNat f)))=some (.py (.str z))∧∀ m,m≤19→jQ z t203 (t204++mkS (aT m)++t205)=true∧Txt.replace z t203 (t204++mkS (aT m)++t205)=txt a b m
theorem eY {P:Params}{f:Nat}{z:Str}{a b u v:List Nat}(hzt:uL z u v=true) (hu:u++[32,84,32]=a) (hv:32::v=b) (hz:ah (kM P) dl (.py (.tuple (formsL.map .str))) (.py (.int (Int.ofNat f)))=some (.py (.str z))):dI P f a b :=
 ⟨z,hz,fun m hm=>let⟨hr,hl⟩:=uK m hzt hu hv;⟨rF hl hm,hr⟩⟩
noncomputable def fj (f m:Nat):Bool :=
 (match aj [] [] .Eq (.py (aZ f (ak m))) (.py (aZ f (ak m)))with
  |some (.py (.bool true))=>true
  |_=>false)&&Nat.blt 0 (mkS (aT m)).length
noncomputable def rd2 (x1 x2:Str) (d:PyData) (x:Str):Option PyData:=if ac x x1||ac x x2 then some d else none
theorem DZ {κ α:Type}{o o':OutK κ α}{d:α}{k:κ}(s:Sim Eq o o') (r:o'=.ok d k):o=.ok d k:=by
 subst r
 obtain⟨k',e,rfl⟩:=s
 exact e
theorem tF {P:Params}{C:Orc}{args:List D}{k:Nat}{d:D}(r:cg (crM P C) (lc P) args k=.ok d k):hO (cM P [] 881 C) 881 args k=.ok d k:=DZ (r6 P [] C args k) r
theorem H9 {x1 x2:Str}{d:PyData}:rd2 x1 x2 d x1=some d:=if_pos (Bool.or_eq_true _ _▸Or.inl ((ay _ _).mpr rfl))
theorem H8 {x1 x2:Str}{d:PyData}:rd2 x1 x2 d x2=some d:=if_pos (Bool.or_eq_true _ _▸Or.inr ((ay _ _).mpr rfl))
theorem Ei {P:Params}{x1 x2:Str}{d:PyData}(h1:bg P x1 d) (h2:bg P x2 d):∀ x r,rd2 x1 x2 d x=some r→bg P x r:=fun x r e=>by
 unfold rd2 at e
 split at e
 ·rename_i c
  obtain rfl:=si e
  induction Bool.or_eq_true _ _▸c using Or.casesOn with
  |inl c=>obtain rfl:=(ay _ _).mp c;exact h1
  |inr c=>obtain rfl:=(ay _ _).mp c;exact h2
 ·injection e
theorem M0 {P:Params}{rd:Str→Option PyData}{m:Nat}(hm:Nat.ble m 18=true) {d:PyData}{t:Str}{k:Nat}(hs:∀ n κ,cS P m (n+20) 810 [.py d,.py .none] κ=.ok (.py (.str t)) κ):bz P rd 171 810 [.py d,.py .none] k=.ok (.py (.str t)) k :=
 have hm':=Nat.le_of_ble_eq_true hm
 mQ (Sim.cast (mz (tz P rd) (gS (tz P rd) (Ci (tz P rd) m hm)) (125-4*m+20) 810 [.py d,.py .none] k (k,[]) (rz0 k)) (by omega) (hs _ _)) rfl
theorem vO {f m:Nat}(ht:fj f m=true):aj [] [] .Eq (.py (aZ f (ak m))) (.py (aZ f (ak m)))=some (.py (.bool true))∧Nat.blt 0 (mkS (aT m)).length=true:=by
 unfold fj at ht
 obtain⟨hd,hS⟩:=Bool.and_eq_true _ _▸ht
 refine⟨?_,hS⟩
 revert hd
 generalize aj [] [] .Eq (.py (aZ f (ak m))) (.py (aZ f (ak m)))=o
 intro hd
 split at hd
 ·rfl
 ·injection hd
theorem cq {P:Params}{f m:Nat}{a b a' b' p q:List Nat}(hm:Nat.ble m 18=true) (hf:Nat.ble f 10=true) (ht:fj f m=true) (fo:dI P f a b)
 (h1:bg P (mkS (a++40::(aT m++41::b))) (aZ f (ak m))) (h2:bg P (mkS (a'++40::(aT m++41::b'))) (aZ f (ak m)))
 (hs:Shw P f p q) (hp:p++(aT m++q)=a'++40::(aT m++41::b')):∃ rd,(∀ x r,rd x=some r→bg P x r)∧∀ k,bz P rd 172 881 [.py (.int (Int.ofNat f)),.py (.int (Int.ofNat m))] k=.ok (.py (.bool true)) k:=by
 refine⟨rd2 (txt a b m) (txt a' b' m) (aZ f (ak m)),Ei h1 h2,fun k=>?_⟩
 have hs:=fun n κ=>hp▸hs n κ m hm
 obtain⟨hd,hS⟩:=vO ht
 obtain⟨z,hz,fo⟩:=fo
 obtain⟨hc,hr⟩:=fo m (Nat.le_trans (Nat.le_of_ble_eq_true hm) (by decide))
 have e810:=M0 (rd:=rd2 (txt a b m) (txt a' b' m) (aZ f (ak m))) (k:=k) hm hs
 have e1:bz P (rd2 (txt a b m) (txt a' b' m) (aZ f (ak m))) 171 874 [.py (.str (txt a b m))] k=.ok (.py (aZ f (ak m))) k:=by rw[mR,H9];rfl
 have e2:bz P (rd2 (txt a b m) (txt a' b' m) (aZ f (ak m))) 171 874 [.py (.str (txt a' b' m))] k=.ok (.py (aZ f (ak m))) k:=by rw[mR,H8];rfl
 have e3:=fX (rd:=rd2 (txt a b m) (txt a' b' m) (aZ f (ak m))) (n:=164) (Km P 159 (k,[]) m (y8 hm))
 have e4:=fX (rd:=rd2 (txt a b m) (txt a' b' m) (aZ f (ak m))) (n:=164) (Kl P 159 (k,[]) (ak m))
 have e5:=fX (rd:=rd2 (txt a b m) (txt a' b' m) (aZ f (ak m))) (n:=164) (Kk P 159 (k,[]) (ak m) f hf)
 rw[(tz _ _).succ _ _ _ _ rfl]
 replace e3:bz P (rd2 (txt a b m) (txt a' b' m) (aZ f (ak m))) 171 846 _ k=_:=e3
 replace e4:bz P (rd2 (txt a b m) (txt a' b' m) (aZ f (ak m))) 171 855 _ k=_:=e4
 replace e5:bz P (rd2 (txt a b m) (txt a' b' m) (aZ f (ak m))) 171 862 _ k=_:=e5
 generalize bz P (rd2 (txt a b m) (txt a' b' m) (aZ f (ak m))) 171=C at *
 exact tF (tH P C k e3 e4 e5 hz hS hc hr e1 (Nat.le_of_ble_eq_true hm) hd e810 e2)
theorem bY {t:Nat→Bool}(h:(List.range 19).all t=true) {m:Nat}(hm:Nat.ble m 18=true):t m=true :=
 List.all_eq_true.mp h m (List.mem_range.mpr (Nat.lt_succ_of_le (Nat.le_of_ble_eq_true hm)))
theorem gt {a b:List Nat}(m:Nat):(a++[40])++(aT m++41::b)=a++40::(aT m++41::b):=by rw[List.append_assoc];rfl
theorem MC:(List.range 19).all (fj 0)=true:=by kernel_rfl
theorem Jq (P:Params):dI P 0 vv vg:=eY (z:=DQ) (u:=[65,68,68]) (v:=[65,32,71,73,86,73,78,71,32,67]) (by kernel_rfl) rfl rfl (by kernel_rfl)
theorem MM (P:Params) {m:Nat}(hm:Nat.ble m 18=true):∃ rd,(∀ x r,rd x=some r→bg P x r)∧∀ k,bz P rd 172 881 [.py (.int (Int.ofNat 0)),.py (.int (Int.ofNat m))] k=.ok (.py (.bool true)) k :=
 cq hm rfl (bY MC hm) (Jq P) (Hy P hm) (Hn P hm) (GB P) (gt (a:=Ca) (b:=BZ) m)
theorem MB:(List.range 19).all (fj 1)=true:=by kernel_rfl
theorem Jp (P:Params):dI P 1 vu vf:=eY (z:=DP) (u:=[65,68,68,32,65,32,84,79]) (v:=[71,73,86,73,78,71,32,67]) (by kernel_rfl) rfl rfl (by kernel_rfl)
theorem ML (P:Params) {m:Nat}(hm:Nat.ble m 18=true):∃ rd,(∀ x r,rd x=some r→bg P x r)∧∀ k,bz P rd 172 881 [.py (.int (Int.ofNat 1)),.py (.int (Int.ofNat m))] k=.ok (.py (.bool true)) k :=
 cq hm rfl (bY MB hm) (Jp P) (Hx P hm) (Hm P hm) (GA P) (gt (a:=B9) (b:=BY) m)
theorem MA:(List.range 19).all (fj 2)=true:=by kernel_rfl
theorem Jo (P:Params):dI P 2 vt ve:=eY (z:=DO) (u:=[83,85,66,84,82,65,67,84]) (v:=[65,32,70,82,79,77,32,67,32,71,73,86,73,78,71,32,68]) (by kernel_rfl) rfl rfl (by kernel_rfl)
theorem MK (P:Params) {m:Nat}(hm:Nat.ble m 18=true):∃ rd,(∀ x r,rd x=some r→bg P x r)∧∀ k,bz P rd 172 881 [.py (.int (Int.ofNat 2)),.py (.int (Int.ofNat m))] k=.ok (.py (.bool true)) k :=
 cq hm rfl (bY MA hm) (Jo P) (Hw P hm) (Hl P hm) (Gz P) (gt (a:=B8) (b:=BX) m)
theorem Mz:(List.range 19).all (fj 3)=true:=by kernel_rfl
theorem Jn (P:Params):dI P 3 vq vd:=eY (z:=DN) (u:=[83,85,66,84,82,65,67,84,32,65,32,67,32,70,82,79,77]) (v:=[71,73,86,73,78,71,32,68]) (by kernel_rfl) rfl rfl (by kernel_rfl)
theorem MJ (P:Params) {m:Nat}(hm:Nat.ble m 18=true):∃ rd,(∀ x r,rd x=some r→bg P x r)∧∀ k,bz P rd 172 881 [.py (.int (Int.ofNat 3)),.py (.int (Int.ofNat m))] k=.ok (.py (.bool true)) k :=
 cq hm rfl (bY Mz hm) (Jn P) (Hv P hm) (Hj P hm) (Gy P) (gt (a:=B7) (b:=BW) m)
theorem My:(List.range 19).all (fj 4)=true:=by kernel_rfl
theorem Jm (P:Params):dI P 4 vo vc:=eY (z:=DM) (u:=[77,85,76,84,73,80,76,89]) (v:=[66,89,32,65,32,71,73,86,73,78,71,32,67]) (by kernel_rfl) rfl rfl (by kernel_rfl)
theorem MI (P:Params) {m:Nat}(hm:Nat.ble m 18=true):∃ rd,(∀ x r,rd x=some r→bg P x r)∧∀ k,bz P rd 172 881 [.py (.int (Int.ofNat 4)),.py (.int (Int.ofNat m))] k=.ok (.py (.bool true)) k :=
 cq hm rfl (bY My hm) (Jm P) (Hu P hm) (Hi P hm) (Gw P) (gt (a:=B6) (b:=BV) m)
theorem Mx:(List.range 19).all (fj 5)=true:=by kernel_rfl
theorem Jl (P:Params):dI P 5 vn u9:=eY (z:=DL) (u:=[77,85,76,84,73,80,76,89,32,65,32,66,89]) (v:=[71,73,86,73,78,71,32,67]) (by kernel_rfl) rfl rfl (by kernel_rfl)
theorem MH (P:Params) {m:Nat}(hm:Nat.ble m 18=true):∃ rd,(∀ x r,rd x=some r→bg P x r)∧∀ k,bz P rd 172 881 [.py (.int (Int.ofNat 5)),.py (.int (Int.ofNat m))] k=.ok (.py (.bool true)) k :=
 cq hm rfl (bY Mx hm) (Jl P) (Hs P hm) (Hh P hm) (Gv P) (gt (a:=B4) (b:=BU) m)
theorem Mw:(List.range 19).all (fj 6)=true:=by kernel_rfl
theorem Jk (P:Params):dI P 6 vm u8:=eY (z:=DK) (u:=[68,73,86,73,68,69]) (v:=[66,89,32,65,32,71,73,86,73,78,71,32,67]) (by kernel_rfl) rfl rfl (by kernel_rfl)
theorem MG (P:Params) {m:Nat}(hm:Nat.ble m 18=true):∃ rd,(∀ x r,rd x=some r→bg P x r)∧∀ k,bz P rd 172 881 [.py (.int (Int.ofNat 6)),.py (.int (Int.ofNat m))] k=.ok (.py (.bool true)) k :=
 cq hm rfl (bY Mw hm) (Jk P) (Hr P hm) (Hg P hm) (Gu P) (gt (a:=B3) (b:=BS) m)
theorem Mv:(List.range 19).all (fj 7)=true:=by kernel_rfl
theorem Jj (P:Params):dI P 7 vl u7:=eY (z:=DJ) (u:=[68,73,86,73,68,69]) (v:=[73,78,84,79,32,65,32,71,73,86,73,78,71,32,67]) (by kernel_rfl) rfl rfl (by kernel_rfl)
theorem MF (P:Params) {m:Nat}(hm:Nat.ble m 18=true):∃ rd,(∀ x r,rd x=some r→bg P x r)∧∀ k,bz P rd 172 881 [.py (.int (Int.ofNat 7)),.py (.int (Int.ofNat m))] k=.ok (.py (.bool true)) k :=
 cq hm rfl (bY Mv hm) (Jj P) (Hq P hm) (He P hm) (Gs P) (gt (a:=B2) (b:=BR) m)
theorem Mu:(List.range 19).all (fj 8)=true:=by kernel_rfl
theorem Ji (P:Params):dI P 8 vj u6:=eY (z:=DH) (u:=[65,68,68]) (v:=[65,32,84,79,32,67]) (by kernel_rfl) rfl rfl (by kernel_rfl)
theorem ME (P:Params) {m:Nat}(hm:Nat.ble m 18=true):∃ rd,(∀ x r,rd x=some r→bg P x r)∧∀ k,bz P rd 172 881 [.py (.int (Int.ofNat 8)),.py (.int (Int.ofNat m))] k=.ok (.py (.bool true)) k :=
 cq hm rfl (bY Mu hm) (Ji P) (Hp P hm) (Hc P hm) (Gr P) (gt (a:=B1) (b:=BQ) m)
theorem Mt:(List.range 19).all (fj 9)=true:=by kernel_rfl
theorem Jh (P:Params):dI P 9 vi u5:=eY (z:=DG) (u:=[83,85,66,84,82,65,67,84,32,65]) (v:=[70,82,79,77,32,67]) (by kernel_rfl) rfl rfl (by kernel_rfl)
theorem MD (P:Params) {m:Nat}(hm:Nat.ble m 18=true):∃ rd,(∀ x r,rd x=some r→bg P x r)∧∀ k,bz P rd 172 881 [.py (.int (Int.ofNat 9)),.py (.int (Int.ofNat m))] k=.ok (.py (.bool true)) k :=
 cq hm rfl (bY Mt hm) (Jh P) (Ho P hm) (Ha P hm) (Gq P) (gt (a:=B0) (b:=BP) m)
theorem G7:(List.range 19).all (fj 10)=true:=by kernel_rfl
theorem CF (P:Params):dI P 10 qk qj:=eY (z:=DF) (u:=[77,85,76,84,73,80,76,89]) (v:=[66,89,32,67]) (by kernel_rfl) rfl rfl (by kernel_rfl)
theorem HC (P:Params) {m:Nat}(hm:Nat.ble m 18=true):∃ rd,(∀ x r,rd x=some r→bg P x r)∧∀ k,bz P rd 172 881 [.py (.int (Int.ofNat 10)),.py (.int (Int.ofNat m))] k=.ok (.py (.bool true)) k :=
 cq hm rfl (bY G7 hm) (CF P) (Ec P hm) (Eb P hm) (D0 P) (gt (a:=vh) (b:=u0) m)
theorem tL (P:Params) {m:Nat}(hm:Nat.ble m 18=true):∀ f,Nat.ble f 10=true→∃ rd,(∀ x r,rd x=some r→bg P x r)∧∀ k,bz P rd 172 881 [.py (.int (Int.ofNat f)),.py (.int (Int.ofNat m))] k=.ok (.py (.bool true)) k
 |0,_=>MM P hm
 |1,_=>ML P hm
 |2,_=>MK P hm
 |3,_=>MJ P hm
 |4,_=>MI P hm
 |5,_=>MH P hm
 |6,_=>MG P hm
 |7,_=>MF P hm
 |8,_=>ME P hm
 |9,_=>MD P hm
 |10,_=>HC P hm
 |_+11,h=>nomatch h
noncomputable def fy (P:Params) (x:Str):Prop:=∃(l:List Nat) (v:Str×Nat) (kd:Str) (i:Int) (tl:List Tk),x=mkS l∧l.length≤4000∧v∈bj∧cC l++[lV]=((kd,v.1,i)::tl).map pyT∧((kd,v.1,i)::tl).length≤1000 ∧
 cY P ((kd,v.1,i)::tl) (NR+1) v.2 jA 0=.exc
theorem gx {P:Params}{a b:List Nat}{pre pr pre' tl tl0:List Tk}{v:Str×Nat}{kd:Str}{i:Int}(hv:v∈bj) (ha:cC a++[pyT (tS 40)]=pre.map pyT) (hb:cC b=tl0.map pyT) (htl:tl=tl0++[tS 46]) (hpre:pre=pr++[tS 40]) (hhd:pre=(kd,v.1,i)::pre')
 (hl1:a.length+b.length≤200) (hl2:pre.length+tl.length≤100) (h:cH P pre.length 2 .exc (0+25) v.2 jA (0,pre++ba 19 (tS 41::tl))=.exc):fy P (mkS (a++40::(aT 19++41::b))):=by
 have hlen:(pre++ba 19 (tS 41::tl)).length=pre.length+(79+(tl.length+1)):=by rw[List.length_append,kY];rfl
 have q:=pc (m:=19) rfl hpre (DS P) (by rw[hlen];omega) h
 have e1:cY P (pre++ba 19 (tS 41::tl)) (NR+1) v.2 jA 0=.exc:=q
 have hw:=ke a b pre tl tl0 19 ha hb htl
 have hc:pre++ba 19 (tS 41::tl)=(kd,v.1,i)::(pre'++ba 19 (tS 41::tl)):=by rw[hhd];rfl
 rw[hc]at e1 hw hlen
 refine⟨_,v,kd,i,_,rfl,?_,hv,hw,by rw[hlen];omega,e1⟩
 rw[List.length_append,List.length_cons,List.length_append,List.length_cons,iW];omega
theorem Ms (P:Params):fy P (mkS (vv++40::(aT 19++41::vg))) :=
 gx (pre:=pre_f0) (pr:=pre_f0.dropLast) (pre':=pre_f0.tail) (tl:=tail_f0.tail) (tl0:=tail_f0.tail.dropLast) (v:=("ADD",498)) (kd:=kW) (i:=0) (by simp[bj]) (by kernel_rfl) (by kernel_rfl) rfl rfl (by kernel_rfl) (by decide) (by decide) (G0 P 0 (ba 19 tail_f0))
theorem Mr (P:Params):fy P (mkS (vu++40::(aT 19++41::vf))) :=
 gx (pre:=pre_f1) (pr:=pre_f1.dropLast) (pre':=pre_f1.tail) (tl:=tail_f1.tail) (tl0:=tail_f1.tail.dropLast) (v:=("ADD",498)) (kd:=kW) (i:=0) (by simp[bj]) (by kernel_rfl) (by kernel_rfl) rfl rfl (by kernel_rfl) (by decide) (by decide) (GZ P 0 (ba 19 tail_f1))
theorem Mq (P:Params):fy P (mkS (vt++40::(aT 19++41::ve))) :=
 gx (pre:=pre_f2) (pr:=pre_f2.dropLast) (pre':=pre_f2.tail) (tl:=tail_f2.tail) (tl0:=tail_f2.tail.dropLast) (v:=("SUBTRACT",505)) (kd:=kW) (i:=0) (by simp[bj]) (by kernel_rfl) (by kernel_rfl) rfl rfl (by kernel_rfl) (by decide) (by decide) (GY P 0 (ba 19 tail_f2))
theorem Mp (P:Params):fy P (mkS (vq++40::(aT 19++41::vd))) :=
 gx (pre:=pre_f3) (pr:=pre_f3.dropLast) (pre':=pre_f3.tail) (tl:=tail_f3.tail) (tl0:=tail_f3.tail.dropLast) (v:=("SUBTRACT",505)) (kd:=kW) (i:=0) (by simp[bj]) (by kernel_rfl) (by kernel_rfl) rfl rfl (by kernel_rfl) (by decide) (by decide) (GX P 0 (ba 19 tail_f3))
theorem Mo (P:Params):fy P (mkS (vo++40::(aT 19++41::vc))) :=
 gx (pre:=pre_f4) (pr:=pre_f4.dropLast) (pre':=pre_f4.tail) (tl:=tail_f4.tail) (tl0:=tail_f4.tail.dropLast) (v:=("MULTIPLY",512)) (kd:=kW) (i:=0) (by simp[bj]) (by kernel_rfl) (by kernel_rfl) rfl rfl (by kernel_rfl) (by decide) (by decide) (GW P 0 (ba 19 tail_f4))
theorem Mn (P:Params):fy P (mkS (vn++40::(aT 19++41::u9))) :=
 gx (pre:=pre_f5) (pr:=pre_f5.dropLast) (pre':=pre_f5.tail) (tl:=tail_f5.tail) (tl0:=tail_f5.tail.dropLast) (v:=("MULTIPLY",512)) (kd:=kW) (i:=0) (by simp[bj]) (by kernel_rfl) (by kernel_rfl) rfl rfl (by kernel_rfl) (by decide) (by decide) (GV P 0 (ba 19 tail_f5))
theorem Mm (P:Params):fy P (mkS (vm++40::(aT 19++41::u8))) :=
 gx (pre:=pre_f6) (pr:=pre_f6.dropLast) (pre':=pre_f6.tail) (tl:=tail_f6.tail) (tl0:=tail_f6.tail.dropLast) (v:=("DIVIDE",526)) (kd:=kW) (i:=0) (by simp[bj]) (by kernel_rfl) (by kernel_rfl) rfl rfl (by kernel_rfl) (by decide) (by decide) (GU P 0 (ba 19 tail_f6))
theorem Ml (P:Params):fy P (mkS (vl++40::(aT 19++41::u7))) :=
 gx (pre:=pre_f7) (pr:=pre_f7.dropLast) (pre':=pre_f7.tail) (tl:=tail_f7.tail) (tl0:=tail_f7.tail.dropLast) (v:=("DIVIDE",526)) (kd:=kW) (i:=0) (by simp[bj]) (by kernel_rfl) (by kernel_rfl) rfl rfl (by kernel_rfl) (by decide) (by decide) (GS P 0 (ba 19 tail_f7))
theorem Mk (P:Params):fy P (mkS (vj++40::(aT 19++41::u6))) :=
 gx (pre:=pre_f8) (pr:=pre_f8.dropLast) (pre':=pre_f8.tail) (tl:=tail_f8.tail) (tl0:=tail_f8.tail.dropLast) (v:=("ADD",498)) (kd:=kW) (i:=0) (by simp[bj]) (by kernel_rfl) (by kernel_rfl) rfl rfl (by kernel_rfl) (by decide) (by decide) (GR P 0 (ba 19 tail_f8))
theorem Mj (P:Params):fy P (mkS (vi++40::(aT 19++41::u5))) :=
 gx (pre:=pre_f9) (pr:=pre_f9.dropLast) (pre':=pre_f9.tail) (tl:=tail_f9.tail) (tl0:=tail_f9.tail.dropLast) (v:=("SUBTRACT",505)) (kd:=kW) (i:=0) (by simp[bj]) (by kernel_rfl) (by kernel_rfl) rfl rfl (by kernel_rfl) (by decide) (by decide) (GQ P 0 (ba 19 tail_f9))
theorem G6 (P:Params):fy P (mkS (qk++40::(aT 19++41::qj))) :=
 gx (pre:=pre_f10) (pr:=pre_f10.dropLast) (pre':=pre_f10.tail) (tl:=tail_f10.tail) (tl0:=tail_f10.tail.dropLast) (v:=("MULTIPLY",512)) (kd:=kW) (i:=0) (by simp[bj]) (by kernel_rfl) (by kernel_rfl) rfl rfl (by kernel_rfl) (by decide) (by decide) (D9 P 0 (ba 19 tail_f10))
end Mine
end
section
namespace Mine
open PySem PySem.W PySem.Spec PySem.Calls PyProof.Rows Builtin.Str
noncomputable def Nx (P:Params):List Stmt:=match(fdK P 881).body with
 |.stmts b=>b
 |_=>[]
noncomputable abbrev eU (P:Params):Scope:=(fdK P 881).scope
noncomputable def ig (P:Params) (i:Nat):Stmt:=Hd.nth (Nx P) i
noncomputable def y0 (P:Params):Expr:=@Expr.Call.elim (fun _=>Expr) (@Stmt.Assign.elim (fun _=>Expr) (ig P 2) (by kernel_rfl) fun _ e _=>e) (by kernel_rfl) fun f as _ _=>as.headD f
noncomputable def CC (P:Params):Expr×List Stmt:=@Stmt.If.elim (fun _=>_) (ig P 3) (by kernel_rfl) fun t b _ _=>(t,b)
noncomputable def na (P:Params):Expr:=(CC P).1
noncomputable def qB (P:Params):Expr:=@Stmt.Return.elim (fun _=>Expr) (Hd.nth (CC P).2 0) (by kernel_rfl) fun o _=>o.getD (na P)
theorem BI (P:Params):(fdK P 881).body=.stmts [ig P 0,ig P 1,ig P 2,ig P 3,ig P 4]:=by kernel_rfl
theorem Jr (P:Params):(Hd.kM P).lookup 881=some ⟨.type "function",none,.func (fdK P 881),#[]⟩:=by kernel_rfl
theorem Jz (P:Params):ir (Hd.kM P) (fdK P 881)=true:=by kernel_rfl
theorem Kt (P:Params) (a b:D):dk (Hd.kM P) (fdK P 881) [a,b]=some [(bS,a),(be,b)]:=by kernel_rfl
theorem D6 (P:Params):ig P 2=.Assign [.Name bM ⟨728,4,728,8⟩] (.Call (.Name "_law_read" ⟨728,11,728,20⟩) [y0 P] [] ⟨728,11,728,75⟩) ⟨728,4,728,75⟩:=by kernel_rfl
theorem D5 (P:Params):ig P 3=.If (na P) [.Return (some (qB P)) ⟨730,8,730,27⟩] [] ⟨729,4,730,27⟩:=by kernel_rfl
theorem AI (P:Params):(eU P).names.lookup bM=some .local∧(eU P).names.lookup be=some .local∧(eU P).names.lookup ("_law_read":Str)=some .globalImplicit:=⟨by kernel_rfl,by kernel_rfl,by kernel_rfl⟩
theorem AJ (P:Params):(eU P).names.all (fun p=>match p.2 with | .cell=>false | _=>true)=true:=by kernel_rfl
theorem MS (P:Params):nsIn (Hd.kM P) mainGlobals "_law_read"=some (some (.ref 874)):=by kernel_rfl
section
variable (P:Params) (calls:Orc) (k:Nat)
theorem Dw (f m:Nat):exS (cM P [] 881 calls) (eU P) 40 (ig P 0) (o9 f m) k=exR (crM P calls) 40 Gj (o9 f m) k:=by kernel_rfl
theorem Dv (f m:Nat) (S:Str) (X:PyData):exS (cM P [] 881 calls) (eU P) 40 (ig P 1) (l6 f m S X) k=exR (crM P calls) 40 Gi (l6 f m S X) k:=by kernel_rfl
theorem Du (f m:Nat) (S:Str) (X due:PyData):evE (cM P [] 881 calls) (eU P) 38 (iJ f m S X due) (y0 P) k=evR (crM P calls) 38 (iJ f m S X due) (C4 P) k:=by kernel_rfl
theorem Ds:evB (cM P [] 881 calls) (eU P) 39 [(be,.py (.int 19)),(bM,.py .none)] (na P) k=.ok true k:=by kernel_rfl
theorem Dt:evE (cM P [] 881 calls) (eU P) 39 [(be,.py (.int 19)),(bM,.py .none)] (qB P) k=.ok (.py (.bool true)) k:=by kernel_rfl
end
noncomputable abbrev g0:Gh:=⟨false,0,0,0,[],[],none⟩
noncomputable abbrev Wt (cx:Sx):List Addr:=cx.tabs.map (·.1)
structure Lw (cx:Sx) (h:Heap):Prop where
 h0:∀ b o,cx.H0.get? b=some o→h.get? b=some o
 t:TabInv cx.tabs h h
 w:∀ a∈Wt cx,cx.H0.get? a=none
structure Kp (cx:Sx) (h h':Heap):Prop where
 k:∀ b o,b∉Wt cx→h.get? b=some o→∃ sl,h'.get? b=some {o with slots:=sl}
 lw:Lw cx h'
noncomputable def NF (cx:Sx) (h:Heap) (V:List Addr):Prop:=∀ a∈V,a∈Wt cx∨(cx.H0.get? a=none∧∃ o,h.get? a=some o∧∀ vs,o.data≠.fields vs)
section
variable {cx:Sx}{h h' h'':Heap}{V:List Addr}
theorem Kp.trans (a:Kp cx h h') (b:Kp cx h' h''):Kp cx h h'':=⟨fun x o n e=>let⟨_,e1⟩:=a.k x o n e;let⟨sl,e2⟩:=b.k x _ n e1;⟨sl,e2⟩,b.lw⟩
theorem Kp.nf (a:Kp cx h h') (n:NF cx h V):NF cx h' V:=fun x m=>(n x m).elim .inl fun⟨z,o,e,d⟩=>by
 by_cases q:x∈Wt cx
 ·exact .inl q
 ·obtain⟨sl,e1⟩:=a.k x o q e
  exact .inr ⟨z,_,e1,d⟩
theorem Kp.ns (a:Kp cx h h') {L:Addr}{m:Str→Option Value}(n:L∉Wt cx) (x:h.Ns L m):h'.Ns L m:=by
 obtain⟨o,es,ep,e,d,r⟩:=x
 obtain⟨sl,e1⟩:=a.k L o n e
 exact⟨_,es,ep,e1,d,r⟩
theorem Kp.chain (a:Kp cx h h') {l:List Env}(c:Chain cx g0 l h):Chain cx g0 l h':=fun env m=>by
 obtain⟨k,L,o,f,w,z,e,d⟩:=c env m
 obtain⟨sl,e1⟩:=a.k L o w e
 exact⟨k,L,_,f,w,z,e1,d⟩
theorem TabInv.self {tabs:List (Addr×Nat×Nat×Str)}{hv:Heap}(t:TabInv tabs hv h) (kp:∀ b o,hv.get? b=some o→h.get? b=some o):TabInv tabs h h:=fun x m=>by
 obtain⟨ps,e,r⟩:=t x m
 exact⟨ps,e,r.imp id fun⟨c,e1,e2⟩=>⟨c,e1,e2.keeps kp⟩⟩
theorem Kp.of_good {V0:List Addr}{me:Option Addr}{k:Nat}(L:Lw cx h) (x:Ext (Wt cx) h h') (G:Good cx (g0.at V0 me) V h' k):Kp cx h h' :=
 ⟨fun b o n e=>⟨o.slots,x.keep b o n e⟩,G.keep,G.tabs.self fun _ _ e=>of_hideAll V e,L.w⟩
theorem Kp.of_caught (L:Lw cx h) (c:Caught cx (Wt cx) h h'):Kp cx h h':=by
 obtain⟨hr,ls,x,t,k0,hls,st,u⟩:=c
 have ex:∀{b:Addr}{o:Obj},b∉ls→hr.get? b=some o→h'.get? b=some o:=fun n e=>st _ _ (hideAll_get ls e n)
 have fl:∀{b:Addr}{o:Obj}{vs},hr.get? b=some o→o.data=.fields vs→b∉ls:=fun e d m=>by
  obtain⟨⟨o,e1,d1⟩,_⟩:=hls _ m
  exact d1 _ ((si (e1.symm.trans e))▸d)
 refine⟨fun b o n e=>?_,fun b o e=>ex (fun m=>nn ((hls b m).2.2.symm.trans e)) (k0 b o e),fun z m=>?_,L.w⟩
 ·have e1:=x.keep b o n e
  by_cases m:b∈ls
  ·exact u b o e1 fun vs d=>fl e1 d m
  ·exact⟨o.slots,ex m e1⟩
 ·obtain⟨ps,e,r⟩:=t z m
  refine⟨ps,ex (fl e rfl) e,r.imp id fun⟨c,e1,d,o,vs,tk,q1,q2,q3,q4⟩=>⟨c,e1,d,o,vs,tk,q1,ex (fl q2 q3) q2,q3,q4⟩⟩
theorem Lw.good (L:Lw cx h) (hW:∀ a∈Wt cx,a∈V) (n:NF cx h V) (V0:List Addr) (me:Option Addr) (k:Nat):Good cx (g0.at V0 me) V h k:=by
 refine⟨L.h0,fun a m=>?_,hW,fun a m=>(n a m).elim (L.w a) (·.1),fun z m=>?_,nofun⟩
 ·refine(n a m).elim (fun q=>?_) fun q=>let⟨_,o,e,_⟩:=q;⟨o,e⟩
  obtain⟨z,hz,rfl⟩:=List.mem_map.mp q
  obtain⟨ps,e,_⟩:=L.t z hz
  exact⟨_,e⟩
 ·obtain⟨ps,e,r⟩:=L.t z m
  refine⟨ps,e,r.imp id fun⟨c,e1,d,o,vs,tk,q1,q2,q3,q4⟩=>⟨c,e1,d,o,vs,tk,q1,hideAll_get V q2 fun mV=>?_,q3,q4⟩⟩
  refine(n d mV).elim (fun q=>?_) fun⟨_,o',e',dd⟩=>dd _ ((si (e'.symm.trans q2))▸q3)
  obtain⟨y,hy,rfl⟩:=List.mem_map.mp q
  obtain⟨ps',e',r'⟩:=L.t y hy
  obtain rfl:=si (e'.symm.trans q2)
  cases q3
  rcases r' with rfl | ⟨c',rfl,_⟩
  ·injection q4
  ·cases q4
end
theorem IZ (P:Params):keepIn (Hd.kM P) (.ref 874)=true:=by kernel_rfl
theorem IG (P:Params):d7 (Hd.kM P) "_law_read"=some (.glob (.ref 874)):=by kernel_rfl
theorem Ir (P:Params):noStar [y0 P]=true:=by kernel_rfl
noncomputable def A9 (t:Str) (ds:List D):Bool:=(stA ds).elim false fun x=>ac x t
theorem um {t:Str}{ds:List D}(h:A9 t ds=true):ds=[.py (.str t)]:=oel h (fun x e h=>(ay _ _).mp h▸kj e) fun _ h=>ft h
noncomputable def pk:Rho:=[(be,.py (.int 19))]
theorem jh {x:Str}{d:D}(e:aH pk x=some d):x=be∧d=.py (.int 19):=by
 unfold pk aH at e
 split at e
 ·rename_i q
  exact⟨((ay _ _).mp q).symm,(si e).symm⟩
 ·exact nn e
section
variable {cx:Sx}
theorem vP {V V6:List Addr}{B:Bs}{k:Nat}{A:Around}{env:Env}{l:List Env}{ρ:Rho}{s:Shared}{h4 h6:Heap}{tk4 tk6:Nat}(x4:SS cx (g0.at V (some 881)) s.heap B l 329 A env V6 ρ k {s with heap:=h4,toks:=tk4}) (hm:aH ρ be=some (.py (.int 19))) (km:env.kindOf be=some .local)
 (nc:∀ y,env.kindOf y≠some .cell) (WV:∀ a∈g0.W cx,a∈V) (hV:NF cx s.heap V) (C6:Kp cx h4 h6) (K6:Kp cx s.heap h6) (t6:1≤tk6):St cx (g0.at V (some 881)) (env.locals::V) (env::l) 329 A env pk k {s with heap:=h6,toks:=tk6}:=by
 have LW:env.locals∉Wt cx:=x4.st.fr.LW
 obtain⟨m,hn,hl',_⟩:=x4.st.fr.loc
 obtain⟨v',em,rv'⟩:=hl' be (.py (.int 19)) hm km
 obtain⟨t',rfl⟩:=au rv'
 have hn6:h6.Ns env.locals m:=C6.ns LW hn
 have n6:NF cx h6 (env.locals::V):=mc (.inr ⟨x4.st.good.V0 _ x4.st.fr.LV,let⟨o,_,_,e,d,_⟩:=hn6;⟨o,e,fun vs q=>by rw[d]at q;injection q⟩⟩) (K6.nf hV)
 refine⟨x4.st.ao,C6.chain x4.st.ch,⟨x4.st.fr.kind,x4.st.fr.gl,x4.st.fr.bi,.head _,LW,⟨m,hn6,fun y d e _=>?_,fun y y' l1 l2 e=>?_⟩,fun y d e kk=>(kk.elim (nc y) (x4.noFree y)).elim,x4.st.fr.cd,fun y l1 e=>?_⟩,C6.lw.good (fun a q=>.tail _ (WV a q)) n6 V (some 881) k,t6⟩
 ·obtain⟨rfl,rfl⟩:=jh e
  exact⟨_,em,_,.int _ _⟩
 ·injection(jh e).2
 ·injection(jh e).2
theorem qz (R:RealCx cx) {V V6:List Addr}{k:Nat}{A:Around}{env:Env}{l:List Env}{s:Shared}{h6:Heap}{tk6:Nat}{calls:Orc}(O:OOk cx g0 calls 329) (ab:AB A 329) (sc:bI (eU cx.w.params) env) (kt:env.kindOf bM=some .local) (w:Lw cx s.heap) (L0:s.heap.get? env.locals=none) (K6:Kp cx s.heap h6)
 (st6:St cx (g0.at V (some 881)) V6 (env::l) 329 A env pk k {s with heap:=h6,toks:=tk6}) {Q:Flow→Shared→Prop}{E E':Value→Shared→Prop}(H:∀ h' tk',1≤tk'→Kp cx s.heap h'→Q (.ret (.bool true)) {s with heap:=h',toks:=tk'}) :
 wpAny (model cx.prog cx.w) A (storeName env bM .none) (fun _ s'=>wpAny (model cx.prog cx.w) A (execs [ig cx.w.params 3,ig cx.w.params 4] env) Q E' s') E {s with heap:=h6,toks:=tk6}:=by
 have F:=dS R
 have hC:cx.C (g0.at V (some 881)) calls=cM cx.w.params [] 881 calls:=gQ (g:=g0) R V 881 _
 refine eQ st6 kt (d:=.py .none) ⟨_,Reads.none⟩ nofun fun h7 tk7 t7 sb st7=>?_
 rw[show bP pk bM (.py .none)=[(be,.py (.int 19)),(bM,.py .none)]by kernel_rfl]at st7
 rw[D5]
 refine wpAny_execs_cons (wpAny_If ((gb F (g:=g0.at V (some 881)) O ab 39).2 _ _ env (eU cx.w.params) _ sc (na cx.w.params) k _ _ _ st7 ?_))
 rw[hC,Ds]
 intro h8 tk8 bb t8 ex8 G8 eb
 subst eb
 refine wpAny_execs_cons (wpAny_Return_some ((gb F (g:=g0.at V (some 881)) O ab 39).1 _ _ env (eU cx.w.params) _ sc (qB cx.w.params) k _ _ _ (st7.step t8 ex8 G8) ?_))
 rw[hC,Dt]
 intro h9 tk9 v9 t9 ex9 G9 ⟨_,r9⟩
 obtain rfl:=jR r9
 have L7:Lw cx h7:=⟨st7.good.keep,st7.good.tabs.self fun _ _ e=>of_hideAll _ e,w.w⟩
 exact H h9 tk9 t9 (Kp.trans ⟨fun y o q e=>let⟨sl,e1⟩:=K6.k y o q e;⟨sl,(sb.2 y fun w=>nn (L0.symm.trans (w▸e))).trans e1⟩,L7⟩ (Kp.of_good L7 (ex8.trans ex9) G9))
theorem tJ (R:RealCx cx) {V0 V:List Addr}{me:Option Addr}{k f:Nat}{A:Around}{l:List Env}{s:Shared}{Q E:Value→Shared→Prop}{z:Str}{a b:List Nat}{v1 v2:Value}(ao:AOk A 330 l) (ch:Chain cx g0 l s.heap) (G:Good cx (g0.at V0 me) V s.heap k) (hV:NF cx s.heap V) (ht:1≤s.toks)
 (hf:Nat.ble f 10=true) (hz:ah (kM cx.w.params) dl (.py (.tuple (formsL.map .str))) (.py (.int (Int.ofNat f)))=some (.py (.str z))) (hc:jQ z t203 (t204++mkS (aT 19)++t205)=true) (hr:Txt.replace z t203 (t204++mkS (aT 19)++t205)=txt a b 19)
 (hx:fy cx.w.params (txt a b 19)) (r1:Rep cx (g0.at V0 me) V s.heap v1 (.py (.int (Int.ofNat f)))) (r2:Rep cx (g0.at V0 me) V s.heap v2 (.py (.int (Int.ofNat 19)))) (L:Lw cx s.heap)
 (H:∀ h' tk',1≤tk'→Kp cx s.heap h'→Q (.bool true) {s with heap:=h',toks:=tk'}):wpAny (model cx.prog cx.w) A (call (.ref 881) [v1,v2]) Q E s:=by
 have F:=dS R
 have GF:=f8 R
 have FO:dJ cx g0 329:=i3 R rfl _
 have O:OOk cx g0 (bz cx.w.params (fun _=>none) 171) 329:=lG R rfl rfl (fun _ _ e=>nn e) 171
 obtain⟨q1,q2,q3⟩:=AI cx.w.params
 refine cw (args:=[.py (.int (Int.ofNat f)),.py (.int (Int.ofNat 19))]) ao ch G ht rfl ⟨r1,r2,trivial⟩ (by rw[R.K];exact Jr _) (by rw[R.K];exact Kt _ _ _) (BI _) (by rw[R.K];exact Jz _) fun env V' h₁ tk₁ N=>?_
 have hC:cx.C (g0.at V (some 881)) (bz cx.w.params (fun _=>none) 171)=cM cx.w.params [] 881 (bz cx.w.params (fun _=>none) 171):=gQ (g:=g0) R V 881 _
 have e3:=fX (rd:=fun _=>none) (n:=164) (Km cx.w.params 159 (k,[]) 19 rfl)
 have e4:=fX (rd:=fun _=>none) (n:=164) (Kl cx.w.params 159 (k,[]) (ak 19))
 have e5:=fX (rd:=fun _=>none) (n:=164) (Kk cx.w.params 159 (k,[]) (ak 19) f hf)
 replace e3:bz cx.w.params (fun _=>none) 171 846 _ k=_:=e3
 replace e4:bz cx.w.params (fun _=>none) 171 855 _ k=_:=e4
 replace e5:bz cx.w.params (fun _=>none) 171 862 _ k=_:=e5
 generalize bz cx.w.params (fun _=>none) 171=calls at *
 refine wpAny_execs_cons (gF F GF (g:=g0.at V (some 881)) O FO N.ab N.sc N.kof 40 _ (ig cx.w.params 0) V' _ k _ _ _ N.ss ?_)
 rw[hC,Dw,Ck _ _ _ e3]
 intro h2 tk2 V2 x2
 refine wpAny_execs_cons (gF F GF (g:=g0.at V (some 881)) O FO N.ab N.sc N.kof 40 _ (ig cx.w.params 1) V2 _ k _ _ _ x2 ?_)
 rw[hC,Dv,Cj _ _ _ e4 e5]
 intro h3 tk3 V3 x3
 rw[D6]
 refine wpAny_execs_cons (wpAny_Assign_Name ?_ (dY rfl))
 rw[aU (by intro _ _ _;nofun)]
 refine wpAny_bind (cr x3.st ((N.kof _).trans q3) (by rfl) (d:=.glob (.ref 874)) (by rw[R.K];exact IG _) fun w rw=>?_)
 obtain rfl:=rw
 refine gL (Q:=fun _ _=>True) (F:=fun ds k=>if A9 (txt a b 19) ds then .ok (none,[]) k else .no) (((gb F (g:=g0.at V (some 881)) O N.ab 38).1 V3 _ env (eU cx.w.params) _ N.sc)) (lz _ _ 38 _) x3 (Ir _) (fun h' X=>keeps_K (by rw[R.K];exact IZ _) h' X) ?_ fun ds k' h4 tk4 vs x4 ex4 rs hp=>?_
 ·have hcat:evE (cM cx.w.params [] 881 calls) (eU cx.w.params) 38 (iJ f 19 (mkS (aT 19)) (ak 19) (aZ f (ak 19))) (y0 cx.w.params) k=.ok (.py (.str (txt a b 19))) k:=(Du _ _ _ _ _ _ _ _).trans (vM cx.w.params calls k hz rfl hc hr)
  have hev:evs (evE (cM cx.w.params [] 881 calls) (eU cx.w.params) 38 (iJ f 19 (mkS (aT 19)) (ak 19) (aZ f (ak 19)))) [y0 cx.w.params] k=.ok [.py (.str (txt a b 19))] k:=by
   show OutK.bind _ _=_
   rw[hcat];rfl
  rw[hC,hev]
  have hT:A9 (txt a b 19) [.py (.str (txt a b 19))]=true:=(ay _ _).mpr rfl
  show PSt cx (g0.at V (some 881)) _ _ _ _ _ _ (if A9 (txt a b 19) [.py (.str (txt a b 19))]then _ else _) _ _ _
  rw[if_pos hT]
  exact fun _ _ _ _=>trivial
 ·refine gk hp fun hT _=>?_
  obtain rfl:=um hT
  refine tR rs fun v ev rv=>?_
  subst ev
  obtain⟨t,rfl⟩:=av rv
  obtain⟨lx,vb,kd,i,tl,hl,p1,p2,p3,p4,p5⟩:=hx
  rw[hl]
  refine pD R (g:=g0) rfl (V0:=V) (me:=some 881) (N:=NR) (x4.st.ao.mono (by decide)) x4.st.ch x4.st.good x4.st.tk p1 p2 p3 p4 p5 fun h6 tk6 t6 c=>?_
  have L4:Lw cx h4:=⟨x4.st.good.keep,x4.st.good.tabs.self fun _ _ e=>of_hideAll V3 e,L.w⟩
  have C6:Kp cx h4 h6:=.of_caught L4 c
  have K6:Kp cx s.heap h6:=(Kp.of_good L x4.ext x4.st.good).trans C6
  exact qz R O N.ab N.sc ((N.kof _).trans q1) L ((x4.new _ x4.st.fr.LV).resolve_left x4.fz) K6 (vP x4 (by kernel_rfl) ((N.kof _).trans q2) (fun y=>(N.kof y).symm▸nE (AJ _)) G.WV hV C6 K6 t6) H
end
theorem yz (P:Params):∀ f,Nat.ble f 10=true→∃ a b,dI P f a b∧fy P (txt a b 19)
 |0,_=>⟨_,_,Jq P,Ms P⟩
 |1,_=>⟨_,_,Jp P,Mr P⟩
 |2,_=>⟨_,_,Jo P,Mq P⟩
 |3,_=>⟨_,_,Jn P,Mp P⟩
 |4,_=>⟨_,_,Jm P,Mo P⟩
 |5,_=>⟨_,_,Jl P,Mn P⟩
 |6,_=>⟨_,_,Jk P,Mm P⟩
 |7,_=>⟨_,_,Jj P,Ml P⟩
 |8,_=>⟨_,_,Ji P,Mk P⟩
 |9,_=>⟨_,_,Jh P,Mj P⟩
 |10,_=>⟨_,_,CF P,G6 P⟩
 |_+11,h=>nomatch h
section
variable {cx:Sx}
theorem qy (R:RealCx cx) {f m:Nat}{A:Around}{l:List Env}{s:Shared}{Q E:Value→Shared→Prop}{t1 t2:Tok}(L:Lw cx s.heap) (ao:AOk A 330 l) (ch:Chain cx g0 l s.heap) (ht:1≤s.toks) (hf:Nat.ble f 10=true) (hm:Nat.ble m 18=true∨m=19)
 (H:∀ h' tk',1≤tk'→Kp cx s.heap h'→Q (.bool true) {s with heap:=h',toks:=tk'}):wpAny (model cx.prog cx.w) A (call (.ref 881) [.int (Int.ofNat f) t1,.int (Int.ofNat m) t2]) Q E s:=by
 have n:NF cx s.heap (Wt cx):=fun _ m=>.inl m
 have G:Good cx (g0.at [] none) (Wt cx) s.heap 0:=L.good (fun _ m=>m) n [] none 0
 have ri:∀(i:Int) (t:Tok),Rep cx (g0.at [] none) (Wt cx) s.heap (.int i t) (.py (.int i)):=fun i t=>⟨_,.int i t⟩
 rcases hm with hm | rfl
 ·obtain⟨rd,hrd,hc⟩:=tL cx.w.params hm f hf
  refine lG R (g:=g0) rfl rfl hrd 172 [] (Wt cx) none 881 [.py (.int (Int.ofNat f)),.py (.int (Int.ofNat m))] _ 0 s A l Q E ao ch G ht rfl ⟨ri _ _,ri _ _,trivial⟩ ?_
  rw[hc]
  intro h' tk' v t ex G' ⟨_,r⟩
  cases r
  exact H h' tk' t (.of_good L ex G')
 ·obtain⟨a,b,⟨z,hz,fo⟩,hx⟩:=yz cx.w.params f hf
  obtain⟨hc,hr⟩:=fo 19 (Nat.le_refl _)
  exact tJ R ao ch G n ht hf hz hc hr hx (ri _ _) (ri _ _) L H
end
end Mine
end
section
namespace Mine
open PySem PySem.W PySem.Spec PySem.Calls PyProof.Rows Builtin.Str
open Builtin.Int (intBits)
theorem Jt (P:Params):(Hd.kM P).lookup 825=some ⟨.type "function",none,.func (fdK P 825),#[]⟩:=by kernel_rfl
theorem JB (P:Params):ir (Hd.kM P) (fdK P 825)=true:=by kernel_rfl
theorem Kv (P:Params) (a b:D):dk (Hd.kM P) (fdK P 825) [a,b]=some [(("heap":Str),a),(be,b)]:=by kernel_rfl
noncomputable abbrev hN (a b c d:Nat):Expr:=.Name "heap" ⟨a,b,c,d⟩
noncomputable abbrev hI (r b k:Nat) (j:Int):Expr:=.Subscript (.Name "heap" ⟨r,b,r,b+4⟩) (.Constant (.int j) 0 ⟨r,b+5,r,b+6⟩) ⟨r,b,r,b+7⟩
noncomputable abbrev dT:Expr:=.Compare (hI 678 7 0 0) [.Eq] [.Constant (.int 0) 0 ⟨678,18,678,19⟩] ⟨678,7,678,19⟩
noncomputable abbrev d1:Stmt:=.Assign [hI 679 8 0 1] (.BinOp (hI 679 18 0 1) .Add (.Constant (.int 1) 0 ⟨679,28,679,29⟩) ⟨679,18,679,29⟩) ⟨679,8,679,29⟩
noncomputable abbrev d2:Stmt:=.Assign [hI 680 8 0 0] (.BinOp (.BinOp (.Constant (.int 1000003) 0 ⟨680,18,680,25⟩) .Pow (.BinOp (.Constant (.int 5) 0 ⟨680,30,680,31⟩) .Add (hI 680 34 0 1) ⟨680,30,680,41⟩) ⟨680,18,680,42⟩) .Mult (hI 680 45 0 2) ⟨680,18,680,52⟩) ⟨680,8,680,52⟩
noncomputable abbrev d3:Stmt:=.Assign [.Name "digit" ⟨681,4,681,9⟩] (.BinOp (hI 681 12 0 0) .Mod (.Name be ⟨681,22,681,26⟩) ⟨681,12,681,26⟩) ⟨681,4,681,26⟩
noncomputable abbrev d4:Stmt:=.Assign [hI 682 4 0 0] (.BinOp (hI 682 14 0 0) .FloorDiv (.Name be ⟨682,25,682,29⟩) ⟨682,14,682,29⟩) ⟨682,4,682,29⟩
noncomputable abbrev d5:Stmt:=.Return (some (.Name "digit" ⟨683,11,683,16⟩)) ⟨683,4,683,16⟩
theorem BK (P:Params):(fdK P 825).body=.stmts [.If dT [d1,d2] [] ⟨678,4,680,52⟩,d3,d4,d5]:=by kernel_rfl
theorem GI (P:Params):(fdK P 825).scope.names.lookup ("heap":Str)=some .local∧(fdK P 825).scope.names.lookup be=some .local∧(fdK P 825).scope.names.lookup ("digit":Str)=some .local:=⟨by kernel_rfl,by kernel_rfl,by kernel_rfl⟩
section
variable {prog:Program}{w:World}{A:Around}{E:Value→Shared→Prop}{s:Shared}{env:Env}{m:Str→Option Value}
theorem eS {M:Model}{Q:Value→Shared→Prop}(hk:env.scope.kind=.function) {x:Str}{p:Pos}{v:Value}(hx:env.kindOf x=some .local) (hd:ac x "__debug__"=false) (hn:s.heap.Ns env.locals m) (hm:m x=some v) (h:Q v s):wpAny M A (eval (.Name x p) env) Q E s :=
 wpAny_Name (wpAny_loadName_local hk hx hn hm h) (cL hd)
noncomputable def HL (h:Heap) (hl:Addr) (a b c:Int):Prop:=∃ ta tb tc,h.IsList hl #[.int a ta,.int b tb,.int c tc]
theorem jc {Q:Value→Shared→Prop}(hk:env.scope.kind=.function) {x:Str}{p1 p2 p3:Pos}{hl:Addr}{items:Array Value}{j:Nat}{v:Value}(hx:env.kindOf x=some .local) (hd:ac x "__debug__"=false) (hn:s.heap.Ns env.locals m) (hm:m x=some (.ref hl)) (hi:s.heap.IsList hl items) (hj:j<3)
 (hv:items[j]?=some v) (h:Q v {s with toks:=s.toks+1}):wpAny (model prog w) A (eval (.Subscript (.Name x p1) (.Constant (.int (Int.ofNat j)) 0 p2) p3) env) Q E s:=by
 refine Subscript_ (eS hk hx hd hn hm (wpAny_Constant_int ?_))
 exact tail_any (s:={s with toks:=s.toks+1}) hi.typeIs slot_list_getitem.lookup (wpAny_getItem_list (s:={s with toks:=s.toks+1}) hi (by simp) (by show(j:Int)<2 ^ 63;omega) (by simpa using hv) h) (bW rfl _ _)
theorem qx {Q:Flow→Shared→Prop}(hk:env.scope.kind=.function) {x:Str}{p1 p2 p3 p4:Pos}{val:Expr}{hl:Addr}{items:Array Value}{j:Nat}{v:Value}(hx:env.kindOf x=some .local) (hd:ac x "__debug__"=false) (hn:s.heap.Ns env.locals m) (hm:m x=some (.ref hl)) (hi:s.heap.IsList hl items) (hj:j<3) (hz:items.size=3)
 (hs:lb val=false) (he:∀(Q':Value→Shared→Prop),(∀ tk',Q' v {s with toks:=tk'})→wpAny (model prog w) A (eval val env) Q' E s)
 (h:∀ h' tk',h'.IsList hl (items.setIfInBounds j v)→Heap.SameBut hl s.heap h'→Q .next {s with heap:=h',toks:=tk'}):wpAny (model prog w) A (exec (.Assign [.Subscript (.Name x p1) (.Constant (.int (Int.ofNat j)) 0 p2) p3] val p4) env) Q E s:=by
 refine wpAny_Assign_Subscript (he _ fun tk'=>eS (s:={s with toks:=tk'}) hk hx hd hn hm (wpAny_Constant_int ?_)) (dY hs)
 exact wpAny_setItem_list (s:={s with toks:=tk'+1}) hi (by simp) (by show(j:Int)<2 ^ 63;omega) (by show(j:Int)<items.size;omega) fun h' a b=>h h' _ (by simpa using a) b
structure Dk (env:Env):Prop where
 kind:env.scope.kind=.function
 heap:env.kindOf "heap"=some .local
 many:env.kindOf be=some .local
 digit:env.kindOf "digit"=some .local
theorem HL.same {h h':Heap}{hl L:Addr}{a b c:Int}(x:HL h hl a b c) (hne:hl≠L) (sb:Heap.SameBut L h h'):HL h' hl a b c :=
 let⟨ta,tb,tc,i⟩:=x;⟨ta,tb,tc,i.extBut sb.extBut hne⟩
theorem mL {Q:Flow→Shared→Prop}(D:Dk env) {hl:Addr}{a b c n:Int}{t:Tok}(hn:s.heap.Ns env.locals m) (m1:m "heap"=some (.ref hl)) (m2:m be=some (.int n t)) (hi:HL s.heap hl a b c) (hne:hl≠env.locals) (n0:0<n) (n1:n<1000)
 (H:∀ h' tk' d td a',0≤d→d<n→HL h' hl a' b c→(∀ x o,x≠hl→x≠env.locals→s.heap.get? x=some o→h'.get? x=some o)→Q (.ret (.int d td)) {s with heap:=h',toks:=tk'}) :
 wpAny (model prog w) A (execs [d3,d4,d5] env) Q E s:=by
 obtain⟨ta,tb,tc,li⟩:=hi
 refine wpAny_execs_cons (wpAny_Assign_Name (wpAny_BinOp (jc (j:=0) D.kind D.heap rfl hn m1 li (by decide) (v:=.int a ta) (by rfl) ?_)) (dY rfl))
 refine eS (s:={s with toks:=s.toks+1}) D.kind D.many rfl hn m2 (mod_int' (by omega) ?_)
 refine wpAny_storeName_local (s:={s with toks:=s.toks+1+1}) D.digit hn (fun h1 hn1 sb1=>?_) (by rw[D.kind];rfl)
 have li1:=li.extBut sb1.extBut hne
 have hm:∀{x:Str}{v:Value},ac x "digit"=false→m x=some v→(if x="digit" then some (Value.int (a.fmod n) (s.toks+1))else m x)=some v:=fun hx e=>by rw[if_neg (beq_eq_false_iff_ne.mp (cL hx))];exact e
 show wpAny _ _ (execs [d4,d5] env) Q E {s with heap:=h1,toks:=s.toks+1+1+1}
 refine wpAny_execs_cons (qx (s:={s with heap:=h1,toks:=s.toks+1+1+1}) (j:=0) (v:=.int (a.fdiv n) (s.toks+1+1+1+1)) D.kind D.heap rfl hn1 (hm rfl m1) li1 (by decide) rfl rfl (fun Q' hQ=>?_) fun h2 tk2 li2 sb2=>?_)
 ·refine wpAny_BinOp (jc (s:={s with heap:=h1,toks:=s.toks+1+1+1}) (j:=0) D.kind D.heap rfl hn1 (hm rfl m1) li1 (by decide) (v:=.int a ta) (by rfl) ?_)
  refine eS (s:={s with heap:=h1,toks:=s.toks+1+1+1+1}) D.kind D.many rfl hn1 (hm rfl m2) (floordiv_int (by omega) ?_ (.inl (PyProof.noPylong_small (by omega))))
  exact hQ _
 ·show wpAny _ _ (execs [d5] env) Q E {s with heap:=h2,toks:=tk2}
  refine wpAny_execs_cons (wpAny_Return_some (eS (s:={s with heap:=h2,toks:=tk2}) D.kind D.digit rfl (hn1.extBut sb2.extBut (Ne.symm hne)) (by exact if_pos rfl) ?_))
  exact H h2 tk2 _ _ (a.fdiv n) (Int.fmod_nonneg_of_pos _ n0) (Int.fmod_lt_of_pos _ n0) ⟨_,tb,tc,li2⟩ fun x o q1 q2 e=>(sb2.2 x q1).trans ((sb1.2 x q2).trans e)
theorem uw {Q:Flow→Shared→Prop}(D:Dk env) {hl:Addr}{a b c n:Int}{t:Tok}(hn:s.heap.Ns env.locals m) (m1:m "heap"=some (.ref hl)) (m2:m be=some (.int n t)) (hi:HL s.heap hl a b c) (hne:hl≠env.locals) (n0:0<n) (n1:n<1000) (b0:0≤b) (b1:b≤100) (hc:intBits c≤2000000)
 (H:∀ h' tk' d td a' b',0≤d→d<n→b≤b'→b'≤b+1→HL h' hl a' b' c→(∀ x o,x≠hl→x≠env.locals→s.heap.get? x=some o→h'.get? x=some o)→Q (.ret (.int d td)) {s with heap:=h',toks:=tk'}) :
 wpAny (model prog w) A (execs [.If dT [d1,d2] [] ⟨678,4,680,52⟩,d3,d4,d5] env) Q E s:=by
 have hi':=hi
 obtain⟨ta,tb,tc,li⟩:=hi
 refine wpAny_execs_cons (wpAny_If (wpAny_isTrue_Compare1 (jc (j:=0) D.kind D.heap rfl hn m1 li (by decide) (v:=.int a ta) (by rfl) (wpAny_Constant_int (eq_int (wpAny_truthy_bool ?_)))) rfl))
 induction ha:(a==0)using Bool.casesOn with
 |false =>
  rw[if_neg Bool.false_ne_true]
  exact wpAny_execs_nil (mL (s:={s with toks:=s.toks+1+1}) D hn m1 m2 ⟨ta,tb,tc,li⟩ hne n0 n1 fun h' tk' d td a' q1 q2 q3 q4=>H h' tk' d td a' b q1 q2 (Int.le_refl _) (by omega) q3 q4)
 |true =>
  rw[if_pos rfl]
  refine wpAny_execs_cons (qx (s:={s with toks:=s.toks+1+1}) (j:=1) (v:=.int (b+1) (s.toks+1+1+1+1)) D.kind D.heap rfl hn m1 li (by decide) rfl rfl (fun Q' hQ=>?_) fun h2 tk2 li2 sb2=>?_)
  ·refine wpAny_BinOp (jc (s:={s with toks:=s.toks+1+1}) (j:=1) D.kind D.heap rfl hn m1 li (by decide) (v:=.int b tb) (by rfl) (wpAny_Constant_int (add_int ?_)))
   exact hQ _
  ·have hn2:=hn.extBut sb2.extBut (Ne.symm hne)
   show wpAny _ _ (execs [d2] env) _ E {s with heap:=h2,toks:=tk2}
   replace li2:h2.IsList hl #[.int a ta,.int (b+1) (s.toks+1+1+1+1),.int c tc]:=li2
   refine wpAny_execs_cons (qx (s:={s with heap:=h2,toks:=tk2}) (j:=0) (v:=.int (1000003 ^ (5+(b+1)).toNat*c) (tk2+1+1+1+1+1+1)) D.kind D.heap rfl hn2 m1 li2 (by decide) rfl rfl (fun Q' hQ=>?_) fun h3 tk3 li3 sb3=>?_)
   ·refine wpAny_BinOp (wpAny_BinOp (wpAny_Constant_int (wpAny_BinOp (wpAny_Constant_int ?_))))
    refine jc (s:={s with heap:=h2,toks:=tk2+1+1}) (j:=1) D.kind D.heap rfl hn2 m1 li2 (by decide) (v:=.int (b+1) (s.toks+1+1+1+1)) (by rfl) (add_int (pow_int (by omega) ?_ ?_))
    ·have:intBits 1000003=20:=by decide +kernel
     rw[this];omega
    ·refine jc (s:={s with heap:=h2,toks:=tk2+1+1+1+1+1}) (j:=2) D.kind D.heap rfl hn2 m1 li2 (by decide) (v:=.int c tc) (by rfl) (mul_int (hQ _) ?_)
     refine IntMulOk.of_le (intBits_pow_le (m:=20) (by decide +kernel) _) hc ?_
     omega
   ·refine wpAny_execs_nil ?_
    replace li3:h3.IsList hl #[.int (1000003 ^ (5+(b+1)).toNat*c) (tk2+1+1+1+1+1+1),.int (b+1) (s.toks+1+1+1+1),.int c tc]:=li3
    exact mL (s:={s with heap:=h3,toks:=tk3}) D (hn2.extBut sb3.extBut (Ne.symm hne)) m1 m2 ⟨_,_,_,li3⟩ hne n0 n1 fun h' tk' d td a' q1 q2 q3 q4=>H h' tk' d td a' (b+1) q1 q2 (by omega) (Int.le_refl _) q3 fun x o y1 y2 e=>q4 x o y1 y2 ((sb3.2 x y1).trans ((sb2.2 x y1).trans e))
end
section
variable {cx:Sx}
theorem Bt (R:RealCx cx) {A:Around}{l:List Env}{s:Shared}{Q E:Value→Shared→Prop}(L:Lw cx s.heap) (ao:AOk A 1 l) (ch:Chain cx g0 l s.heap) (ht:1≤s.toks) {hl:Addr}{a b c n:Int}{t:Tok}(hi:HL s.heap hl a b c) (n0:0<n) (n1:n<1000) (b0:0≤b) (b1:b≤100) (hc:intBits c≤2000000)
 (H:∀ h' tk' d td a' b',1≤tk'→0≤d→d<n→b≤b'→b'≤b+1→HL h' hl a' b' c→Heap.ExtBut hl s.heap h'→Q (.int d td) {s with heap:=h',toks:=tk'}):wpAny (model cx.prog cx.w) A (call (.ref 825) [.ref hl,.int n t]) Q E s:=by
 have nf:NF cx s.heap (Wt cx):=fun _ m=>.inl m
 have G:Good cx (g0.at [] none) (Wt cx) s.heap 0:=L.good (fun _ m=>m) nf [] none 0
 obtain⟨q1,q2,q3⟩:=GI cx.w.params
 refine wpAny_with_toks ht (cw (g:=g0) (n:=0) (args:=[.glob (.ref hl),.py (.int n)]) ao ch G ht rfl ⟨rfl,⟨_,.int _ _⟩,trivial⟩ (by rw[R.K];exact Jt _) (by rw[R.K];exact Kv _ _ _) (BK _) (by rw[R.K];exact JB _) fun env V' h₁ tk₁ N=>?_)
 obtain⟨m,hn,hl',_⟩:=N.ss.st.fr.loc
 obtain⟨v1,e1,r1⟩:=hl' "heap" (.glob (.ref hl)) (by kernel_rfl) ((N.kof _).trans q1)
 obtain⟨v2,e2,⟨_,r2⟩⟩:=hl' be (.py (.int n)) (by kernel_rfl) ((N.kof _).trans q2)
 obtain rfl:=r1
 cases r2
 have hL:s.heap.get? env.locals=none:=N.ss.loc0
 obtain⟨ta,tb,tc,li⟩:=hi
 have hne:hl≠env.locals:=fun q=>by
  obtain⟨o,e,_⟩:=li
  exact nn (hL.symm.trans (q▸e))
 refine uw (s:={s with heap:=h₁,toks:=tk₁}) ⟨N.ss.st.fr.kind,(N.kof _).trans q1,(N.kof _).trans q2,(N.kof _).trans q3⟩ hn e1 e2 ⟨ta,tb,tc,let⟨o,e,r⟩:=li;⟨o,N.keep _ _ e,r⟩⟩ hne n0 n1 b0 b1 hc fun h' tk' d td a' b' p1 p2 p3 p4 p5 p6 ht'=>?_
 exact H h' tk' d td a' b' ht' p1 p2 p3 p4 p5 fun x o hx e=>p6 x o hx (fun q=>nn (hL.symm.trans (q▸e))) (N.keep _ _ e)
end
structure Gl (cx:Sx) (env:Env) (h:Heap):Prop where
 kind:env.scope.kind=.function
 gl:env.globals=mainGlobals
 bi:env.builtins=builtinsNs
 keep:∀ b o,cx.H0.get? b=some o→h.get? b=some o
section
variable {cx:Sx}{env:Env}{A:Around}{s:Shared}{Q E:Value→Shared→Prop}
theorem Gl.X {h:Heap}(g:Gl cx env h):cx.K.In h:=cx.X.keeps g.keep
theorem nH (g:Gl cx env s.heap) {x:Str}{p:Pos}{v:Value}(hk:env.kindOf x=some .globalImplicit) (hd:ac x "__debug__"=false) (hv:nsIn cx.K mainGlobals x=some (some v)) (h:Q v s):wpAny (model cx.prog cx.w) A (eval (.Name x p) env) Q E s :=
 Name_function_global g.kind hk (loadGlobal_global (g.gl▸cx.T.g.keeps g.keep) (mg_of cx.X cx.T.g hv) h) (cL hd)
theorem wl (g:Gl cx env s.heap) {x:Str}{p:Pos}{v:Value}(hk:env.kindOf x=some .globalImplicit) (hd:ac x "__debug__"=false) (hn:ac x "__name__"=false) (hv:nsIn cx.K mainGlobals x=some none) (hb:bootBuiltins x=some v) (h:Q v s):wpAny (model cx.prog cx.w) A (eval (.Name x p) env) Q E s :=
 Name_function_global g.kind hk (loadGlobal_builtin (g.gl▸cx.T.g.keeps g.keep) (mg_none_of cx.X cx.T.g hv) (g.bi▸cx.T.b.keeps g.keep) ((cx.T.builtins x (beq_eq_false_iff_ne.mp (cL hn))).trans hb) h) (cL hd)
theorem iw {f:Str}{p1 p2:Pos}{fv:Value}{e:Expr}{r:List Expr}(hf:∀ Q':Value→Shared→Prop,Q' fv s→wpAny (model cx.prog cx.w) A (eval (.Name f p1) env) Q' E s) (hs:noStar (e::r)=true) (hk:∀ h',cx.K.In h'→gi (model cx.prog cx.w) h' fv)
 (h:wpAny (model cx.prog cx.w) A (spliced (backTo p2 (starEach (e::r) env))) (fun vs s₁=>cx.K.In s₁.heap∧wpAny (model cx.prog cx.w) A (call fv vs) Q E s₁) E s):wpAny (model cx.prog cx.w) A (eval (.Call (.Name f p1) (e::r) [] p2) env) Q E s:=by
 rw[aU (by intro _ _ _;nofun)]
 refine wpAny_bind (hf _ ?_)
 refine callWith_of (P:=fun h'=>cx.K.In h') (by rw[f4 hs];rfl) hk ?_
 have he:starEach (e::r) env=(false,eval e env)::starEach r env:=dp (bG hs).1
 rw[he]at h ⊢
 exact evalArgs_plain h
inductive FLo (env:Env) (s:Shared) (I ax:Addr) (items:Array Value) (J:Nat→(Str→Option Value)→Prop):Nat→Shared→Prop
 |mk {h:Heap}{tk:Nat}{m:Str→Option Value}{i:Nat}(it:h.IsListIter I ax i) (hl:h.IsList ax items) (hn:h.Ns env.locals m) (hJ:J i m) (hi:i≤items.size) (kp:∀ b o,b≠env.locals→b≠I→s.heap.get? b=some o→h.get? b=some o):FLo env s I ax items J (items.size+1-i) {s with heap:=h,toks:=tk}
theorem pO {R:Result→Shared→Prop}{x:Str}{px:Pos}{body:List Stmt}{I ax:Addr}{items:Array Value}{m:Str→Option Value}(hh:A.handled=none) (hx:env.kindOf x=some .local) (hk:env.scope.kind=.function)
 (hIL:I≠env.locals) (haL:ax≠env.locals) (haI:ax≠I) (hit:s.heap.IsListIter I ax 0) (hl:s.heap.IsList ax items) (hn:s.heap.Ns env.locals m) (J:Nat→(Str→Option Value)→Prop) (h0:J 0 m)
 (step:∀ i v m₁ s₁,items[i]?=some v→J i m₁→s₁.heap.Ns env.locals (fun y=>if y=x then some v else m₁ y)→(∀ b o,b≠env.locals→b≠I→s.heap.get? b=some o→s₁.heap.get? b=some o) →
  wpAny (model cx.prog cx.w) A (execs body env) (fun f s₂=>f=.next∧OnlyLocals env.locals s₁ s₂∧∃ m₂,s₂.heap.Ns env.locals m₂∧J (i+1) m₂) (notedBy (model cx.prog cx.w) A env fun e s'=>R (.error e) s') s₁)
 (hR:∀ h' tk m',h'.Ns env.locals m'→J items.size m'→(∀ b o,b≠env.locals→b≠I→s.heap.get? b=some o→h'.get? b=some o)→R (.ok .next) {s with heap:=h',toks:=tk}) :
 codeAny (model cx.prog cx.w) A (.forLoop (.Name x px) (.ref I) body [] env) R s:=by
 refine codeAny_forLoop (FLo env s I ax items J) (fun n s' w=>?_) (items.size+1) (.mk (i:=0) hit hl hn h0 (Nat.zero_le _) fun _ _ _ _ e=>e)
 obtain⟨hit',hl',hn',hJ,hi,kp⟩:=w
 rename_i h' tk m' i
 induction hv:items[i]? using Option.casesOn with
 |none =>
  refine wpAny_pyNext_list_end hh hit' hl' hv fun h1 x1=>wpAny_execs_nil (hR h1 tk m' (hn'.extBut x1 (Ne.symm hIL)) ?_ fun b o b1 b2 e=>x1 b o b2 (kp b o b1 b2 e))
  exact Nat.le_antisymm hi (Array.getElem?_eq_none_iff.mp hv)▸hJ
 |some v =>
  have hlt:i<items.size:=(Array.getElem?_eq_some_iff.mp hv).1
  refine wpAny_pyNext_list_item hit' hl' hv fun h1 it1 sb1=>?_
  refine wpAny_assign_Name (wpAny_storeName_local hx (hn'.sameBut sb1 (Ne.symm hIL)) (fun h2 hn2 sb2=>?_) (by rw[hk];rfl))
  have kp2:∀ b o,b≠env.locals→b≠I→s.heap.get? b=some o→h2.get? b=some o:=fun b o b1 b2 e=>sb2.extBut b o b1 (sb1.extBut b o b2 (kp b o b1 b2 e))
  refine wpAny_mono (step i v m' _ hv hJ hn2 kp2) (fun f s3 q=>?_) fun _ _ e=>e
  obtain⟨rfl,⟨h3,tk3,rfl,sb3⟩,m2,hn3,hJ3⟩:=q
  exact⟨_,Nat.sub_lt_sub_left (Nat.lt_succ_of_lt hlt) (Nat.lt_succ_self i),.mk ((it1.extBut sb2.extBut hIL).extBut sb3.extBut hIL) (((hl'.extBut sb1.extBut haI).extBut sb2.extBut haL).extBut sb3.extBut haL) hn3 hJ3 hlt fun b o b1 b2 e=>sb3.extBut b o b1 (kp2 b o b1 b2 e)⟩
end
theorem Ju (P:Params):(Hd.kM P).lookup 818=some ⟨.type "function",none,.func (fdK P 818),#[]⟩:=by kernel_rfl
theorem JC (P:Params):ir (Hd.kM P) (fdK P 818)=true:=by kernel_rfl
theorem Kw (P:Params) (a:D):dk (Hd.kM P) (fdK P 818) [a]=some [(("script":Str),a)]:=by kernel_rfl
noncomputable abbrev Nl:Expr:=.Call (.Name "abs" ⟨675,36,675,39⟩) [.Call (.Name "int" ⟨675,40,675,43⟩) [.Name "cell" ⟨675,44,675,48⟩] [] ⟨675,40,675,49⟩] [] ⟨675,36,675,50⟩
noncomputable abbrev Nk:Expr:=.Call (.Name "int" ⟨675,53,675,56⟩) [.Compare (.Name "cell" ⟨675,57,675,61⟩) [.Lt] [.Constant (.int 0) 0 ⟨675,64,675,65⟩] ⟨675,57,675,65⟩] [] ⟨675,53,675,66⟩
noncomputable abbrev eSm:Expr:=.BinOp (.BinOp (.Constant (.int 2) 0 ⟨675,32,675,33⟩) .Mult Nl ⟨675,32,675,50⟩) .Add Nk ⟨675,32,675,66⟩
noncomputable abbrev eWh:Expr:=.BinOp (.BinOp (.Name "whole" ⟨675,16,675,21⟩) .Mult (.Constant (.int 1543) 0 ⟨675,24,675,28⟩) ⟨675,16,675,28⟩) .Add (.BinOp eSm .Mod (.BinOp (.Constant (.int 10) 0 ⟨675,70,675,72⟩) .Pow (.Constant (.int 36) 0 ⟨675,76,675,78⟩) ⟨675,70,675,78⟩) ⟨675,31,675,78⟩) ⟨675,16,675,78⟩
noncomputable abbrev w1:Stmt:=.Assign [.Name "whole" ⟨675,8,675,13⟩] eWh ⟨675,8,675,78⟩
noncomputable abbrev eSl:Expr:=.Subscript (.Name "script" ⟨674,16,674,22⟩) (.Slice none (some (.Constant (.int 24) 0 ⟨674,24,674,26⟩)) none ⟨674,23,674,26⟩) ⟨674,16,674,27⟩
noncomputable abbrev w0:Stmt:=.Assign [.Name "whole" ⟨673,4,673,9⟩] (.Constant (.int 17) 0 ⟨673,12,673,14⟩) ⟨673,4,673,14⟩
noncomputable abbrev wF:Stmt:=.For (.Name "cell" ⟨674,8,674,12⟩) eSl [w1] [] ⟨674,4,675,78⟩
noncomputable abbrev Nj:List Expr:=[.Name "whole" ⟨676,12,676,17⟩,.Constant (.int 0) 0 ⟨676,19,676,20⟩,.BinOp (.BinOp (.Constant (.int 2) 0 ⟨676,22,676,23⟩) .Mult (.Name "whole" ⟨676,26,676,31⟩) ⟨676,22,676,31⟩) .Add (.Constant (.int 1) 0 ⟨676,34,676,35⟩) ⟨676,22,676,35⟩]
noncomputable abbrev w2:Stmt:=.Return (some (.List Nj ⟨676,11,676,36⟩)) ⟨676,4,676,36⟩
theorem BL (P:Params):(fdK P 818).body=.stmts [w0,wF,w2]:=by kernel_rfl
theorem GJ (P:Params):(fdK P 818).scope.names.lookup ("script":Str)=some .local∧(fdK P 818).scope.names.lookup ("whole":Str)=some .local∧(fdK P 818).scope.names.lookup ("cell":Str)=some .local∧(fdK P 818).scope.names.lookup ("abs":Str)=some .globalImplicit∧(fdK P 818).scope.names.lookup ("int":Str)=some .globalImplicit :=
 ⟨by kernel_rfl,by kernel_rfl,by kernel_rfl,by kernel_rfl,by kernel_rfl⟩
theorem Im (P:Params):nsIn (Hd.kM P) mainGlobals "abs"=some none:=by kernel_rfl
theorem Il (P:Params):nsIn (Hd.kM P) mainGlobals "int"=some none:=by kernel_rfl
theorem Nw:bootBuiltins "abs"=some (.builtin "abs"):=by kernel_rfl
theorem Nu:bootBuiltins "int"=some (.type "int"):=by kernel_rfl
structure Hk (env:Env):Prop where
 script:env.kindOf "script"=some .local
 whole:env.kindOf "whole"=some .local
 cell:env.kindOf "cell"=some .local
 abs:env.kindOf "abs"=some .globalImplicit
 int:env.kindOf "int"=some .globalImplicit
section
variable {cx:Sx}{env:Env}{A:Around}{s:Shared}{m:Str→Option Value}
theorem Bg (R:RealCx cx) (K:Hk env) (g:Gl cx env s.heap) {Q E:Value→Shared→Prop}{W x:Int}{t1 t2:Tok}(hn:s.heap.Ns env.locals m) (m1:m "whole"=some (.int W t1)) (m2:m "cell"=some (.int x t2)) {b:Nat}(hW:intBits W≤b) (hb:b≤10000) (hx:intBits x≤1048576)
 (H:∀ tk t W',intBits W'≤max (b+11) 121+1→Q (.int W' t) {s with toks:=tk}):wpAny (model cx.prog cx.w) A (eval eWh env) Q E s:=by
 have fA:∀ tk (Q':Value→Shared→Prop),Q' (.builtin "abs") {s with toks:=tk}→wpAny (model cx.prog cx.w) A (eval (.Name "abs" ⟨675,36,675,39⟩) env) Q' E {s with toks:=tk}:=fun tk Q' h=>wl (s:={s with toks:=tk}) g K.abs rfl rfl (by rw[R.K];exact Im _) Nw h
 have fI:∀ tk p (Q':Value→Shared→Prop),Q' (.type "int") {s with toks:=tk}→wpAny (model cx.prog cx.w) A (eval (.Name "int" p) env) Q' E {s with toks:=tk}:=fun tk p Q' h=>wl (s:={s with toks:=tk}) g K.int rfl rfl (by rw[R.K];exact Il _) Nu h
 refine wpAny_BinOp (wpAny_BinOp (eS g.kind K.whole rfl hn m1 (wpAny_Constant_int (mul_int ?_ (IntMulOk.of_le (m:=10000) (n:=11) (by omega) (by decide +kernel) (by decide))))))
 refine wpAny_BinOp (wpAny_BinOp (wpAny_BinOp (wpAny_Constant_int ?_)))
 refine iw (s:={s with toks:=s.toks+1+1+1}) (fA _) rfl (fun _ _=>dj _) (wpAny_items_cons (iw (s:={s with toks:=s.toks+1+1+1}) (fI _ _) rfl (fun _ _=>k8 _) (wpAny_items_cons (eS (s:={s with toks:=s.toks+1+1+1}) g.kind K.cell rfl hn m2 (wpAny_items_nil ⟨g.X,call_int_int (wpAny_items_nil ⟨g.X,call_abs_int fun u tk=>?_⟩)⟩)))))
 have hax:intBits (if x<0 then -x else x)≤1048576:=Nat.le_trans (intBits_ite_le (intBits_neg_le hx) hx) (by simp)
 refine mul_int ?_ (IntMulOk.of_le (m:=2) (n:=1048576) (by decide +kernel) hax (by decide))
 refine iw (s:={s with toks:=tk+1}) (fI _ _) rfl (fun _ _=>k8 _) (wpAny_items_cons (wpAny_Compare1 (eS (s:={s with toks:=tk+1}) g.kind K.cell rfl hn m2 (wpAny_Constant_int (lt_int (wpAny_items_nil ⟨g.X,call_int_bool (add_int ?_)⟩)))) rfl))
 refine wpAny_BinOp (wpAny_Constant_int (wpAny_Constant_int (pow_int (by decide) (by decide +kernel) ?_)))
 refine mod_int' (by decide +kernel) (add_int ?_)
 refine H _ _ _ (intBits_add_le (intBits_mul_le hW (n:=11) (by decide +kernel)) (intBits_le_iff.mpr ?_))
 exact Nat.lt_of_le_of_lt (natAbs_fmod_le _ _ (by decide +kernel)) (by decide +kernel)
theorem ints_get:∀{vs:List Value}{ns:List Int}{i:Nat}{v:Value},IntsAre vs ns→vs[i]?=some v→∃ x t,x∈ns∧v=.int x t
 |_,_,0,_,.cons n t _,e=>⟨n,t,.head _,(si e).symm⟩
 |_,_,i+1,_,.cons n t r,e=>let⟨x,t,h,e⟩:=ints_get r (i:=i) (by simpa using e);⟨x,t,.tail _ h,e⟩
noncomputable def JW (i:Nat) (m:Str→Option Value):Prop:=∃ W t,m "whole"=some (.int W t)∧intBits W≤130+12*i
theorem uo (R:RealCx cx) (K:Hk env) (g:Gl cx env s.heap) {E:Value→Shared→Prop}{ml:Str→Option Value}{i:Nat}{x:Int}{tx:Tok}(hn:s.heap.Ns env.locals fun y=>if y="cell" then some (.int x tx)else ml y) (hJ:JW i ml) (hi:i<64) (hx:intBits x≤1048576) :
 wpAny (model cx.prog cx.w) A (execs [w1] env) (fun f s₂=>f=.next∧OnlyLocals env.locals s s₂∧∃ m₂,s₂.heap.Ns env.locals m₂∧JW (i+1) m₂) E s:=by
 obtain⟨W,t,mW,hW⟩:=hJ
 refine wpAny_execs_cons (wpAny_Assign_Name (Bg R K g hn (W:=W) (x:=x) (t1:=t) (t2:=tx) ((if_neg (by decide +kernel)).trans mW) (if_pos rfl) (b:=130+12*i) hW (by omega) hx fun tk t' W' hW'=>wpAny_storeName_local (s:={s with toks:=tk}) K.whole hn (fun h4 hn4 sb4=>?_) (by rw[g.kind];rfl)) (dY rfl))
 exact wpAny_execs_nil ⟨rfl,⟨h4,_,rfl,sb4⟩,_,hn4,W',t',if_pos rfl,by omega⟩
theorem yu (K:Hk env) (kd:env.scope.kind=.function) {Q:Flow→Shared→Prop}{E:Value→Shared→Prop}{W:Int}{t:Tok}(hn:s.heap.Ns env.locals m) (mW:m "whole"=some (.int W t)) (hW:intBits W≤898)
 (H:∀ o tk,HL (s.heap.push o) s.heap.objs.size W 0 (2*W+1)→intBits (2*W+1)≤2000000→Q (.ret (.ref s.heap.objs.size)) {s with heap:=s.heap.push o,toks:=tk}):wpAny (model cx.prog cx.w) A (execs [w2] env) Q E s:=by
 have vW:∀ tk p (Q':Value→Shared→Prop),Q' (.int W t) {s with toks:=tk}→wpAny (model cx.prog cx.w) A (eval (.Name "whole" p) env) Q' E {s with toks:=tk}:=fun tk p Q' h=>eS (s:={s with toks:=tk}) kd K.whole rfl hn mW h
 refine wpAny_execs_cons (wpAny_Return_some (wpAny_List (wpAny_items_cons (vW _ _ _ (wpAny_items_cons (wpAny_Constant_int (wpAny_items_cons (wpAny_BinOp (wpAny_BinOp (wpAny_Constant_int (vW _ _ _ (mul_int (wpAny_Constant_int (add_int ?_)) ?_))))))))))))
 ·exact wpAny_items_nil ⟨by rw[sizeLine_eq];exact Nat.le_of_ble_eq_true rfl,H _ _ ⟨_,_,_,_,Heap.get?_push_size _ rfl,rfl,_,rfl⟩ (Nat.le_trans (intBits_add_le (intBits_mul_le (m:=2) (by decide +kernel) hW) (n:=1) (by decide +kernel)) (by decide +kernel))⟩
 ·exact IntMulOk.of_le (m:=2) (by decide +kernel) hW (by decide)
theorem up (R:RealCx cx) (K:Hk env) (g:Gl cx env s.heap) (hh:A.handled=none) {Q:Flow→Shared→Prop}{E:Value→Shared→Prop}{sc:Addr}{vs:List Value}{ns:List Int}(hn:s.heap.Ns env.locals m) (m1:m "script"=some (.ref sc)) (hi:s.heap.IsList sc vs.toArray) (ia:IntsAre vs ns) (hl:vs.length≤1048576) (hb:∀ x∈ns,intBits x≤1048576)
 (hne:sc≠env.locals) (hL:cx.H0.get? env.locals=none)
 (H:∀ h' tk' a W,HL h' a W 0 (2*W+1)→intBits (2*W+1)≤2000000→s.heap.get? a=none→Heap.ExtBut env.locals s.heap h'→Q (.ret (.ref a)) {s with heap:=h',toks:=tk'}) :
 wpAny (model cx.prog cx.w) A (execs [w0,wF,w2] env) Q E s:=by
 refine wpAny_execs_cons (wpAny_Assign_Name (wpAny_Constant_int (wpAny_storeName_local (s:={s with toks:=s.toks+1}) K.whole hn (fun h1 hn1 sb1=>?_) (by rw[g.kind];rfl))) (dY rfl))
 have hi1:=hi.extBut sb1.extBut hne
 show wpAny _ _ (execs [wF,w2] env) Q E {s with heap:=h1,toks:=s.toks+1+1}
 have m1':(if("script":Str)="whole" then some (Value.int 17 s.toks)else m "script")=some (.ref sc):=by rw[if_neg (by decide +kernel)];exact m1
 refine wpAny_execs_cons (wpAny_For (wpAny_Subscript_list_slice (eS (s:={s with heap:=h1,toks:=s.toks+1+1}) g.kind K.script rfl hn1 m1' (wpAny_evalPart_none (evalPart_some_step (wpAny_Constant_int ⟨sc,vs.toArray,none,some 24,rfl,hi1,by show vs.toArray.size≤_;rw[List.size_toArray,sizeLine_eq];omega,.none,.int _ _,?_⟩))))))
 have ia24:=kmk_upto ia (y:=24) (by decide)
 have hsz:(slicePick vs.toArray none (some 24) none).size≤64:=by
  have:=ia24.length
  rw[Array.length_toList,List.length_take]at this
  have:=ia.length
  omega
 generalize slicePick vs.toArray none (some 24) none=items at ia24 hsz
 generalize hsl:({cls:=.type "slice",data:=.fields #[.none,.int 24 _,.none]}:Obj)=sl
 have hal:h1.objs.size+1=(h1.push sl).objs.size:=(Heap.size_push _ _).symm
 show wpAny _ _ (pyIter (.ref (h1.objs.size+1))) _ _ {s with heap:=(h1.push sl).push {cls:=.type "list",data:=.seq items},toks:=_}
 rw[hal]
 clear hal
 have hl2:((h1.push sl).push {cls:=.type "list",data:=.seq items}).IsList (h1.push sl).objs.size items:=⟨_,Heap.get?_push_size _ rfl,rfl,_,rfl⟩
 have hn2:=(hn1.push sl).push {cls:=.type "list",data:=.seq items}
 have kp2:∀ b o,b≠env.locals→s.heap.get? b=some o→((h1.push sl).push {cls:=.type "list",data:=.seq items}).get? b=some o:=fun b o q e=>Heap.get?_push_of_some _ (Heap.get?_push_of_some _ (sb1.extBut b o q e))
 have haL:(h1.push sl).objs.size≠env.locals:=fun q=>by
  have h:=hn1.lt
  rw[← q,Heap.size_push]at h
  exact Nat.lt_irrefl _ (Nat.lt_of_succ_lt h)
 generalize(h1.push sl).objs.size=ax at hl2 haL
 generalize(h1.push sl).push {cls:=.type "list",data:=.seq items}=h2 at hl2 hn2 kp2
 refine wpAny_pyIter_list (s:={s with heap:=h2,toks:=_}) hl2 ?_
 have hlt:∀ b o,h2.get? b=some o→b≠h2.objs.size:=fun b o e=>Nat.ne_of_lt (Heap.lt_size e)
 obtain⟨ol,hol,_⟩:=id hl2
 obtain⟨oL,_,_,hoL,_⟩:=id hn2
 refine pO (s:={s with heap:=h2.push _,toks:=_}) hh K.cell g.kind (Ne.symm (hlt _ _ hoL)) haL (hlt _ _ hol) ⟨_,Heap.get?_push_size _ rfl,rfl,rfl⟩ (hl2.push _) (hn2.push _) JW ⟨17,_,if_pos rfl,by decide +kernel⟩ (fun i v ml s1 hv hJ hn1 kp=>?_) fun h' tk m' hn' hJ kp=>?_
 ·obtain⟨x,tx,hx,rfl⟩:=ints_get ia24 (i:=i) (v:=v) ((Array.getElem?_toList ..).trans hv)
  exact uo R K ⟨g.kind,g.gl,g.bi,fun b o e=>by
   have b1:b≠env.locals:=fun q=>nn (hL.symm.trans (q▸e))
   have e2:=kp2 b o b1 (g.keep b o e)
   exact kp b o b1 (hlt b o e2) (Heap.get?_push_of_some _ e2)⟩ hn1 hJ (Nat.lt_of_lt_of_le (Array.getElem?_eq_some_iff.mp hv).1 hsz) (hb x (List.mem_of_mem_take hx))
 ·have kp3:∀ b o,b≠env.locals→s.heap.get? b=some o→h'.get? b=some o:=fun b o b1 e=>have e2:=kp2 b o b1 e;kp b o b1 (hlt b o e2) (Heap.get?_push_of_some _ e2)
  obtain⟨W,t,mW,hW⟩:=hJ
  refine yu (s:={s with heap:=h',toks:=tk}) K g.kind hn' mW (Nat.le_trans hW (Nat.add_le_add_left (Nat.mul_le_mul_left 12 hsz) 130)) fun o tk' hl hw=>H _ _ _ W hl hw ?_ fun b o b1 e=>Heap.get?_push_of_some _ (kp3 b o b1 e)
  induction q:s.heap.get? h'.objs.size using Option.casesOn with
  |none=>rfl
  |some o=>exact absurd (Heap.lt_size (kp3 _ o (fun q=>Nat.lt_irrefl _ (q▸hn'.lt:_<h'.objs.size)) q)) (Nat.lt_irrefl _)
theorem Bf (R:RealCx cx) {l:List Env}{Q E:Value→Shared→Prop}(L:Lw cx s.heap) (ao:AOk A 1 l) (ch:Chain cx g0 l s.heap) (ht:1≤s.toks) {sc:Addr}{vs:List Value}{ns:List Int}(hi:s.heap.IsList sc vs.toArray) (ia:IntsAre vs ns) (hl:vs.length≤1048576) (hb:∀ x∈ns,intBits x≤1048576)
 (H:∀ h' tk' a W,1≤tk'→HL h' a W 0 (2*W+1)→intBits (2*W+1)≤2000000→s.heap.get? a=none→Keeps' s.heap h'→Q (.ref a) {s with heap:=h',toks:=tk'}):wpAny (model cx.prog cx.w) A (call (.ref 818) [.ref sc]) Q E s:=by
 have nf:NF cx s.heap (Wt cx):=fun _ m=>.inl m
 have G:Good cx (g0.at [] none) (Wt cx) s.heap 0:=L.good (fun _ m=>m) nf [] none 0
 obtain⟨q1,q2,q3,q4,q5⟩:=GJ cx.w.params
 refine wpAny_with_toks ht (cw (g:=g0) (n:=0) (args:=[.glob (.ref sc)]) ao ch G ht rfl ⟨rfl,trivial⟩ (by rw[R.K];exact Ju _) (by rw[R.K];exact Kw _ _) (BL _) (by rw[R.K];exact JC _) fun env V' h₁ tk₁ N=>?_)
 obtain⟨m,hn,hl',_⟩:=N.ss.st.fr.loc
 obtain⟨v1,e1,r1⟩:=hl' "script" (.glob (.ref sc)) (by kernel_rfl) ((N.kof _).trans q1)
 obtain rfl:=r1
 have hL:s.heap.get? env.locals=none:=N.ss.loc0
 have hne:sc≠env.locals:=fun q=>by
  obtain⟨o,e,_⟩:=hi
  exact nn (hL.symm.trans (q▸e))
 refine up (s:={s with heap:=h₁,toks:=tk₁}) R ⟨(N.kof _).trans q1,(N.kof _).trans q2,(N.kof _).trans q3,(N.kof _).trans q4,(N.kof _).trans q5⟩ ⟨N.ss.st.fr.kind,N.ss.st.fr.gl,N.ss.st.fr.bi,N.ss.st.good.keep⟩ N.ss.st.ao.handled hn e1 (let⟨o,e,r⟩:=hi;⟨o,N.keep _ _ e,r⟩) ia hl hb hne (N.ss.st.good.V0 _ N.ss.st.fr.LV) fun h' tk' a W p1 p2 p3 p4 ht'=>?_
 refine H h' tk' a W ht' p1 p2 ?_ fun b o e=>p4 b o (fun q=>nn (hL.symm.trans (q▸e))) (N.keep _ _ e)
 induction q:s.heap.get? a using Option.casesOn with
 |none=>rfl
 |some o=>exact nn (p3.symm.trans (N.keep _ _ q))
end
theorem CG (P:Params):(Hd.kM P).lookup 888=some ⟨.type "function",none,.func (fdK P 888),#[]⟩:=by kernel_rfl
theorem Jy (P:Params):ir (Hd.kM P) (fdK P 888)=true:=by kernel_rfl
theorem Ks (P:Params) (a:D):dk (Hd.kM P) (fdK P 888) [a]=some [(("script":Str),a)]:=by kernel_rfl
theorem Ik (P:Params):nsIn (Hd.kM P) mainGlobals "law"=some (some (.ref 888)):=by kernel_rfl
theorem En (P:Params):nsIn (Hd.kM P) mainGlobals "_law_heap"=some (some (.ref 818)):=by kernel_rfl
theorem Eo (P:Params):nsIn (Hd.kM P) mainGlobals "_law_draw"=some (some (.ref 825)):=by kernel_rfl
theorem sf (P:Params):nsIn (Hd.kM P) mainGlobals "_law_right"=some (some (.ref 881)):=by kernel_rfl
theorem I6 (P:Params):keepIn (Hd.kM P) (.ref 818)=true:=by kernel_rfl
theorem I5 (P:Params):keepIn (Hd.kM P) (.ref 825)=true:=by kernel_rfl
theorem Cy (P:Params):keepIn (Hd.kM P) (.ref 881)=true:=by kernel_rfl
noncomputable abbrev lD (r c n w:Nat) (k:Int):Expr:=.Call (.Name "_law_draw" ⟨r,c,r,c+9⟩) [.Name "heap" ⟨r,c+10,r,c+14⟩,.Constant (.int k) 0 ⟨r,c+16,r,c+16+w⟩] [] ⟨r,c,r,c+17+w⟩
noncomputable abbrev l0:Stmt:=.Assign [.Name "heap" ⟨733,4,733,8⟩] (.Call (.Name "_law_heap" ⟨733,11,733,20⟩) [.Name "script" ⟨733,21,733,27⟩] [] ⟨733,11,733,28⟩) ⟨733,4,733,28⟩
noncomputable abbrev tFF:List Expr:=[.Name "form" ⟨734,4,734,8⟩,.Name "few" ⟨734,10,734,13⟩]
noncomputable abbrev l1:Stmt:=.Assign [.Tuple tFF 0 ⟨734,4,734,13⟩] (.Tuple [lD 734 17 0 2 11,lD 734 38 0 2 18] 0 ⟨734,16,734,58⟩) ⟨734,4,734,58⟩
noncomputable abbrev Ed:Expr:=.Call (.Name "_law_right" ⟨736,15,736,25⟩) [.Name "form" ⟨736,26,736,30⟩,.Name "many" ⟨736,32,736,36⟩] [] ⟨736,15,736,37⟩
noncomputable abbrev lB:Stmt:=.If (.UnaryOp .Not Ed ⟨736,11,736,37⟩) [.Return (some (.Constant (.bool false) 0 ⟨737,19,737,24⟩)) ⟨737,12,737,24⟩] [] ⟨736,8,737,24⟩
noncomputable abbrev itE:Expr:=.Tuple [.Constant (.int 18) 0 ⟨735,17,735,19⟩,.Name "few" ⟨735,21,735,24⟩,.Constant (.int 19) 0 ⟨735,26,735,28⟩] 0 ⟨735,16,735,29⟩
noncomputable abbrev lF:Stmt:=.For (.Name "many" ⟨735,8,735,12⟩) itE [lB] [] ⟨735,4,737,24⟩
noncomputable abbrev l2:Stmt:=.Return (some (.Call (.Name "_law_right" ⟨738,11,738,21⟩) [lD 738 22 0 2 11,lD 738 43 0 1 4] [] ⟨738,11,738,62⟩)) ⟨738,4,738,62⟩
theorem BH (P:Params):(fdK P 888).body=.stmts [l0,l1,lF,l2]:=by kernel_rfl
theorem GH (P:Params):((fdK P 888).scope.names.lookup ("script":Str),(fdK P 888).scope.names.lookup ("heap":Str),(fdK P 888).scope.names.lookup ("form":Str),(fdK P 888).scope.names.lookup ("few":Str),(fdK P 888).scope.names.lookup ("many":Str),
 (fdK P 888).scope.names.lookup ("_law_heap":Str),(fdK P 888).scope.names.lookup ("_law_draw":Str),(fdK P 888).scope.names.lookup ("_law_right":Str))=(some .local,some .local,some .local,some .local,some .local,some .globalImplicit,some .globalImplicit,some .globalImplicit):=by kernel_rfl
theorem Lx (P:Params):jE (fdK P 888).scope tFF (.Tuple [lD 734 17 0 2 11,lD 734 38 0 2 18] 0 ⟨734,16,734,58⟩)=some (some [("form":Str),("few":Str)]):=by kernel_rfl
section
variable {cx:Sx}{env:Env}{A:Around}{s:Shared}{hl:Addr}{c:Int}{B:Int}{m:Str→Option Value}{h h':Heap}
theorem Lw.upd (L:Lw cx h) {a:Addr}(hz:cx.H0.get? a=none) (ha:a∉Wt cx) (hc:∀ o vs q t,h.get? a=some o→o.data=.fields vs→vs[1]?≠some (.str q t)) (x:Heap.ExtBut a h h'):Lw cx h':=by
 refine⟨fun b o e=>x b o (fun q=>nn (hz.symm.trans (q▸e))) (L.h0 b o e),fun z m=>?_,L.w⟩
 obtain⟨ps,e,r⟩:=L.t z m
 refine⟨ps,x _ _ (fun q=>ha (q▸List.mem_map_of_mem m)) e,r.imp id fun⟨d,e1,e2,o,vs,t,q1,q2,q3,q4⟩=>⟨d,e1,e2,o,vs,t,q1,x _ _ (fun q=>hc o vs _ t (q▸q2) q3 q4) q2,q3,q4⟩⟩
theorem Lw.keeps (L:Lw cx h) (k:Keeps' h h'):Lw cx h':=⟨fun b o e=>k _ _ (L.h0 b o e),fun z m=>let⟨ps,e,r⟩:=L.t z m;⟨ps,k _ _ e,r.imp id fun⟨d,e1,e2⟩=>⟨d,e1,e2.keeps k⟩⟩,L.w⟩
structure LC (cx:Sx) (env:Env):Prop where
 kind:env.scope.kind=.function
 fr:env.frame=some env.locals
 gl:env.globals=mainGlobals
 bi:env.builtins=builtinsNs
 W:env.locals∉Wt cx
 z:cx.H0.get? env.locals=none
 kof:∀ y,env.kindOf y=(fdK cx.w.params 888).scope.names.lookup y
structure LI (cx:Sx) (env:Env) (hl:Addr) (c B:Int) (m:Str→Option Value) (h:Heap):Prop where
 ns:h.Ns env.locals m
 lw:Lw cx h
 hv:m "heap"=some (.ref hl)
 li:∃ a b,HL h hl a b c∧0≤b∧b≤B
 z:cx.H0.get? hl=none
 W:hl∉Wt cx
theorem LI.ne (x:LI cx env hl c B m h):hl≠env.locals:=fun q=>by
 obtain⟨a,b,⟨_,_,_,o,e,_,n,d⟩,_⟩:=x.li
 obtain⟨o',es,ep,e',d',_⟩:=x.ns
 obtain rfl:=si ((q▸e).symm.trans e')
 rw[d]at d';injection d'
theorem LI.chain (C:LC cx env) (n:h.Ns env.locals m):Chain cx g0 [env] h:=fun e q=>by
 obtain rfl:=List.mem_singleton.mp q
 obtain⟨o,es,ep,e,d,_⟩:=n
 exact⟨by rw[C.kind];decide,_,o,C.fr,C.W,C.z,e,es,ep,d⟩
theorem LI.gl (C:LC cx env) (L:Lw cx h):Gl cx env h:=⟨C.kind,C.gl,C.bi,L.h0⟩
theorem LI.kp (x:LI cx env hl c B m h) (C:LC cx env) (k:Kp cx h h'):LI cx env hl c B m h':=by
 refine⟨k.ns C.W x.ns,k.lw,x.hv,?_,x.z,x.W⟩
 obtain⟨a,b,⟨ta,tb,tc,o,e,r⟩,r2⟩:=x.li
 obtain⟨sl,e1⟩:=k.k _ o x.W e
 exact⟨a,b,⟨ta,tb,tc,_,e1,r⟩,r2⟩
theorem LI.keeps (x:LI cx env hl c B m h) (k:Keeps' h h'):LI cx env hl c B m h':=by
 obtain⟨o,es,ep,e,d,r⟩:=x.ns
 obtain⟨a,b,⟨ta,tb,tc,o',e',r'⟩,r2⟩:=x.li
 exact⟨⟨o,es,ep,k _ _ e,d,r⟩,x.lw.keeps k,x.hv,⟨a,b,⟨ta,tb,tc,o',k _ _ e',r'⟩,r2⟩,x.z,x.W⟩
theorem LI.store (x:LI cx env hl c B m h) (C:LC cx env) {m':Str→Option Value}(sb:Heap.SameBut env.locals h h') (n:h'.Ns env.locals m') (hv:m' "heap"=some (.ref hl)):LI cx env hl c B m' h':=by
 obtain⟨a,b,l,r⟩:=x.li
 refine⟨n,x.lw.upd C.z C.W (fun o vs q t e d=>?_) sb.extBut,hv,⟨a,b,l.same x.ne sb,r⟩,x.z,x.W⟩
 obtain⟨o',es,ep,e',d',_⟩:=x.ns
 obtain rfl:=si (e.symm.trans e')
 rw[d]at d';injection d'
theorem wM (R:RealCx cx) (C:LC cx env) (x:LI cx env hl c B m s.heap) (hB:B≤100) (hc:intBits c≤2000000) (ao:AOk A 1 [env]) (ht:1≤s.toks) {n:Int}{t:Tok}(n0:0<n) (n1:n<1000) {Q E:Value→Shared→Prop}
 (H:∀ h' tk' d td,1≤tk'→0≤d→d<n→LI cx env hl c (B+1) m h'→Q (.int d td) {s with heap:=h',toks:=tk'}):wpAny (model cx.prog cx.w) A (call (.ref 825) [.ref hl,.int n t]) Q E s:=by
 obtain⟨a,b,l,b0,b1⟩:=x.li
 refine Bt R x.lw ao (LI.chain C x.ns) ht l n0 n1 b0 (Int.le_trans b1 hB) hc fun h' tk' d td a' b' t' d0 d1 p1 p2 l' ex=>H h' tk' d td t' d0 d1 ⟨?_,x.lw.upd x.z x.W (fun o vs q t e dd=>?_) ex,x.hv,⟨a',b',l',by omega,by omega⟩,x.z,x.W⟩
 ·exact x.ns.extBut ex (Ne.symm x.ne)
 ·obtain⟨ta,tb,tc,o',e',_,nn',d'⟩:=l
  obtain rfl:=si (e.symm.trans e')
  rw[dd]at d';injection d'
end
section
variable {cx:Sx}{env:Env}{A:Around}{s:Shared}{hl:Addr}{c:Int}{B:Int}{m:Str→Option Value}{h h':Heap}
theorem LC.k (C:LC cx env):(env.kindOf "script"=some .local∧env.kindOf "heap"=some .local∧env.kindOf "form"=some .local∧env.kindOf "few"=some .local∧env.kindOf "many"=some .local)∧env.kindOf "_law_heap"=some .globalImplicit∧env.kindOf "_law_draw"=some .globalImplicit∧env.kindOf "_law_right"=some .globalImplicit:=by
 have e:=GH cx.w.params
 simp only[Prod.mk.injEq]at e
 obtain⟨e1,e2,e3,e4,e5,e6,e7,e8⟩:=e
 exact⟨⟨(C.kof _).trans e1,(C.kof _).trans e2,(C.kof _).trans e3,(C.kof _).trans e4,(C.kof _).trans e5⟩,(C.kof _).trans e6,(C.kof _).trans e7,(C.kof _).trans e8⟩
theorem i6 (R:RealCx cx) (C:LC cx env) (x:LI cx env hl c B m s.heap) (hB:B≤100) (hc:intBits c≤2000000) (ao:AOk A 1 [env]) (ht:1≤s.toks) {r c0 n w:Nat}{k:Int}(n0:0<k) (n1:k<1000) {Q E:Value→Shared→Prop}
 (H:∀ h' tk' d td,1≤tk'→0≤d→d<k→LI cx env hl c (B+1) m h'→Q (.int d td) {s with heap:=h',toks:=tk'}):wpAny (model cx.prog cx.w) A (eval (lD r c0 n w k) env) Q E s :=
 have K:=C.k
 have g:=LI.gl C x.lw
 iw (fun _ h=>nH g K.2.2.1 rfl (by rw[R.K];exact Eo _) h) rfl (fun h' X=>keeps_K (by rw[R.K];exact I5 _) h' X) (wpAny_items_cons (eS C.kind K.1.2.1 rfl x.ns x.hv (wpAny_items_cons (wpAny_Constant_int (wpAny_items_nil ⟨g.X,wM (s:={s with toks:=s.toks+1}) R C x hB hc ao (Nat.le_succ_of_le ht) n0 n1 H⟩)))))
theorem mA (R:RealCx cx) (C:LC cx env) (L:Lw cx s.heap) (n:s.heap.Ns env.locals m) (ao:AOk A 330 [env]) (ht:1≤s.toks) {f w:Int}{t1 t2:Tok}(f0:0≤f) (f1:f≤10) (w0:0≤w) (w1:w≤19) {Q E:Value→Shared→Prop}
 (H:∀ h' tk',1≤tk'→Kp cx s.heap h'→Q (.bool true) {s with heap:=h',toks:=tk'}):wpAny (model cx.prog cx.w) A (call (.ref 881) [.int f t1,.int w t2]) Q E s:=by
 obtain⟨f,rfl⟩:=Int.eq_ofNat_of_zero_le f0
 obtain⟨w,rfl⟩:=Int.eq_ofNat_of_zero_le w0
 refine qy R L ao (LI.chain C n) ht (Nat.ble_eq.mpr (by omega)) ?_ H
 by_cases q:w=19
 ·exact .inr q
 ·exact .inl (Nat.ble_eq.mpr (by omega))
theorem EM (R:RealCx cx) (C:LC cx env) (x:LI cx env hl c B m s.heap) (hB:B≤90) (hc:intBits c≤2000000) (ao:AOk A 330 [env]) (ht:1≤s.toks) {Q:Flow→Shared→Prop}{E:Value→Shared→Prop}
 (H:∀ h' tk',Lw cx h'→Q (.ret (.bool true)) {s with heap:=h',toks:=tk'}):wpAny (model cx.prog cx.w) A (exec l2 env) Q E s:=by
 have K:=C.k
 have g:=LI.gl C x.lw
 refine wpAny_Return_some (iw (fun _ h=>nH g K.2.2.2 rfl (by rw[R.K];exact sf _) h) rfl (fun h' X=>keeps_K (by rw[R.K];exact Cy _) h' X) (wpAny_items_cons (i6 R C x (by omega) hc (ao.mono (by decide)) ht (by decide) (by decide) fun h1 tk1 d1 td1 t1 a1 b1 x1=>?_)))
 refine wpAny_items_cons (i6 (s:={s with heap:=h1,toks:=tk1}) R C x1 (by omega) hc (ao.mono (by decide)) t1 (by decide) (by decide) fun h2 tk2 d2 td2 t2 a2 b2 x2=>wpAny_items_nil ⟨(LI.gl C x2.lw).X,?_⟩)
 exact mA (s:={s with heap:=h2,toks:=tk2}) R C x2.lw x2.ns ao t2 a1 (by omega) a2 (by omega) fun h3 tk3 t3 k3=>H h3 tk3 k3.lw
theorem EN (R:RealCx cx) (C:LC cx env) (x:LI cx env hl c B m s.heap) (hB:B≤90) (hc:intBits c≤2000000) (ao:AOk A 330 [env]) (ht:1≤s.toks) {Q:Flow→Shared→Prop}{E:Value→Shared→Prop}
 (H:∀ h' tk' m' f w tf tw,1≤tk'→LI cx env hl c (B+1+1) m' h'→m' "form"=some (.int f tf)→m' "few"=some (.int w tw)→0≤f→f<11→0≤w→w<18→Q .next {s with heap:=h',toks:=tk'}):wpAny (model cx.prog cx.w) A (exec l1 env) Q E s:=by
 have K:=C.k
 refine Assign_Tuple_swapped (names:=[("form":Str),("few":Str)]) (wpAny_Tuple (wpAny_items_cons (i6 R C x (by omega) hc (ao.mono (by decide)) ht (by decide) (by decide) fun h1 tk1 d1 td1 t1 a1 b1 x1=>?_))) fh (je C.kof C.kind (Lx _))
 refine wpAny_items_cons (i6 (s:={s with heap:=h1,toks:=tk1}) R C x1 (by omega) hc (ao.mono (by decide)) t1 (by decide) (by decide) fun h2 tk2 d2 td2 t2 a2 b2 x2=>wpAny_items_nil ⟨by rw[sizeLine_eq];exact Nat.le_of_ble_eq_true rfl,?_⟩)
 have ht2:(h2.push {cls:=.type "tuple",data:=.seq #[.int d1 td1,.int d2 td2]}).IsTuple h2.objs.size #[.int d1 td1,.int d2 td2]:=⟨_,Heap.get?_push_size _ rfl,rfl,_,rfl⟩
 have k2:Keeps' h2 (h2.push {cls:=.type "tuple",data:=.seq #[.int d1 td1,.int d2 td2]}):=.push _ _
 show wpAny _ _ (unpackItems (.ref h2.objs.size) (#[Value.int d1 td1,Value.int d2 td2]).size none) _ E {s with heap:=h2.push {cls:=.type "tuple",data:=.seq #[.int d1 td1,.int d2 td2]},toks:=tk2}
 generalize h2.push {cls:=.type "tuple",data:=.seq #[.int d1 td1,.int d2 td2]}=h2' at ht2 k2
 refine wpAny_unpackItems_tuple (s:={s with heap:=h2',toks:=tk2}) ao.handled ht2 fun h3 ex3=>?_
 have x3:LI cx env hl c (B+1+1) m h3:=x2.keeps fun b o e=>have e1:=k2 _ _ e;ex3 b o (Nat.ne_of_lt (Heap.lt_size e1)) e1
 show wpAny _ _ (assignInOrder [bindName env "few",bindName env "form"] [.int d2 td2,.int d1 td1]) _ E {s with heap:=h3,toks:=tk2}
 refine wpAny_assignInOrder_more (bindName_ (wpAny_storeName_local (s:={s with heap:=h3,toks:=tk2}) K.1.2.2.2.1 x3.ns (fun h4 n4 sb4=>?_) (by rw[C.kind];rfl)))
 refine wpAny_assignInOrder_more (bindName_ (wpAny_storeName_local (s:={s with heap:=h4,toks:=tk2+1}) K.1.2.2.1 n4 (fun h5 n5 sb5=>wpAny_assignInOrder_none ?_) (by rw[C.kind];rfl)))
 have x4:=x3.store C sb4 n4 (by rw[if_neg (by decide +kernel)];exact x3.hv)
 have x5:=x4.store C sb5 n5 (by rw[if_neg (by decide +kernel)];exact x4.hv)
 exact H h5 _ _ d1 d2 td1 td2 (Nat.le_succ_of_le (Nat.le_succ_of_le t2)) x5 (if_pos rfl) (by rw[if_neg (by decide +kernel)];exact if_pos rfl) a1 b1 a2 b2
end
section
variable {cx:Sx}{env:Env}{A:Around}{s:Shared}{hl:Addr}{c:Int}{B:Int}{m:Str→Option Value}{h h':Heap}
theorem Lw.new (L:Lw cx h) {a:Addr}(e:h.get? a=none):cx.H0.get? a=none∧a∉Wt cx:=by
 refine⟨?_,fun q=>?_⟩
 ·induction q:cx.H0.get? a using Option.casesOn with
  |none=>rfl
  |some o=>exact nn (e.symm.trans (L.h0 _ _ q))
 ·obtain⟨z,hz,rfl⟩:=List.mem_map.mp q
  obtain⟨ps,e',_⟩:=L.t z hz
  exact nn (e.symm.trans e')
theorem LI.iter (x:LI cx env hl c B m h) {I T:Addr}{i:Nat}(z:cx.H0.get? I=none) (w:I∉Wt cx) (n1:I≠env.locals) (n2:I≠hl) (it:h.IsTupleIter I T i) (ex:Heap.ExtBut I h h'):LI cx env hl c B m h':=by
 obtain⟨a,b,⟨ta,tb,tc,l⟩,r⟩:=x.li
 refine⟨x.ns.extBut ex (Ne.symm n1),x.lw.upd z w (fun o vs q t e d=>?_) ex,x.hv,⟨a,b,⟨ta,tb,tc,l.extBut ex (Ne.symm n2)⟩,r⟩,x.z,x.W⟩
 obtain⟨o',e',_,d'⟩:=it
 obtain rfl:=si (e.symm.trans e')
 rw[d]at d';cases d'
 exact fun q=>nomatch q
theorem Kp.tupleIter (k:Kp cx h h') {I T:Addr}{i:Nat}(w:I∉Wt cx) (it:h.IsTupleIter I T i):h'.IsTupleIter I T i:=by
 obtain⟨o,e,r⟩:=it
 obtain⟨sl,e1⟩:=k.k _ o w e
 exact⟨_,e1,r⟩
theorem Kp.tuple (k:Kp cx h h') {T:Addr}{items:Array Value}(w:T∉Wt cx) (it:h.IsTuple T items):h'.IsTuple T items:=by
 obtain⟨o,e,r⟩:=it
 obtain⟨sl,e1⟩:=k.k _ o w e
 exact⟨_,e1,r⟩
theorem wJ (R:RealCx cx) (C:LC cx env) (ao:AOk A 330 [env]) {h4:Heap}{tk3:Nat}{m3:Str→Option Value}(x4:LI cx env hl c B m3 h4) {f k:Int}{tf tk:Tok}(f0:0≤f) (f1:f<11) (k0:0≤k) (k1:k≤19) (mf3:m3 "form"=some (.int f tf)) {p:Pos}{Q:Flow→Shared→Prop}{E E':Value→Shared→Prop}
 (H:∀ h5 h6 tk6 m6,1≤tk6→Heap.ExtBut env.locals h4 h5→Kp cx h5 h6→LI cx env hl c B m6 h6→m6 "form"=some (.int f tf)→Q .next {s with heap:=h6,toks:=tk6}) :
 wpAny (model cx.prog cx.w) A (assign (.Name "many" p) env (.int k tk)) (fun _ s2=>wpAny (model cx.prog cx.w) A (execs [lB] env) Q E' s2) E {s with heap:=h4,toks:=tk3}:=by
 have K:=C.k
 refine wpAny_assign_Name (wpAny_storeName_local (s:={s with heap:=h4,toks:=tk3}) K.1.2.2.2.2 x4.ns (fun h5 n5 sb5=>?_) (by rw[C.kind];rfl))
 have mf:∀{v},(if("form":Str)="many" then some v else m3 "form")=some (.int f tf):=(if_neg (by decide +kernel)).trans mf3
 have x5:=x4.store C sb5 n5 (by rw[if_neg (by decide +kernel)];exact x4.hv)
 have g5:=LI.gl C x5.lw
 show wpAny _ _ (execs [lB] env) _ _ {s with heap:=h5,toks:=tk3+1}
 refine wpAny_execs_cons (wpAny_If (isTrue_not (isTrue_plain (iw (s:={s with heap:=h5,toks:=tk3+1}) (fun _ h=>nH (s:={s with heap:=h5,toks:=tk3+1}) g5 K.2.2.2 rfl (by rw[R.K];exact sf _) h) rfl (fun h' X=>keeps_K (by rw[R.K];exact Cy _) h' X)
  (wpAny_items_cons (eS (s:={s with heap:=h5,toks:=tk3+1}) C.kind K.1.2.2.1 rfl n5 mf (wpAny_items_cons (eS (s:={s with heap:=h5,toks:=tk3+1}) C.kind K.1.2.2.2.2 rfl n5 (if_pos rfl) (wpAny_items_nil ⟨g5.X,?_⟩)))))))))
 exact mA (s:={s with heap:=h5,toks:=tk3+1}) R C x5.lw n5 ao (Nat.le_add_left 1 _) f0 (Int.lt_add_one_iff.mp f1) k0 k1 fun h6 tk6 t6 k6=>wpAny_truthy_bool (wpAny_execs_nil (wpAny_execs_nil (H h5 h6 tk6 _ t6 sb5.extBut k6 (x5.kp C k6) mf)))
inductive LL (cx:Sx) (env:Env) (s:Shared) (hl:Addr) (c B f:Int) (tf:Tok) (I T:Addr) (items:Array Value):Nat→Shared→Prop
 |mk {h:Heap}{tk:Nat}{m:Str→Option Value}{i:Nat}(t:1≤tk) (x:LI cx env hl c B m h) (mf:m "form"=some (.int f tf)) (hI:h.IsTupleIter I T i) (hT:h.IsTuple T items) (hi:i≤3):LL cx env s hl c B f tf I T items (4-i) {s with heap:=h,toks:=tk}
theorem wL (R:RealCx cx) (C:LC cx env) (x:LI cx env hl c B m s.heap) (ao:AOk A 330 [env]) (ht:1≤s.toks) {f w:Int}{tf tw:Tok}(mf:m "form"=some (.int f tf)) (mw:m "few"=some (.int w tw)) (f0:0≤f) (f1:f<11) (w0:0≤w) (w1:w<18) {Q:Flow→Shared→Prop}{E:Value→Shared→Prop}
 (H:∀ h' tk' m',1≤tk'→LI cx env hl c B m' h'→Q .next {s with heap:=h',toks:=tk'}):wpAny (model cx.prog cx.w) A (exec lF env) Q E s:=by
 have K:=C.k
 refine wpAny_For (wpAny_Tuple (wpAny_items_cons (wpAny_Constant_int (wpAny_items_cons (eS (s:={s with toks:=s.toks+1}) C.kind K.1.2.2.2.1 rfl x.ns mw (wpAny_items_cons (wpAny_Constant_int (wpAny_items_nil ⟨by rw[sizeLine_eq];exact Nat.le_of_ble_eq_true rfl,?_⟩))))))))
 generalize hits:#[Value.int 18 s.toks,Value.int w tw,Value.int 19 (s.toks+1)]=items
 have hv3:∀(i:Nat) (v:Value),items[i]?=some v→∃ k t,v=.int k t∧0≤k∧k≤19:=fun i v e=>by
  subst hits
  obtain _ | _ | _ | i:=i
  ·exact⟨_,_,(si e).symm,by decide,by decide⟩
  ·exact⟨_,_,(si e).symm,w0,Int.le_of_lt (Int.lt_trans w1 (by decide))⟩
  ·exact⟨_,_,(si e).symm,by decide,by decide⟩
  ·exact nn e
 have hz3:items.size=3:=by subst hits;rfl
 have hT:(s.heap.push {cls:=.type "tuple",data:=.seq items}).IsTuple s.heap.objs.size items:=⟨_,Heap.get?_push_size _ rfl,rfl,_,rfl⟩
 have kT:Keeps' s.heap (s.heap.push {cls:=.type "tuple",data:=.seq items}):=.push _ _
 have nT:s.heap.get? s.heap.objs.size=none:=Heap.get?_none_of_le (Nat.le_refl _)
 show wpAny _ _ (pyIter (.ref s.heap.objs.size)) _ _ {s with heap:=s.heap.push {cls:=.type "tuple",data:=.seq items},toks:=s.toks+1+1}
 generalize s.heap.push {cls:=.type "tuple",data:=.seq items}=h1 at hT kT
 generalize s.heap.objs.size=T at hT nT
 refine wpAny_pyIter_tuple (s:={s with heap:=h1,toks:=s.toks+1+1}) hT ?_
 have x1:=x.keeps kT
 have hlt:∀{b o},h1.get? b=some o→b≠h1.objs.size:=fun e=>Nat.ne_of_lt (Heap.lt_size e)
 obtain⟨zT,wT⟩:=x.lw.new nT
 obtain⟨zI,wI⟩:=x1.lw.new (a:=h1.objs.size) (Heap.get?_none_of_le (Nat.le_refl _))
 have nTI:T≠h1.objs.size:=let⟨_,e,_⟩:=hT;hlt e
 have nTL:T≠env.locals:=fun q=>let⟨_,_,_,e,_⟩:=x.ns;nn (nT.symm.trans (q▸e))
 have nIL:h1.objs.size≠env.locals:=let⟨_,_,_,e,_⟩:=x1.ns;Ne.symm (hlt e)
 have nIl:h1.objs.size≠hl:=let⟨_,_,⟨_,_,_,_,e,_⟩,_⟩:=x1.li;Ne.symm (hlt e)
 have k2:Keeps' h1 (h1.push {cls:=.type "tuple_iterator",data:=.fields #[.ref T,.int 0 0]}):=.push _ _
 have hI:(h1.push {cls:=.type "tuple_iterator",data:=.fields #[.ref T,.int 0 0]}).IsTupleIter h1.objs.size T 0:=⟨_,Heap.get?_push_size _ rfl,rfl,rfl⟩
 show codeAny _ _ (.forLoop _ (.ref h1.objs.size) _ _ _) _ {s with heap:=h1.push {cls:=.type "tuple_iterator",data:=.fields #[.ref T,.int 0 0]},toks:=s.toks+1+1}
 have x2:=x1.keeps k2
 have hT2:(h1.push {cls:=.type "tuple_iterator",data:=.fields #[.ref T,.int 0 0]}).IsTuple T items:=let⟨o,e,r⟩:=hT;⟨o,k2 _ _ e,r⟩
 generalize h1.push {cls:=.type "tuple_iterator",data:=.fields #[.ref T,.int 0 0]}=h2 at x2 hI hT2
 generalize h1.objs.size=I at *
 refine codeAny_forLoop (LL cx env s hl c B f tf I T items) (fun n s' q=>?_) 4 (.mk (i:=0) (Nat.le_add_left 1 _) x2 mf hI hT2 (Nat.zero_le _))
 obtain⟨t3,x3,mf3,I3,T3,hi⟩:=q
 rename_i h3 tk3 m3 i
 induction hv:items[i]? using Option.casesOn with
 |none=>exact wpAny_pyNext_tuple_end (s:={s with heap:=h3,toks:=tk3}) ao.handled I3 T3 hv fun h4 ex4=>wpAny_execs_nil (H h4 tk3 m3 t3 (x3.iter zI wI nIL nIl I3 ex4))
 |some v =>
  obtain⟨k,tk,rfl,k0,k1⟩:=hv3 i v hv
  have hi3:i<3:=hz3▸(Array.getElem?_eq_some_iff.mp hv).1
  refine wpAny_pyNext_tuple_item (s:={s with heap:=h3,toks:=tk3}) I3 T3 hv fun h4 I4 sb4=>wJ R C ao (x3.iter zI wI nIL nIl I3 sb4.extBut) f0 f1 k0 k1 mf3 fun h5 h6 tk6 m6 t6 e5 k6 x6 mf6=>?_
  exact⟨_,Nat.sub_lt_sub_left (Nat.lt_succ_of_lt hi3) (Nat.lt_succ_self i),.mk t6 x6 mf6 (k6.tupleIter wI (I4.extBut e5 nIL)) (k6.tuple wT ((T3.extBut sb4.extBut nTI).extBut e5 nTL)) hi3⟩
end
section
variable {cx:Sx}{A:Around}{s:Shared}
theorem wN (R:RealCx cx) {env:Env}{m:Str→Option Value}(C:LC cx env) (L:Lw cx s.heap) (hn:s.heap.Ns env.locals m) (ao:AOk A 330 [env]) (ht:1≤s.toks) {sc:Addr}{vs:List Value}{ns:List Int}(m1:m "script"=some (.ref sc)) (hi:s.heap.IsList sc vs.toArray) (ia:IntsAre vs ns) (hl:vs.length≤1048576) (hb:∀ x∈ns,intBits x≤1048576)
 {Q:Flow→Shared→Prop}{E:Value→Shared→Prop}(H:∀ h' tk',Lw cx h'→Q (.ret (.bool true)) {s with heap:=h',toks:=tk'}):wpAny (model cx.prog cx.w) A (execs [l0,l1,lF,l2] env) Q E s:=by
 have K:=C.k
 have g:=LI.gl C L
 refine wpAny_execs_cons (wpAny_Assign_Name (iw (fun _ h=>nH g K.2.1 rfl (by rw[R.K];exact En _) h) rfl (fun h' X=>keeps_K (by rw[R.K];exact I6 _) h' X) (wpAny_items_cons (eS C.kind K.1.1 rfl hn m1 (wpAny_items_nil ⟨g.X,?_⟩)))) (dY rfl))
 refine Bf R L (ao.mono (by decide)) (LI.chain C hn) ht hi ia hl hb fun h1 tk1 a W t1 l c1 e1 kp=>?_
 obtain⟨z,w⟩:=L.new e1
 have L1:=L.keeps kp
 have hn1:h1.Ns env.locals m:=let⟨o,es,ep,e,r⟩:=hn;⟨o,es,ep,kp _ _ e,r⟩
 refine wpAny_storeName_local (s:={s with heap:=h1,toks:=tk1}) K.1.2.1 hn1 (fun h2 n2 sb2=>?_) (by rw[C.kind];rfl)
 have ne:a≠env.locals:=fun q=>let⟨_,_,_,e,_⟩:=hn;nn (e1.symm.trans (q▸e))
 have x2:LI cx env a (2*W+1) 0 _ h2:=⟨n2,L1.upd C.z C.W (fun o vs q t e d=>by
  obtain⟨o',es,ep,e',d',_⟩:=hn1
  obtain rfl:=si (e.symm.trans e')
  rw[d]at d';injection d') sb2.extBut,if_pos rfl,⟨W,0,l.same ne sb2,by decide,by decide⟩,z,w⟩
 show wpAny _ _ (execs [l1,lF,l2] env) Q E {s with heap:=h2,toks:=tk1+1}
 refine wpAny_execs_cons (EN (s:={s with heap:=h2,toks:=tk1+1}) R C x2 (by decide) c1 ao (Nat.le_succ_of_le t1) fun h3 tk3 m3 f w tf tw t3 x3 mf mw f0 f1 w0 w1=>?_)
 refine wpAny_execs_cons (wL (s:={s with heap:=h3,toks:=tk3}) R C x3 ao t3 mf mw f0 f1 w0 w1 fun h4 tk4 m4 t4 x4=>?_)
 exact wpAny_execs_cons (EM (s:={s with heap:=h4,toks:=tk4}) R C x4 (by decide) c1 ao t4 fun h5 tk5 L5=>H h5 tk5 L5)
theorem EL (R:RealCx cx) (L:Lw cx s.heap) (ao:AOk A 331 []) (ht:1≤s.toks) {sc:Addr}{vs:List Value}{ns:List Int}(hi:s.heap.IsList sc vs.toArray) (ia:IntsAre vs ns) (hl:vs.length≤1048576) (hb:∀ x∈ns,intBits x≤1048576) {Q E:Value→Shared→Prop}
 (H:∀ h' tk',Lw cx h'→Q (.bool true) {s with heap:=h',toks:=tk'}):wpAny (model cx.prog cx.w) A (call (.ref 888) [.ref sc]) Q E s:=by
 have nf:NF cx s.heap (Wt cx):=fun _ m=>.inl m
 have G:Good cx (g0.at [] none) (Wt cx) s.heap 0:=L.good (fun _ m=>m) nf [] none 0
 refine cw (g:=g0) (n:=330) (args:=[.glob (.ref sc)]) ao (fun _ h=>absurd h List.not_mem_nil) G ht rfl ⟨rfl,trivial⟩ (by rw[R.K];exact CG _) (by rw[R.K];exact Ks _ _) (BH _) (by rw[R.K];exact Jy _) fun env V' h₁ tk₁ N=>?_
 have C:LC cx env:=⟨N.ss.st.fr.kind,N.ef,N.ss.st.fr.gl,N.ss.st.fr.bi,N.ss.st.fr.LW,N.ss.st.good.V0 _ N.ss.st.fr.LV,N.kof⟩
 obtain⟨m,hn,hl',_⟩:=N.ss.st.fr.loc
 obtain⟨v1,e1,r1⟩:=hl' "script" (.glob (.ref sc)) (by kernel_rfl) C.k.1.1
 obtain rfl:=r1
 exact wN (s:={s with heap:=h₁,toks:=tk₁}) R C (L.keeps N.keep) hn N.ss.st.ao N.ss.st.tk e1 (let⟨o,e,r⟩:=hi;⟨o,N.keep _ _ e,r⟩) ia hl hb fun h' tk' L'=>H h' tk' L'
end
theorem bJ {x:WData}{sh:WShape}{P:Prop}(h:WShape.has [] x sh=true) (e:WShape.has [] x sh=false):P:=ft (e.symm.trans h)
theorem has_int {x:WData}(h:WShape.has [] x .int=true):∃ i,x=.int i:=by
 induction x using W.WData.casesOn with
 |int i=>exact⟨i,rfl⟩
 |none=>exact bJ h (by kernel_rfl)
 |bool=>exact bJ h (by kernel_rfl)
 |str=>exact bJ h (by kernel_rfl)
 |list=>exact bJ h (by kernel_rfl)
 |tuple=>exact bJ h (by kernel_rfl)
 |dict=>exact bJ h (by kernel_rfl)
 |float=>exact bJ h (by kernel_rfl)
 |bytes=>exact bJ h (by kernel_rfl)
 |bytearray=>exact bJ h (by kernel_rfl)
 |set=>exact bJ h (by kernel_rfl)
 |frozenset=>exact bJ h (by kernel_rfl)
 |obj=>exact bJ h (by kernel_rfl)
theorem has_list {x:WData}(h:WShape.has [] x (.list .int)=true):∃ ds,x=.list ds∧WShape.hasItems [] ds .int=true:=by
 induction x using W.WData.casesOn with
 |list ds=>exact⟨ds,rfl,(Bool.or_false _).symm.trans ((show WShape.has [] (.list ds) (.list .int)=(WShape.hasItems [] ds .int||false)by kernel_rfl).symm.trans h)⟩
 |none=>exact bJ h (by kernel_rfl)
 |int=>exact bJ h (by kernel_rfl)
 |bool=>exact bJ h (by kernel_rfl)
 |str=>exact bJ h (by kernel_rfl)
 |tuple=>exact bJ h (by kernel_rfl)
 |dict=>exact bJ h (by kernel_rfl)
 |float=>exact bJ h (by kernel_rfl)
 |bytes=>exact bJ h (by kernel_rfl)
 |bytearray=>exact bJ h (by kernel_rfl)
 |set=>exact bJ h (by kernel_rfl)
 |frozenset=>exact bJ h (by kernel_rfl)
 |obj=>exact bJ h (by kernel_rfl)
theorem k9 {d:WData}{ds:List WData}(h:WShape.hasItems [] (d::ds) .int=true):(∃ i,d=.int i)∧WShape.hasItems [] ds .int=true :=
 have h:=am ((show WShape.hasItems [] (d::ds) .int=(WShape.has [] d .int&&WShape.hasItems [] ds .int)by kernel_rfl).symm.trans h)
 ⟨has_int h.1,h.2⟩
theorem yr {cl:Str→Option Addr}{h:Heap}:∀{ds:List WData}{vs:List Value}{as:List Addr},ReadsAllW [] cl h vs ds as→WShape.hasItems [] ds .int=true→∃ ns:List Int,IntsAre vs ns∧ns.length≤WData.weightAll ds∧∀ x∈ns,intBits x≤WData.weightAll ds
 |[],_,_,r,_=>by cases r;exact⟨[],.nil,Nat.zero_le _,m0⟩
 |d::ds,_,_,r,hs=>by
  cases r with
  |cons r rs =>
   obtain⟨⟨i,rfl⟩,h2⟩:=k9 hs
   cases r
   obtain⟨ns,ia,hl,hb⟩:=yr rs h2
   rw[show WData.weightAll (.int i::ds)=intBits i+1+WData.weightAll ds by kernel_rfl]
   refine⟨i::ns,.cons _ _ ia,by rw[List.length_cons];omega,mc (P:=fun x=>intBits x≤intBits i+1+WData.weightAll ds) (Nat.le_trans (Nat.le_succ _) (Nat.le_add_right _ _)) fun x m=>Nat.le_trans (hb x m) (Nat.le_add_left _ _)⟩
theorem KH {cl:Str→Option Addr}{h:Heap}{args:List WData}{vals:List Value}{as:List Addr}(hr:ReadsAllW [] cl h vals args as) (hs:WShape.hasAll [] args [.list .int]=true) (hl:WData.layableAll args=true) :
 ∃(sc:Addr) (vs:List Value) (ns:List Int) (ds:List WData),(args=[.list ds]∧WShape.hasItems [] ds .int=true)∧vals=[.ref sc]∧h.IsList sc vs.toArray∧IntsAre vs ns∧vs.length≤1048576∧∀ x∈ns,intBits x≤1048576:=by
 match args,hs with
 |[],hs=>exact ft ((show WShape.hasAll [] [] [.list .int]=false by kernel_rfl).symm.trans hs)
 |a::b::l,hs=>exact ft ((am ((show WShape.hasAll [] (a::b::l) [.list .int]=(WShape.has [] a (.list .int)&&false)by kernel_rfl).symm.trans hs)).2)
 |[d],hs =>
  obtain⟨ds,rfl,hit⟩:=has_list (am ((show WShape.hasAll [] [d] [.list .int]=(WShape.has [] d (.list .int)&&true)by kernel_rfl).symm.trans hs)).1
  cases hr with
  |cons r rs =>
  cases rs
  cases r with
  |@list a o vs n xs as e1 e2 e3 r =>
  obtain⟨ns,ia,q,hb⟩:=yr r hit
  have hw:WData.weightAll ds≤2 ^ 20:=by
   have:=List.all_eq_true.mp hl _ (.head _)
   unfold WData.layable at this
   have:=of_decide_eq_true (am this).2
   exact(show WData.weight (.list ds)=WData.weightAll ds by kernel_rfl)▸this
  exact⟨a,vs.toList,ns,ds,⟨rfl,hit⟩,rfl,⟨o,e1,e2,n,by rw[Array.toArray_toList];exact e3⟩,ia,by rw[ia.length];exact Nat.le_trans q hw,fun x m=>Nat.le_trans (hb x m) hw⟩
theorem EO {cl:Str→Option Addr}{P:Params}{ord:List DictEntry→List DictEntry}{ds:List WData}{vs:List Value}{s0 s1:Shared}(e:layAllW [] cl P ord [.list ds] s0=some (vs,s1)):∃ o,s1.heap.get? (s1.heap.objs.size-1)=some o:=by
 unfold layAllW at e
 unfold layW at e
 induction q:layAllW [] cl P ord ds s0 using Option.casesOn with
 |none=>rw[q]at e;injection e
 |some r =>
  rw[q]at e
  unfold layAllW at e
  cases e
  show ∃ o,(r.2.heap.push _).get? ((r.2.heap.push _).objs.size-1)=some o
  rw[Heap.size_push]
  exact⟨_,Heap.get?_push_size _ rfl⟩
theorem uX {cl:Str→Option Addr}{P:Params}{ord:List DictEntry→List DictEntry}:∀{ds:List WData}{vs:List Value}{s0 s1:Shared},WShape.hasItems [] ds .int=true→layAllW [] cl P ord ds s0=some (vs,s1)→s0.toks≤s1.toks
 |[],_,_,_,_,e=>by unfold layAllW at e;cases e;exact Nat.le_refl _
 |d::ds,_,s0,s1,hs,e=>by
  obtain⟨⟨i,rfl⟩,h2⟩:=k9 hs
  unfold layAllW at e
  unfold layW at e
  dsimp only at e
  induction q:layAllW [] cl P ord ds {s0 with toks:=s0.toks+1}using Option.casesOn with
  |none=>rw[q]at e;injection e
  |some r =>
   rw[q]at e
   cases e
   exact Nat.le_trans (Nat.le_succ _) (uX h2 q)
theorem DB {cl:Str→Option Addr}{P:Params}{ord:List DictEntry→List DictEntry}{ds:List WData}{vs:List Value}{s0 s1:Shared}(h:WShape.hasItems [] ds .int=true) (e:layAllW [] cl P ord [.list ds] s0=some (vs,s1)):s0.toks≤s1.toks:=by
 unfold layAllW at e
 unfold layW at e
 induction q:layAllW [] cl P ord ds s0 using Option.casesOn with
 |none=>rw[q]at e;injection e
 |some r =>
  rw[q]at e
  unfold layAllW at e
  cases e
  have:=uX h q
  exact this
noncomputable abbrev fg:List Addr:=[309,432]
theorem nr {h:Heap}{a:Addr}{m:Str→Option Value}(n:h.Ns a m) (q:a∉fg):(hideAll h fg).Ns a m:=let⟨o,es,ep,e,r⟩:=n;⟨o,es,ep,hideAll_get _ e q,r⟩
theorem nTab:mainGlobals∉fg∧builtinsNs∉fg∧cStatics∉fg:=by decide
theorem uW {p:Program}{lo:List Str}{mean:ExcName→Option Value}{mg mb:Str→Option Value}{h:Heap}(T:Top p lo mean mg mb h):TopRead p lo mg mb (hideAll h fg) :=
 ⟨nr T.g nTab.1,nr T.b nTab.2.1,let⟨mc,n,e⟩:=T.nolimit;⟨mc,nr n nTab.2.2,e⟩,T.builtins,T.free⟩
theorem wg (P:Params):(Hd.L15 P)[309]?=some (tabObj #[]):=by kernel_rfl
theorem wf (P:Params):(Hd.L15 P)[432]?=some (tabObj #[]):=by kernel_rfl
noncomputable def cxM (w:World) (s:Shared) (mg mb:Str→Option Value) (X:(Hd.kM w.params).In (hideAll s.heap fg)) (T:TopRead Hd.qM (looseW Hd.qM Hd.looseM) mg mb (hideAll s.heap fg)) (last:∃ o,(hideAll s.heap fg).get? ((hideAll s.heap fg).objs.size-1)=some o)
 (bm:∃ bm o,mg "__builtins__"=some (.ref bm)∧bm≠builtinsNs∧bm≠mainGlobals∧(hideAll s.heap fg).get? bm=some o∧o.cls=.type "module"∧o.dict=some builtinsNs∧o.data=.plain):Sx :=
 ⟨Hd.rwM.row.toRowW.prog,w,Hd.kM w.params,Hd.qM,looseW Hd.qM Hd.looseM,mg,mb,hideAll s.heap fg,X,T,last,714,164,72,279,[258,176,177],lX,bm⟩
theorem uD:AOk callerA 331 []:=⟨rfl,rfl,by decide +kernel,by decide +kernel⟩
noncomputable def oAt (P:Params) (a:Nat):Obj:=((Hd.L15 P)[a]?).getD ⟨.none,none,.plain,#[]⟩
noncomputable def zg (o:Obj):Array Value:=match o.data with
 |.fields vs=>vs
 |_=>#[]
theorem Kc (P:Params):(Hd.L15 P)[313]?=some (oAt P 313)∧(oAt P 313).cls=.type "code"∧(oAt P 313).data=.fields (zg (oAt P 313))∧(zg (oAt P 313))[11]?=some (.ref 309):=⟨by kernel_rfl,by kernel_rfl,by kernel_rfl,by kernel_rfl⟩
theorem Kb (P:Params):(Hd.L15 P)[436]?=some (oAt P 436)∧(oAt P 436).cls=.type "code"∧(oAt P 436).data=.fields (zg (oAt P 436))∧(zg (oAt P 436))[11]?=some (.ref 432):=⟨by kernel_rfl,by kernel_rfl,by kernel_rfl,by kernel_rfl⟩
theorem yW {w:World}{s:Shared}{h:Heap}(y:Hd.YfM s=Hd.YaM w) (kp:∀ b o,s.heap.get? b=some o→h.get? b=some o) (b:Addr) (m:b∈fg):isCodeTable h b:=by
 rcases List.mem_cons.mp m with rfl | m
 ·obtain⟨a1,a2,a3,a4⟩:=Kc w.params
  exact⟨_,_,_,kp _ _ (Hd.get_old y a1),a2,a3,a4⟩
 ·obtain rfl:=List.mem_singleton.mp m
  obtain⟨a1,a2,a3,a4⟩:=Kb w.params
  exact⟨_,_,_,kp _ _ (Hd.get_old y a1),a2,a3,a4⟩
noncomputable abbrev rM:RowW:=Hd.rwM.row.toRowW
theorem K9:rM.args=[.list .int]:=rfl
theorem K4:rM.records=[]:=rfl
theorem wK (args:List WData):rM.claim.post args (.bool true) args=true:=by kernel_rfl
theorem A5 {w:World}{s0 s1:Shared}{h':Heap}{tk':Nat}{args:List WData}{mean:ExcName→Option Value}{cl:Str→Option Addr}(y:Hd.YfM s0=Hd.YaM w) (kp:∀ b o,s0.heap.get? b=some o→s1.heap.get? b=some o) (hg:s1.gens=#[])
 (h0:∀ b o,(hideAll s1.heap fg).get? b=some o→h'.get? b=some o) (ht:TabInv lX h' h'):GoodWG rM.claim cl mean args s1 (.ok (.ret (.bool true))) {s1 with heap:=h',toks:=tk'}:=by
 have tb:∀ b∈fg,s1.heap.get? b=some (tabObj #[])∧∃ ps,h'.get? b=some (tabObj ps):=fun b m=>by
  rcases List.mem_cons.mp m with rfl | m
  ·exact⟨kp _ _ (Hd.get_old y (wg _)),let⟨ps,e,_⟩:=ht _ (.head _);⟨ps,e⟩⟩
  ·obtain rfl:=List.mem_singleton.mp m
   exact⟨kp _ _ (Hd.get_old y (wf _)),let⟨ps,e,_⟩:=ht _ (.tail _ (.head _));⟨ps,e⟩⟩
 refine⟨.inl ⟨_,_,[],rfl,fun cls=>rfl,.bool true,wK args,fun _=>⟨List.nodup_nil,m0⟩⟩,⟨fun b o e=>?_,fun b o e=>?_⟩,rfl,?_⟩
 ·by_cases m:b∈fg
  ·obtain⟨e1,ps,e2⟩:=tb b m
   obtain rfl:=si (e.symm.trans e1)
   refine .inr (.inl ⟨yW y kp b m,rfl,#[],ps,rfl,?_⟩)
   rw[e2];simp[tabObj]
  ·exact .inl (h0 b o (hideAll_get _ e m))
 ·by_cases m:b∈fg
  ·obtain⟨_,ps,e2⟩:=tb b m
   exact⟨_,e2⟩
  ·exact⟨_,h0 b o (hideAll_get _ e m)⟩
 ·exact .of_eq hg
theorem uO:WalkX Hd.qM Hd.looseM (fun _ _=>True) Hd.YfM Hd.YaM rM Hd.lawD [] fun f vs=>PySem.call f vs:=by
 intro w s0 s1 mg mb G y a o pm cd doc dV kV ha hd hc hdf hmg hg args vals as Ld hpre hlay hr hw hsm
 have hs:WShape.hasAll [] args [.list .int]=true:=(am hpre).1
 obtain⟨sc,vs,ns,ds,⟨rfl,hit⟩,rfl,hi,ia,hl,hb⟩:=KH hr hs hlay
 obtain⟨ord,_,el⟩:=Ld.laid
 have t309:=Ld.keeps _ _ (Hd.get_old y (wg w.params))
 have t432:=Ld.keeps _ _ (Hd.get_old y (wf w.params))
 have X:(Hd.kM w.params).In (hideAll s1.heap fg):=fun a o h=>by
  obtain⟨h1,h2,h3⟩:=Hd.kM_get h
  exact hideAll_get _ (Ld.keeps _ _ (Hd.get_old y h1)) fun m=>by
   simp only[List.mem_cons,List.not_mem_nil,or_false]at m
   exact m.elim h2 h3
 have T:TopRead Hd.qM (looseW Hd.qM Hd.looseM) mg mb (hideAll s1.heap fg):=uW G.T
 have last:∃ o,(hideAll s1.heap fg).get? ((hideAll s1.heap fg).objs.size-1)=some o:=by
  obtain⟨o,e⟩:=EO el
  rw[hideAll_size]
  have l:@LT.lt Nat _ 888 s1.heap.objs.size:=Heap.lt_size (X.keeps (fun _ _ e=>of_hideAll _ e) _ _ (CG _))
  refine⟨o,hideAll_get _ e fun m=>?_⟩
  simp only[List.mem_cons,List.not_mem_nil,or_false]at m
  rcases m with m | m<;>(have m:s1.heap.objs.size-1=_:=m;omega)
 have bm:∃ bm o,mg "__builtins__"=some (.ref bm)∧bm≠builtinsNs∧bm≠mainGlobals∧(hideAll s1.heap fg).get? bm=some o∧o.cls=.type "module"∧o.dict=some builtinsNs∧o.data=.plain:=by
  obtain⟨bm,ob,e1,e2,e3,e4,e5,e6⟩:=G.T.bmain
  refine⟨bm,ob,e1,e2,fun q=>?_,hideAll_get _ e3 fun m=>?_,e4,e5,e6⟩
  ·obtain⟨o',es,ep,e',d',_⟩:=G.T.g
   obtain rfl:=si ((q▸e3).symm.trans e')
   rw[e6]at d';injection d'
  ·simp only[List.mem_cons,List.not_mem_nil,or_false]at m
   rcases m with rfl | rfl
   ·obtain rfl:=si (e3.symm.trans t309);injection e6
   ·obtain rfl:=si (e3.symm.trans t432);injection e6
 have R:RealCx (cxM w s1 mg mb X T last bm):=⟨rfl,rfl,rfl,rfl,rfl,rfl,rfl⟩
 have tI:TabInv lX s1.heap s1.heap:=fun z m=>by
  simp only[lX,List.mem_cons,List.not_mem_nil,or_false]at m
  rcases m with rfl | rfl
  ·exact⟨#[],t309,.inl rfl⟩
  ·exact⟨#[],t432,.inl rfl⟩
 have L:Lw (cxM w s1 mg mb X T last bm) s1.heap:=⟨fun b o e=>of_hideAll _ e,tI,fun a m=>hideAll_none _ m⟩
 have ea:a=888:=by
  have e:=mg_of X T.g (Ik w.params)
  have e2:mg "law"=some (.ref a):=by rw[← show Hd.lawD.name="law" by kernel_rfl];exact hmg
  cases si (e.symm.trans e2);rfl
 subst ea
 have ht:1≤s1.toks:=Nat.le_trans (by rw[show s0.toks=1451 from congrArg Prod.snd y];decide) (DB hit el)
 exact EL R L uD ht hi ia hl hb fun h' tk' L'=>A5 y Ld.keeps hg L'.h0 L'.t
theorem Fy:Hd.rwM.Holds:=Hd.holds_of_walk uO
end Mine
end
theorem PySem.Challenge.cw_pq0645_01_holds : PySem.Challenge.rw_pq0645_01.Holds :=
 Mine.Fy
