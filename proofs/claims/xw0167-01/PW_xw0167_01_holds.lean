import PyProof.Rows.All
import Wide.All
import OpenK.AllK
import Wide.FinOn
import Open.Boot
import Open.Tree
import KE.KLam
import Lean
import PySem.Challenge.RW_xw0167_01
set_option Elab.async false
set_option compiler.extract_closed false
set_option autoImplicit false
set_option linter.all false
set_option bootstrap.genMatcherCode false
set_option genInjectivity false
set_option genSizeOf false
set_option maxRecDepth 100000
set_option maxHeartbeats 0
set_option tactic.hygienic false
set_option backward.match.sparseCases false
open PySem PySem.W PyProof.Rows PySem.Spec
namespace Mine.Internal
section
noncomputable def i9(n:Nat):Stmt:=PySem.Challenge.pw_xw0167_01.main.body.getD n (.Pass ⟨0,0,0,0⟩)
noncomputable def J1{m:Expr→Type}(d:∀e,m e)(nm:∀x p,m (.Name x p))(ct:∀v u p,m (.Constant v u p))(un:∀o a p,m (.UnaryOp o a p))(tu:∀l u p,m (.Tuple l u p))(ls:∀l p,m (.List l p))(sb:∀v s p,m (.Subscript v s p))(sl:∀a b c p,m (.Slice a b c p))(cp:∀l o r p,m (.Compare l o r p))(ie:∀c a b p,m (.IfExp c a b p))(bo:∀o l p,m (.BoolOp o l p))(bi:∀l o r p,m (.BinOp l o r p))(cl:∀f a k p,m (.Call f a k p))(ab:∀v n p,m (.Attribute v n p))(lc:∀e g s p,m (.ListComp e g s p))(di:∀k v p,m (.Dict k v p))(e:Expr):m e:=match e with
  | .Name x p=>nm x p
  | .Constant v u p=>ct v u p
  | .UnaryOp o a p=>un o a p
  | .Tuple l u p=>tu l u p
  | .List l p=>ls l p
  | .Subscript v s p=>sb v s p
  | .Slice a b c p=>sl a b c p
  | .Compare l o r p=>cp l o r p
  | .IfExp c a b p=>ie c a b p
  | .BoolOp o l p=>bo o l p
  | .BinOp l o r p=>bi l o r p
  | .Call f a k p=>cl f a k p
  | .Attribute v n p=>ab v n p
  | .ListComp e g s p=>lc e g s p
  | .Dict k v p=>di k v p
  |e=>d e
noncomputable def E4{m:Expr→Type}(d:∀e,m e)(nm:∀x p,m (.Name x p))(e:Expr):m e:=
  J1 d nm (fun O O O=>d _) (fun O O O=>d _) (fun O O O=>d _) (fun O O=>d _) (fun O O O=>d _) (fun O O O O=>d _) (fun O O O O=>d _) (fun O O O O=>d _) (fun O O O=>d _) (fun O O O O=>d _) (fun O O O O=>d _) (fun O O O=>d _) (fun O O O O=>d _) (fun O O O=>d _) e
noncomputable def c1n{m:Expr→Type}(d:∀e,m e)(ct:∀v u p,m (.Constant v u p))(e:Expr):m e:=
  J1 d (fun O O=>d _) ct (fun O O O=>d _) (fun O O O=>d _) (fun O O=>d _) (fun O O O=>d _) (fun O O O O=>d _) (fun O O O O=>d _) (fun O O O O=>d _) (fun O O O=>d _) (fun O O O O=>d _) (fun O O O O=>d _) (fun O O O=>d _) (fun O O O O=>d _) (fun O O O=>d _) e
noncomputable def a8c{m:Expr→Type}(d:∀e,m e)(cl:∀f a k p,m (.Call f a k p))(e:Expr):m e:=
  J1 d (fun O O=>d _) (fun O O O=>d _) (fun O O O=>d _) (fun O O O=>d _) (fun O O=>d _) (fun O O O=>d _) (fun O O O O=>d _) (fun O O O O=>d _) (fun O O O O=>d _) (fun O O O=>d _) (fun O O O O=>d _) cl (fun O O O=>d _) (fun O O O O=>d _) (fun O O O=>d _) e
noncomputable def b1k{m:Expr→Type}(d:∀e,m e)(ab:∀v n p,m (.Attribute v n p))(e:Expr):m e:=
  J1 d (fun O O=>d _) (fun O O O=>d _) (fun O O O=>d _) (fun O O O=>d _) (fun O O=>d _) (fun O O O=>d _) (fun O O O O=>d _) (fun O O O O=>d _) (fun O O O O=>d _) (fun O O O=>d _) (fun O O O O=>d _) (fun O O O O=>d _) ab (fun O O O O=>d _) (fun O O O=>d _) e
noncomputable def c7q{m:Stmt→Type}(d:∀e,m e)(fd:∀n p b k r t s c x q,m (.FunctionDef n p b k r t s c x q))(cd:∀n p b k r t s c x q y,m (.ClassDef n p b k r t s c x q y))(iff:∀c b o p,m (.If c b o p))(re:∀e p,m (.Return e p))(asg:∀t e p,m (.Assign t e p))(ex:∀e p,m (.Expr e p))(wh:∀t b o p,m (.While t b o p))(fo:∀t i b o p,m (.For t i b o p))(e:Stmt):m e:=match e with
  | .FunctionDef n p b k r t s c x q=>fd n p b k r t s c x q
  | .ClassDef n p b k r t s c x q y=>cd n p b k r t s c x q y
  | .If c b o p=>iff c b o p
  | .Return e p=>re e p
  | .Assign t e p=>asg t e p
  | .Expr e p=>ex e p
  | .While t b o p=>wh t b o p
  | .For t i b o p=>fo t i b o p
  |e=>d e
noncomputable def stF{α:Type}(d:α)(f:Str→Arguments→List Stmt→Scope→α):Stmt→α:=
  c7q (fun O=>d) (fun n p b O O O s O O O=>f n p b s) (fun O O O O O O O O O O O=>d) (fun O O O O=>d) (fun O O=>d) (fun O O O=>d) (fun O O=>d) (fun O O O O=>d) (fun O O O O O=>d)
noncomputable def a6c:Stmt→Str:=stF "" fun n O O O=>n
noncomputable def u6:Stmt→Arguments:=stF {posonlyargs:=[],args:=[],vararg:=none,kwonlyargs:=[],kw_defaults:=[],kwarg:=none,defaults:=[]} fun O p O O=>p
noncomputable def B4:Stmt→List Stmt:=stF [] fun O O b O=>b
noncomputable def r7:Stmt→Scope:=stF {kind:= .function,names:=[],isGenerator:=false,isCoroutine:=false,more:=[]} fun O O O s=>s
noncomputable def K0(st:Stmt)(pm code doc dV kV:Value):FuncData:= {Calls.docDef (a6c st) (u6 st) (B4 st) (r7 st) pm code doc with defaults:=dV,kwdefaults:=kV}
end
section
set_option tactic.hygienic true
set_option backward.match.sparseCases true
theorem n9{α:Type}{o:Option α}{a:α}{p:Prop}(h:o=none)(e:o=some a):p:=nomatch h.symm.trans e
theorem g7{α β:Type}{f:β→Option α}{x y:β}{a:α}{p:Prop}(q:x=y)(h:f y=none)(e:f x=some a):p:=n9 (q▸h) e
theorem l8{α:Type}{a:α}{p:Prop}(h:none=some a):p:=(Option.some_ne_none a h.symm).elim
theorem D8{p:Prop}(h:false=true):p:=Bool.noConfusion h
theorem c3r{p:Prop}(h:true=false):p:=Bool.noConfusion h
theorem odd{h:Heap}{a b:Addr}{o o':Obj}{x y:Data}(q:a=b)(e:h.get? a=some o)(e':h.get? b=some o')(d:o.data=x)(d':o'.data=y):x=y:=
  d.symm.trans ((congrArg Obj.data (Option.some.inj (e.symm.trans (q▸e')))).trans d')
theorem a7k{a:Array Value}{b:Nat}{c:Array DictEntry}{d:Nat}{p:Prop}(h:Data.seq a b= .dict c d):p:=Data.noConfusion h
theorem c2d{a:Array Value}{b:Nat}{c:Option Value}{p:Prop}(h:Data.seq a b= .cell c):p:=Data.noConfusion h
theorem b9v{a:Option Value}{c:Array DictEntry}{d:Nat}{p:Prop}(h:Data.cell a= .dict c d):p:=Data.noConfusion h
theorem a6e{a:Array Value}{c:Array DictEntry}{d:Nat}{p:Prop}(h:Data.fields a= .dict c d):p:=Data.noConfusion h
theorem b2z{a:Array Value}{c:Option Value}{p:Prop}(h:Data.fields a= .cell c):p:=Data.noConfusion h
theorem b9o{α:Type}{a:α}{p:Prop}(h:a∈([]:List α)):p:=(List.not_mem_nil h).elim
theorem isNone{α:Type}{o:Option α}(h:∀a,o=some a→False):o=none:=by
  cases o with
  |none=>rfl
  |some a=>exact (h a rfl).elim
@[elab_as_elim] theorem b8 {α:Sort _} {a b:α} {motive:α→Prop} (h:a=b) (x:motive b):motive a:=h▸x
@[elab_as_elim] theorem C5 {α:Sort _} {a b:α} {motive:α→Prop} (h:b=a) (x:motive b):motive a:=h▸x
end
section
set_option backward.match.sparseCases true
noncomputable def a5i(tb:String→Option Builtin)(p:Program)(w:World)(n0a:Nat)(ann:Option Value):Nat→SharedT→Thread→Option SharedT
  |0,_,_=>none
  | n + 1,s,t=>match through t with
    |true=>some s
    | false=>match stepOk n0a ann t with
      |false=>none
      | true=>match stepT (denote tb) p w s t with
        |some (s',t')=>a5i tb p w n0a ann n s' t'
        |none=>none
theorem b4p{tb:String→Option Builtin}{p:Program}{w:World}{n0a:Nat}{ann:Option Value} :∀ {n:Nat} {s r:SharedT} {t:Thread},a5i tb p w n0a ann n s t=some r→topRun tb p w n0a ann n s.abs t=some r.abs:=by
  intro LL1
  induction LL1 with
  | zero=>
    rintro _ _ _ h
    cases h
  | succ n ih=>
    rintro s r t h
    unfold a5i at h
    unfold topRun
    cases he:through t with
    |true=>rw [he] at h;cases h;rfl
    | false=>
      rw [he] at h
      cases hk:stepOk n0a ann t with
      |false=>rw [hk] at h;cases h
      | true=>
        rw [hk] at h
        cases hs:stepT (denote tb) p w s t with
        |none=>rw [hs] at h;cases h
        |some r=>obtain ⟨s₂,t2a⟩:=r;rw [hs] at h;rw [stepT_spec hs];exact ih h
noncomputable def treeOf:List Obj→Nat→BT→BT
  |[],_,t=>t
  |o::l,n,t=>treeOf l (n+1) (t.ins n o)
noncomputable def b2o(P:Params)(os:OsState):SharedT:=⟨treeOf (boot_heap P).objs.toList 0 .nil,(boot_heap P).objs.size,(boot_heap P).life,Array.mk [],boot_drawn,boot_toks,os⟩
theorem boot_abs(P:Params)(os:OsState):(b2o P os).abs=⟨boot_heap P,Array.mk [],boot_drawn,boot_toks,os⟩:=by kernel_rfl
theorem b3b{α:Type}{p:Program}{w:World}{N:Nat}{look:Shared→α}{good:α}{s:SharedT}
    (h:(a5i treeTable p w s.abs.heap.objs.size (s.abs.heap.nsMap mainGlobals "__annotations__") N s (topStub p)).map (fun r=>(staticsOk (importedModules p.main.body) s.abs.heap r.abs.heap&&namesBound p r.abs.heap&&gensDone r.abs&&laidKept s.abs.heap r.abs.heap,look r.abs))=some (true,good))
    (h0:(s.abs.heap.isNs mainGlobals&&s.abs.gens.size==0)=true):(topFrom treeTable p w N s.abs).map look=some good:=by
  obtain ⟨r,hr,e⟩:=Option.map_eq_some_iff.mp h
  obtain ⟨e1,e2⟩:=Prod.mk.inj e
  unfold topFrom
  rw [h0,b4p hr]
  show Option.map look (match _ with|true=>some r.abs|false=>none)=_
  rw [e1]
  exact congrArg some e2
end
section
set_option tactic.hygienic true
set_option backward.match.sparseCases true
noncomputable def keep:List Nat:=[0,2,3,5,6,7,8,11,13,14,15,16,17,18,20,21,22,23,24,25,26,27,28,29,30,31,32,33,35,36,37,39,40,41,43,44,46,47,48,49,50,51,52,53,54,55,56,57,58,59,60,61,62,63,64,65,66]
noncomputable def P0:Program:=PySem.Challenge.rw_xw0167_01.row.toRowW.prog
noncomputable def V:Program:=view P0 keep
noncomputable def loose:List Str:=["LendError","BITS","parts_of_types","rebuilt_types","parts_of_usefulness","is_useful","rebuilt_usefulness","left_out","Adt"]
noncomputable def E0(i:Nat)(m:Str)(t:Nat)(c:Addr)(dv:Value):Obj:= {cls:= .type "function",data:= .func (K0 (i9 i) (.str m t) (.ref c) .none dv .none)}
noncomputable def sv(k:String)(n:Tok):Value:= .str (Str.ofString k) n
noncomputable def en(P:Params)(k:String)(n:Tok)(v:Value):DictEntry:= {hash:=PyData.keyHash P (Str.ofString k),key:=sv k n,val:=v}
noncomputable def tu(a:Array Value):Obj:= {cls:= .type "tuple",data:= .seq a}
noncomputable def fl(c:String)(a:Array Value):Obj:= {cls:= .type c,data:= .fields a}
noncomputable def di(a:Array DictEntry)(n:Nat):Obj:= {cls:= .type "dict",data:= .dict a n}
noncomputable def t9(P:Params):Frag:=
  (nat_lit 2,({cls:= .none,data:=Data.dict #[en P "type.__subclasses__.Exception.0" 224 (.int 39 0),en P "type.__subclasses__.Exception.n" 225 (.int 1 0)] 2} :Obj))::
  (nat_lit 3,di #[en P "__name__" 165 (sv "law_xw0167_01" 591),en P "__doc__" 166 .none,en P "__package__" 167 .none,en P "__loader__" 168 (.builtin "__main__.__loader__#opaque"),en P "__spec__" 169 .none,en P "__annotations__" 170 (.ref 6),en P "__builtins__" 171 (.ref 4),en P "__file__" 173 (sv "/claim/cut.py" 172),en P "__cached__" 174 .none,en P "_wall" 193 (.ref 21),en P "LendError" 227 (.ref 39),en P "PatternFault" 243 (.ref 52),en P "BITS" 273 (.ref 55),en P "is_signed" 280 (.ref 62),en P "least" 287 (.ref 69),en P "greatest" 294 (.ref 76),en P "parts_of" 304 (.ref 153),en P "parts_of_types" 305 (.ref 83),en P "rebuilt" 314 (.ref 204),en P "rebuilt_types" 315 (.ref 90),en P "substituted" 321 (.ref 95),en P "with_regions" 327 (.ref 100),en P "has_more_parts" 337 (.ref 107),en P "field_rows" 346 (.ref 114),en P "fields_of" 352 (.ref 119),en P "MOST_TYPES" 356 (.int 300 355),en P "MOST_COLUMNS" 358 (.int 330 357),en P "bare" 365 (.ref 126),en P "opened" 371 (.ref 131),en P "bounds_of" 378 (.ref 138),en P "ranges_of" 384 (.ref 143),en P "constructors" 390 (.ref 148),en P "parts_of_usefulness" 397 (.ref 153),en P "taken" 409 (.ref 160),en P "narrowed" 421 (.ref 167),en P "rest_of" 427 (.ref 172),en P "are_wild" 433 (.ref 177),en P "want_columns" 440 (.ref 184),en P "is_useful" 453 (.ref 192),en P "is_useful_by_parts" 459 (.ref 197),en P "rebuilt_usefulness" 470 (.ref 204),en P "left_out" 476 (.ref 210),en P "left_out_wild" 487 (.ref 217),en P "ways_to_make" 493 (.ref 222),en P "has_value" 499 (.ref 227),en P "Adt" 543 (.ref 246),en P "World" 590 (.ref 275),en P "_law_pool" 601 (.ref 286),en P "_law_take" 610 (.ref 293),en P "_law_one" 618 (.ref 300),en P "_law_bool" 620 (.ref 301),en P "_law_byte" 623 (.ref 302),en P "_law_pair" 627 (.ref 306),en P "_law_enum" 630 (.ref 309),en P "_law_none" 633 (.ref 312),en P "_law_led" 636 (.ref 314),en P "_law_world" 644 (.ref 321),en P "_law_values" 650 (.ref 326),en P "_law_comes" 656 (.ref 331),en P "_law_all_come" 662 (.ref 336),en P "_law_truth" 672 (.ref 343),en P "_law_plain" 681 (.ref 350),en P "_law_any" 691 (.ref 357),en P "_law_heard" 698 (.ref 364),en P "_law_is_useful" 704 (.ref 369),en P "_law_left_right" 710 (.ref 374),en P "_law_told_right" 716 (.ref 379),en P "law" 722 (.ref 384)] 68)::
  (nat_lit 20,fl "code" #[sv "_wall" 187,sv "_wall" 188,sv "/claim/cut.py" 189,.int 1 0,.int 1 0,.int 0 0,.int 0 0,.int 3 0,.ref 15,.bool true,.int 181 0,.ref 16,.none,.ref 17,.ref 18,.ref 19,.int 191 0,.int 1 0,sv "/claim/cut.py" 192])::
  (nat_lit 21,E0 0 "__main__" 164 20 .none)::
  (nat_lit 22,tu #[.type "Exception"])::
  (nat_lit 29,tu #[.int 0 208])::
  (nat_lit 35,fl "code" #[sv "__init__" 209,sv "LendError.__init__" 210,sv "/claim/cut.py" 211,.int 7 0,.int 3 0,.int 0 0,.int 0 0,.int 3 0,.ref 30,.bool true,.int 181 0,.ref 31,.none,.ref 32,.ref 33,.ref 34,.int 215 0,.int 7 0,sv "/claim/cut.py" 216])::
  (nat_lit 36,({cls:= .type "function",data:=Data.func {name:=Str.ofString "__init__",qualname:=Str.ofString "LendError.__init__",params:= {posonlyargs:=[],args:=[{arg:=Str.ofString "self",annotation:=none,pos:= {line:=7,col:=17,endLine:=7,endCol:=21}},{arg:=Str.ofString "message",annotation:=none,pos:= {line:=7,col:=23,endLine:=7,endCol:=30}},{arg:=Str.ofString "spot",annotation:=none,pos:= {line:=7,col:=32,endLine:=7,endCol:=36}}],vararg:=none,kwonlyargs:=[],kw_defaults:=[],kwarg:=none,defaults:=[Expr.Constant (Const.int 0) 0 {line:=7,col:=37,endLine:=7,endCol:=38}]},body:=FuncBody.stmts [Stmt.Expr (((Expr.Name (Str.ofString "Exception") {line:=8,col:=8,endLine:=8,endCol:=17}).Attribute (Str.ofString "__init__") {line:=8,col:=8,endLine:=8,endCol:=26}).Call [Expr.Name (Str.ofString "self") {line:=8,col:=27,endLine:=8,endCol:=31},Expr.Name (Str.ofString "message") {line:=8,col:=33,endLine:=8,endCol:=40}] [] {line:=8,col:=8,endLine:=8,endCol:=41}) {line:=8,col:=8,endLine:=8,endCol:=41},Stmt.Assign [(Expr.Name (Str.ofString "self") {line:=9,col:=8,endLine:=9,endCol:=12}).Attribute (Str.ofString "message") {line:=9,col:=8,endLine:=9,endCol:=20}] (Expr.Name (Str.ofString "message") {line:=9,col:=23,endLine:=9,endCol:=30}) {line:=9,col:=8,endLine:=9,endCol:=30},Stmt.Assign [(Expr.Name (Str.ofString "self") {line:=10,col:=8,endLine:=10,endCol:=12}).Attribute (Str.ofString "spot") {line:=10,col:=8,endLine:=10,endCol:=17}] (Expr.Name (Str.ofString "spot") {line:=10,col:=20,endLine:=10,endCol:=24}) {line:=10,col:=8,endLine:=10,endCol:=24}],scope:= {kind:=ScopeKind.function,names:=[(Str.ofString "self",NameKind.local),(Str.ofString "message",NameKind.local),(Str.ofString "spot",NameKind.local),(Str.ofString "Exception",NameKind.globalImplicit)],isGenerator:=false,isCoroutine:=false},globals:=3,closure:=[],defaults:= .ref 29,kwdefaults:= .none,pyModule:=sv "lendcore.errors" 194,code:= .ref 35}} :Obj))::
  (nat_lit 38,di #[en P "__module__" 203 (sv "lendcore.errors" 194),en P "__firstlineno__" 207 (.int 5 206),en P "__init__" 217 (.ref 36),en P "__static_attributes__" 220 (.ref 37),en P "__weakref__" 222 (.ref 40),en P "__doc__" 223 .none] 3)::
  (nat_lit 39,({cls:= .type "type",data:=Data.cls {name:=Str.ofString "LendError",bases:=[.type "Exception"],mro:=[.ref 39,.type "Exception",.type "BaseException",.type "object"],ns:=38,qualname:=Str.ofString "LendError",subclasses:=[.ref 52]},slots:= #[some (Value.ref 22),none,some (sv "LendError" 196),some (sv "LendError" 204),some (Value.builtin "Exception.__new__"),some (Value.bool true)]} :Obj))::
  (nat_lit 40,fl "getset_descriptor" #[sv "__weakref__" 221,.ref 39,.builtin "ExceptionGroup.__weakref__",.none])::
  (nat_lit 43,tu #[.ref 39])::
  (nat_lit 51,di #[en P "__module__" 235 (sv "lendcore.errors" 194),en P "__firstlineno__" 239 (.int 11 238),en P "__static_attributes__" 240 (.ref 50),en P "__doc__" 241 .none] 2)::
  (nat_lit 52,({cls:= .type "type",data:=Data.cls {name:=Str.ofString "PatternFault",bases:=[.ref 39],mro:=[.ref 52,.ref 39,.type "Exception",.type "BaseException",.type "object"],ns:=51,qualname:=Str.ofString "PatternFault"},slots:= #[some (Value.ref 43),none,some (sv "PatternFault" 228),some (sv "PatternFault" 236),some (Value.builtin "Exception.__new__"),some (Value.bool true)]} :Obj))::
  (nat_lit 55,di #[en P "i8" 246 (.int 8 247),en P "i16" 248 (.int 16 249),en P "i32" 250 (.int 32 251),en P "i64" 252 (.int 64 253),en P "u8" 254 (.int 8 255),en P "u16" 256 (.int 16 257),en P "u32" 258 (.int 32 259),en P "u64" 260 (.int 64 261),en P "usize" 262 (.int 64 263)] 9)::
  (nat_lit 61,fl "code" #[sv "is_signed" 274,sv "is_signed" 275,sv "/claim/cut.py" 276,.int 15 0,.int 1 0,.int 0 0,.int 0 0,.int 3 0,.ref 56,.bool true,.int 181 0,.ref 57,.none,.ref 58,.ref 59,.ref 60,.int 278 0,.int 15 0,sv "/claim/cut.py" 279])::
  (nat_lit 62,E0 6 "lendcore.integers" 244 61 .none)::
  (nat_lit 68,fl "code" #[sv "least" 281,sv "least" 282,sv "/claim/cut.py" 283,.int 17 0,.int 1 0,.int 0 0,.int 0 0,.int 3 0,.ref 63,.bool true,.int 181 0,.ref 64,.none,.ref 65,.ref 66,.ref 67,.int 285 0,.int 17 0,sv "/claim/cut.py" 286])::
  (nat_lit 69,E0 7 "lendcore.integers" 244 68 .none)::
  (nat_lit 75,fl "code" #[sv "greatest" 288,sv "greatest" 289,sv "/claim/cut.py" 290,.int 19 0,.int 1 0,.int 0 0,.int 0 0,.int 3 0,.ref 70,.bool true,.int 181 0,.ref 71,.none,.ref 72,.ref 73,.ref 74,.int 292 0,.int 19 0,sv "/claim/cut.py" 293])::
  (nat_lit 76,E0 8 "lendcore.integers" 244 75 .none)::
  (nat_lit 82,fl "code" #[sv "parts_of" 297,sv "parts_of" 298,sv "/claim/cut.py" 299,.int 22 0,.int 1 0,.int 0 0,.int 0 0,.int 3 0,.ref 77,.bool true,.int 181 0,.ref 78,.none,.ref 79,.ref 80,.ref 81,.int 302 0,.int 22 0,sv "/claim/cut.py" 303])::
  (nat_lit 83,E0 10 "lendcore.types" 295 82 .none)::
  (nat_lit 89,fl "code" #[sv "rebuilt" 306,sv "rebuilt" 307,sv "/claim/cut.py" 308,.int 32 0,.int 2 0,.int 0 0,.int 0 0,.int 3 0,.ref 84,.bool true,.int 181 0,.ref 85,.none,.ref 86,.ref 87,.ref 88,.int 312 0,.int 32 0,sv "/claim/cut.py" 313])::
  (nat_lit 90,E0 12 "lendcore.types" 295 89 .none)::
  (nat_lit 94,fl "code" #[sv "substituted" 316,sv "substituted" 317,sv "/claim/cut.py" 318,.int 44 0,.int 2 0,.int 0 0,.int 0 0,.int 3 0,.ref 91,.bool true,.int 181 0,.ref 92,.none,.none,.none,.ref 93,.int 319 0,.int 44 0,sv "/claim/cut.py" 320])::
  (nat_lit 95,E0 14 "lendcore.types" 295 94 .none)::
  (nat_lit 99,fl "code" #[sv "with_regions" 322,sv "with_regions" 323,sv "/claim/cut.py" 324,.int 48 0,.int 2 0,.int 0 0,.int 0 0,.int 3 0,.ref 96,.bool true,.int 181 0,.ref 97,.none,.none,.none,.ref 98,.int 325 0,.int 48 0,sv "/claim/cut.py" 326])::
  (nat_lit 100,E0 15 "lendcore.types" 295 99 .none)::
  (nat_lit 106,fl "code" #[sv "has_more_parts" 328,sv "has_more_parts" 329,sv "/claim/cut.py" 330,.int 54 0,.int 2 0,.int 0 0,.int 0 0,.int 3 0,.ref 101,.bool true,.int 181 0,.ref 102,.none,.ref 103,.ref 104,.ref 105,.int 335 0,.int 54 0,sv "/claim/cut.py" 336])::
  (nat_lit 107,E0 16 "lendcore.types" 295 106 .none)::
  (nat_lit 113,fl "code" #[sv "field_rows" 338,sv "field_rows" 339,sv "/claim/cut.py" 340,.int 62 0,.int 3 0,.int 0 0,.int 0 0,.int 3 0,.ref 108,.bool true,.int 181 0,.ref 109,.none,.ref 110,.ref 111,.ref 112,.int 344 0,.int 62 0,sv "/claim/cut.py" 345])::
  (nat_lit 114,E0 17 "lendcore.types" 295 113 .none)::
  (nat_lit 118,fl "code" #[sv "fields_of" 347,sv "fields_of" 348,sv "/claim/cut.py" 349,.int 64 0,.int 3 0,.int 0 0,.int 0 0,.int 3 0,.ref 115,.bool true,.int 181 0,.ref 116,.none,.none,.none,.ref 117,.int 350 0,.int 64 0,sv "/claim/cut.py" 351])::
  (nat_lit 119,E0 18 "lendcore.types" 295 118 .none)::
  (nat_lit 125,fl "code" #[sv "bare" 359,sv "bare" 360,sv "/claim/cut.py" 361,.int 79 0,.int 1 0,.int 0 0,.int 0 0,.int 3 0,.ref 120,.bool true,.int 181 0,.ref 121,.none,.ref 122,.ref 123,.ref 124,.int 363 0,.int 79 0,sv "/claim/cut.py" 364])::
  (nat_lit 126,E0 22 "lendcore.usefulness" 353 125 .none)::
  (nat_lit 130,fl "code" #[sv "opened" 366,sv "opened" 367,sv "/claim/cut.py" 368,.int 85 0,.int 1 0,.int 0 0,.int 0 0,.int 3 0,.ref 127,.bool true,.int 181 0,.ref 128,.none,.none,.none,.ref 129,.int 369 0,.int 85 0,sv "/claim/cut.py" 370])::
  (nat_lit 131,E0 23 "lendcore.usefulness" 353 130 .none)::
  (nat_lit 137,fl "code" #[sv "bounds_of" 372,sv "bounds_of" 373,sv "/claim/cut.py" 374,.int 95 0,.int 1 0,.int 0 0,.int 0 0,.int 3 0,.ref 132,.bool true,.int 181 0,.ref 133,.none,.ref 134,.ref 135,.ref 136,.int 376 0,.int 95 0,sv "/claim/cut.py" 377])::
  (nat_lit 138,E0 24 "lendcore.usefulness" 353 137 .none)::
  (nat_lit 142,fl "code" #[sv "ranges_of" 379,sv "ranges_of" 380,sv "/claim/cut.py" 381,.int 99 0,.int 3 0,.int 0 0,.int 0 0,.int 3 0,.ref 139,.bool true,.int 181 0,.ref 140,.none,.none,.none,.ref 141,.int 382 0,.int 99 0,sv "/claim/cut.py" 383])::
  (nat_lit 143,E0 25 "lendcore.usefulness" 353 142 .none)::
  (nat_lit 147,fl "code" #[sv "constructors" 385,sv "constructors" 386,sv "/claim/cut.py" 387,.int 108 0,.int 3 0,.int 0 0,.int 0 0,.int 3 0,.ref 144,.bool true,.int 181 0,.ref 145,.none,.none,.none,.ref 146,.int 388 0,.int 108 0,sv "/claim/cut.py" 389])::
  (nat_lit 148,E0 26 "lendcore.usefulness" 353 147 .none)::
  (nat_lit 152,fl "code" #[sv "parts_of" 391,sv "parts_of" 392,sv "/claim/cut.py" 393,.int 123 0,.int 3 0,.int 0 0,.int 0 0,.int 3 0,.ref 149,.bool true,.int 181 0,.ref 150,.none,.none,.none,.ref 151,.int 394 0,.int 123 0,sv "/claim/cut.py" 395])::
  (nat_lit 153,E0 27 "lendcore.usefulness" 353 152 .none)::
  (nat_lit 159,fl "code" #[sv "taken" 398,sv "taken" 399,sv "/claim/cut.py" 400,.int 133 0,.int 3 0,.int 0 0,.int 0 0,.int 3 0,.ref 154,.bool true,.int 181 0,.ref 155,.none,.ref 156,.ref 157,.ref 158,.int 407 0,.int 133 0,sv "/claim/cut.py" 408])::
  (nat_lit 160,E0 29 "lendcore.usefulness" 353 159 .none)::
  (nat_lit 166,fl "code" #[sv "narrowed" 410,sv "narrowed" 411,sv "/claim/cut.py" 412,.int 147 0,.int 3 0,.int 0 0,.int 0 0,.int 3 0,.ref 161,.bool true,.int 181 0,.ref 162,.none,.ref 163,.ref 164,.ref 165,.int 419 0,.int 147 0,sv "/claim/cut.py" 420])::
  (nat_lit 167,E0 30 "lendcore.usefulness" 353 166 .none)::
  (nat_lit 171,fl "code" #[sv "rest_of" 422,sv "rest_of" 423,sv "/claim/cut.py" 424,.int 154 0,.int 1 0,.int 0 0,.int 0 0,.int 3 0,.ref 168,.bool true,.int 181 0,.ref 169,.none,.none,.none,.ref 170,.int 425 0,.int 154 0,sv "/claim/cut.py" 426])::
  (nat_lit 172,E0 31 "lendcore.usefulness" 353 171 .none)::
  (nat_lit 176,fl "code" #[sv "are_wild" 428,sv "are_wild" 429,sv "/claim/cut.py" 430,.int 156 0,.int 1 0,.int 0 0,.int 0 0,.int 3 0,.ref 173,.bool true,.int 181 0,.ref 174,.none,.none,.none,.ref 175,.int 431 0,.int 156 0,sv "/claim/cut.py" 432])::
  (nat_lit 177,E0 32 "lendcore.usefulness" 353 176 .none)::
  (nat_lit 183,fl "code" #[sv "want_columns" 434,sv "want_columns" 435,sv "/claim/cut.py" 436,.int 158 0,.int 1 0,.int 0 0,.int 0 0,.int 3 0,.ref 178,.bool true,.int 181 0,.ref 179,.none,.ref 180,.ref 181,.ref 182,.int 438 0,.int 158 0,sv "/claim/cut.py" 439])::
  (nat_lit 184,E0 33 "lendcore.usefulness" 353 183 .none)::
  (nat_lit 185,tu #[.int 330 357])::
  (nat_lit 191,fl "code" #[sv "is_useful" 441,sv "is_useful" 442,sv "/claim/cut.py" 443,.int 161 0,.int 5 0,.int 0 0,.int 0 0,.int 3 0,.ref 186,.bool true,.int 181 0,.ref 187,.none,.ref 188,.ref 189,.ref 190,.int 451 0,.int 161 0,sv "/claim/cut.py" 452])::
  (nat_lit 192,E0 34 "lendcore.usefulness" 353 191 (.ref 185))::
  (nat_lit 196,fl "code" #[sv "is_useful_by_parts" 454,sv "is_useful_by_parts" 455,sv "/claim/cut.py" 456,.int 174 0,.int 5 0,.int 0 0,.int 0 0,.int 3 0,.ref 193,.bool true,.int 181 0,.ref 194,.none,.none,.none,.ref 195,.int 457 0,.int 174 0,sv "/claim/cut.py" 458])::
  (nat_lit 197,E0 35 "lendcore.usefulness" 353 196 .none)::
  (nat_lit 203,fl "code" #[sv "rebuilt" 460,sv "rebuilt" 461,sv "/claim/cut.py" 462,.int 184 0,.int 3 0,.int 0 0,.int 0 0,.int 3 0,.ref 198,.bool true,.int 181 0,.ref 199,.none,.ref 200,.ref 201,.ref 202,.int 467 0,.int 184 0,sv "/claim/cut.py" 468])::
  (nat_lit 204,E0 36 "lendcore.usefulness" 353 203 .none)::
  (nat_lit 205,tu #[.int 330 357])::
  (nat_lit 209,fl "code" #[sv "left_out" 471,sv "left_out" 472,sv "/claim/cut.py" 473,.int 200 0,.int 4 0,.int 0 0,.int 0 0,.int 3 0,.ref 206,.bool true,.int 181 0,.ref 207,.none,.none,.none,.ref 208,.int 474 0,.int 200 0,sv "/claim/cut.py" 475])::
  (nat_lit 210,E0 38 "lendcore.usefulness" 353 209 (.ref 205))::
  (nat_lit 216,fl "code" #[sv "left_out_wild" 477,sv "left_out_wild" 478,sv "/claim/cut.py" 479,.int 214 0,.int 4 0,.int 0 0,.int 0 0,.int 3 0,.ref 211,.bool true,.int 181 0,.ref 212,.none,.ref 213,.ref 214,.ref 215,.int 485 0,.int 214 0,sv "/claim/cut.py" 486])::
  (nat_lit 217,E0 39 "lendcore.usefulness" 353 216 .none)::
  (nat_lit 221,fl "code" #[sv "ways_to_make" 488,sv "ways_to_make" 489,sv "/claim/cut.py" 490,.int 219 0,.int 2 0,.int 0 0,.int 0 0,.int 3 0,.ref 218,.bool true,.int 181 0,.ref 219,.none,.none,.none,.ref 220,.int 491 0,.int 219 0,sv "/claim/cut.py" 492])::
  (nat_lit 222,E0 40 "lendcore.usefulness" 353 221 .none)::
  (nat_lit 226,fl "code" #[sv "has_value" 494,sv "has_value" 495,sv "/claim/cut.py" 496,.int 223 0,.int 2 0,.int 0 0,.int 0 0,.int 3 0,.ref 223,.bool true,.int 181 0,.ref 224,.none,.none,.none,.ref 225,.int 497 0,.int 223 0,sv "/claim/cut.py" 498])::
  (nat_lit 227,E0 41 "lendcore.usefulness" 353 226 .none)::
  (nat_lit 235,tu #[])::
  (nat_lit 236,tu #[sv "" 514,.ref 235])::
  (nat_lit 242,fl "code" #[sv "__init__" 515,sv "Adt.__init__" 516,sv "/claim/cut.py" 517,.int 244 0,.int 8 0,.int 0 0,.int 0 0,.int 3 0,.ref 237,.bool true,.int 181 0,.ref 238,.none,.ref 239,.ref 240,.ref 241,.int 526 0,.int 244 0,sv "/claim/cut.py" 527])::
  (nat_lit 243,({cls:= .type "function",data:=Data.func {name:=Str.ofString "__init__",qualname:=Str.ofString "Adt.__init__",params:= {posonlyargs:=[],args:=[{arg:=Str.ofString "self",annotation:=none,pos:= {line:=244,col:=17,endLine:=244,endCol:=21}},{arg:=Str.ofString "path",annotation:=none,pos:= {line:=244,col:=23,endLine:=244,endCol:=27}},{arg:=Str.ofString "regions",annotation:=none,pos:= {line:=244,col:=29,endLine:=244,endCol:=36}},{arg:=Str.ofString "params",annotation:=none,pos:= {line:=244,col:=38,endLine:=244,endCol:=44}},{arg:=Str.ofString "variants",annotation:=none,pos:= {line:=244,col:=46,endLine:=244,endCol:=54}},{arg:=Str.ofString "is_enum",annotation:=none,pos:= {line:=244,col:=56,endLine:=244,endCol:=63}},{arg:=Str.ofString "module",annotation:=none,pos:= {line:=244,col:=65,endLine:=244,endCol:=71}},{arg:=Str.ofString "publics",annotation:=none,pos:= {line:=244,col:=76,endLine:=244,endCol:=83}}],vararg:=none,kwonlyargs:=[],kw_defaults:=[],kwarg:=none,defaults:=[Expr.Constant (Const.str (Str.ofString "")) 0 {line:=244,col:=72,endLine:=244,endCol:=74},Expr.Tuple [] 0 {line:=244,col:=84,endLine:=244,endCol:=86}]},body:=FuncBody.stmts [Stmt.Assign [(Expr.Name (Str.ofString "self") {line:=245,col:=8,endLine:=245,endCol:=12}).Attribute (Str.ofString "path") {line:=245,col:=8,endLine:=245,endCol:=17}] (Expr.Name (Str.ofString "path") {line:=245,col:=20,endLine:=245,endCol:=24}) {line:=245,col:=8,endLine:=245,endCol:=24},Stmt.Assign [(Expr.Name (Str.ofString "self") {line:=246,col:=8,endLine:=246,endCol:=12}).Attribute (Str.ofString "module") {line:=246,col:=8,endLine:=246,endCol:=19}] (Expr.Name (Str.ofString "module") {line:=246,col:=22,endLine:=246,endCol:=28}) {line:=246,col:=8,endLine:=246,endCol:=28},Stmt.Assign [(Expr.Name (Str.ofString "self") {line:=247,col:=8,endLine:=247,endCol:=12}).Attribute (Str.ofString "regions") {line:=247,col:=8,endLine:=247,endCol:=20}] (Expr.Name (Str.ofString "regions") {line:=247,col:=23,endLine:=247,endCol:=30}) {line:=247,col:=8,endLine:=247,endCol:=30},Stmt.Assign [(Expr.Name (Str.ofString "self") {line:=248,col:=8,endLine:=248,endCol:=12}).Attribute (Str.ofString "params") {line:=248,col:=8,endLine:=248,endCol:=19}] (Expr.Name (Str.ofString "params") {line:=248,col:=22,endLine:=248,endCol:=28}) {line:=248,col:=8,endLine:=248,endCol:=28},Stmt.Assign [(Expr.Name (Str.ofString "self") {line:=249,col:=8,endLine:=249,endCol:=12}).Attribute (Str.ofString "variants") {line:=249,col:=8,endLine:=249,endCol:=21}] (Expr.Name (Str.ofString "variants") {line:=249,col:=24,endLine:=249,endCol:=32}) {line:=249,col:=8,endLine:=249,endCol:=32},Stmt.Assign [(Expr.Name (Str.ofString "self") {line:=250,col:=8,endLine:=250,endCol:=12}).Attribute (Str.ofString "publics") {line:=250,col:=8,endLine:=250,endCol:=20}] (Expr.Name (Str.ofString "publics") {line:=250,col:=23,endLine:=250,endCol:=30}) {line:=250,col:=8,endLine:=250,endCol:=30},Stmt.Assign [(Expr.Name (Str.ofString "self") {line:=251,col:=8,endLine:=251,endCol:=12}).Attribute (Str.ofString "is_enum") {line:=251,col:=8,endLine:=251,endCol:=20}] (Expr.Name (Str.ofString "is_enum") {line:=251,col:=23,endLine:=251,endCol:=30}) {line:=251,col:=8,endLine:=251,endCol:=30}],scope:= {kind:=ScopeKind.function,names:=[(Str.ofString "self",NameKind.local),(Str.ofString "path",NameKind.local),(Str.ofString "regions",NameKind.local),(Str.ofString "params",NameKind.local),(Str.ofString "variants",NameKind.local),(Str.ofString "is_enum",NameKind.local),(Str.ofString "module",NameKind.local),(Str.ofString "publics",NameKind.local)],isGenerator:=false,isCoroutine:=false},globals:=3,closure:=[],defaults:= .ref 236,kwdefaults:= .none,pyModule:=sv "lendcore.world" 500,code:= .ref 242}} :Obj))::
  (nat_lit 245,di #[en P "__module__" 509 (sv "lendcore.world" 500),en P "__firstlineno__" 513 (.int 242 512),en P "__init__" 528 (.ref 243),en P "__static_attributes__" 536 (.ref 244),en P "__dict__" 538 (.ref 247),en P "__weakref__" 540 (.ref 248),en P "__doc__" 541 .none] 4)::
  (nat_lit 246,({cls:= .type "type",data:=Data.cls {name:=Str.ofString "Adt",bases:=[.type "object"],mro:=[.ref 246,.type "object"],ns:=245,qualname:=Str.ofString "Adt"},slots:= #[none,none,some (sv "Adt" 502),some (sv "Adt" 510),some (Value.builtin "object.__new__"),some (Value.bool true)]} :Obj))::
  (nat_lit 247,fl "getset_descriptor" #[sv "__dict__" 537,.ref 246,.builtin "function.__dict__",.builtin "function.__dict__#set"])::
  (nat_lit 248,fl "getset_descriptor" #[sv "__weakref__" 539,.ref 246,.builtin "ExceptionGroup.__weakref__",.none])::
  (nat_lit 258,tu #[.none])::
  (nat_lit 264,fl "code" #[sv "__init__" 556,sv "World.__init__" 557,sv "/claim/cut.py" 558,.int 254 0,.int 2 0,.int 0 0,.int 0 0,.int 3 0,.ref 259,.bool true,.int 181 0,.ref 260,.none,.ref 261,.ref 262,.ref 263,.int 561 0,.int 254 0,sv "/claim/cut.py" 562])::
  (nat_lit 265,({cls:= .type "function",data:=Data.func {name:=Str.ofString "__init__",qualname:=Str.ofString "World.__init__",params:= {posonlyargs:=[],args:=[{arg:=Str.ofString "self",annotation:=none,pos:= {line:=254,col:=17,endLine:=254,endCol:=21}},{arg:=Str.ofString "modules",annotation:=none,pos:= {line:=254,col:=23,endLine:=254,endCol:=30}}],vararg:=none,kwonlyargs:=[],kw_defaults:=[],kwarg:=none,defaults:=[Expr.Constant Const.none 0 {line:=254,col:=31,endLine:=254,endCol:=35}]},body:=FuncBody.stmts [Stmt.Assign [(Expr.Name (Str.ofString "self") {line:=255,col:=8,endLine:=255,endCol:=12}).Attribute (Str.ofString "modules") {line:=255,col:=8,endLine:=255,endCol:=20}] (Expr.Name (Str.ofString "modules") {line:=255,col:=23,endLine:=255,endCol:=30}) {line:=255,col:=8,endLine:=255,endCol:=30},Stmt.Assign [(Expr.Name (Str.ofString "self") {line:=256,col:=8,endLine:=256,endCol:=12}).Attribute (Str.ofString "adts") {line:=256,col:=8,endLine:=256,endCol:=17}] (Expr.Dict [] [] {line:=256,col:=20,endLine:=256,endCol:=22}) {line:=256,col:=8,endLine:=256,endCol:=22},Stmt.Assign [(Expr.Name (Str.ofString "self") {line:=257,col:=8,endLine:=257,endCol:=12}).Attribute (Str.ofString "variants") {line:=257,col:=8,endLine:=257,endCol:=21}] (Expr.Dict [] [] {line:=257,col:=24,endLine:=257,endCol:=26}) {line:=257,col:=8,endLine:=257,endCol:=26},Stmt.Assign [(Expr.Name (Str.ofString "self") {line:=258,col:=8,endLine:=258,endCol:=12}).Attribute (Str.ofString "sigs") {line:=258,col:=8,endLine:=258,endCol:=17}] (Expr.Dict [] [] {line:=258,col:=20,endLine:=258,endCol:=22}) {line:=258,col:=8,endLine:=258,endCol:=22},Stmt.Assign [(Expr.Name (Str.ofString "self") {line:=259,col:=8,endLine:=259,endCol:=12}).Attribute (Str.ofString "traits") {line:=259,col:=8,endLine:=259,endCol:=19}] (Expr.Dict [] [] {line:=259,col:=22,endLine:=259,endCol:=24}) {line:=259,col:=8,endLine:=259,endCol:=24},Stmt.Assign [(Expr.Name (Str.ofString "self") {line:=260,col:=8,endLine:=260,endCol:=12}).Attribute (Str.ofString "impls") {line:=260,col:=8,endLine:=260,endCol:=18}] (Expr.List [] {line:=260,col:=21,endLine:=260,endCol:=23}) {line:=260,col:=8,endLine:=260,endCol:=23},Stmt.Assign [(Expr.Name (Str.ofString "self") {line:=261,col:=8,endLine:=261,endCol:=12}).Attribute (Str.ofString "consts") {line:=261,col:=8,endLine:=261,endCol:=19}] (Expr.Dict [] [] {line:=261,col:=22,endLine:=261,endCol:=24}) {line:=261,col:=8,endLine:=261,endCol:=24},Stmt.Assign [(Expr.Name (Str.ofString "self") {line:=262,col:=8,endLine:=262,endCol:=12}).Attribute (Str.ofString "bodies") {line:=262,col:=8,endLine:=262,endCol:=19}] (Expr.Dict [] [] {line:=262,col:=22,endLine:=262,endCol:=24}) {line:=262,col:=8,endLine:=262,endCol:=24}],scope:= {kind:=ScopeKind.function,names:=[(Str.ofString "self",NameKind.local),(Str.ofString "modules",NameKind.local)],isGenerator:=false,isCoroutine:=false},globals:=3,closure:=[],defaults:= .ref 258,kwdefaults:= .none,pyModule:=sv "lendcore.world" 500,code:= .ref 264}} :Obj))::
  (nat_lit 271,fl "code" #[sv "is_field_seen" 564,sv "World.is_field_seen" 565,sv "/claim/cut.py" 566,.int 264 0,.int 5 0,.int 0 0,.int 0 0,.int 3 0,.ref 266,.bool true,.int 181 0,.ref 267,.none,.ref 268,.ref 269,.ref 270,.int 572 0,.int 264 0,sv "/claim/cut.py" 573])::
  (nat_lit 272,({cls:= .type "function",data:=Data.func {name:=Str.ofString "is_field_seen",qualname:=Str.ofString "World.is_field_seen",params:= {posonlyargs:=[],args:=[{arg:=Str.ofString "self",annotation:=none,pos:= {line:=264,col:=22,endLine:=264,endCol:=26}},{arg:=Str.ofString "path",annotation:=none,pos:= {line:=264,col:=28,endLine:=264,endCol:=32}},{arg:=Str.ofString "number",annotation:=none,pos:= {line:=264,col:=34,endLine:=264,endCol:=40}},{arg:=Str.ofString "k",annotation:=none,pos:= {line:=264,col:=42,endLine:=264,endCol:=43}},{arg:=Str.ofString "module",annotation:=none,pos:= {line:=264,col:=45,endLine:=264,endCol:=51}}],vararg:=none,kwonlyargs:=[],kw_defaults:=[],kwarg:=none,defaults:=[]},body:=FuncBody.stmts [Stmt.Expr ((Expr.Name (Str.ofString "_wall") {line:=265,col:=8,endLine:=265,endCol:=13}).Call [Expr.Constant (Const.int 0) 0 {line:=265,col:=14,endLine:=265,endCol:=15}] [] {line:=265,col:=8,endLine:=265,endCol:=16}) {line:=265,col:=8,endLine:=265,endCol:=16}],scope:= {kind:=ScopeKind.function,names:=[(Str.ofString "self",NameKind.local),(Str.ofString "path",NameKind.local),(Str.ofString "number",NameKind.local),(Str.ofString "k",NameKind.local),(Str.ofString "module",NameKind.local),(Str.ofString "_wall",NameKind.globalImplicit)],isGenerator:=false,isCoroutine:=false},globals:=3,closure:=[],defaults:= .none,kwdefaults:= .none,pyModule:=sv "lendcore.world" 500,code:= .ref 271}} :Obj))::
  (nat_lit 274,di #[en P "__module__" 551 (sv "lendcore.world" 500),en P "__firstlineno__" 555 (.int 252 554),en P "__init__" 563 (.ref 265),en P "is_field_seen" 574 (.ref 272),en P "__static_attributes__" 583 (.ref 273),en P "__dict__" 585 (.ref 276),en P "__weakref__" 587 (.ref 277),en P "__doc__" 588 .none] 4)::
  (nat_lit 275,({cls:= .type "type",data:=Data.cls {name:=Str.ofString "World",bases:=[.type "object"],mro:=[.ref 275,.type "object"],ns:=274,qualname:=Str.ofString "World"},slots:= #[none,none,some (sv "World" 544),some (sv "World" 552),some (Value.builtin "object.__new__"),some (Value.bool true)]} :Obj))::
  (nat_lit 276,fl "getset_descriptor" #[sv "__dict__" 584,.ref 275,.builtin "function.__dict__",.builtin "function.__dict__#set"])::
  (nat_lit 277,fl "getset_descriptor" #[sv "__weakref__" 586,.ref 275,.builtin "ExceptionGroup.__weakref__",.none])::
  (nat_lit 285,fl "code" #[sv "_law_pool" 593,sv "_law_pool" 594,sv "/claim/cut.py" 595,.int 267 0,.int 1 0,.int 0 0,.int 0 0,.int 3 0,.ref 280,.bool true,.int 181 0,.ref 281,.none,.ref 282,.ref 283,.ref 284,.int 599 0,.int 267 0,sv "/claim/cut.py" 600])::
  (nat_lit 286,E0 46 "law_xw0167_01" 591 285 .none)::
  (nat_lit 292,fl "code" #[sv "_law_take" 602,sv "_law_take" 603,sv "/claim/cut.py" 604,.int 271 0,.int 2 0,.int 0 0,.int 0 0,.int 3 0,.ref 287,.bool true,.int 181 0,.ref 288,.none,.ref 289,.ref 290,.ref 291,.int 608 0,.int 271 0,sv "/claim/cut.py" 609])::
  (nat_lit 293,E0 47 "law_xw0167_01" 591 292 .none)::
  (nat_lit 299,fl "code" #[sv "_law_one" 611,sv "_law_one" 612,sv "/claim/cut.py" 613,.int 278 0,.int 2 0,.int 0 0,.int 0 0,.int 3 0,.ref 294,.bool true,.int 181 0,.ref 295,.none,.ref 296,.ref 297,.ref 298,.int 616 0,.int 278 0,sv "/claim/cut.py" 617])::
  (nat_lit 300,E0 48 "law_xw0167_01" 591 299 .none)::
  (nat_lit 301,tu #[sv "bool" 619])::
  (nat_lit 302,tu #[sv "int" 621,sv "u8" 622])::
  (nat_lit 303,tu #[sv "bool" 625])::
  (nat_lit 304,tu #[sv "bool" 626])::
  (nat_lit 305,tu #[.ref 303,.ref 304])::
  (nat_lit 306,tu #[sv "tuple" 624,.ref 305])::
  (nat_lit 307,tu #[])::
  (nat_lit 308,tu #[])::
  (nat_lit 309,tu #[sv "adt" 628,sv "E" 629,.ref 307,.ref 308])::
  (nat_lit 310,tu #[])::
  (nat_lit 311,tu #[])::
  (nat_lit 312,tu #[sv "adt" 631,sv "N" 632,.ref 310,.ref 311])::
  (nat_lit 313,tu #[sv "bool" 635])::
  (nat_lit 314,tu #[sv "ref" 634,.none,.bool false,.ref 313])::
  (nat_lit 320,fl "code" #[sv "_law_world" 637,sv "_law_world" 638,sv "/claim/cut.py" 639,.int 286 0,.int 0 0,.int 0 0,.int 0 0,.int 3 0,.ref 315,.bool true,.int 181 0,.ref 316,.none,.ref 317,.ref 318,.ref 319,.int 642 0,.int 286 0,sv "/claim/cut.py" 643])::
  (nat_lit 321,E0 55 "law_xw0167_01" 591 320 .none)::
  (nat_lit 325,fl "code" #[sv "_law_values" 645,sv "_law_values" 646,sv "/claim/cut.py" 647,.int 292 0,.int 1 0,.int 0 0,.int 0 0,.int 3 0,.ref 322,.bool true,.int 181 0,.ref 323,.none,.none,.none,.ref 324,.int 648 0,.int 292 0,sv "/claim/cut.py" 649])::
  (nat_lit 326,E0 56 "law_xw0167_01" 591 325 .none)::
  (nat_lit 330,fl "code" #[sv "_law_comes" 651,sv "_law_comes" 652,sv "/claim/cut.py" 653,.int 302 0,.int 2 0,.int 0 0,.int 0 0,.int 3 0,.ref 327,.bool true,.int 181 0,.ref 328,.none,.none,.none,.ref 329,.int 654 0,.int 302 0,sv "/claim/cut.py" 655])::
  (nat_lit 331,E0 57 "law_xw0167_01" 591 330 .none)::
  (nat_lit 335,fl "code" #[sv "_law_all_come" 657,sv "_law_all_come" 658,sv "/claim/cut.py" 659,.int 317 0,.int 2 0,.int 0 0,.int 0 0,.int 3 0,.ref 332,.bool true,.int 181 0,.ref 333,.none,.none,.none,.ref 334,.int 660 0,.int 317 0,sv "/claim/cut.py" 661])::
  (nat_lit 336,E0 58 "law_xw0167_01" 591 335 .none)::
  (nat_lit 342,fl "code" #[sv "_law_truth" 663,sv "_law_truth" 664,sv "/claim/cut.py" 665,.int 319 0,.int 1 0,.int 0 0,.int 0 0,.int 3 0,.ref 337,.bool true,.int 181 0,.ref 338,.none,.ref 339,.ref 340,.ref 341,.int 670 0,.int 319 0,sv "/claim/cut.py" 671])::
  (nat_lit 343,E0 59 "law_xw0167_01" 591 342 .none)::
  (nat_lit 349,fl "code" #[sv "_law_plain" 673,sv "_law_plain" 674,sv "/claim/cut.py" 675,.int 323 0,.int 2 0,.int 0 0,.int 0 0,.int 3 0,.ref 344,.bool true,.int 181 0,.ref 345,.none,.ref 346,.ref 347,.ref 348,.int 679 0,.int 323 0,sv "/claim/cut.py" 680])::
  (nat_lit 350,E0 60 "law_xw0167_01" 591 349 .none)::
  (nat_lit 356,fl "code" #[sv "_law_any" 682,sv "_law_any" 683,sv "/claim/cut.py" 684,.int 336 0,.int 2 0,.int 0 0,.int 0 0,.int 3 0,.ref 351,.bool true,.int 181 0,.ref 352,.none,.ref 353,.ref 354,.ref 355,.int 689 0,.int 336 0,sv "/claim/cut.py" 690])::
  (nat_lit 357,E0 61 "law_xw0167_01" 591 356 .none)::
  (nat_lit 363,fl "code" #[sv "_law_heard" 692,sv "_law_heard" 693,sv "/claim/cut.py" 694,.int 339 0,.int 1 0,.int 0 0,.int 0 0,.int 3 0,.ref 358,.bool true,.int 181 0,.ref 359,.none,.ref 360,.ref 361,.ref 362,.int 696 0,.int 339 0,sv "/claim/cut.py" 697])::
  (nat_lit 364,E0 62 "law_xw0167_01" 591 363 .none)::
  (nat_lit 368,fl "code" #[sv "_law_is_useful" 699,sv "_law_is_useful" 700,sv "/claim/cut.py" 701,.int 344 0,.int 3 0,.int 0 0,.int 0 0,.int 3 0,.ref 365,.bool true,.int 181 0,.ref 366,.none,.none,.none,.ref 367,.int 702 0,.int 344 0,sv "/claim/cut.py" 703])::
  (nat_lit 369,E0 63 "law_xw0167_01" 591 368 .none)::
  (nat_lit 373,fl "code" #[sv "_law_left_right" 705,sv "_law_left_right" 706,sv "/claim/cut.py" 707,.int 351 0,.int 3 0,.int 0 0,.int 0 0,.int 3 0,.ref 370,.bool true,.int 181 0,.ref 371,.none,.none,.none,.ref 372,.int 708 0,.int 351 0,sv "/claim/cut.py" 709])::
  (nat_lit 374,E0 64 "law_xw0167_01" 591 373 .none)::
  (nat_lit 378,fl "code" #[sv "_law_told_right" 711,sv "_law_told_right" 712,sv "/claim/cut.py" 713,.int 360 0,.int 1 0,.int 0 0,.int 0 0,.int 3 0,.ref 375,.bool true,.int 181 0,.ref 376,.none,.none,.none,.ref 377,.int 714 0,.int 360 0,sv "/claim/cut.py" 715])::
  (nat_lit 379,E0 65 "law_xw0167_01" 591 378 .none)::
  (nat_lit 383,fl "code" #[sv "law" 717,sv "law" 718,sv "/claim/cut.py" 719,.int 381 0,.int 1 0,.int 0 0,.int 0 0,.int 3 0,.ref 380,.bool true,.int 181 0,.ref 381,.none,.none,.none,.ref 382,.int 720 0,.int 381 0,sv "/claim/cut.py" 721])::
  (nat_lit 384,E0 66 "law_xw0167_01" 591 383 .none)::[]
noncomputable def asL:List Addr:=[2,3,20,21,22,29,35,36,38,39,40,43,51,52,55,61,62,68,69,75,76,82,83,89,90,94,95,99,100,106,107,113,114,118,119,125,126,130,131,137,138,142,143,147,148,152,153,159,160,166,167,171,172,176,177,183,184,185,191,192,196,197,203,204,205,209,210,216,217,221,222,226,227,235,236,242,243,245,246,247,248,258,264,265,271,272,274,275,276,277,285,286,292,293,299,300,301,302,303,304,305,306,307,308,309,310,311,312,313,314,320,321,325,326,330,331,335,336,342,343,349,350,356,357,363,364,368,369,373,374,378,379,383,384]
theorem b0j:∀P,asL=(t9 P).map (·.1):=fun P=>by kernel_rfl
noncomputable abbrev hook:Hook:=kmHook t9 asL b0j [376,116]
noncomputable def look(s:Shared):=(openSeen V loose (importedModules P0.main.body) (fun s=>xlAt V [] s&&recOk [] s) true s,hook.obs s)
noncomputable def good(w:World):=(openGood V loose,hook.val w)
noncomputable def endOf(w:World)(s:SharedT):=(a5i treeTable P0 w s.abs.heap.objs.size (s.abs.heap.nsMap mainGlobals "__annotations__") 5246 s (topStub P0)).map fun r=>
  (staticsOk (importedModules P0.main.body) s.abs.heap r.abs.heap&&namesBound P0 r.abs.heap&&gensDone r.abs&&laidKept s.abs.heap r.abs.heap,look r.abs)
theorem c6g(w:World)(os:OsState):endOf (w.withFollow "special-get-raises" false) (b2o (w.withFollow "special-get-raises" false).params os)=some (true,good (w.withFollow "special-get-raises" false)):=by kernel_rfl
theorem c6z(w:World)(os:OsState):endOf (w.withFollow "special-get-raises" true) (b2o (w.withFollow "special-get-raises" true).params os)=some (true,good (w.withFollow "special-get-raises" true)):=by kernel_rfl
theorem c1u(P:Params)(os:OsState):((b2o P os).abs.heap.isNs mainGlobals&&(b2o P os).abs.gens.size==0)=true:=by kernel_rfl
theorem b6n:LeftO P0 V loose (fun s=>xlAt V [] s&&recOk [] s) hook.obs hook.val 5246:=fun w=>by
  have e:=World.withFollow_self w "special-get-raises"
  have key:∀(w:World) (b:Bool) (os:OsState),endOf (w.withFollow "special-get-raises" b) (b2o (w.withFollow "special-get-raises" b).params os)=some (true,good (w.withFollow "special-get-raises" b)):=fun w b os=>by
    cases b
    · exact c6g w os
    · exact c6z w os
  have k:=key w (w.params.followText "special-get-raises")
  rw [e] at k
  obtain ⟨s,hs,hv⟩:=Option.map_eq_some_iff.mp (boot_open (p:=P0) (N:=5246) (by kernel_rfl) (by kernel_rfl) (fun s=>by kernel_rfl) w)
  have h2:=b3b (look:=look) (good:=good w) (k s.os) (c1u _ _)
  rw [boot_abs] at h2
  unfold openEnds
  rw [hs]
  have hs':s=⟨boot_heap w.params,Array.mk [],boot_drawn,boot_toks,s.os⟩:=by
    obtain ⟨h,g,d,t,o⟩:=s
    simp only [Prod.mk.injEq] at hv
    obtain ⟨rfl,rfl,rfl,rfl⟩:=hv
    rfl
  rw [hs']
  exact h2
end
section
open PySem.Calls
open Builtin Builtin.ObjectAttr in
section
variable{prog:Program}{w:World}{A:Around}{E:Value→Shared→Prop}{h:Heap}{g:Array GenState}{d:Drawn}{t:Nat}{os:OsState}{x C:Addr}{K:Frag}{v:Value}{name:Str}
inductive d0w(K:Frag)(C:Addr):Prop
  | mk (cd:ClassData) (hc:clsIn K C=some cd) (h1:cd.hasDict=true) (h2:cd.abstract=false) (h3:cd.hasDel=false) (h4:cd.mro.isEmpty=false) (pass:∀self,refuseLoop self "__setattr__" cd.mro=pure ()) (h5:cd.mro.contains (.ref C)=true) (h6:cd.mro.contains (.type "object")=true)
    (h7:cd.mro.contains (.type "Exception")=true) (h8:cd.mro.contains (.type "BaseException")=true) (h9:cd.mro.contains (.type "AttributeError")=false) (h10:cd.mro.contains (.type "NameError")=false)
structure ExcK(K:Frag)(C fI:Addr):Prop where
  mro:d0w K C
  set:findIn K (.ref C) "__setattr__"=some (some (.builtin "object.__setattr__"))
  msg:findIn K (.ref C) "message"=some none
  spot:findIn K (.ref C) "spot"=some none
  init:findIn K (.ref C) "__init__"=some (some (.ref fI))
  fn:typeIn K (.ref fI)=some (.type "function")
inductive d0s(h:Heap)(x:Addr)(mA:Str→Option Value)(od:Option Addr):Prop
  |none (e:od=none) (k:∀n,mA n=none)
  |some (d:Addr) (e:od=some d) (ne:d≠x) (ns:h.Ns1 d mA)
inductive M1(h:Heap)(x C:Addr)(mA:Str→Option Value):Prop
  |mk (o:Obj) (vs:Array Value) (a0:Value) (hx:h.get? x=some o) (hcl:o.cls= .ref C) (hd:o.data= .fields vs) (h1:vs[1]?=some .none) (h0:vs[0]?=some a0) (sz:vs.size=6) (dict:d0s h x mA o.dict)
theorem b3w{fI:Addr}{mA:Str→Option Value}{h₀:Heap}{Q:Unit→Shared→Prop}(Y:ExcK K C fI)(X₀:K.In h₀)(hn:findIn K (.ref C) name=some none)(I:M1 h x C mA)(hx0:h₀.get? x=none)(hd:∀o dx,h.get? x=some o→o.dict=some dx→h₀.get? dx=none)(hk:∀b o,h₀.get? b=some o→h.get? b=some o)
    (hq:∀h' tk',M1 h' x C (fun y=>if y=name then some v else mA y)→(∀b o,h₀.get? b=some o→h'.get? b=some o)→(∀o dx,h'.get? x=some o→o.dict=some dx→h₀.get? dx=none)→Q () ⟨h',g,d,tk',os⟩)
    {ns:List Str} (hw:Within mA ns) (hsz:ns.length≤sizeLine):wpAny (model prog w) A (setAttr (.ref x) name v) Q E ⟨h,g,d,t,os⟩:=by
  have X:K.In h:=X₀.keeps hk
  obtain ⟨cd,hc,e1,e2,e3,e4,pass,e5,e6,_⟩:=Y.mro
  obtain ⟨o,vs,a0,hx,hcl,hdt,hv1,hv0,hsz6,hdd⟩:=I
  have L0:Looks (model prog w) h (typeOf (.ref x)) (.ref C):=hcl▸(Looks.ld hx).andThen .now
  have L1:=looks_findIn (M:=model prog w) X Y.set
  have L2:Looks (model prog w) h (mroOf (.ref C)) cd.mro:=(looks_clsIn X hc).andThen .now
  have L3:=looks_findIn (M:=model prog w) X hn
  have L4:Looks (model prog w) h (isInstance (.ref x) (.type "object")) true:=L0.andThen (looks_mroIn X (by unfold mroIn;exact b8 (hc ..) (b8 (Option.bind_some ..) (b8 (if_neg (by rw [e4];decide) ..) (b8 (e6 ..) rfl)))))
  have f3:=PySem.F.store_object.slot.bind (.ref x)
  unfold setAttr callSpecial? specialOf
  refine wpAny_bind (wpAny_mkText (wpAny_bind (wpAny_bind (wpAny_bind (L0.at (L1.at (wpAny_holding ?_)))))))
  refine b8 (f3 ..) ?_
  refine wpAny_bind (wpAny_pure (wpAny_bind (wpAny_call ?_)))
  have SF:=PySem.F.store_object
  refine codeAny_call_builtin SF.slot.plain SF.entry (@check_slot (model prog w) _ _ ⟨h,g,d,t+1,os⟩ "object.__setattr__" "object" "__setattr__" (.ref x) [.str name t,v] [] _ SF.kind SF.split L4 (SF.args (.ref x) (.str name t) v) ?_)
  refine b8 (show ([Value.ref x]++[Value.str name (⟨h,g,d,t,os⟩:Shared).toks,v]:List Value)=[.ref x,.str name t,v] from rfl ..) (b8 (osa_eq ..) (b8 (refuse_eq ..) ?_))
  refine wpAny_bind (wpAny_bind (L0.here (wpAny_bind (L2.here ?_))))
  refine b8 (pass ..) ?_
  refine wpAny_pure (wpAny_bind (L0.here (wpAny_bind (L3.here (wpAny_bind (wpAny_pure ?_))))))
  dsimp only
  have fin:∀(h':Heap) (tk:Nat),M1 h' x C (fun y=>if y=name then some v else mA y)→(∀b o,h₀.get? b=some o→h'.get? b=some o)→(∀o dx,h'.get? x=some o→o.dict=some dx→h₀.get? dx=none)→Q () ⟨h',g,d,tk,os⟩:=hq
  unfold storeInOwnDict ownDictForStores instanceDict
  refine wpAny_bind (wpAny_pure ?_)
  dsimp only
  refine wpAny_bind (wpAny_bind (wpAny_loadPart hx ?_))
  refine b8 (hcl ..) ?_
  refine wpAny_bind (((looks_clsIn X hc)).here ?_)
  refine b8 (e1 ..) ?_
  refine b8 (if_neg (show¬((!true)=true) from Bool.false_ne_true) ..) ?_
  rcases hdd with ⟨hdn,hmA⟩|⟨dx,hdx,hne,hns⟩
  · refine b8 (hdn ..) ?_
    dsimp only
    refine b8 (if_neg (show¬((!true||!typeHasDict (Value.ref C))=true) from Bool.false_ne_true) ..) (b8 (hdt ..) ?_)
    dsimp only
    have hx1:(h.push {cls:= .type "dict",data:= .dict #[]}).get? x=some o:=Heap.get?_push_of_some _ hx
    have hxs:x≠h.objs.size:=Nat.ne_of_lt (Heap.lt_size hx)
    refine wpAny_bind (wpAny_alloc' ?_)
    refine wpAny_bind (wpAny_update' hx1 ?_)
    refine wpAny_pure ?_
    generalize hh2:((h.push {cls:= .type "dict",data:= .dict #[]}).update x fun o=> {cls:=o.cls,dict:=some h.objs.size,data:=o.data,slots:=o.slots})=h₂
    have hgd:h₂.get? h.objs.size=some {cls:= .type "dict",data:= .dict #[]} :=hh2▸(Heap.get?_update_ne _ _ _ _ hxs.symm).trans (Heap.get?_push_at rfl rfl)
    have hx2:h₂.get? x=some {cls:=o.cls,dict:=some h.objs.size,data:=o.data,slots:=o.slots} :=hh2▸Heap.get?_update_self _ hx1 (Obj.isFreed_of_fields hdt)
    have hk2a:∀b o,h₀.get? b=some o→h₂.get? b=some o:=fun b ob hb=>hh2▸(Heap.get?_update_ne _ _ _ _ fun q=>g7 q hx0 hb).trans (Heap.get?_push_of_some _ (hk b ob hb))
    have hnd:h₂.Ns h.objs.size (fun O=>none):=⟨_,#[],_,hgd,rfl,fun e he=>absurd he (by simp),fun O=>rfl⟩
    have hsn:h₀.get? h.objs.size=none:=by
      exact isNone fun o q=>by exact absurd (Heap.lt_size (hk _ _ q)) (Nat.lt_irrefl _)
    show wpAny _ _ (storeInDict h.objs.size (.str name t) name v) _ _ _
    unfold storeInDict newKeyGuard
    refine wpAny_bind (wpAny_pure (wpAny_bind (wpAny_nsSet1 (Heap.Ns1.of_empty hnd) fun h' hn' hs=>?_)))
    obtain ⟨oD,esD,epD,hoD,hdD,hcD⟩:=hn'.count (Within.cons name v Within.nil)
    refine wpAny_bind (wpAny_lookBehind hoD (by refine b8 (hdD ..) ?_;exact pastItsLine_dict (Nat.le_trans hcD (by refine b8 (List.length_cons ..) (b8 (List.length_nil ..) (b8 (sizeLine_eq ..) ?_));exact Nat.le_add_left _ _))) ?_)
    wp_walk
    have hx':h'.get? x=some {cls:=o.cls,dict:=some h.objs.size,data:=o.data,slots:=o.slots} :=(hs.2 x hxs).trans hx2
    refine fin h' _ ⟨_,vs,a0,hx',hcl,hdt,hv1,hv0,hsz6,.some _ rfl hxs.symm ?_⟩ (fun b ob hb=>(hs.2 b fun q=>g7 q hsn hb).trans (hk2a b ob hb)) fun o dx e1 e2=>by rw [hx'] at e1;cases e1;cases e2;exact hsn
    obtain ⟨o',es,ep,e1,e2,e3,eu,e4⟩:=hn'
    exact ⟨o',es,ep,e1,e2,e3,eu,fun y=>by refine b8 (e4 y ..) ?_;by_cases hy:y=name <;> simp [hy,hmA]⟩
  · refine b8 (hdx ..) ?_
    refine wpAny_pure ?_
    show wpAny _ _ (storeInDict dx (.str name t) name v) _ _ _
    unfold storeInDict newKeyGuard
    refine wpAny_bind (wpAny_pure (wpAny_bind (wpAny_nsSet1 hns fun h' hn' hs=>?_)))
    obtain ⟨oD,esD,epD,hoD,hdD,hcD⟩:=hn'.count (Within.cons name v hw)
    refine wpAny_bind (wpAny_lookBehind hoD (by refine b8 (hdD ..) ?_;exact pastItsLine_dict (Nat.le_trans hcD (by refine b8 (List.length_cons ..) ?_;exact Nat.lt_succ_of_le (by assumption)))) ?_)
    wp_walk
    have hx':h'.get? x=some o:=(hs.2 x hne.symm).trans hx
    exact fin h' _ ⟨o,vs,a0,hx',hcl,hdt,hv1,hv0,hsz6,.some dx hdx hne hn'⟩ (fun b ob hb=>(hs.2 b fun q=>g7 q (hd o dx hx hdx) hb).trans (hk b ob hb)) fun o₂ d2a e1 e2=>by rw [hx'] at e1;cases e1;rw [hdx] at e2;cases e2;exact hd o dx hx hdx
end
end
section
open PySem.Calls
open Builtin Builtin.ObjectAttr
section
variable{prog:Program}{w:World}{A:Around}{E:Value→Shared→Prop}{h:Heap}{g:Array GenState}{d:Drawn}{t:Nat}{os:OsState}{x C:Addr}{K:Frag}{v:Value}{name:Str}
theorem M1.type{M:Model}{mA:Str→Option Value}(I:M1 h x C mA):Looks M h (typeOf (.ref x)) (.ref C):=by
  obtain ⟨o,vs,a0,hx,hcl,_⟩:=I
  exact hcl▸(Looks.ld hx).andThen .now
theorem c6k{cd:ClassData}(X:K.In h)(hc:clsIn K C=some cd):∃oc od sl,h.get? C=some ⟨oc,od,.cls cd,sl⟩:=by
  cases e:K.lookup C with
  |none=>delta clsIn at hc;rw [e] at hc;exact l8 hc
  | some o=>
    obtain ⟨oc,od,dt,sl⟩:=o
    delta clsIn at hc;rw [e] at hc
    have q:dt= .cls cd:=by clear e;cases dt <;> first|exact congrArg Data.cls (Option.some.inj hc)|exact l8 hc
    exact ⟨_,_,_,q▸X _ _ e⟩
theorem b1x:∀ {A:Around} {E:Value→Shared→Prop} {h:Heap} {g:Array GenState} {d:Drawn} {t:Nat} {os:OsState} {x C:Addr} {M:Model} {rest:List Value} {o:Obj} {oc:Value} {od:Option Addr} {sl:Array (Option Value)} {cd:ClassData} {Q:Unit→Shared→Prop} (hx:h.get? x=some o) (hcl:o.cls= .ref C) (hC:h.get? C=some ⟨oc,od,.cls cd,sl⟩) (hmro:cd.mro.isEmpty=false) (L:Looks M h (isSubtype (.ref C) (.type "Exception")) true) (hq:Q () ⟨h,g,d,t,os⟩),
    wpAny M A (checkBuiltinCall "Exception.__init__" ⟨.ref x::rest,[]⟩) Q E ⟨h,g,d,t,os⟩:=no_implicit_lambda% (by
  delta checkBuiltinCall
  refine b8 PySem.F.excBase_Exception.initKind (b8 PySem.F.excBase_Exception.initSplit (b8 PySem.F.excBase_Exception.initRow ?_))
  intro A E h g d t os x C M rest o oc od sl cd Q hx hcl hC hmro L hq
  have hshort:=PySem.F.excBase_Exception.noStar
  repeat (first|(with_reducible refine wpAny_loadPart_at hx ?_;rw [hcl])|with_reducible refine wpAny_loadPart_at hC ?_|with_reducible refine L.at ?_|wp_step)
  refine wpAny_onRaise ?_
  rw [show∀(a b:String) (n:Nat),Bind.check ⟨.positional,"*","Exception",.self,[⟨"args",.varPos,false⟩]⟩ a b n (List.map (fun x=>x.fst) ({pos:=Value.ref x::rest} :Args).kw)=pure () from
    fun a b n=>check_star_args _ _ _ _ _ _]
  exact wpAny_pure hq)
theorem init_exc{fI:Addr}{mA:Str→Option Value}{h₀:Heap}{Q:Value→Shared→Prop}(Y:ExcK K C fI)(X₀:K.In h₀)(I:M1 h x C mA)(hx0:h₀.get? x=none)(hd:∀o,h.get? x=some o→o.dict=none)(hk:∀b o,h₀.get? b=some o→h.get? b=some o)
    (hq:∀h',M1 h' x C (fun O=>none)→(∀b o,h₀.get? b=some o→h'.get? b=some o)→(∀o,h'.get? x=some o→o.dict=none)→Q .none ⟨h',g,d,t,os⟩):wpAny (model prog w) A (call (.builtin "Exception.__init__") [.ref x,v]) Q E ⟨h,g,d,t,os⟩:=by
  have X:K.In h:=X₀.keeps hk
  obtain ⟨cd,hc,e1,e2,e3,e4,pass,e5,e6,e7,_⟩:=Y.mro
  have L4:Looks (model prog w) h (isInstance (.ref x) (.type "Exception")) true:=I.type.andThen (looks_mroIn X (by unfold mroIn;exact b8 (hc ..) (b8 (Option.bind_some ..) (b8 (if_neg (by rw [e4];decide) ..) (b8 (e7 ..) rfl)))))
  obtain ⟨o,vs,a0,hx,hcl,hdt,hv1,hv0,hsz6,hdd⟩:=I
  obtain ⟨oc,od,sl,hC⟩:=c6k X hc
  have L4':Looks (model prog w) h (isSubtype (.ref C) (.type "Exception")) true:=looks_mroIn X (by unfold mroIn;exact b8 (hc ..) (b8 (Option.bind_some ..) (b8 (if_neg (by rw [e4];decide) ..) (b8 (e7 ..) rfl))))
  have F:=PySem.F.excBase_Exception
  refine wpAny_call (codeAny_call_builtin F.init.plain F.initEntry (b1x hx hcl hC e4 L4' ?_))
  unfold Builtin.«BaseException.__init__»
  wp_walk
  refine b8 (hdt ..) ?_
  refine wpAny_pure ?_
  refine b8 (hv0 ..) ?_
  refine wpAny_pure ?_
  have hx1:(h.push {cls:= .type "tuple",data:= .seq #[v]}).get? x=some o:=Heap.get?_push_of_some _ hx
  refine wpAny_bind (wpAny_setField hx1 hdt (by lia) ?_)
  generalize hh2:((h.push {cls:= .type "tuple",data:= .seq #[v]}).update x (Obj.mapFields (·.setIfInBounds 0 (.ref h.objs.size))))=h₂
  have hx2:h₂.get? x=some (Obj.mapFields (·.setIfInBounds 0 (.ref h.objs.size)) o):=hh2▸Heap.get?_update_self _ hx1 (Obj.isFreed_of_fields (Obj.data_mapFields hdt _))
  have hk2a:∀b o,h₀.get? b=some o→h₂.get? b=some o:=fun b ob hb=>hh2▸(Heap.get?_update_ne _ _ _ _ fun q=>g7 q hx0 hb).trans (Heap.get?_push_of_some _ (hk b ob hb))
  have hdn:=hd o hx
  have hmd:∀f,(Obj.mapFields f o).dict=none:=fun f=>by clear hx hcl hdt hdd hx1 hx2;obtain ⟨_,_,odt,_⟩:=o;cases odt <;> exact hdn
  have fin:Q .none ⟨h₂,g,d,t,os⟩:=hq h₂ ⟨_,_,.ref h.objs.size,hx2,(Obj.cls_mapFields _ _).trans hcl,Obj.data_mapFields hdt _,by refine b8 (Array.getElem?_setIfInBounds_ne (by decide) ..) ?_;exact hv1,by simp [hsz6],by simp [hsz6],.none (hmd _) fun O=>rfl⟩ hk2a
    fun o' e=>by rw [hx2] at e;cases e;exact hmd _
  clear hv0;cases a0 <;> first
    |exact wpAny_pure (wpAny_pure fin)
    |exact wpAny_letGo (wpAny_pure fin)
theorem b2e{s:Shared}{pl:Sem Bool}{Q:Value×List Value→Shared→Prop}(h:Q (.builtin "Exception.__init__",[]) {s with toks:=s.toks+1}):wpAny (model prog w) A (getMethod (.type "Exception") "__init__" pl) Q E s:=by
  have X:Frag.In [] s.heap:=fun O O e=>by cases e
  have t1:Looks (model prog w) s.heap (typeOf (.type "Exception")) (.type "type"):=Looks.of_pure (by kernel_rfl)
  unfold getMethod
  refine wpAny_bind ((t1.andThen (looks_findIn X (t:= .type "type") (name:="__getattribute__") (r:=some (.builtin "type.__getattribute__")) (by kernel_rfl))).here ?_)
  dsimp only
  refine b8 (if_pos canon_tga ..) ?_
  refine wpAny_bind (cls_open X (hook:=none) (Looks.of_pure (by kernel_rfl)) t1 (by kernel_rfl) (Looks.of_pure (by kernel_rfl)) (by kernel_rfl) (r:= .val (.builtin "Exception.__init__")) (by kernel_rfl) (wpAny_pure ?_))
  show wpAny _ _ (handedOut _) _ _ _
  refine b8 (handedOut_of (by kernel_rfl) ..) ?_
  exact wpAny_pure (wpAny_pure h)
noncomputable def a4h:List Stmt:=
  [.Expr (.Call (.Attribute (.Name "Exception" ⟨8,8,8,17⟩) "__init__" ⟨8,8,8,26⟩) [.Name "self" ⟨8,27,8,31⟩,.Name "message" ⟨8,33,8,40⟩] [] ⟨8,8,8,41⟩) ⟨8,8,8,41⟩,.Assign [.Attribute (.Name "self" ⟨9,8,9,12⟩) "message" ⟨9,8,9,20⟩] (.Name "message" ⟨9,23,9,30⟩) ⟨9,8,9,30⟩,.Assign [.Attribute (.Name "self" ⟨10,8,10,12⟩) "spot" ⟨10,8,10,17⟩] (.Name "spot" ⟨10,20,10,24⟩) ⟨10,8,10,24⟩]
theorem b6p{env:Env}{fI:Addr}{m mg mb mA:Str→Option Value}{u:Value}{h₀:Heap}{Q:Flow→Shared→Prop}(Y:ExcK K C fI)(X₀:K.In h₀)
    (hk:env.scope.kind= .function) (k1:env.kindOf "self"=some .local) (k2:env.kindOf "message"=some .local) (k3:env.kindOf "spot"=some .local) (k4:env.kindOf "Exception"=some .globalImplicit)
    (hL:h₀.Ns env.locals m) (m1:m "self"=some (.ref x)) (m2:m "message"=some v) (m3:m "spot"=some u) (hg:h₀.Ns env.globals mg) (hb:h₀.Ns env.builtins mb) (hm:mg "Exception"=none) (hmb:mb "Exception"=some (.type "Exception"))
    (I:M1 h x C mA) (hx0:h₀.get? x=none) (hd:∀o,h.get? x=some o→o.dict=none) (hk0:∀b o,h₀.get? b=some o→h.get? b=some o)
    (hq:∀h' tk mA',M1 h' x C mA'→(∀b o,h₀.get? b=some o→h'.get? b=some o)→Q .next ⟨h',g,d,tk,os⟩):
    wpAny (model prog w) A (execs a4h env) Q E ⟨h,g,d,t,os⟩:=by
  have loc:∀ {s:Shared} {y:Str} {z:Value} {p:Pos} {Q:Value→Shared→Prop},(∀b o,h₀.get? b=some o→s.heap.get? b=some o)→env.kindOf y=some .local→m y=some z→(y==("__debug__":Str))=false→Q z s→wpAny (model prog w) A (eval (.Name y p) env) Q E s:=
    fun hk' ky my hy q=>wpAny_Name (wpAny_loadName_local hk ky (hL.keeps hk') my q) hy
  unfold a4h
  refine wpAny_execs_cons (wpAny_Expr_any ?_ (by unfold interactive;refine b8 (hk ..) ?_;rfl) rfl)
  refine MethodCall_ (pl:=?pl) (Name_function_global hk k4 (loadGlobal_builtin (mg:=mg) (mb:=mb) (hg.keeps hk0) hm (hb.keeps hk0) hmb ?_)) ?he
  case he=>rfl
  refine b2e (s:=⟨h,g,d,t,os⟩) (callWith_builtin rfl ?_)
  refine evalArgs_plain (spliced_cons (loc hk0 k1 m1 (by decide) (spliced_cons (loc hk0 k2 m2 (by decide) (spliced_nil ?_)))))
  refine init_exc Y X₀ I hx0 hd hk0 fun h₁ I1 hk1a hd1a=>?_
  refine wpAny_execs_cons (plainObj_wpAny_Assign_Attribute (loc hk1a k2 m2 (by decide) (loc hk1a k1 m1 (by decide) ?_)) rfl)
  refine b3w Y X₀ Y.msg I1 hx0 (fun o dx e e2=>n9 (hd1a o e) e2) hk1a (fun h₂ tk2 I2 hk2a hd2a=>?_) (ns:=[]) (fun y hy=>by simp at hy) (by size_fits)
  refine wpAny_execs_cons (plainObj_wpAny_Assign_Attribute (loc hk2a k3 m3 (by decide) (loc hk2a k1 m1 (by decide) ?_)) rfl)
  refine b3w Y X₀ Y.spot I2 hx0 hd2a hk2a (fun h₃ tk3 I3 hk3 hd3=>wpAny_execs_nil (hq _ _ _ I3 hk3)) (ns:=["message"]) (fun y hy=>by by_cases e:y="message" <;> simp [e] at hy ⊢) (by size_fits)
end
end
section
open PySem.Calls
open Builtin Builtin.ObjectAttr
section
variable{prog:Program}{w:World}{A:Around}{E:Value→Shared→Prop}{h:Heap}{g:Array GenState}{d:Drawn}{t:Nat}{os:OsState}{x C:Addr}{K:Frag}{v:Value}{name:Str}
variable{nm q:Str}{N:Addr}{bs bm:List Value}{sn:List Str}{sub:List Value}{col:Option Bool}{dd:Option Addr}{k0 k1 k2 k3 k5:Option Value}
noncomputable abbrev b9f (nm q:Str) (C N:Addr) (bs bm:List Value) (sn:List Str) (sub:List Value) (col:Option Bool) (dd:Option Addr) (k0 k1 k2 k3 k5:Option Value):Obj:=excClassObj nm q C N bs bm true sn sub false col dd k0 k1 k2 k3 k5 "Exception.__new__"
theorem b5a:∀ {A:Around} {E:Value→Shared→Prop} {h:Heap} {g:Array GenState} {d:Drawn} {t:Nat} {os:OsState} {C:Addr} {nm q:Str} {N:Addr} {bs bm:List Value} {sn:List Str} {sub:List Value} {col:Option Bool} {dd:Option Addr} {k0 k1 k2 k3 k5:Option Value} {M:Model} {rest:List Value} {Q:Unit→Shared→Prop} (hC:h.get? C=some (b9f nm q C N bs bm sn sub col dd k0 k1 k2 k3 k5)) (hB:bm.contains (.type "Exception")=true)
    (hq:Q () ⟨h,g,d,t,os⟩),wpAny M A (checkBuiltinCall "Exception.__new__" ⟨.ref C::rest,[]⟩) Q E ⟨h,g,d,t,os⟩:=no_implicit_lambda% (by
  delta checkBuiltinCall
  refine b8 PySem.F.excBase_Exception.newKind (b8 PySem.F.excBase_Exception.newSplit (b8 PySem.F.excBase_Exception.newRow ?_))
  intro A E h g d t os C nm q N bs bm sn sub col dd k0 k1 k2 k3 k5 M rest Q hC hB hq
  have F:=PySem.F.excBase_Exception
  have hcont:(Value.ref C::bm).contains (.type "Exception")=true:=by rw [List.contains_cons,hB,Bool.or_true]
  have hstar:=F.noStar
  repeat (first|refine wpAny_loadPart_at hC ?_|(refine wpAny_isSubtype_exc hC ?_;rw [hcont])|refine wpAny_staticBase_exc hC ?_|refine wpAny_madeBy_exc hC ?_|wp_step)
  exact hq)
theorem new_exc{R:Result→Shared→Prop}{rest:List Value}(hC:h.get? C=some (b9f nm q C N bs bm sn sub col dd k0 k1 k2 k3 k5))(hB:bm.contains (.type "Exception")=true)(hAt:bm.contains (.type "AttributeError")=false)(hNa:bm.contains (.type "NameError")=false)
    (hq:R (.ok (.ret (.ref (h.objs.size+1)))) ⟨(h.push {cls:= .type "tuple",data:= .seq rest.toArray}).push
      {cls:= .ref C,data:= .fields #[.ref h.objs.size,.none,.none,.none,.bool false,.none]},g,d,t,os⟩) (hrest:rest.length≤sizeLine:=by size_fits):
    codeAny (model prog w) A (.builtin "Exception.__new__" ⟨.ref C::rest,[]⟩) R ⟨h,g,d,t,os⟩:=by
  have F:=PySem.F.excBase_Exception
  have hends:=F.ends
  have hcB:(Value.ref C::bm).contains (.type "Exception")=true:=by rw [List.contains_cons,hB,Bool.or_true]
  have hcA:(Value.ref C::bm).contains (.type "AttributeError")=false:=by rw [List.contains_cons,hAt];rfl
  have hcN:(Value.ref C::bm).contains (.type "NameError")=false:=by rw [List.contains_cons,hNa];rfl
  refine codeAny_builtinAt F.entry ?_
  unfold Builtin.«BaseException.__new__»
  refine PySem.wpAt_bind ?_
  show PySem.wpAt _ _ _ (stack>>=_) _ _ _
  refine PySem.wpAt_bind (PySem.wpAt_stack fun p below=>PySem.wpAt_of_wpAny ?_)
  wp_walk
  refine PySem.wpAt_of_wpAny ?_
  rw [F.owner]
  repeat (first|with_reducible refine wpAny_madeHere_exc F.canon hC ?_|with_reducible refine wpAny_loadPart_at hC ?_|(with_reducible refine wpAny_isSubtype_exc hC ?_;first|rw [hcB]|rw [hcA]|rw [hcN])|wp_step)
  show R _ _
  rw [Heap.size_push]
  exact hq
theorem call_exc{fI:Addr}{R:Result→Shared→Prop}{rest:List Value}(Y:ExcK K C fI)(X:K.In h)(hCK:K.lookup C=some (b9f nm q C N bs bm sn sub col dd k0 k1 k2 k3 k5))(hca:specialIn K (.ref C) "__call__"=some (some (.builtin "type.__call__")))(hty:instIn K (.ref C) (.type "type")=some true)
    (hB:bm.contains (.type "Exception")=true) (hAt:bm.contains (.type "AttributeError")=false) (hNa:bm.contains (.type "NameError")=false)
    (hq:∀x h',(∀b o,h.get? b=some o→h'.get? b=some o)→h.get? x=none→M1 h' x C (fun O=>none)→(∀o,h'.get? x=some o→o.dict=none)→codeAny (model prog w) (A.under (.builtin "type.__call__" ⟨.ref C::rest,[]⟩)) (.call (.ref fI) ⟨.ref x::rest,[]⟩) (InitBack x R) ⟨h',g,d,t,os⟩) (hrest:rest.length≤sizeLine:=by size_fits):
    codeAny (model prog w) A (.call (.ref C) ⟨rest,[]⟩) R ⟨h,g,d,t,os⟩:=by
  have hC:=X _ _ hCK
  have call:Looks (model prog w) h (specialOf (.ref C) "__call__") (some (.builtin "type.__call__")):=looks_specialIn X hca
  have typ:Looks (model prog w) h (isInstance (.ref C) (.type "type")) true:=looks_instIn X hty
  have hi:Looks (model prog w) h (typeLookup (.ref C) "__init__") (some (.ref fI)):=looks_findIn X Y.init
  have self:Looks (model prog w) h (isSubtype (.ref C) (.ref C)) true:=fun A Q E s k qq=>by
    obtain ⟨hh,gg,ddd,tt,oo⟩:=s
    refine wpAny_isSubtype_exc (k _ _ hC) ?_
    rw [show (Value.ref C::bm).contains (.ref C)=true from by simp]
    exact qq
  refine codeAny_of_tree ?_
  show wpAny _ _ (callAny (.ref C) _) _ _ _
  refine nd_load hC ?_
  show wpAny _ _ (callAny.viaDunder (.ref C) _) _ _ _
  unfold callAny.viaDunder
  refine wpAny_bind (call.at ?_)
  dsimp only
  rw [tc_bind]
  refine wpAny_bind (wpAny_pure (wpAny_bind (wpAny_pure ?_)))
  refine wpAny_pure (a:=Fin.again (.call (.builtin "type.__call__") ⟨.ref C::rest,[]⟩)) (And.intro rfl ?_)
  refine codeAny_call_builtin_at (Code.quiet_builtin _ (by decide+kernel)) entry_typeCall (check_slot tc_kind tc_split typ (tc_args _ _ _) ?_)
  have F:=PySem.F.excBase_Exception
  repeat (first|with_reducible refine wpAny_loadPart_at hC ?_|with_reducible refine wpAny_madeBy_exc hC ?_|wp_step)
  refine codeAny_call_builtin_code (Code.quiet_builtin _ F.quiet) (b5a hC hB ?_)
  refine new_exc hC hB hAt hNa ?_ hrest
  show wpAny _ _ _ _ _ _
  generalize hh1:((h.push {cls:= .type "tuple",data:= .seq rest.toArray}).push {cls:= .ref C,data:= .fields #[.ref h.objs.size,.none,.none,.none,.bool false,.none]})=h₁
  have k:∀b o,h.get? b=some o→h₁.get? b=some o:=fun b o e=>hh1▸Heap.get?_push_of_some _ (Heap.get?_push_of_some _ e)
  have hget:h₁.get? (h.objs.size+1)=some {cls:= .ref C,data:= .fields #[.ref h.objs.size,.none,.none,.none,.bool false,.none]} :=by rw [← hh1];heap_get
  have t1:Looks (model prog w) h₁ (typeOf (.ref (h.objs.size+1))) (.ref C):=(Looks.ld hget).andThen .now
  have s1:=self.keeps k
  have i1:=hi.keeps k
  have b1:=(bind_fn (M:=model prog w) X (.ref (h.objs.size+1)) Y.fn).keeps k
  unfold isInstance callSpecial? specialOf
  repeat (first|with_reducible refine wpAny_call ?_|lk)
  refine codeAny_mono (hq (h.objs.size+1) h₁ k (Heap.get?_none_of_le (Nat.le_succ _)) ⟨_,_,.ref h.objs.size,hget,rfl,rfl,rfl,rfl,rfl,.none rfl fun O=>rfl⟩ fun o e=>by rw [hget] at e;cases e;rfl) fun r s' z=>?_
  rcases r with e|(v|_|_|_) <;> first|exact z|exact z.elim|skip
  obtain ⟨rfl,z⟩:=z
  exact wpAny_pure (wpAny_pure z)
end
end
section
open PySem.Calls
open Builtin Builtin.ObjectAttr
inductive c8t(K:Frag)(C:Addr):Prop
  |mk nm q N bs bm sn sub col dd k0 k1 k2 k3 k5 (h:K.lookup C=some (b9f nm q C N bs bm sn sub col dd k0 k1 k2 k3 k5)) (h1:bm.contains (.type "Exception")=true) (h2:bm.contains (.type "AttributeError")=false) (h3:bm.contains (.type "NameError")=false)
inductive c7c(K:Frag)(fd:FuncData):Prop
  |mk (T:Addr) (ot:Obj) (it:Array Value) (n:Nat) (u:Value) (h:fd.defaults= .ref T) (h1:K.lookup T=some ot) (h2:ot.data= .seq it n) (h3:∀(s:Shared) x v,s.heap.get? T=some ot→BindsTo s fd ⟨[x,v],[]⟩ [("self",x),("message",v),("spot",u)])
structure c6v(K:Frag)(C fI:Addr)(fd:FuncData):Prop extends ExcK K C fI where
  obj:c8t K C
  call:specialIn K (.ref C) "__call__"=some (some (.builtin "type.__call__"))
  typ:instIn K (.ref C) (.type "type")=some true
  c5z:∃of,K.lookup fI=some of∧of.data= .func fd
  code:∃c oc vs tq,fd.code= .ref c∧K.lookup c=some oc∧oc.data= .fields vs∧vs[1]?=some (.str fd.qualname tq)
  body:fd.body= .stmts a4h
  dflt:c7c K fd
  gl:fd.globals=mainGlobals
  bl:fd.builtins=builtinsNs
  sc:fd.scope= {kind:= .function,names:=[("self",.local),("message",.local),("spot",.local),("Exception",.globalImplicit)],isGenerator:=false,isCoroutine:=false}
section
variable{prog:Program}{w:World}{A:Around}{E:Value→Shared→Prop}{h:Heap}{g:Array GenState}{d:Drawn}{t:Nat}{os:OsState}{x C:Addr}{K:Frag}{v:Value}{name:Str}{fI:Addr}{fd:FuncData}{mg mb:Str→Option Value}
theorem b1z{R:Result→Shared→Prop}(P:c6v K C fI fd)(X:K.In h)(hg:h.Ns mainGlobals mg)(hb:h.Ns builtinsNs mb)(hm:mg "Exception"=none)(hmb:mb "Exception"=some (.type "Exception"))(hlim:h.NoLimit)(hroom:A.depth+2<recursionLimit)
    (hq:∀x h' tk mA,(∀b o,h.get? b=some o→h'.get? b=some o)→h.get? x=none→M1 h' x C mA→R (.ok (.ret (.ref x))) ⟨h',g,d,tk,os⟩):codeAny (model prog w) A (.call (.ref C) ⟨[v],[]⟩) R ⟨h,g,d,t,os⟩:=by
  obtain ⟨nm,q,N,bs,bm,sn,sub,col,dd,k0,k1,k2,k3,k5,hC,b1,b2,b3⟩:=P.obj
  refine call_exc (rest:=[v]) P.toExcK X hC P.call P.typ b1 b2 b3 fun x h₁ hk1a hx I1 hd1a=>?_
  have hw:(Code.builtin "type.__call__" ⟨.ref C::[v],[]⟩).weight=1:=by kernel_rfl
  obtain ⟨of,f1,f2⟩:=P.c5z
  obtain ⟨c,oc,us,tq,c1,c2,c3,c4⟩:=P.code
  obtain ⟨T,ot,it,n,u,d1,d2,d3,d4⟩:=P.dflt
  have X1a:K.In h₁:=X.keeps hk1a
  refine codeAny_call_def (body:=a4h) (binds:=[("self",.ref x),("message",v),("spot",u)]) (by show A.depth+(Code.builtin "type.__call__" ⟨.ref C::[v],[]⟩).weight<_;refine b8 (hw ..) ?_;exact Nat.le_of_lt (by assumption)) (X1a _ _ f1) f2 (hlim.keeps hk1a) ⟨c,oc,us,tq,c1,X1a _ _ c2,c3,c4⟩ P.body (d4 _ _ _ (X1a _ _ d2)) (by refine b8 (P.sc ..) ?_;decide) (by refine b8 (P.sc ..) ?_;intro y hy;simp at hy;rcases hy with rfl|rfl|rfl <;> rfl) (fun h₂ hns hk2a=>?_) (by exact b8 (P.sc ..) rfl) (by exact b8 (P.sc ..) rfl) (by exact b8 (P.sc ..) rfl)
  have hx1:h₁.get? h₁.objs.size=none:=by
    exact isNone fun o e=>by exact absurd (Heap.lt_size e) (Nat.lt_irrefl _)
  have hxL:x≠h₁.objs.size:=fun e=>by obtain ⟨o,_,_,ho,_⟩:=I1;exact g7 e hx1 ho
  have hk:∀b o,h.get? b=some o→h₂.get? b=some o:=fun b o e=>hk2a b o (hk1a b o e)
  have hh:∀b o,h.get? b=some o→(hideAll h₂ [x]).get? b=some o:=fun b o e=>hideAll_get _ (hk b o e) fun hm=>g7 (List.mem_singleton.mp hm) hx e
  have hin:∀b,b∈[x]→b=x:=fun b hb=>List.mem_singleton.mp hb
  obtain ⟨o₁,vs1,a1a,z1,z2,z3,z4,z5,z6,z7⟩:=I1
  have I2:M1 h₂ x C (fun O=>none):=⟨o₁,vs1,a1a,hk2a _ _ z1,z2,z3,z4,z5,z6,.none (hd1a _ z1) fun O=>rfl⟩
  have hns':(hideAll h₂ [x]).Ns h₁.objs.size (fun y=>([("self",Value.ref x),("message",v),("spot",u)]:List (Str×Value)).reverse.lookup y):=hns.at' fun o e=>hideAll_get _ e fun hm=>hxL (hin _ hm).symm
  have kd:∀y k,([("self",NameKind.local),("message",.local),("spot",.local),("Exception",.globalImplicit)]:List (Str×NameKind)).lookup y=some k→(callEnv fd h₁.objs.size fI).kindOf y=some k:=fun y k e=>by
    show fd.scope.names.lookup y=_;refine b8 (P.sc ..) ?_;exact e
  refine b6p (C:=C) (K:=K) (fI:=fI) P.toExcK (X.keeps hh) (by show fd.scope.kind=_;exact b8 (P.sc ..) rfl) (kd _ _ rfl) (kd _ _ rfl) (kd _ _ rfl) (kd _ _ rfl) hns' (by rfl) (by rfl) (by rfl) (by show Heap.Ns _ fd.globals mg;refine b8 (P.gl ..) ?_;exact hg.keeps hh) (by show Heap.Ns _ fd.builtins mb;refine b8 (P.bl ..) ?_;exact hb.keeps hh) hm hmb I2 (hideAll_none _ (.head _)) (fun o e=>by rw [hk2a _ _ z1] at e;cases e;exact hd1a _ z1) (fun b o e=>of_hideAll _ e) fun h' tk mA' I' hk'=>?_
  exact ⟨rfl,hq x h' tk mA' (fun b o e=>hk' b o (hh b o e)) hx I'⟩
end
end
section
open PySem.Calls
open Builtin Builtin.ObjectAttr
structure InsK(K:Frag)(C:Addr):Prop where
  mro:∃cd,clsIn K C=some cd∧cd.hasDict=true∧cd.mro.isEmpty=false∧(∀self,refuseLoop self "__setattr__" cd.mro=pure ())∧cd.mro.contains (.type "object")=true
  set:findIn K (.ref C) "__setattr__"=some (some (.builtin "object.__setattr__"))
structure M0(h:Heap)(x dx C:Addr)(mA:Str→Option Value):Prop where
  obj:h.get? x=some (instObj C dx)
  apart:dx≠x
  ns:h.Ns1 dx mA
inductive Src where
  |par (y:Str) (p:Pos)
  |dct (p:Pos)
  |lst (p:Pos)
noncomputable def Src.e:Src→Expr
  | .par y p=> .Name y p
  | .dct p=> .Dict [] [] p
  | .lst p=> .List [] p
set_option genCtorIdx false in
structure B6 where
  n:Str
  v:Src
  p:Pos
  q:Pos
  r:Pos
noncomputable def B6.st(i:B6):Stmt:= .Assign [.Attribute (.Name "self" i.p) i.n i.q] i.v.e i.r
section
variable{prog:Program}{w:World}{A:Around}{E:Value→Shared→Prop}{h h₀:Heap}{g:Array GenState}{d:Drawn}{t:Nat}{os:OsState}{x dx C:Addr}{K:Frag}{v:Value}{name:Str}
theorem a2t(h:Heap):h.get? h.objs.size=none:=by
  exact isNone fun o e=>by exact absurd (Heap.lt_size e) (Nat.lt_irrefl _)
theorem c2u{mA:Str→Option Value}{Q:Unit→Shared→Prop}(Y:InsK K C)(X:K.In h)(hn:findIn K (.ref C) name=some none)(I:M0 h x dx C mA){ns:List Str}(hw:Within mA ns)(hsz:ns.length≤1000)
    (hq:∀h' tk',M0 h' x dx C (fun y=>if y=name then some v else mA y)→Heap.SameBut dx h h'→Q () ⟨h',g,d,tk',os⟩):wpAny (model prog w) A (setAttr (.ref x) name v) Q E ⟨h,g,d,t,os⟩:=by
  obtain ⟨cd,hc,e1,e4,pass,e6⟩:=Y.mro
  obtain ⟨hx,hne,hns⟩:=I
  have L0:Looks (model prog w) h (typeOf (.ref x)) (.ref C):=(Looks.ld hx).andThen .now
  have L1:=looks_findIn (M:=model prog w) X Y.set
  have L2:Looks (model prog w) h (mroOf (.ref C)) cd.mro:=(looks_clsIn X hc).andThen .now
  have L3:=looks_findIn (M:=model prog w) X hn
  have L4:Looks (model prog w) h (isInstance (.ref x) (.type "object")) true:=L0.andThen (looks_mroIn X (by unfold mroIn;exact b8 (hc ..) (b8 (Option.bind_some ..) (b8 (if_neg (by refine b8 (e4 ..) ?_;decide) ..) (b8 (e6 ..) rfl)))))
  have f3:=PySem.F.store_object.slot.bind (.ref x)
  unfold setAttr callSpecial? specialOf
  refine wpAny_bind (wpAny_mkText (wpAny_bind (wpAny_bind (wpAny_bind (L0.at (L1.at (wpAny_holding ?_)))))))
  refine b8 (f3 ..) ?_
  refine wpAny_bind (wpAny_pure (wpAny_bind (wpAny_call ?_)))
  have SF:=PySem.F.store_object
  refine codeAny_call_builtin SF.slot.plain SF.entry (@check_slot (model prog w) _ _ ⟨h,g,d,t+1,os⟩ "object.__setattr__" "object" "__setattr__" (.ref x) [.str name t,v] [] _ SF.kind SF.split L4 (SF.args (.ref x) (.str name t) v) ?_)
  refine b8 (show ([Value.ref x]++[Value.str name (⟨h,g,d,t,os⟩:Shared).toks,v]:List Value)=[.ref x,.str name t,v] from rfl ..) (b8 (osa_eq ..) (b8 (refuse_eq ..) ?_))
  refine wpAny_bind (wpAny_bind (L0.here (wpAny_bind (L2.here ?_))))
  refine b8 (pass ..) ?_
  refine wpAny_pure (wpAny_bind (L0.here (wpAny_bind (L3.here (wpAny_bind (wpAny_pure ?_))))))
  dsimp only
  unfold storeInOwnDict ownDictForStores instanceDict
  refine wpAny_bind (wpAny_pure ?_)
  dsimp only
  refine wpAny_bind (wpAny_bind (wpAny_loadPart hx ?_))
  show wpAny _ _ (_>>=_) _ _ _
  refine wpAny_bind (((looks_clsIn X hc)).here ?_)
  refine b8 (e1 ..) ?_
  refine b8 (if_neg (show¬((!true)=true) from Bool.false_ne_true) ..) ?_
  refine wpAny_pure ?_
  show wpAny _ _ (storeInDict dx (.str name t) name v) _ _ _
  unfold storeInDict newKeyGuard
  refine wpAny_bind (wpAny_pure (wpAny_bind (wpAny_nsSet1 hns fun h' hn' hs=>?_)))
  obtain ⟨oD,esD,epD,hoD,hdD,hcD⟩:=hn'.count (Within.cons name v hw)
  refine wpAny_bind (wpAny_lookBehind hoD (by refine b8 (hdD ..) ?_;exact pastItsLine_dict (Nat.le_trans hcD (by refine b8 (List.length_cons ..) (b8 (sizeLine_eq ..) ?_);exact Nat.lt_of_le_of_lt (by assumption) (Nat.le_of_ble_eq_true rfl)))) ?_)
  wp_walk
  exact hq h' _ ⟨(hs.2 x hne.symm).trans hx,hne,hn'⟩ hs
theorem b8g(Y:InsK K C){env:Env}{m:Str→Option Value}(X₀:K.In h₀)(hdx:h₀.get? dx=none)(hk:env.scope.kind= .function)(ks:env.kindOf "self"=some .local)(ms:m "self"=some (.ref x))(hL:h₀.Ns env.locals m){Q:Flow→Shared→Prop} :
    ∀(l:List B6) (h:Heap) (t:Nat) (mA:Str→Option Value) (ns:List Str),(∀i∈l,findIn K (.ref C) i.n=some none)→(l.map (·.n)).Nodup→(∀i∈l,∀y p,i.v= .par y p→env.kindOf y=some .local∧(∃v,m y=some v)∧(y==("__debug__":Str))=false)→
    (∀b o,h₀.get? b=some o→h.get? b=some o)→M0 h x dx C mA→Within mA ns→ns.length+l.length≤1000→
    (∀h' tk mA',(∀b o,b≠dx→h.get? b=some o→h'.get? b=some o)→M0 h' x dx C mA'→(∀n,n∉l.map (·.n)→mA' n=mA n)→
      (∀i∈l,match i.v with| .par y _=>mA' i.n=m y| .dct _=>∃a,mA' i.n=some (.ref a)∧h.get? a=none∧h'.get? a=some emptyDict| .lst _=>True)→Q .next ⟨h',g,d,tk,os⟩)→
    wpAny (model prog w) A (execs (l.map B6.st) env) Q E ⟨h,g,d,t,os⟩:=by
  intro LL
  induction LL with
  | nil=>
    rintro h t mA ns hf hnd hp hk0 I hw hz q
    exact wpAny_execs_nil (q h t mA (fun O O O e=>e) I (fun O O=>rfl) (fun O hi=>nomatch hi))
  | cons i l ih=>
    rintro h t mA ns hf hnd hp hk0 I hw hz q
    obtain ⟨hni,hnd'⟩:=List.nodup_cons.mp hnd
    have self:∀ {s:Shared} {Q:Value→Shared→Prop},(∀b o,h₀.get? b=some o→s.heap.get? b=some o)→Q (.ref x) s→wpAny (model prog w) A (eval (.Name "self" i.p) env) Q E s:=
      fun hk' q=>wpAny_Name (wpAny_loadName_local hk ks (hL.keeps hk') ms q) (by decide)
    have step :∀(v:Value) (h₁:Heap),(∀b o,h.get? b=some o→h₁.get? b=some o)→(match i.v with| .par y _=>m y=some v| .dct _=>∃a,v= .ref a∧h.get? a=none∧h₁.get? a=some emptyDict| .lst _=>True)→
        wpAny (model prog w) A (eval (.Name "self" i.p) env) (fun ov s₂=>wpAny (model prog w) A (setAttr ov i.n v) (fun O=>fun s'=>wpAny (model prog w) A (execs (l.map B6.st) env) Q E s') E s₂) E ⟨h₁,g,d,t,os⟩:=fun v h₁ hk1a hv=>by
      have hx1:=hk1a _ _ I.obj
      have I1:M0 h₁ x dx C mA:=⟨hx1,I.apart,I.ns.at fun o e=>hk1a _ _ e⟩
      have hk01:∀b o,h₀.get? b=some o→h₁.get? b=some o:=fun b o e=>hk1a b o (hk0 b o e)
      refine self hk01 (c2u Y (X₀.keeps hk01) (hf i (.head _)) I1 hw (by have:=List.length_cons (a:=i) (as:=l);exact Nat.le_trans (Nat.le_add_right _ _) (by assumption)) fun h₂ tk2 I2 hs=>?_)
      refine ih h₂ tk2 _ (i.n::ns) (fun j hj=>hf j (.tail _ hj)) hnd' (fun j hj=>hp j (.tail _ hj)) (fun b o e=>(hs.2 b fun z=>g7 z hdx e).trans (hk01 b o e)) I2 (Within.cons i.n v hw) (by rw [List.length_cons] at hz ⊢;lia) fun h' tk mA' k' I' n' a'=>?_
      refine q h' tk mA' (fun b o n e=>k' b o n ((hs.2 b n).trans (hk1a b o e))) I' (fun n hn=>?_) fun j hj=>?_
      · rw [List.map_cons,List.mem_cons,not_or] at hn
        refine b8 (n' n hn.2 ..) ?_;simp only [if_neg hn.1]
      · clear hf hnd hp hz q self;rcases List.mem_cons.mp hj with rfl|hj
        · have e1:mA' j.n=some v:=by refine b8 (n' j.n hni ..) ?_;simp
          clear I2 n';cases hjv:j.v with
          |par y p=>rw [hjv] at hv;refine b8 (e1 ..) ?_;exact hv.symm
          | dct p=>
            rw [hjv] at hv
            obtain ⟨a,rfl,ha,ha'⟩:=hv
            have ad:a≠dx:=fun z=>by obtain ⟨o,es,ep,e,_⟩:=I.ns;rw [z,e] at ha;cases ha
            exact ⟨a,e1,ha,k' a _ ad ((hs.2 a ad).trans ha')⟩
          |lst p=>trivial
        · have hold:=a' j hj
          revert hold
          cases hjv:j.v with
          |par y p=>exact id
          | dct p=>
            rintro ⟨a,b1,b2,b3⟩
            refine ⟨a,b1,?_,b3⟩
            cases e:h.get? a with
            |none=>rfl
            | some o=>
              have ad:a≠dx:=fun z=>by obtain ⟨o,es,ep,e,_⟩:=I2.ns;rw [z,e] at b2;cases b2
              rw [(hs.2 a ad).trans (hk1a a o e)] at b2;cases b2
          |lst p=>exact fun O=>trivial
    refine wpAny_execs_cons (plainObj_wpAny_Assign_Attribute ?_ (by cases i.v <;> rfl))
    cases hv:i.v with
    | par y p=>
      obtain ⟨k1,⟨v,hm⟩,k3⟩:=hp i (.head _) y p hv
      refine wpAny_Name (wpAny_loadName_local hk k1 (hL.keeps hk0) hm (step v h (fun O O e=>e) (by refine b8 (hv ..) ?_;exact hm))) k3
    |dct p=>exact wpAny_Dict_empty (step _ _ (fun O O e=>Heap.get?_push_of_some _ e) (by refine b8 (hv ..) ?_;exact ⟨_,rfl,a2t _,Heap.get?_push_size _ rfl⟩))
    |lst p=>exact List_ (spliced_nil (wpAny_newObj_type (step _ _ (fun O O e=>Heap.get?_push_of_some _ e) (by refine b8 (hv ..) ?_;trivial))))
theorem lks{α:Type}(x:Str)(e:α)(ρ:List (Str×α)):((x,e)::ρ).lookup x=some e:=by refine b8 (List.lookup_cons ..) ?_;simp
theorem lkn{α:Type}{x y:Str}(e:α)(ρ:List (Str×α))(h:y≠x):((x,e)::ρ).lookup y=ρ.lookup y:=by
  rw [List.lookup_cons,beq_eq_false_iff_ne.mpr h]
theorem a2u{α:Type}{y:Str} :∀(l:List (Str×α)),y∈l.map (·.1)→∃v,l.lookup y=some v:=by
  intro LL1
  induction LL1 with
  | nil=>
    nofun
  | cons HD l ih=>
    obtain ⟨a,v⟩:=HD
    rintro hy
    by_cases e:y=a
    · clear hy;subst e;exact ⟨v,lks _ _ _⟩
    · refine b8 (lkn _ _ e ..) ?_;exact ih ((List.mem_cons.mp hy).resolve_left e)
theorem a4d{α:Type}{y:Str} :∀(l:List (Str×α)),y∉l.map (·.1)→l.lookup y=none:=by
  intro LL
  induction LL with
  | nil=>
    rintro _
    exact rfl
  | cons HD l ih=>
    obtain ⟨a,v⟩:=HD
    rintro hy
    rw [List.map_cons,List.mem_cons,not_or] at hy
    refine b8 (lkn _ _ hy.1 ..) ?_;exact ih hy.2
theorem lookup_append{α:Type}{y:Str}(k:List (Str×α)):∀(l:List (Str×α)),(l++k).lookup y=(l.lookup y).or (k.lookup y):=by
  intro LL
  induction LL with
  | nil=>
    simp
  | cons HD l ih=>
    obtain ⟨a,v⟩:=HD
    refine b8 (List.cons_append ..) ?_
    by_cases e:y=a
    · subst e;refine b8 (lks ..) (b8 (lks ..) ?_);rfl
    · refine b8 (lkn _ _ e ..) (b8 (lkn _ _ e ..) ?_);exact ih
theorem a0n{α:Type} :∀ {l:List (Str×α)},(l.map (·.1)).Nodup→∀y,l.reverse.lookup y=l.lookup y:=by
  intro LL
  induction LL with
  | nil=>
    rintro _ _
    exact rfl
  | cons HD l ih=>
    obtain ⟨a,v⟩:=HD
    rintro hn y
    rw [List.map_cons,List.nodup_cons] at hn
    refine b8 (List.reverse_cons ..) (b8 (lookup_append ..) (b8 (ih hn.2 y ..) ?_))
    by_cases e:y=a
    · subst e;refine b8 (a4d l hn.1 ..) (b8 (lks ..) (b8 (lks ..) ?_));rfl
    · refine b8 (lkn _ _ e ..) (b8 (lkn _ _ e ..) ?_);simp
structure c4c(K:Frag)(C fI:Addr)(fd:FuncData)(l:List B6)(ps:List Str):Prop extends InsK K C where
  made:makesIn K C=true
  init:findIn K (.ref C) "__init__"=some (some (.ref fI))
  fn:typeIn K (.ref fI)=some (.type "function")
  c5z:∃of,K.lookup fI=some of∧of.data= .func fd
  code:∃c oc vs tq,fd.code= .ref c∧K.lookup c=some oc∧oc.data= .fields vs∧vs[1]?=some (.str fd.qualname tq)
  body:fd.body= .stmts (l.map B6.st)
  nms:∀i∈l,findIn K (.ref C) i.n=some none
  nd:(l.map (·.n)).Nodup
  len:l.length≤100
  c9h:∀i∈l,∀y p,i.v= .par y p→y∈ps∧(y==("__debug__":Str))=false
  sc:fd.scope= {kind:= .function,names:=ps.map fun y=>(y,.local),isGenerator:=false,isCoroutine:=false}
  self:ps.head?=some "self"
theorem b1t(y:Str):∀(ps:List Str),y∈ps→(ps.map fun y=>(y,NameKind.local)).lookup y=some .local:=by
  intro LL1
  induction LL1 with
  | nil=>
    nofun
  | cons p ps ih=>
    rintro hy
    refine b8 (List.map_cons ..) ?_
    by_cases e:y=p
    · clear hy;subst e;exact lks _ _ _
    · refine b8 (lkn _ _ e ..) ?_;exact ih ((List.mem_cons.mp hy).resolve_left e)
theorem b1e{R:Result→Shared→Prop}{fI:Addr}{fd:FuncData}{l:List B6}{ps:List Str}{rest:List Value}{bs:List (Str×Value)}(P:c4c K C fI fd l ps)(X:K.In h)(hlim:h.NoLimit)(hroom:A.depth+2<recursionLimit)(hbs:bs.map (·.1)=ps.tail)(hnd:ps.Nodup)
    (hbind:∀(s:Shared) x,K.In s.heap→BindsTo s fd ⟨.ref x::rest,[]⟩ (("self",.ref x)::bs))
    (hq:∀x dx h' tk mA,(∀b o,h.get? b=some o→h'.get? b=some o)→h.get? x=none→h.get? dx=none→M0 h' x dx C mA→
      (∀i∈l,match i.v with| .par y _=>y="self"∨mA i.n=bs.lookup y| .dct _=>∃a,mA i.n=some (.ref a)∧h.get? a=none∧h'.get? a=some emptyDict∧a≠x| .lst _=>True)→R (.ok (.ret (.ref x))) ⟨h',g,d,tk,os⟩):
    codeAny (model prog w) A (.call (.ref C) ⟨rest,[]⟩) R ⟨h,g,d,t,os⟩:=by
  refine make_core (makes_of X P.made) (looks_findIn X P.init) (fun self=>bind_fn X self P.fn) (.inl rfl) ?_
  generalize hh1:(h.push emptyDict).push (instObj C h.objs.size)=h₁
  have hw:(Code.builtin "type.__call__" ⟨.ref C::rest,[]⟩).weight=1:=by kernel_rfl
  have hk1a:∀b o,h.get? b=some o→h₁.get? b=some o:=fun b o e=>hh1▸Heap.get?_push_of_some _ (Heap.get?_push_of_some _ e)
  have hx:h₁.get? (h.objs.size+1)=some (instObj C h.objs.size):=by refine C5 (hh1 ..) (C5 (Heap.size_push h emptyDict ..) ?_);exact Heap.get?_push_size _ rfl
  have hd1a:h₁.get? h.objs.size=some emptyDict:=hh1▸Heap.get?_push_of_some _ (Heap.get?_push_size _ rfl)
  have nx:h.get? (h.objs.size+1)=none:=by
    exact isNone fun o e=>by exact absurd (Heap.lt_size e) (Nat.not_lt.mpr (Nat.le_succ _))
  have X1a:K.In h₁:=X.keeps hk1a
  obtain ⟨of,f1,f2⟩:=P.c5z
  obtain ⟨c,oc,us,tq,c1,c2,c3,c4⟩:=P.code
  generalize h.objs.size+1=x at hx nx ⊢
  have nd':=a2t h
  generalize h.objs.size=dx at hx nd' hd1a
  have hsplit:ps=("self":Str)::bs.map (·.1):=by
    have:=P.self
    clear P hnd;cases ps with
    |nil=>cases this
    |cons a r=>cases this;refine b8 (hbs ..) ?_;rfl
  have hbn:(("self":Str)::bs.map (·.1)).Nodup:=hsplit▸hnd
  refine codeAny_call_def (body:=l.map B6.st) (binds:=("self",.ref x)::bs) (by show A.depth+(Code.builtin "type.__call__" ⟨.ref C::rest,[]⟩).weight<recursionLimit;refine b8 (hw ..) ?_;exact Nat.lt_of_succ_lt hroom) (X1a _ _ f1) f2 (hlim.keeps hk1a) ⟨c,oc,us,tq,c1,X1a _ _ c2,c3,c4⟩ P.body (hbind _ _ X1a)
    (by refine b8 (P.sc ..) ?_;intro y hy;obtain ⟨z,_,rfl⟩:=List.mem_map.mp hy;exact (by decide:NameKind.local≠ .cell)) (fun y hy=>by refine b8 (P.sc ..) ?_;exact b1t _ _ (by refine b8 (hsplit ..) ?_;exact List.mem_map_of_mem (f:=(·.1)) hy)) (fun h₂ hns hk2a=>?_) (by exact b8 (P.sc ..) rfl) (by exact b8 (P.sc ..) rfl) (by exact b8 (P.sc ..) rfl)
  have nL:∀ {a:Addr} {o:Obj},h₁.get? a=some o→a≠h₁.objs.size:=fun e z=>by rw [z,a2t] at e;cases e
  have I2:M0 h₂ x dx C (fun O=>none):=by
    refine ⟨hk2a _ _ hx,fun z=>?_,Heap.Ns1.of_empty ⟨_,#[],_,hk2a _ _ hd1a,rfl,fun e he=>absurd he (by simp),fun O=>rfl⟩⟩
    rw [z,hx] at hd1a;cases hd1a
  have lk:∀y,(((("self":Str),Value.ref x)::bs).reverse).lookup y=((("self":Str),Value.ref x)::bs).lookup y:=fun y=>by
    cases e:((("self":Str),Value.ref x)::bs).lookup y with
    |some v=>exact (a0n (l:=("self",Value.ref x)::bs) hbn y).trans e
    |none=>exact (a0n (l:=("self",Value.ref x)::bs) hbn y).trans e
  have hb:∀b o,h.get? b=some o→(hideAll h₂ [dx]).get? b=some o:=fun b o e=>hideAll_get _ (hk2a b o (hk1a b o e)) fun hm=>g7 (List.mem_singleton.mp hm) nd' e
  have kd:∀y,y∈ps→(callEnv fd h₁.objs.size fI).kindOf y=some .local:=fun y hy=>by
    show fd.scope.names.lookup y=_;refine b8 (P.sc ..) ?_;exact b1t y ps hy
  refine b8g P.toInsK (h₀:=hideAll h₂ [dx]) (m:=fun y=>(((("self":Str),Value.ref x)::bs).reverse).lookup y) (X.keeps hb) (hideAll_none _ (.head _)) (by show fd.scope.kind=_;exact b8 (P.sc ..) rfl) (kd _ (by refine b8 (hsplit ..) ?_;exact .head _)) ((lk _).trans (lks _ _ _)) (hns.at' fun o e=>hideAll_get _ e fun hm=>nL hd1a (List.mem_singleton.mp hm).symm) l h₂ _ (fun O=>none) [] P.nms P.nd
    (fun i hi y p hv=>?_) (fun b o e=>of_hideAll _ e) I2 Within.nil (by have:=P.len;simp only [List.length_nil];lia) fun h' tk mA k' I' O a'=>?_
  · obtain ⟨h1,h2⟩:=P.c9h i hi y p hv
    refine ⟨kd y h1,?_,h2⟩
    have:y∈((("self":Str),Value.ref x)::bs).map (·.1):=by rw [hsplit] at h1;exact h1
    exact ⟨_,(lk y).trans (a2u _ this).choose_spec⟩
  · refine ⟨rfl,hq x dx h' tk mA (fun b o e=>k' b o (fun z=>g7 z nd' e) (hk2a b o (hk1a b o e))) nx nd' I' fun i hi=>?_⟩
    have hold:=a' i hi
    revert hold
    cases hv:i.v with
    | par y p=>
      intro hold
      by_cases e:y="self"
      · exact .inl e
      · exact .inr (hold.trans ((lk y).trans (lkn _ _ e)))
    | dct p=>
      rintro ⟨a,b1,b2,b3⟩
      refine ⟨a,b1,?_,b3,fun z=>by rw [z,hk2a _ _ hx] at b2;cases b2⟩
      exact isNone fun o e=>by rw [hk2a a o (hk1a a o e)] at b2;cases b2
    |lst p=>exact fun O=>trivial
end
end
section
inductive PV where
  |none
  |bool (b:Bool)
  |int (i:Int)
  |str (s:Str)
  |tup (l:List PV)
  |lst (l:List PV)
  |dct (kvs:List (PV×PV))
  |z8 (v:Value)
  |any
set_option genCtorIdx false in
class u7 where
  G:Addr→Prop
  g:Heap
variable [HH:u7]
noncomputable def y9(h:Heap)(a:Addr)(items:Array Value):Prop:=∃n,h.get? a=some {cls:= .type "tuple",data:= .seq items n}
theorem y9.isTup{h:Heap}{a:Addr}{items:Array Value}(x:y9 h a items):IsTup h a items:=(by obtain ⟨n,e⟩:=x;exact ⟨_,e,rfl,n,rfl⟩)
theorem y9.new(h:Heap)(items:Array Value):y9 (h.push {cls:= .type "tuple",data:= .seq items}) h.objs.size items:=⟨0,Heap.get?_push_size _ rfl⟩
theorem y9.push{h:Heap}{a:Addr}{items:Array Value}(x:y9 h a items)(o:Obj):y9 (h.push o) a items:=let ⟨n,e⟩:=x;⟨n,Heap.get?_push_of_some o e⟩
inductive Rep(X:Addr→Prop)(h:Heap):Value→PV→Prop
  |none:Rep X h .none .none
  |bool (b:Bool):Rep X h (.bool b) (.bool b)
  |int (i:Int) (t:Tok):Rep X h (.int i t) (.int i)
  |str (s:Str) (t:Tok):Rep X h (.str s t) (.str s)
  |z8 (v:Value):(∀a,v= .ref a→u7.G a∨∃o,u7.g.get? a=some o)→Rep X h v (.z8 v)
  |any (v:Value):Rep X h v .any
  |tup {a:Addr} {vs:List Value} {l:List PV} :y9 h a vs.toArray→¬X a→vs.length=l.length→(∀(i:Nat) v d,vs[i]?=some v→l[i]?=some d→Rep X h v d)→Rep X h (.ref a) (.tup l)
  |lst {a:Addr} {vs:List Value} {l:List PV} :h.PlainList a vs.toArray→¬X a→vs.length=l.length→(∀(i:Nat) v d,vs[i]?=some v→l[i]?=some d→Rep X h v d)→Rep X h (.ref a) (.lst l)
noncomputable def i0(X:Addr→Prop)(h:Heap)(vs:List Value)(l:List PV):Prop:=vs.length=l.length∧∀(i:Nat) v d,vs[i]?=some v→l[i]?=some d→Rep X h v d
noncomputable def Le(X:Addr→Prop)(h h':Heap):Prop:=∀b o,¬X b→h.get? b=some o→h'.get? b=some o
noncomputable def All:Addr→Prop:=fun O=>False
theorem Le.refl(X:Addr→Prop)(h:Heap):Le X h h:=fun O O O e=>e
theorem Le.trans{X:Addr→Prop}{h₁ h₂ h₃:Heap}(x:Le X h₁ h₂)(y:Le X h₂ h₃):Le X h₁ h₃:=fun b o hb e=>y b o hb (x b o hb e)
theorem Le.weak{X Y:Addr→Prop}{h h':Heap}(x:Le X h h')(hs:∀a,X a→Y a):Le Y h h':=fun b o hb e=>x b o (fun q=>hb (hs b q)) e
theorem Le.of{X:Addr→Prop}{h h':Heap}(k:∀b o,h.get? b=some o→h'.get? b=some o):Le X h h':=fun b o O e=>k b o e
theorem Rep.mono{X Y:Addr→Prop}{h h':Heap}{v:Value}{d:PV}(r:Rep X h v d)(hk:Le X h h')(hs:∀a,Y a→X a∨h.get? a= .none):Rep Y h' v d:=by
  induction r with
  |none=>exact .none
  |bool b=>exact .bool b
  |int i t=>exact .int i t
  |str s t=>exact .str s t
  |z8 v k=>exact .z8 v k
  |any v=>exact .any v
  | tup ht hx hl _ ih=>
    obtain ⟨n,ho⟩:=ht
    exact .tup ⟨n,hk _ _ hx ho⟩ (fun y=>(hs _ y).elim hx fun e=>by rw [ho] at e;cases e) hl ih
  | lst ht hx hl _ ih=>
    obtain ⟨n,ho⟩:=ht
    exact .lst ⟨n,hk _ _ hx ho⟩ (fun y=>(hs _ y).elim hx fun e=>by rw [ho] at e;cases e) hl ih
theorem Rep.le{X:Addr→Prop}{h h':Heap}{v:Value}{d:PV}(r:Rep X h v d)(hk:Le X h h'):Rep X h' v d:=r.mono hk fun O=> .inl
theorem Rep.sub{X Y:Addr→Prop}{h:Heap}{v:Value}{d:PV}(r:Rep X h v d)(hs:∀a,Y a→X a):Rep Y h v d:=r.mono (Le.refl _ _) fun a y=> .inl (hs a y)
theorem i0.mono{X Y:Addr→Prop}{h h':Heap}{vs:List Value}{l:List PV}(r:i0 X h vs l)(hk:Le X h h')(hs:∀a,Y a→X a∨h.get? a= .none):i0 Y h' vs l:=
  ⟨r.1,fun i v d e f=>(r.2 i v d e f).mono hk hs⟩
theorem i0.le{X:Addr→Prop}{h h':Heap}{vs:List Value}{l:List PV}(r:i0 X h vs l)(hk:Le X h h'):i0 X h' vs l:=r.mono hk fun O=> .inl
theorem i0.sub{X Y:Addr→Prop}{h:Heap}{vs:List Value}{l:List PV}(r:i0 X h vs l)(hs:∀a,Y a→X a):i0 Y h vs l:=r.mono (Le.refl _ _) fun a y=> .inl (hs a y)
theorem i0.nil{X:Addr→Prop}{h:Heap} :i0 X h [] []:=⟨rfl,fun i v d e=>by exact l8 e⟩
theorem i0.cons{X:Addr→Prop}{h:Heap}{v:Value}{d:PV}{vs:List Value}{l:List PV}(r:Rep X h v d)(rs:i0 X h vs l):i0 X h (v::vs) (d::l):=
  ⟨by simp [rs.1],fun i v' d' e f=>by
    cases i with
    |zero=>simp at e f;subst e f;exact r
    |succ i=>simp at e f;exact rs.2 i v' d' e f⟩
theorem i0.nil_inv{X:Addr→Prop}{h:Heap}{vs:List Value}(r:i0 X h vs []):vs=[]:=List.eq_nil_of_length_eq_zero r.1
theorem i0.b1i{X:Addr→Prop}{h:Heap}{l:List PV}(r:i0 X h [] l):l=[]:=List.eq_nil_of_length_eq_zero r.1.symm
theorem i0.cons_inv{X:Addr→Prop}{h:Heap}{vs:List Value}{d:PV}{l:List PV}(r:i0 X h vs (d::l)):∃v vs',vs=v::vs'∧Rep X h v d∧i0 X h vs' l:=by
  cases vs with
  |nil=>have:=r.1;nomatch this
  |cons v vs'=>exact ⟨v,vs',rfl,r.2 0 v d rfl rfl,by have:=r.1;exact Nat.succ.inj this,fun i v' d' e f=>r.2 (i+1) v' d' e f⟩
theorem i0.get{X:Addr→Prop}{h:Heap}{vs:List Value}{l:List PV}(r:i0 X h vs l){i:Nat}{d:PV}(e:l[i]?=some d):∃v,vs[i]?=some v∧Rep X h v d:=by
  have hi:i<vs.length:=by refine b8 (r.1 ..) ?_;exact (List.getElem?_eq_some_iff.mp e).1
  exact ⟨vs[i],List.getElem?_eq_getElem hi,r.2 i _ d (List.getElem?_eq_getElem hi) e⟩
theorem i0.append{X:Addr→Prop}{h:Heap}{vs us:List Value}{l k:List PV}(r:i0 X h vs l)(q:i0 X h us k):i0 X h (vs++us) (l++k):=by
  induction l generalizing vs with
  |nil=>refine b8 (r.nil_inv ..) ?_;exact q
  |cons d l ih=>obtain ⟨v,vs',rfl,r1,r2⟩:=r.cons_inv;exact i0.cons r1 (ih r2)
theorem i0.drop{X:Addr→Prop}{h:Heap}{vs:List Value}{l:List PV}(r:i0 X h vs l)(n:Nat):i0 X h (vs.drop n) (l.drop n):=
  ⟨by simp [r.1],fun i v d e f=>r.2 (n+i) v d (by simpa using e) (by simpa using f)⟩
theorem i0.take{X:Addr→Prop}{h:Heap}{vs:List Value}{l:List PV}(r:i0 X h vs l)(n:Nat):i0 X h (vs.take n) (l.take n):=
  ⟨by simp [r.1],fun i v d e f=>by
    rw [List.getElem?_take] at e f
    split at e
    · rename_i hi;rw [if_pos hi] at f;exact r.2 i v d e f
    · cases e⟩
theorem i0.reverse{X:Addr→Prop}{h:Heap}{vs:List Value}{l:List PV}(r:i0 X h vs l):i0 X h vs.reverse l.reverse:=by
  induction l generalizing vs with
  |nil=>refine b8 (r.nil_inv ..) ?_;exact .nil
  |cons d l ih=>obtain ⟨v,vs',rfl,r1,r2⟩:=r.cons_inv;simp only [List.reverse_cons];exact (ih r2).append (.cons r1 .nil)
theorem Rep.c7m{X:Addr→Prop}{h:Heap}{a:Addr}{vs:List Value}{l:List PV}(ht:y9 h a vs.toArray)(hx:¬X a)(r:i0 X h vs l):Rep X h (.ref a) (.tup l):= .tup ht hx r.1 r.2
theorem Rep.c1x{X:Addr→Prop}{h:Heap}{a:Addr}{vs:List Value}{l:List PV}(ht:h.PlainList a vs.toArray)(hx:¬X a)(r:i0 X h vs l):Rep X h (.ref a) (.lst l):= .lst ht hx r.1 r.2
theorem Rep.n8{X:Addr→Prop}{h:Heap}{v:Value}{l:List PV}(r:Rep X h v (.tup l)):∃a vs,v= .ref a∧y9 h a vs.toArray∧¬X a∧i0 X h vs l:=by
  cases r with|tup a b c d=>exact ⟨_,_,rfl,a,b,c,d⟩
theorem Rep.lst_inv{X:Addr→Prop}{h:Heap}{v:Value}{l:List PV}(r:Rep X h v (.lst l)):∃a vs,v= .ref a∧h.PlainList a vs.toArray∧¬X a∧i0 X h vs l:=by
  cases r with|lst a b c d=>exact ⟨_,_,rfl,a,b,c,d⟩
theorem Rep.int_inv{X:Addr→Prop}{h:Heap}{v:Value}{i:Int}(r:Rep X h v (.int i)):∃t,v= .int i t:=by cases r;exact ⟨_,rfl⟩
theorem Rep.str_inv{X:Addr→Prop}{h:Heap}{v:Value}{i:Str}(r:Rep X h v (.str i)):∃t,v= .str i t:=by cases r;exact ⟨_,rfl⟩
theorem Rep.bool_inv{X:Addr→Prop}{h:Heap}{v:Value}{i:Bool}(r:Rep X h v (.bool i)):v= .bool i:=by cases r;rfl
theorem Rep.none_inv{X:Addr→Prop}{h:Heap}{v:Value}(r:Rep X h v .none):v= .none:=by cases r;rfl
theorem Rep.a1j{X:Addr→Prop}{h:Heap}{v u:Value}(r:Rep X h v (.z8 u)):v=u:=by cases r;rfl
noncomputable def a0q:Nat→PV→Bool
  |_,.none=>true
  |_,.bool _=>true
  |_,.int _=>true
  |_,.str _=>true
  |n+1,.tup l=>l.all (a0q n)
  |_,_=>false
set_option genCtorIdx false in
structure Cx where
  prog:Program
  w:World
  inv:Heap→Prop
  stable:∀h h',inv h→(∀b o,u7.G b→h.get? b=some o→h'.get? b=some o)→inv h'
  hsh:PV→Int
  drw:PV→Nat
  a9d:∀i,hsh (.int i)=hashInt i
  c4l:∀(A:Around) (E:Value→Shared→Prop) (s:Shared) (v:Value) (d:PV) (X:Addr→Prop) (Q:Int→Shared→Prop),Rep X s.heap v d→a0q 6 d=true→A.units+32<cLine→Q (hsh d) {s with toks:=s.toks+drw d} →wpAny (model prog w) A (pyHash v) Q E s
  mg:Str→Option Value
  mb:Str→Option Value
  hg:u7.g.Ns mainGlobals mg
  hb:u7.g.Ns builtinsNs mb
  hlim:u7.g.NoLimit
  bi:∀x v,(x,v)∈([("list",.type "list"),("tuple",.type "tuple"),("len",.builtin "len"),("range",.type "range"),("max",.builtin "max"),("zip",.type "zip"),("sorted",.builtin "sorted"),("dict",.type "dict"),("int",.type "int")]:List (Str×Value))→mg x=none∧mb x=some v
  mods:∃o,u7.g.get? sysModules=some o
  J7:¬u7.G mainGlobals∧¬u7.G builtinsNs∧¬u7.G cStatics
noncomputable abbrev Cx.G (_:Cx):Addr→Prop:=u7.G
noncomputable abbrev Cx.g (_:Cx):Heap:=u7.g
structure St(C:Cx)(X:Addr→Prop)(s:Shared):Prop where
  base:Le C.G C.g s.heap
  inv:C.inv s.heap
  d8:∀a,X a→∃o,s.heap.get? a=some o
  sub:∀a,C.G a→X a
  new:∀a,X a→C.G a∨C.g.get? a= .none
set_option genCtorIdx false in
structure Fm where
  C:Cx
  A:Around
  env:Env
  k:Nat
  s₀:Shared
  X₀:Addr→Prop
  hA:A.handled=none
  hd:A.depth+k<recursionLimit
  hu:A.units+8*k+100<cLine
  hk:env.scope.kind= .function
  K6:env.globals=mainGlobals
  M7:env.builtins=builtinsNs
  hX:∀a,X₀ a→∃o,s₀.heap.get? a=some o
  hL:s₀.heap.get? env.locals= .none
  h₀:Le C.G C.g s₀.heap
inductive j9(h:Heap)(env:Env)(x:Str)(v:Value):Prop
  |loc (k:env.kindOf x=some .local) (m:Str→Option Value) (hn:h.Ns env.locals m) (e:m x=some v)
  |I7 (k:env.kindOf x=some .cell∨(env.kindOf x=some .free∧(x==("__classdict__":Str))=false)) (c:Addr) (hc:env.cells.lookup x=some c) (hv:h.IsCell c (some v))
inductive Ent where
  |val (d:PV)
  |own (d:PV)
noncomputable abbrev b9:=List (Str×Ent)
inductive B3(hsh:PV→Int)(X:Addr→Prop)(h:Heap)(a:Addr)(kvs:List (PV×PV)):Prop
  |mk (es:Array DictEntry) (ep:Nat) (e:h.get? a=some {cls:= .type "dict",data:= .dict es ep}) (sz:es.size=kvs.length) (at_:∀(i:Nat) e kv,es[i]?=some e→kvs[i]?=some kv→e.hash=hsh kv.1∧Rep X h e.key kv.1∧Rep X h e.val kv.2)
noncomputable def G5(hsh:PV→Int)(X:Addr→Prop)(h:Heap)(a:Addr):PV→Prop
  | .lst l=>∃vs,h.PlainList a vs.toArray∧i0 X h vs l
  | .dct kvs=>B3 hsh X h a kvs
  |_=>False
theorem G5.ex{hsh:PV→Int}{X:Addr→Prop}{h:Heap}{a:Addr}{d:PV}(x:G5 hsh X h a d):∃o,h.get? a=some o:=by
  cases d <;> first|exact x.elim|(obtain ⟨_,⟨_,h⟩,_⟩:=x;exact ⟨_,h⟩)|(obtain ⟨_,_,h,_⟩:=x;exact ⟨_,h⟩)
theorem G5.step{hsh:PV→Int}{X Y:Addr→Prop}{h h':Heap}{a:Addr}{d:PV}(x:G5 hsh X h a d)(e:∀o,h.get? a=some o→h'.get? a=some o)(r:∀v d,Rep X h v d→Rep Y h' v d):G5 hsh Y h' a d:=by
  cases d <;> first
    |exact x.elim
    |(obtain ⟨vs,⟨n,h1⟩,h2⟩:=x;exact ⟨vs,⟨n,e _ h1⟩,h2.1,fun i v d a b=>r _ _ (h2.2 i v d a b)⟩)
    |(obtain ⟨es,ep,h1,h2,h3⟩:=x;exact ⟨es,ep,e _ h1,h2,fun i en kv a b=>⟨(h3 i en kv a b).1,r _ _ (h3 i en kv a b).2.1,r _ _ (h3 i en kv a b).2.2⟩⟩)
structure x8(F:Fm)(X:Addr→Prop)(ρ:b9)(h:Heap)(ad:Str→Addr):Prop where
  val:∀x d,ρ.lookup x=some (.val d)→∃v,j9 h F.env x v∧Rep X h v d
  own:∀x xs,ρ.lookup x=some (.own xs)→j9 h F.env x (.ref (ad x))∧X (ad x)∧¬F.C.G (ad x)∧F.s₀.heap.get? (ad x)= .none∧G5 F.C.hsh X h (ad x) xs
  apart:∀x xs y ys,ρ.lookup x=some (.own xs)→ρ.lookup y=some (.own ys)→x≠y→ad x≠ad y
structure I(F:Fm)(X:Addr→Prop)(ρ:b9)(s:Shared):Prop extends St F.C X s where
  ns:∃m,s.heap.Ns F.env.locals m
  cell:∀x c,F.env.cells.lookup x=some c→∃v,s.heap.IsCell c v
  apart:F.env.cells.Pairwise fun x y=>x.2≠y.2
  u9:¬X F.env.locals
  s8:∀x c,F.env.cells.lookup x=some c→¬X c
  vars:∃ad,x8 F X ρ s.heap ad
structure Ext(X:Addr→Prop)(s s':Shared):Prop where
  gens:s'.gens=s.gens
  os:s'.os=s.os
  drawn:s'.drawn=s.drawn
  le:Le X s.heap s'.heap
theorem Ext.refl(X:Addr→Prop)(s:Shared):Ext X s s:=⟨rfl,rfl,rfl,Le.refl _ _⟩
theorem Ext.trans{X:Addr→Prop}{s₁ s₂ s₃:Shared}(x:Ext X s₁ s₂)(y:Ext X s₂ s₃):Ext X s₁ s₃:=⟨y.gens.trans x.gens,y.os.trans x.os,y.drawn.trans x.drawn,x.le.trans y.le⟩
theorem Ext.weak{X Y:Addr→Prop}{s s':Shared}(x:Ext X s s')(hs:∀a,X a→Y a):Ext Y s s':=⟨x.gens,x.os,x.drawn,x.le.weak hs⟩
theorem Ext.tok{X:Addr→Prop}(s:Shared)(h':Heap)(tk:Nat)(k:Le X s.heap h'):Ext X s {s with heap:=h',toks:=tk} :=⟨rfl,rfl,rfl,k⟩
theorem Ext.tok'{X:Addr→Prop}(s:Shared)(tk:Nat):Ext X s {s with toks:=tk} :=⟨rfl,rfl,rfl,Le.refl _ _⟩
theorem Ext.heap{X:Addr→Prop}(s:Shared)(h':Heap)(k:Le X s.heap h'):Ext X s {s with heap:=h'} :=⟨rfl,rfl,rfl,k⟩
theorem j9.same{h:Heap}{env:Env}{x:Str}{u v:Value}(a:j9 h env x u)(b:j9 h env x v):u=v:=by
  rcases a with ⟨k,m,hn,e⟩|⟨k,c,hc,o,ho,hd⟩ <;> rcases b with ⟨k',m',hn',e'⟩|⟨k',c',hc',o',ho',hd'⟩
  · obtain ⟨o1,es1,ep1,q1,q2,q3,q4⟩:=hn
    obtain ⟨o2,es2,ep2,p1,p2,p3,p4⟩:=hn'
    rw [q1] at p1;cases p1;rw [q2] at p2;cases p2
    rw [← q4] at e;rw [← p4] at e';rw [e] at e';exact Option.some.inj e'
  · rcases k' with k'|k' <;> simp [k] at k'
  · rcases k with k|k <;> simp [k'] at k
  · rw [hc] at hc';cases hc';rw [ho] at ho';cases ho';rw [hd] at hd';cases hd';rfl
theorem j9.le{X:Addr→Prop}{h h':Heap}{env:Env}{x:Str}{v:Value}(r:j9 h env x v)(hk:Le X h h')(h1:¬X env.locals)(h2:∀x c,env.cells.lookup x=some c→¬X c):j9 h' env x v:=by
  rcases r with ⟨k,m,hn,hm⟩|⟨k,c,hc,hv⟩
  · exact .loc k m (hn.at' fun o e=>hk _ o h1 e) hm
  · obtain ⟨o,ho,hd⟩:=hv
    exact .I7 k c hc ⟨o,hk _ o (h2 x c hc) ho,hd⟩
theorem St.grow{C:Cx}{X:Addr→Prop}{s s':Shared}(i:St C X s)(k:∀b o,s.heap.get? b=some o→s'.heap.get? b=some o):St C X s' where
  base:=i.base.trans (Le.of k)
  inv:=C.stable _ _ i.inv fun b o O e=>k b o e
  d8:=fun a ha=>(by obtain ⟨o,ho⟩:=i.d8 a ha;exact ⟨o,k _ _ ho⟩)
  sub:=i.sub
  new:=i.new
structure After(C:Cx)(s s':Shared):Prop where
  ext:Ext C.G s s'
  inv:C.inv s'.heap
  d8:∀a,C.G a→∃o,s'.heap.get? a=some o
theorem After.grow{C:Cx}{s s₁ s':Shared}(i:After C s s₁)(e:Ext (fun O=>False) s₁ s'):After C s s' where
  ext:=i.ext.trans (e.weak fun O f=>f.elim)
  inv:=C.stable _ _ i.inv fun b o O q=>e.le b o id q
  d8:=fun a g=>(by obtain ⟨o,ho⟩:=i.d8 a g;exact ⟨o,e.le a o id ho⟩)
theorem St.ext{C:Cx}{X:Addr→Prop}{s s':Shared}(i:St C X s)(x:After C s s'):St C X s' where
  base:=i.base.trans x.ext.le
  inv:=x.inv
  d8:=fun a ha=>by
    by_cases q:C.G a
    · exact x.d8 a q
    · obtain ⟨o,ho⟩:=i.d8 a ha;exact ⟨o,x.ext.le _ _ q ho⟩
  sub:=i.sub
  new:=i.new
theorem I.grow{F:Fm}{X:Addr→Prop}{ρ:b9}{s s':Shared}(i:I F X ρ s)(k:∀b o,s.heap.get? b=some o→s'.heap.get? b=some o):I F X ρ s' where
  toSt:=i.toSt.grow k
  ns:=(by obtain ⟨m,hm⟩:=i.ns;exact ⟨m,hm.keeps k⟩)
  cell:=fun x c hc=>(by obtain ⟨v,hv⟩:=i.cell x c hc;exact ⟨v,hv.keeps k⟩)
  apart:=i.apart
  u9:=i.u9
  s8:=i.s8
  vars:=by
    obtain ⟨ad,v⟩:=i.vars
    refine ⟨ad,⟨fun x d e=>?_,fun x xs e=>?_,v.apart⟩⟩
    · obtain ⟨u,h1,h2⟩:=v.val x d e
      exact ⟨u,h1.le (Le.of k) i.u9 i.s8,h2.le (Le.of k)⟩
    · obtain ⟨h1,h2,h3,h3',h4⟩:=v.own x xs e
      exact ⟨h1.le (Le.of k) i.u9 i.s8,h2,h3,h3',h4.step (k _) fun v d r=>r.le (Le.of k)⟩
theorem I.ext{F:Fm}{X:Addr→Prop}{ρ:b9}{s s':Shared}(i:I F X ρ s)(y:After F.C s s'):I F X ρ s' where
  toSt:=i.toSt.ext y
  ns:=(by obtain ⟨m,hm⟩:=i.ns;exact ⟨m,hm.at' fun o e=>y.ext.le _ o (fun q=>i.u9 (i.sub _ q)) e⟩)
  cell:=fun z c hc=>(by obtain ⟨v,o,ho,hv⟩:=i.cell z c hc;exact ⟨v,o,y.ext.le _ o (fun q=>i.s8 z c hc (i.sub _ q)) ho,hv⟩)
  apart:=i.apart
  u9:=i.u9
  s8:=i.s8
  vars:=by
    obtain ⟨ad,v⟩:=i.vars
    have xl:Le X s.heap s'.heap:=y.ext.le.weak i.sub
    refine ⟨ad,⟨fun z d e=>?_,fun z xs e=>?_,v.apart⟩⟩
    · obtain ⟨u,h1,h2⟩:=v.val z d e
      exact ⟨u,h1.le xl i.u9 i.s8,h2.le xl⟩
    · obtain ⟨h1,h2,h3,h3',h4⟩:=v.own z xs e
      exact ⟨h1.le xl i.u9 i.s8,h2,h3,h3',h4.step (fun o e=>y.ext.le _ o h3 e) fun v d r=>r.le xl⟩
end
section
variable [HH:u7]
noncomputable def Ev(F:Fm)(ρ:b9)(e:Expr)(P:PV→Prop):Prop:=
  ∀ X s,I F X ρ s→∀(Q:Value→Shared→Prop) (E:Value→Shared→Prop),(∀v d s',P d→I F X ρ s'→Ext F.C.G s s'→Rep X s'.heap v d→Q v s')→
    wpAny (model F.C.prog F.C.w) F.A (eval e F.env) Q E s
inductive C6(C:Cx)(X:Addr→Prop)(h:Heap):Value→PV→Prop
  |of {v:Value} {d:PV} :Rep X h v d→C6 C X h v d
  |own {a:Addr} {d:PV} :¬C.G a→G5 C.hsh X h a d→C6 C X h (.ref a) d
theorem C6.lst_inv{C:Cx}{X:Addr→Prop}{h:Heap}{v:Value}{l:List PV}(r:C6 C X h v (.lst l)):∃a vs,v= .ref a∧h.PlainList a vs.toArray∧i0 X h vs l:=by
  cases r with
  |of r=>obtain ⟨a,vs,h1,h2,_,h3⟩:=r.lst_inv;exact ⟨a,vs,h1,h2,h3⟩
  |own _ o=>obtain ⟨vs,a,b⟩:=o;exact ⟨_,_,rfl,a,b⟩
theorem C6.n8{C:Cx}{X:Addr→Prop}{h:Heap}{v:Value}{l:List PV}(r:C6 C X h v (.tup l)):∃a vs,v= .ref a∧y9 h a vs.toArray∧¬X a∧i0 X h vs l:=by
  cases r with
  |of r=>exact r.n8
  |own _ o=>exact o.elim
section
variable{C:Cx}{X:Addr→Prop}{h:Heap}{v:Value}
theorem C6.int_inv{i:Int}(r:C6 C X h v (.int i)):∃t,v= .int i t:=by cases r with|of r=>exact r.int_inv|own _ o=>exact o.elim
theorem C6.str_inv{i:Str}(r:C6 C X h v (.str i)):∃t,v= .str i t:=by cases r with|of r=>exact r.str_inv|own _ o=>exact o.elim
theorem C6.bool_inv{i:Bool}(r:C6 C X h v (.bool i)):v= .bool i:=by cases r with|of r=>exact r.bool_inv|own _ o=>exact o.elim
theorem C6.none_inv(r:C6 C X h v .none):v= .none:=by cases r with|of r=>exact r.none_inv|own _ o=>exact o.elim
end
noncomputable def F7(F:Fm)(ρ:b9)(e:Expr)(P:PV→Prop):Prop:=
  ∀ X s,I F X ρ s→∀(Q:Value→Shared→Prop) (E:Value→Shared→Prop),(∀v d s',P d→I F X ρ s'→Ext F.C.G s s'→C6 F.C X s'.heap v d→Q v s')→
    wpAny (model F.C.prog F.C.w) F.A (eval e F.env) Q E s
noncomputable def Tr(F:Fm)(ρ:b9)(e:Expr)(P:Bool→Prop):Prop:=
  ∀ X s,I F X ρ s→∀(Q:Bool→Shared→Prop) (E:Value→Shared→Prop),(∀b s',P b→I F X ρ s'→Ext F.C.G s s'→Q b s')→
    wpAny (model F.C.prog F.C.w) F.A (isTrue e F.env (eval e F.env)) Q E s
noncomputable def E7(F:Fm)(ρ:b9)(es:List Expr)(P:List PV→Prop):Prop:=
  ∀ X s pos,I F X ρ s→∀(Q:List Value→Shared→Prop) (E:Value→Shared→Prop),(∀vs ds s',P ds→I F X ρ s'→Ext F.C.G s s'→i0 X s'.heap vs ds→Q vs s')→
    wpAny (model F.C.prog F.C.w) F.A (spliced (backTo pos (starEach es F.env))) Q E s
variable{F:Fm}{ρ:b9}{P:PV→Prop}
theorem Ext.all{F:Fm}{X:Addr→Prop}{ρ:b9}{s₁ s₂:Shared}{v:Value}{d:PV}(i:I F X ρ s₁)(x:Ext F.C.G s₁ s₂)(r:Rep X s₁.heap v d):Rep X s₂.heap v d:=r.le (x.le.weak i.sub)
theorem Ext.allB{F:Fm}{X:Addr→Prop}{ρ:b9}{s₁ s₂:Shared}{v:Value}{d:PV}(i:I F X ρ s₁)(x:Ext F.C.G s₁ s₂)(r:C6 F.C X s₁.heap v d):C6 F.C X s₂.heap v d:=by
  cases r with
  |of r=>exact .of (x.all i r)
  |own g o=>exact .own g (o.step (fun o e=>x.le _ o g e) fun v d r=>x.all i r)
theorem F7.of{e:Expr}(h:Ev F ρ e P):F7 F ρ e P:=fun X s i Q E k=>h X s i Q E fun v d s' p i' x r=>k v d s' p i' x (.of r)
theorem I.tok{X:Addr→Prop}{s:Shared}(i:I F X ρ s)(tk:Nat):I F X ρ {s with toks:=tk} :=i.grow fun O O e=>e
theorem Ev.d0h{i:Int}{k:Nat}{pos:Pos}(h:P (.int i)):Ev F ρ (.Constant (.int i) k pos) P:=fun X s inv Q E q=>
  wpAny_Constant_int (q _ _ _ h (inv.tok _) (Ext.tok' _ _) (.int _ _))
theorem Ev.d0e{x:Str}{k:Nat}{pos:Pos}(h:P (.str x)):Ev F ρ (.Constant (.str x) k pos) P:=fun X s inv Q E q=>
  wpAny_Constant_str (q _ _ _ h (inv.tok _) (Ext.tok' _ _) (.str _ _))
theorem Ev.c7y{k:Nat}{pos:Pos}(h:P .none):Ev F ρ (.Constant .none k pos) P:=fun X s inv Q E q=>
  wpAny_Constant_none (q _ _ _ h inv (Ext.refl _ _) .none)
theorem Ev.b1y{b:Bool}{k:Nat}{pos:Pos}(h:P (.bool b)):Ev F ρ (.Constant (.bool b) k pos) P:=fun X s inv Q E q=>
  wpAny_Constant_bool (q _ _ _ h inv (Ext.refl _ _) (.bool _))
theorem t8{M:Model}{A:Around}{E:Value→Shared→Prop}{env:Env}{x:Str}{v:Value}{s:Shared}{Q:Value→Shared→Prop}(hk:env.scope.kind= .function)(hv:j9 s.heap env x v)(h:Q v s):wpAny M A (loadName env x) Q E s:=by
  rcases hv with ⟨k,m,hn,hm⟩|⟨k|⟨k,hc'⟩,c,hc,hv⟩
  · exact wpAny_loadName_local hk k hn hm h
  · exact wpAny_loadName_cell hk k hc hv h
  · exact wpAny_loadName_free hk k hc hv h hc'
theorem Ev.name{x:Str}{pos:Pos}{d:PV}(e:ρ.lookup x=some (.val d))(h:P d)(hd:(x==("__debug__":Str))=false:=by decide):Ev F ρ (.Name x pos) P:=fun X s inv Q E q=>by
  obtain ⟨ad,vs⟩:=inv.vars
  obtain ⟨v,h1,h2⟩:=vs.val x d e
  exact wpAny_Name (t8 F.hk h1 (q _ _ _ h inv (Ext.refl _ _) h2)) hd
theorem F7.own{x:Str}{pos:Pos}{l:PV}(e:ρ.lookup x=some (.own l))(h:P l)(hd:(x==("__debug__":Str))=false:=by decide):F7 F ρ (.Name x pos) P:=fun X s inv Q E q=>by
  obtain ⟨ad,vs⟩:=inv.vars
  obtain ⟨h1,h2,h3,h3',h4⟩:=vs.own x l e
  exact wpAny_Name (t8 F.hk h1 (q _ _ _ h inv (Ext.refl _ _) (.own h3 h4))) hd
noncomputable def Gv(C:Cx)(x:Str)(v:Value)(d:PV):Prop:=C.mg x=some v∧Rep C.G C.g v d
theorem a6v{X:Addr→Prop}{s:Shared}{x:Str}{pos:Pos}{v:Value}{Q E:Value→Shared→Prop}(inv:I F X ρ s)(g:F.C.mg x=some v)(hx:F.env.kindOf x=some .globalImplicit)(hd:(x==("__debug__":Str))=false)
    (h:Q v s):wpAny (model F.C.prog F.C.w) F.A (eval (.Name x pos) F.env) Q E s:=by
  refine Calls.Name_function_global F.hk hx (Calls.loadGlobal_global (mg:=F.C.mg) ?_ g h) hd
  refine b8 (F.K6 ..) ?_
  obtain ⟨o,es,ep,ho,hdt,r⟩:=F.C.hg
  exact ⟨o,es,ep,inv.base _ _ F.C.J7.1 ho,hdt,r⟩
theorem c9e{X:Addr→Prop}{s:Shared}{x:Str}{pos:Pos}{v:Value}{Q E:Value→Shared→Prop}(inv:I F X ρ s)(g:F.C.mg x= .none)(b:F.C.mb x=some v)(hx:F.env.kindOf x=some .globalImplicit)(hd:(x==("__debug__":Str))=false)
    (h:Q v s):wpAny (model F.C.prog F.C.w) F.A (eval (.Name x pos) F.env) Q E s:=by
  refine Calls.Name_function_global F.hk hx (Calls.loadGlobal_builtin (mg:=F.C.mg) (mb:=F.C.mb) ?_ g ?_ b h) hd
  · refine b8 (F.K6 ..) ?_
    obtain ⟨o,es,ep,ho,hdt,r⟩:=F.C.hg
    exact ⟨o,es,ep,inv.base _ _ F.C.J7.1 ho,hdt,r⟩
  · refine b8 (F.M7 ..) ?_
    obtain ⟨o,es,ep,ho,hdt,r⟩:=F.C.hb
    exact ⟨o,es,ep,inv.base _ _ F.C.J7.2.1 ho,hdt,r⟩
theorem I.top{X:Addr→Prop}{s:Shared}{v:Value}{d:PV}(inv:I F X ρ s)(r:Rep F.C.G F.C.g v d):Rep X s.heap v d:=r.mono inv.base inv.new
theorem Ev.b9g{x:Str}{pos:Pos}{v:Value}{d:PV}(g:Gv F.C x v d)(h:P d)(hx:F.env.kindOf x=some .globalImplicit)(hd:(x==("__debug__":Str))=false:=by decide):Ev F ρ (.Name x pos) P:=fun X s inv Q E q=>
  a6v inv g.1 hx hd (q _ _ _ h inv (Ext.refl _ _) (inv.top g.2))
theorem E7.nil{P:List PV→Prop}(h:P []):E7 F ρ [] P:=fun X s pos inv Q E q=>wpAny_items_nil (q _ _ _ h inv (Ext.refl _ _) .nil)
theorem E7.cons{e:Expr}{es:List Expr}{P:List PV→Prop}(h:Ev F ρ e fun d=>E7 F ρ es fun ds=>P (d::ds))(hs:starEach (e::es) F.env=(false,eval e F.env)::starEach es F.env:=by rfl):E7 F ρ (e::es) P:=fun X s pos inv Q E q=>by
  refine b8 (hs ..) ?_
  refine Calls.spliced_cons (h X s inv _ _ fun v d s₁ p i₁ x1a r₁=>?_)
  refine p X s₁ pos i₁ _ _ fun vs ds s₂ p2a i₂ x₂ r₂=>?_
  exact q _ _ _ p2a i₂ (x1a.trans x₂) (.cons (x₂.all i₁ r₁) r₂)
theorem c8{h:Heap}(o:Obj):∀b o',h.get? b=some o'→(h.push o).get? b=some o':=fun O O e=>Heap.get?_push_of_some o e
theorem A8(h:Heap):h.get? h.objs.size= .none:=by
  exact isNone fun o q=>by exact absurd (Heap.lt_size q) (Nat.lt_irrefl _)
theorem I.a8z{X:Addr→Prop}{s:Shared}(inv:I F X ρ s){a:Addr}(e:s.heap.get? a= .none):¬X a:=fun q=>by
  obtain ⟨o,ho⟩:=inv.d8 a q;exact n9 e ho
theorem Ev.tuple{es:List Expr}{k:Nat}{pos:Pos}(h:E7 F ρ es fun ds=>ds.length≤sizeLine∧P (.tup ds)):Ev F ρ (.Tuple es k pos) P:=fun X s inv Q E q=>by
  refine wpAny_Tuple_spliced (h X s pos inv _ _ fun vs ds s' p i x r=>⟨by refine b8 (r.1 ..) ?_;exact p.1,?_⟩)
  refine q _ _ _ p.2 (i.grow (c8 _)) (x.trans (Ext.heap _ _ (Le.of (c8 _)))) (Rep.c7m (y9.new _ _) (i.a8z (A8 _)) (r.le (Le.of (c8 _))))
theorem Ev.list{es:List Expr}{pos:Pos}(h:E7 F ρ es fun ds=>ds.length≤sizeLine∧P (.lst ds)):Ev F ρ (.List es pos) P:=fun X s inv Q E q=>by
  refine wpAny_List_spliced (h X s pos inv _ _ fun vs ds s' p i x r=>⟨by refine b8 (r.1 ..) ?_;exact p.1,?_⟩)
  exact q _ _ _ p.2 (i.grow (c8 _)) (x.trans (Ext.heap _ _ (Le.of (c8 _)))) (Rep.c1x ⟨0,Heap.get?_push_size _ rfl⟩ (i.a8z (A8 _)) (r.le (Le.of (c8 _))))
noncomputable def G4{α:Type}(o:Option α)(P:α→Prop):Prop:=∃y,o=some y∧P y
theorem G4.mk{α:Type}{o:Option α}{P:α→Prop}{y:α}(e:o=some y)(h:P y):G4 o P:=⟨y,e,h⟩
noncomputable def c4k(l:List PV)(n:Nat):Option PV:=if n<2 ^ 63 then l[n]? else none
noncomputable def itemAt(l:List PV)(i:PV):Option PV:=match i with
  | .int j=>(match j with
    | .ofNat n=>c4k l n
    | .negSucc _=>none)
  |_=>none
noncomputable def item? (d i:PV):Option PV:=match d with
  | .tup l=>itemAt l i
  | .lst l=>itemAt l i
  |_=>none
theorem b7e{l:List PV}{n:Nat}{y:PV}(e:c4k l n=some y):n<2 ^ 63∧l[n]?=some y:=by
  by_cases h:n<2 ^ 63
  · exact ⟨h,(if_pos h).symm.trans e⟩
  · exact n9 (if_neg h) e
theorem a6i{l:List PV}{i y:PV}(e:itemAt l i=some y):∃n,i= .int (.ofNat n)∧n<2 ^ 63∧l[n]?=some y:=by
  cases i with
  | int j=>cases j with
    |ofNat n=>exact ⟨n,rfl,b7e e⟩
    |negSucc n=>exact l8 e
  |_=>exact l8 e
theorem b4m{d i y:PV}(e:item? d i=some y):∃l n,(d= .tup l∨d= .lst l)∧i= .int (.ofNat n)∧n<2 ^ 63∧l[n]?=some y:=by
  cases d with
  |tup l=>obtain ⟨n,h⟩:=a6i e;exact ⟨l,n,.inl rfl,h⟩
  |lst l=>obtain ⟨n,h⟩:=a6i e;exact ⟨l,n,.inr rfl,h⟩
  |_=>exact l8 e
theorem Ev.item{value slice:Expr}{pos:Pos}(h:F7 F ρ value fun d=>Ev F ρ slice fun i=>G4 (item? d i) P)
    (hs:∀o i,subscripted slice false o i=operate [o,i] (getItem o i):=by intro _ _;rfl):Ev F ρ (.Subscript value slice pos) P:=fun X s inv Q E q=>by
  refine Subscript_ (h X s inv _ _ fun v d s₁ p i₁ x1a r₁=>?_)
  refine p X s₁ i₁ _ _ fun u k s₂ z1 i₂ x₂ r₂=>?_
  obtain ⟨y,e,p2a⟩:=z1
  have r3a:=x₂.allB i₁ r₁
  clear p r₁;obtain ⟨l,n,hd,rfl,hn,he⟩:=b4m e
  clear e;obtain ⟨t,rfl⟩:=r₂.int_inv
  rcases hd with rfl|rfl
  · obtain ⟨a,vs,rfl,ht,_,rl⟩:=r3a.n8
    obtain ⟨z,hz,rz⟩:=rl.get he
    have hlt:n<vs.length:=(List.getElem?_eq_some_iff.mp hz).1
    have hn':((n:Nat):Int)<2 ^ 63:=by lia
    refine item_tupleT ht.isTup (Int.le_trans (by decide) (Int.natCast_nonneg n)) hn' (j:=n) ?_ hz (q _ _ _ p2a i₂ (x1a.trans x₂) rz) (hs _ _)
    have hz0:¬((n:Int)<0):=Int.not_lt.mpr (Int.natCast_nonneg n)
    unfold seqIndex?
    simp only [Int.ofNat_eq_natCast,hz0,if_false]
    refine b8 (if_pos (by simp;exact hlt) ..) ?_
    rfl
  · obtain ⟨a,vs,rfl,ht,rl⟩:=r3a.lst_inv
    obtain ⟨z,hz,rz⟩:=rl.get he
    have hn':((n:Nat):Int)<2 ^ 63:=by lia
    exact tail_any ht.isList.typeIs slot_list_getitem.lookup (wpAny_getItem_list ht.isList (Int.natCast_nonneg n) hn' (by simpa using hz) (q _ _ _ p2a i₂ (x1a.trans x₂) rz)) (hs _ _)
end
section
variable [HH:u7]
mutual
noncomputable def toPy:PV→PyData
  | .none=> .none
  | .bool b=> .bool b
  | .int i=> .int i
  | .str s=> .str s
  | .tup l=> .tuple (toPys l)
  | .lst l=> .list (toPys l)
  | .z8 _=> .none
  | .dct _=> .none
  | .any=> .none
noncomputable def toPys:List PV→List PyData
  |[]=>[]
  |d::l=>toPy d::toPys l
end
mutual
noncomputable def clean:PV→Bool
  | .none=>true
  | .bool _=>true
  | .int _=>true
  | .str s=>s.cps.toList.all fun c=>decide (c<0x110000)
  | .tup l=>E3 l
  | .lst l=>E3 l
  | .z8 _=>false
  | .dct _=>false
  | .any=>false
noncomputable def E3:List PV→Bool
  |[]=>true
  |d::l=>clean d&&E3 l
end
theorem a1g{h:Heap} :∀ {vs:List Value} {l:List PV},vs.length=l.length→E3 l=true→
    (∀(i:Nat) v d,vs[i]?=some v→l[i]?=some d→clean d=true→∃as,Reads h v (toPy d) as)→∃as,ReadsAll h vs (toPys l) as
  |[],[],_,_,_=>⟨_,ReadsAll.nil⟩
  | v::vs,d::l,e,c,k=>by
    have c:=Bool.and_eq_true_iff.mp (show (clean d&&E3 l)=true from c)
    obtain ⟨as,q⟩:=k 0 v d rfl rfl c.1
    have zz:=a1g (vs:=vs) (l:=l) (Nat.succ.inj e) c.2 fun i v d e1 e2=>k (i+1) v d e1 e2;clear e k c;obtain ⟨bs,p⟩:=zz
    exact ⟨_,ReadsAll.cons q p⟩
theorem Rep.reads{X:Addr→Prop}{h:Heap}{v:Value}{d:PV}(r:Rep X h v d):clean d=true→∃as,Reads h v (toPy d) as:=by
  induction r with
  |none=>exact fun O=>⟨_,Reads.none⟩
  |bool b=>exact fun O=>⟨_,Reads.bool b⟩
  |int i t=>exact fun O=>⟨_,Reads.int i t⟩
  |str s t=>exact fun O=>⟨_,Reads.str s t⟩
  |z8 v _=>exact fun c=>by cases c
  |any v=>exact fun c=>by cases c
  | tup ht _ hl _ ih=>
    intro c
    obtain ⟨n,ho⟩:=ht
    have zz:=a1g hl c ih;clear hl ih c;obtain ⟨as,q⟩:=zz
    exact ⟨_,reads_tuple_at ho rfl rfl q⟩
  | lst ht _ hl _ ih=>
    intro c
    obtain ⟨n,ho⟩:=ht
    have zz:=a1g hl c ih;clear hl ih c;obtain ⟨as,q⟩:=zz
    exact ⟨_,reads_list_at ho rfl rfl q⟩
theorem C6.reads{C:Cx}{X:Addr→Prop}{h:Heap}{v:Value}{d:PV}(r:C6 C X h v d)(c:clean d=true):∃as,Reads h v (toPy d) as:=by
  cases r with
  |of r=>exact r.reads c
  | own _ o=>
    cases d <;> first
      |exact o.elim
      |(cases c;done)
      |skip
    obtain ⟨vs,⟨n,ho⟩,rl⟩:=o
    have zz:=a1g rl.1 c fun i v d e1 e2 c=>(rl.2 i v d e1 e2).reads c;clear c rl;obtain ⟨as,q⟩:=zz
    exact ⟨_,reads_list_at ho rfl rfl q⟩
mutual
theorem a0i:∀d:PV,clean d=true→(toPy d).canLay0=true
  | .none,_=>rfl
  | .bool _,_=>rfl
  | .int _,_=>rfl
  | .str s,h=>by
    show (s.cps.all fun c=>decide (c<0x110000))=true
    refine C5 (Array.all_toList ..) ?_;exact h
  | .tup l,h=>a0j l h
  | .lst l,h=>a0j l h
theorem a0j:∀l:List PV,E3 l=true→PyData.canLayAll0 (toPys l)=true
  |[],_=>rfl
  | d::l,h=>by
    have h:=Bool.and_eq_true_iff.mp (show (clean d&&E3 l)=true from h)
    exact Bool.and_eq_true_iff.mpr ⟨a0i d h.1,a0j l h.2⟩
end
theorem a2q{c:Prop}[Decidable c]{α:Type}{a:Option α}{r:α}(h:(if c then a else none)=some r):c∧a=some r:=by
  by_cases x:c
  · rw [if_pos x] at h;exact ⟨x,h⟩
  · rw [if_neg x] at h;exact l8 h
noncomputable def G8(d:PV):Bool:=clean d&&decide ((toPy d).depth≤64)
noncomputable def J4 (a b:PV):Option Bool:=if G8 a&&G8 b then some (PyData.eqv (toPy a) (toPy b)) else none
noncomputable def c4i:PV→Bool
  | .lst []=>true
  |_=>false
noncomputable def D0(z:Option Bool)(k:Int→Option Bool):PV→Option Bool
  | .int i=>k i
  |_=>z
noncomputable def onStr(z:Option Bool)(k:Str→Option Bool):PV→Option Bool
  | .str i=>k i
  |_=>z
noncomputable def a2j(z:Option Bool)(k:Bool→Option Bool):PV→Option Bool
  | .bool i=>k i
  |_=>z
section
variable{z:Option Bool}{a:PV}{c:Bool}{P:PV→Prop}
theorem D0.inv{k:Int→Option Bool}(h:D0 z k a=some c)(h1:∀i,k i=some c→P (.int i))(h2:z=some c→P a):P a:=by cases a <;> first|exact h1 _ h|exact h2 h
theorem onStr.inv{k:Str→Option Bool}(h:onStr z k a=some c)(h1:∀i,k i=some c→P (.str i))(h2:z=some c→P a):P a:=by cases a <;> first|exact h1 _ h|exact h2 h
theorem a2j.inv{k:Bool→Option Bool}(h:a2j z k a=some c)(h1:∀i,k i=some c→P (.bool i))(h2:z=some c→P a):P a:=by cases a <;> first|exact h1 _ h|exact h2 h
end
noncomputable def truth?:PV→Option Bool
  | .bool b=>some b
  |_=>none
noncomputable def eq?:PV→PV→Option Bool
  | .lst xs,b=>if c4i b then some xs.isEmpty else J4 (.lst xs) b
  | .str s,b=>onStr (J4 (.str s) b) (fun t=>some (s==t)) b
  | .int s,b=>D0 (J4 (.int s) b) (fun t=>some (s==t)) b
  | .bool s,b=>a2j (J4 (.bool s) b) (fun t=>some (s==t)) b
  | .none,b=>J4 .none b
  | .tup l,b=>J4 (.tup l) b
  | .z8 v,b=>J4 (.z8 v) b
  | .dct m,b=>J4 (.dct m) b
  | .any,b=>J4 .any b
inductive EqI:PV→PV→Bool→Prop
  |nil (xs:List PV):EqI (.lst xs) (.lst []) xs.isEmpty
  |str (s t:Str):EqI (.str s) (.str t) (s==t)
  |int (s t:Int):EqI (.int s) (.int t) (s==t)
  |bool (s t:Bool):EqI (.bool s) (.bool t) (s==t)
  |gen (a b:PV) (c:Bool) (h:J4 a b=some c):EqI a b c
theorem truth?.inv{a:PV}{i:Bool}(h:truth? a=some i):a= .bool i:=by cases a <;> first|exact congrArg _ (Option.some.inj h)|exact l8 h
set_option tactic.hygienic true in
theorem c4i.inv{a:PV}(h:c4i a=true):a= .lst []:=by
  cases a
  case lst l=>cases l;rfl;exact D8 h
  all_goals exact D8 h
set_option tactic.hygienic true in
theorem eq?.inv{a b:PV}{c:Bool}(h:eq? a b=some c):EqI a b c:=by
  cases a
  case lst xs=>
    have h:(if c4i b then some xs.isEmpty else J4 (.lst xs) b)=some c:=h
    cases e:c4i b with
    |true=>rw [e,if_pos rfl] at h;cases c4i.inv e;exact Option.some.inj h▸ .nil _
    |false=>rw [e,if_neg nofun] at h;exact .gen _ _ _ h
  case str s=>exact onStr.inv (P:=fun b=>EqI (.str s) b c) h (fun x e=>Option.some.inj e▸ .str _ _) (.gen _ _ _)
  case int s=>exact D0.inv (P:=fun b=>EqI (.int s) b c) h (fun x e=>Option.some.inj e▸ .int _ _) (.gen _ _ _)
  case bool s=>exact a2j.inv (P:=fun b=>EqI (.bool s) b c) h (fun x e=>Option.some.inj e▸ .bool _ _) (.gen _ _ _)
  all_goals exact .gen _ _ _ h
noncomputable def c7o (a b:PV)(l:List PV):Option Bool:=if G8 a&&G8 b then some ((toPys l).any fun y=>PyData.eqv y (toPy a)) else none
noncomputable def N3 (a:PV):PV→Option Bool
  | .tup l=>c7o a (.tup l) l
  | .lst l=>c7o a (.lst l) l
  |_=>none
inductive InI(a:PV)(c:Bool):PV→Prop
  |tup (l:List PV) (h:c7o a (.tup l) l=some c):InI a c (.tup l)
  |lst (l:List PV) (h:c7o a (.lst l) l=some c):InI a c (.lst l)
theorem N3.inv{a b:PV}{c:Bool}(h:N3 a b=some c):InI a c b:=by cases b <;> first|exact .tup _ h|exact .lst _ h|exact l8 h
noncomputable def a9g:PV→Option Bool
  | .none=>some true
  | .z8 _=>none
  | .any=>none
  | .bool _=>some false
  | .int _=>some false
  | .str _=>some false
  | .tup _=>some false
  | .lst _=>some false
  | .dct _=>some false
inductive b9a(f:Int→Int→Option Bool)(c:Bool):PV→PV→Prop
  |mk (i j:Int) (h:f i j=some c):b9a f c (.int i) (.int j)
theorem b8v{f:Int→Int→Option Bool}{a b:PV}{c:Bool}(h:D0 none (fun i=>D0 none (fun j=>f i j) b) a=some c):b9a f c a b:=
  D0.inv (P:=fun a=>b9a f c a b) h (fun i h=>D0.inv (P:=fun b=>b9a f c (.int i) b) h (fun j h=>⟨i,j,h⟩) l8) l8
noncomputable def c5r (a:PV):PV→Option Bool
  | .none=>(a9g a).map not
  |b=>a2j none (fun i=>a2j none (fun j=>some (!(i==j))) b) a
noncomputable def is? (a:PV):PV→Option Bool
  | .none=>a9g a
  |_=>none
noncomputable def E8:CmpOp→PV→PV→Option Bool
  | .Eq,a,b=>eq? a b
  | .NotEq,a,b=>(eq? a b).map not
  | .Lt,a,b=>D0 none (fun i=>D0 none (fun j=>some (decide (i<j))) b) a
  | .LtE,a,b=>D0 none (fun i=>D0 none (fun j=>some (decide (i≤j))) b) a
  | .Gt,a,b=>D0 none (fun i=>D0 none (fun j=>some (decide (j<i))) b) a
  | .GtE,a,b=>D0 none (fun i=>D0 none (fun j=>some (decide (j≤i))) b) a
  | .Is,a,b=>is? a b
  | .IsNot,a,b=>c5r a b
  | .In,a,b=>N3 a b
  | .NotIn,a,b=>(N3 a b).map not
section
variable{prog:Program}{w:World}{A:Around}{s:Shared}{C:Cx}{X:Addr→Prop}{E Q:Value→Shared→Prop}{v u:Value}{a b:PV}{c:Bool}
theorem r8{d:PV}(h:G8 d=true):clean d=true∧SeqAt.shaped (toPy d)=true:=by
  have h:=Bool.and_eq_true_iff.mp h;exact ⟨h.1,by unfold SeqAt.shaped;refine b8 (a0i d h.1 ..) (b8 (h.2 ..) ?_);rfl⟩
noncomputable def ng:Bool→Bool→Bool
  |false,c=>c
  |true,c=>!c
noncomputable def d0g:Bool→CmpOp
  |false=> .Eq
  |true=> .NotEq
noncomputable def d0y:Bool→CmpOp
  |false=> .In
  |true=> .NotIn
theorem b6z(n:Bool)(hu:A.units+64<cLine)(ra:C6 C X s.heap v a)(rb:C6 C X s.heap u b)(e:J4 a b=some c)(h:Q (.bool (ng n c)) s):wpAny (model prog w) A (compareOp (d0g n) v u) Q E s:=by
  obtain ⟨k,e⟩:=a2q e
  obtain ⟨k1,k2⟩:=Bool.and_eq_true_iff.mp k
  obtain ⟨_,p⟩:=ra.reads (r8 k1).1
  obtain ⟨_,q⟩:=rb.reads (r8 k2).1
  cases e
  cases n
  · exact eq_dataH p q (r8 k1).2 (r8 k2).2 hu h
  · exact ne_dataH p q (r8 k1).2 (r8 k2).2 hu h
theorem b1p(n:Bool)(hu:A.units+64<cLine)(ra:C6 C X s.heap v a)(rb:C6 C X s.heap u b)(e:eq? a b=some c)(h:Q (.bool (ng n c)) s):wpAny (model prog w) A (compareOp (d0g n) v u) Q E s:=by
  cases eq?.inv e with
  |gen _ _ _ e=>exact b6z n hu ra rb e h
  | nil xs=>
    clear e;obtain ⟨a',vs,rfl,h1,r1⟩:=ra.lst_inv
    obtain ⟨b',us,rfl,h2,r2⟩:=rb.lst_inv
    rw [r2.nil_inv] at h2
    clear ra;cases xs with
    | nil=>
      rw [r1.nil_inv] at h1
      cases n
      · exact SeqAt.eq_listAt h1.isList h2.isList rfl (by exact Nat.lt_of_le_of_lt (Nat.le_add_right _ _) (by assumption)) (e:=fun O=>true) (fun j h1=>absurd h1 (Nat.not_lt_zero _)) h
      · exact SeqAt.RcNeAt.lists h1.isList h2.isList rfl (by exact Nat.lt_of_le_of_lt (Nat.le_add_right _ _) (by assumption)) (e:=fun O=>true) (fun j h1=>absurd h1 (Nat.not_lt_zero _)) _ _ _ _ h
    | cons x xs=>
      obtain ⟨v',vs',rfl,_⟩:=r1.cons_inv
      cases n
      · exact SeqAt.eq_list_lengthsAt h1.isList h2.isList rfl (by exact Nat.lt_of_le_of_lt (Nat.le_add_right _ _) (by assumption)) h
      · exact SeqAt.RcNeAt.lists_lengths h1.isList h2.isList rfl (by exact Nat.lt_of_le_of_lt (Nat.le_add_right _ _) (by assumption)) _ _ _ _ h
  | str s t=>
    obtain ⟨_,rfl⟩:=ra.str_inv
    obtain ⟨_,rfl⟩:=rb.str_inv
    cases n
    · exact PyProof.Rows.eq_str h
    · exact PyProof.Rows.ne_str h
  | int s t=>
    obtain ⟨_,rfl⟩:=ra.int_inv
    obtain ⟨_,rfl⟩:=rb.int_inv
    cases n
    · exact PyProof.Rows.eq_int h
    · exact PyProof.Rows.ne_int h
  | bool s t=>
    cases ra.bool_inv
    cases rb.bool_inv
    cases n
    · exact PyProof.Rows.eq_bool h
    · exact PyProof.Rows.ne_bool h
theorem b1v{d:PV}(h:G8 d=true):(toPy d).depth≤64:=of_decide_eq_true (Bool.and_eq_true_iff.mp h).2
theorem b0y(n:Bool)(hu:A.units+66<cLine)(ra:C6 C X s.heap v a)(rb:C6 C X s.heap u b)(e:N3 a b=some c)(h:Q (.bool (ng n c)) s):wpAny (model prog w) A (compareOp (d0y n) v u) Q E s:=by
  have room:∀m,G8 a=true→A.units+1+min m (toPy a).depth<cLine:=fun m k=>Nat.lt_of_le_of_lt (Nat.add_le_add_left (Nat.le_trans (Nat.min_le_right _ _) (b1v k)) _) (by exact Nat.le_of_lt (by assumption))
  cases N3.inv e with
  | tup l e=>
    obtain ⟨k,e⟩:=a2q e
    obtain ⟨k1,k2⟩:=Bool.and_eq_true_iff.mp k
    obtain ⟨_,p⟩:=ra.reads (r8 k1).1
    obtain ⟨_,q⟩:=rb.reads (r8 k2).1
    cases e
    cases n
    · exact SeqAt.in_tuple_reads q p (a0j _ (r8 k2).1) (a0i _ (r8 k1).1) (room _ k1) h
    · exact SeqAt.notIn_tuple_reads q p (a0j _ (r8 k2).1) (a0i _ (r8 k1).1) (room _ k1) h
  | lst l e=>
    obtain ⟨k,e⟩:=a2q e
    obtain ⟨k1,k2⟩:=Bool.and_eq_true_iff.mp k
    obtain ⟨_,p⟩:=ra.reads (r8 k1).1
    obtain ⟨_,q⟩:=rb.reads (r8 k2).1
    cases e
    cases n
    · exact SeqAt.in_list_reads q p (a0j _ (r8 k2).1) (a0i _ (r8 k1).1) (room _ k1) h
    · exact SeqAt.notIn_list_reads q p (a0j _ (r8 k2).1) (a0i _ (r8 k1).1) (room _ k1) h
theorem a6j(ra:C6 C X s.heap v a)(e:a9g a=some c):plainIs v .none=true∧(v== .none)=c:=by
  cases ra with
  |of r=>cases r <;> first|exact ⟨rfl,Option.some.inj e⟩|exact l8 e
  |own _ o=>cases a <;> first|exact o.elim|exact ⟨rfl,Option.some.inj e⟩
theorem a1d{op:CmpOp}(hu:A.units+66<cLine)(ra:C6 C X s.heap v a)(rb:C6 C X s.heap u b)(e:E8 op a b=some c)(h:Q (.bool c) s):wpAny (model prog w) A (compareOp op v u) Q E s:=by
  have intc:∀ {f:Int→Int→Option Bool} {op:CmpOp},D0 none (fun i=>D0 none (fun j=>f i j) b) a=some c→(∀i j t t',f i j=some c→wpAny (model prog w) A (compareOp op (.int i t) (.int j t')) Q E s)→wpAny (model prog w) A (compareOp op v u) Q E s:=fun {f op} e k=>by
    cases b8v e with
    | mk i j e=>
      obtain ⟨_,rfl⟩:=ra.int_inv
      obtain ⟨_,rfl⟩:=rb.int_inv
      exact k _ _ _ _ e
  have nots:∀ {o:Option Bool},o.map Bool.not=some c→∃c',o=some c'∧Q (.bool (ng true c')) s:=fun e=>by
    clear intc;have zz:=Option.map_eq_some_iff.mp e;clear e;clear e;obtain ⟨c',e',rfl⟩:=zz;exact ⟨c',e',h⟩
  cases op
  case Eq=>exact b1p false (Nat.lt_of_le_of_lt (Nat.add_le_add_left (by decide) _) hu) ra rb e h
  case NotEq=>have zz:=nots e;clear nots e;obtain ⟨c',e',h⟩:=zz;exact b1p true (Nat.lt_of_le_of_lt (Nat.add_le_add_left (by decide) _) hu) ra rb e' h
  case Lt=>exact intc e fun O O O O e=>lt_int (Option.some.inj e▸h)
  case LtE=>exact intc e fun O O O O e=>le_int (Option.some.inj e▸h)
  case Gt=>exact intc e fun O O O O e=>gt_int (Option.some.inj e▸h)
  case GtE=>exact intc e fun O O O O e=>ge_int (Option.some.inj e▸h)
  case In=>exact b0y false hu ra rb e h
  case NotIn=>have zz:=nots e;clear nots e;obtain ⟨c',e',h⟩:=zz;exact b0y true hu ra rb e' h
  case Is=>
    clear intc;cases b
    case none=>
      cases rb.none_inv
      have zz:=a6j ra e;clear ra e;obtain ⟨p,q⟩:=zz;exact wpAny_is_plain p (q▸h)
    all_goals exact l8 e
  case IsNot=>
    have bools:a2j none (fun i=>a2j none (fun j=>some (!(i==j))) b) a=some c→wpAny (model prog w) A (compareOp .IsNot v u) Q E s:=fun e=>by
      refine a2j.inv (P:=fun a'=>a=a'→_) e (fun x e1 ea=>?_) l8 rfl
      refine a2j.inv (P:=fun b'=>b=b'→_) e1 (fun y e2 eb=>?_) l8 rfl
      clear intc nots e e1;cases ea;cases eb;have zz:=Option.some.inj e2;clear e;clear e2;cases zz
      cases ra.bool_inv;cases rb.bool_inv
      exact wpAny_isNot_plain (by cases x <;> cases y <;> rfl) (show Q (.bool (!(Value.bool x==Value.bool y))) s from (show (Value.bool x==Value.bool y)=(x==y) by cases x <;> cases y <;> rfl)▸h)
    clear intc;cases b
    case none=>
      have zz:=rb.none_inv;clear bools;clear rb;cases zz
      have zz:=nots e;clear nots e;obtain ⟨c',e',h⟩:=zz
      have zz:=a6j ra e';clear ra e';obtain ⟨p,q⟩:=zz;exact wpAny_isNot_plain p (q▸h)
    all_goals exact bools e
end
noncomputable def Br(b:Bool)(p q:Prop):Prop:=(b=true→p)∧(b=false→q)
theorem Br.t{b:Bool}{p q:Prop}(e:b=true)(h:p):Br b p q:=⟨fun O=>h,fun x=>by rw [e] at x;cases x⟩
theorem Br.f{b:Bool}{p q:Prop}(e:b=false)(h:q):Br b p q:=⟨fun x=>(by rw [e] at x;cases x),fun O=>h⟩
theorem Fm.u66(F:Fm):F.A.units+66<cLine:=by have:=F.hu;lia
section
variable{F:Fm}{ρ:b9}{P:PV→Prop}{PB:Bool→Prop}
theorem Ev.cmp{l r:Expr}{op:CmpOp}{pos:Pos}(h:F7 F ρ l fun a=>F7 F ρ r fun b=>G4 (E8 op a b) fun c=>P (.bool c))(hm:behindInMarks op r=false:=by with_unfolding_all rfl):Ev F ρ (.Compare l [op] [r] pos) P:=fun X s inv Q E q=>by
  refine wpAny_Compare1 (h X s inv _ _ fun v a s₁ p i₁ x1a r₁=>p X s₁ i₁ _ _ fun u b s₂ ⟨c,e,p2a⟩ i₂ x₂ r₂=>?_) hm
  exact a1d F.u66 (x₂.allB i₁ r₁) r₂ e (q _ _ _ p2a i₂ (x1a.trans x₂) (.bool c))
theorem Tr.cmp{l r:Expr}{op:CmpOp}{pos:Pos}(h:F7 F ρ l fun a=>F7 F ρ r fun b=>G4 (E8 op a b) PB)(hm:behindInMarks op r=false:=by with_unfolding_all rfl):Tr F ρ (.Compare l [op] [r] pos) PB:=fun X s inv Q E q=>by
  refine wpAny_isTrue_Compare1 (h X s inv _ _ fun v a s₁ p i₁ x1a r₁=>p X s₁ i₁ _ _ fun u b s₂ ⟨c,e,p2a⟩ i₂ x₂ r₂=>?_) hm
  exact a1d F.u66 (x₂.allB i₁ r₁) r₂ e (wpAny_truthy_bool (q _ _ p2a i₂ (x1a.trans x₂)))
theorem Ev.K4{l r r':Expr}{op op':CmpOp}{pos:Pos}(h:F7 F ρ l fun a=>F7 F ρ r fun b=>G4 (E8 op a b) fun c=>Br c (F7 F ρ r' fun b'=>G4 (E8 op' b b') fun c'=>P (.bool c')) (P (.bool false)))
    (hm:lastMarks [op,op'] [r,r']=false:=by with_unfolding_all rfl):Ev F ρ (.Compare l [op,op'] [r,r'] pos) P:=fun X s inv Q E q=>by
  refine Compare_chain (h X s inv _ _ fun v a s₁ p i₁ x1a r₁=>chain_link (p X s₁ i₁ _ _ fun u b s₂ ⟨c,e,p2a⟩ i₂ x₂ r₂=>?_)) hm
  refine a1d F.u66 (x₂.allB i₁ r₁) r₂ e (wpAny_truthy_bool ?_)
  clear e;cases c with
  |false=>exact q _ _ _ (p2a.2 rfl) i₂ (x1a.trans x₂) (.bool false)
  | true=>
    refine chain_last ((p2a.1 rfl) X s₂ i₂ _ _ fun u' b' s₃ z1 i3a x3a r3a=>?_)
    obtain ⟨c',e',p3a⟩:=z1
    exact a1d F.u66 (x3a.allB i₂ r₂) r3a e' (q _ _ _ p3a i3a ((x1a.trans x₂).trans x3a) (.bool c'))
theorem Tr.K4{l r r':Expr}{op op':CmpOp}{pos:Pos}(h:F7 F ρ l fun a=>F7 F ρ r fun b=>G4 (E8 op a b) fun c=>Br c (F7 F ρ r' fun b'=>G4 (E8 op' b b') PB) (PB false))
    (hm:lastMarks [op,op'] [r,r']=false:=by with_unfolding_all rfl):Tr F ρ (.Compare l [op,op'] [r,r'] pos) PB:=fun X s inv Q E q=>by
  refine isTrue_chain (h X s inv _ _ fun v a s₁ p i₁ x1a r₁=>test_link (p X s₁ i₁ _ _ fun u b s₂ ⟨c,e,p2a⟩ i₂ x₂ r₂=>?_)) hm
  refine a1d F.u66 (x₂.allB i₁ r₁) r₂ e (wpAny_truthy_bool ?_)
  clear e;cases c with
  |false=>exact q _ _ (p2a.2 rfl) i₂ (x1a.trans x₂)
  | true=>
    refine test_last ((p2a.1 rfl) X s₂ i₂ _ _ fun u' b' s₃ z1 i3a x3a r3a=>?_)
    obtain ⟨c',e',p3a⟩:=z1
    exact a1d F.u66 (x3a.allB i₂ r₂) r3a e' (wpAny_truthy_bool (q _ _ p3a i3a ((x1a.trans x₂).trans x3a)))
theorem Tr.not{x:Expr}{pos:Pos}(h:Tr F ρ x fun b=>PB (!b)):Tr F ρ (.UnaryOp .Not x pos) PB:=fun X s inv Q E q=>wpAny_isTrue_Not (h X s inv _ _ fun b s' p i x=>q _ _ p i x)
theorem Tr.val{e:Expr}(h:Ev F ρ e fun d=>G4 (truth? d) PB)(he:∀whole,isTrue e F.env whole=(do let v ← whole;standAt e.pos;holding [v] (truthy v)):=by intro _;rfl):Tr F ρ e PB:=fun X s inv Q E q=>
  wpAny_isTrue_value (h X s inv _ _ fun v d s' ⟨b,e,p⟩ i x r=>by
    cases truth?.inv e
    refine b8 (r.bool_inv ..) ?_
    exact wpAny_truthy_bool (q _ _ p i x)) (he _)
theorem Tr.c9k{x y:Expr}{pos:Pos}(h:Tr F ρ x fun b=>Br b (Tr F ρ y PB) (PB false)):Tr F ρ (.BoolOp .And [x,y] pos) PB:=fun X s inv Q E q=>by
  refine wpAny_isTrue_BoolOp (wpAny_allTrue_And_cons (h X s inv _ _ fun b s₁ p i x=>?_))
  cases b with
  |false=>exact q _ _ (p.2 rfl) i x
  |true=>exact wpAny_allTrue_And_cons ((p.1 rfl) X s₁ i _ _ fun b s₂ p2a i₂ x₂=>by
      cases b with
      |false=>exact q _ _ p2a i₂ (x.trans x₂)
      |true=>exact wpAny_allTrue_And_nil (q _ _ p2a i₂ (x.trans x₂)))
theorem Tr.or2{x y:Expr}{pos:Pos}(h:Tr F ρ x fun b=>Br b (PB true) (Tr F ρ y PB)):Tr F ρ (.BoolOp .Or [x,y] pos) PB:=fun X s inv Q E q=>by
  refine wpAny_isTrue_BoolOp (wpAny_allTrue_Or_cons (h X s inv _ _ fun b s₁ p i x=>?_))
  cases b with
  |true=>exact q _ _ (p.1 rfl) i x
  |false=>exact wpAny_allTrue_Or_cons ((p.2 rfl) X s₁ i _ _ fun b s₂ p2a i₂ x₂=>by
      cases b with
      |true=>exact q _ _ p2a i₂ (x.trans x₂)
      |false=>exact wpAny_allTrue_Or_nil (q _ _ p2a i₂ (x.trans x₂)))
theorem Ev.c9k{x y:Expr}{pos:Pos}(h:Ev F ρ x fun d=>G4 (truth? d) fun b=>Br b (Ev F ρ y P) (P d)):Ev F ρ (.BoolOp .And [x,y] pos) P:=fun X s inv Q E q=>by
  refine wpAny_And2 (h X s inv _ _ fun v d s₁ z1 i x r=>?_)
  obtain ⟨b,e,p⟩:=z1
  cases truth?.inv e
  have r':=r.bool_inv
  clear e;subst r'
  refine wpAny_truthy_bool ?_
  cases b with
  |false=>exact q _ _ _ (p.2 rfl) i x r
  |true=>exact (p.1 rfl) X s₁ i _ _ fun v d s₂ p2a i₂ x₂ r₂=>q _ _ _ p2a i₂ (x.trans x₂) r₂
theorem Ev.or2{x y:Expr}{pos:Pos}(h:Ev F ρ x fun d=>G4 (truth? d) fun b=>Br b (P d) (Ev F ρ y P)):Ev F ρ (.BoolOp .Or [x,y] pos) P:=fun X s inv Q E q=>by
  refine wpAny_Or2 (h X s inv _ _ fun v d s₁ z1 i x r=>?_)
  obtain ⟨b,e,p⟩:=z1
  cases truth?.inv e
  have r':=r.bool_inv
  clear e;subst r'
  refine wpAny_truthy_bool ?_
  cases b with
  |true=>exact q _ _ _ (p.1 rfl) i x r
  |false=>exact (p.2 rfl) X s₁ i _ _ fun v d s₂ p2a i₂ x₂ r₂=>q _ _ _ p2a i₂ (x.trans x₂) r₂
theorem Ev.c9a{t b o:Expr}{pos:Pos}(h:Tr F ρ t fun c=>Br c (Ev F ρ b P) (Ev F ρ o P)):Ev F ρ (.IfExp t b o pos) P:=fun X s inv Q E q=>by
  refine wpAny_IfExp (h X s inv _ _ fun c s₁ p i x=>?_)
  cases c with
  |true=>exact (p.1 rfl) X s₁ i _ _ fun v d s₂ p2a i₂ x₂ r₂=>q _ _ _ p2a i₂ (x.trans x₂) r₂
  |false=>exact (p.2 rfl) X s₁ i _ _ fun v d s₂ p2a i₂ x₂ r₂=>q _ _ _ p2a i₂ (x.trans x₂) r₂
end
end
section
variable [HH:u7]
section
variable{prog:Program}{w:World}{A:Around}{s:Shared}{E Q:Value→Shared→Prop}
theorem c3o{t b:Addr}{vs ws:List Value}(ht:IsTup s.heap t vs.toArray)(hb:IsTup s.heap b ws.toArray)(h0:vs=[]→Q (.ref b) s)(h1:vs≠[]→ws=[]→Q (.ref t) s)
    (h2:vs≠[]→ws≠[]→Q (.ref s.heap.objs.size) {s with heap:=s.heap.push {cls:= .type "tuple",data:= .seq (vs++ws).toArray}})
    (hz:vs.length+ws.length≤sizeLine):wpAny (model prog w) A (binaryOp .Add (.ref t) (.ref b)) Q E s:=by
  obtain ⟨⟨cls,dd,data,sl⟩,ho,hc,n,hd⟩:=id ht
  obtain ⟨⟨cls2,dd2,data2,sl2⟩,ho2,hc2,n2,hd2⟩:=id hb
  simp only at hc hd hc2 hd2
  subst hc hd hc2 hd2
  by_cases hv:vs=[]
  · exact concat_meets ⟨_,ho,rfl⟩ ⟨_,ho2,rfl⟩ noFill_tuple_add seq_tuple_add PySem.F.slot_tuple_add PySem.F.entry_tuple_add (PySem.F.args_tuple_add_2 _ _)
      (tuple_addW0 t b vs.toArray ws.toArray n n2 dd dd2 sl sl2 (by simp [hv])) ⟨ho,ho2,h0 hv⟩
  · by_cases hw:ws=[]
    · exact concat_meets ⟨_,ho,rfl⟩ ⟨_,ho2,rfl⟩ noFill_tuple_add seq_tuple_add PySem.F.slot_tuple_add PySem.F.entry_tuple_add (PySem.F.args_tuple_add_2 _ _)
        (tuple_addW1 t b vs.toArray ws.toArray n n2 dd dd2 sl sl2 (by simpa using hv) (by simp [hw])) ⟨ho,ho2,h1 hv hw⟩
    · have:=h2 hv hw
      rw [show (vs++ws).toArray=vs.toArray++ws.toArray by simp] at this
      exact concat_meets ⟨_,ho,rfl⟩ ⟨_,ho2,rfl⟩ noFill_tuple_add seq_tuple_add PySem.F.slot_tuple_add PySem.F.entry_tuple_add (PySem.F.args_tuple_add_2 _ _)
        (tuple_addW2 t b vs.toArray ws.toArray n n2 dd dd2 sl sl2 (by simpa using hv) (by simpa using hw) (by refine b8 (List.size_toArray ..) (b8 (List.size_toArray ..) ?_);exact hz)) ⟨ho,ho2,this⟩
theorem c2x{l b:Addr}{vs ws:List Value}(hl:s.heap.IsList l vs.toArray)(hb:s.heap.IsList b ws.toArray)
    (h:Q (.ref s.heap.objs.size) {s with heap:=s.heap.push {cls:= .type "list",data:= .seq (vs++ws).toArray}})
    (hz:vs.length+ws.length≤sizeLine):wpAny (model prog w) A (binaryOp .Add (.ref l) (.ref b)) Q E s:=by
  obtain ⟨⟨cls,dd,data,sl⟩,ho,hc,n,hd⟩:=id hl
  obtain ⟨⟨cls2,dd2,data2,sl2⟩,ho2,hc2,n2,hd2⟩:=id hb
  simp only at hc hd hc2 hd2
  subst hc hd hc2 hd2
  rw [show (vs++ws).toArray=vs.toArray++ws.toArray by simp] at h
  exact concat_meets ⟨_,ho,rfl⟩ ⟨_,ho2,rfl⟩ noFill_list_add seq_list_add PySem.F.slot_list_add PySem.F.entry_list_add (PySem.F.args_list_add_2 _ _) (list_addW l b vs.toArray ws.toArray n n2 dd dd2 sl sl2 hz) ⟨ho,ho2,h⟩
theorem c2w{l:Addr}{v:Value}{x:Int}{u:Tok}(hl:s.heap.PlainList l [v].toArray)(hlo:0≤x)(hz:x≤2 ^ 24)
    (h:Q (.ref s.heap.objs.size) {s with heap:=s.heap.push {cls:= .type "list",data:= .seq (List.replicate x.toNat v).toArray}}):
    wpAny (model prog w) A (binaryOp .Mult (.ref l) (.int x u)) Q E s:=by
  obtain ⟨k,hl⟩:=hl
  have e:∀(n:Nat) (acc:Array Value),List.foldl (fun x1 x2=>x1++x2) acc (List.replicate n [v].toArray)=acc++(List.replicate n v).toArray:=by
    intro n
    induction n with
    |zero=>intro acc;simp
    |succ n ih=>intro acc;refine b8 (List.replicate_succ ..) (b8 (List.foldl_cons ..) (b8 (ih ..) (b8 (List.replicate_succ ..) ?_)));apply Array.ext';simp
  refine wpAny_binaryOp_repeat_ref (T:="list") (U:="int") (by decide) ⟨_,hl,rfl⟩ (fun s'=>typeIs_int s' x u) noFill_list_mul PySem.F.fills_int_mul PySem.F.slot_int_rmul repeat_list PySem.F.slot_int_index.lookup
    (call_meets PySem.F.slot_int_rmul (typeIs_int s x u) PySem.F.entry_int_rmul (PySem.F.args_int_rmul_2 _ _) (int___rmul___int_list x u l [v].toArray k)
      ⟨hl,rfl,⟨_,hl,rfl⟩,call_meets PySem.F.slot_list_mul ⟨_,hl,rfl⟩ PySem.F.entry_list_mul (PySem.F.args_list_mul_2 _ _)
        (AutoListH.list___mul___list_int_3 l [v].toArray k x u (by simp [Builtin.List.listFitsIndex];lia) (by simp;lia) (by simp [Builtin.List.listTooLong,sizeLine];assumption))
        ⟨hl,?_⟩⟩)
  simp only [List.isEmpty_toArray,List.isEmpty_cons,Bool.false_eq_true,if_false] at *
  refine b8 (e ..) ?_
  simpa using h
end
inductive I5:Operator→PV→PV→PV→Prop
  |d0c (a b:Int):I5 .Add (.int a) (.int b) (.int (a+b))
  |d0b (a b:Int):I5 .Sub (.int a) (.int b) (.int (a - b))
  |c6u (a b:Int):IntMulOk a b→I5 .Mult (.int a) (.int b) (.int (a*b))
  |c2f (a b:Int):b≠0→I5 .Mod (.int a) (.int b) (.int (a.fmod b))
  |c7v (a b:Int):b≠0→b.natAbs<1073741824→I5 .FloorDiv (.int a) (.int b) (.int (a.fdiv b))
  |c9q (a n:Int):0≤n→(Builtin.Int.intBits a:Int)*n≤2 ^ 27→I5 .Pow (.int a) (.int n) (.int (a ^ n.toNat))
  |c9z (l k:List PV):l.length+k.length≤sizeLine→I5 .Add (.tup l) (.tup k) (.tup (l++k))
  |c7w (l k:List PV):l.length+k.length≤sizeLine→I5 .Add (.lst l) (.lst k) (.lst (l++k))
  |d0a (d:PV) (n:Int):0≤n→n≤2 ^ 24→I5 .Mult (.lst [d]) (.int n) (.lst (List.replicate n.toNat d))
theorem i0.replicate{X:Addr→Prop}{h:Heap}{v:Value}{d:PV}(r:Rep X h v d)(n:Nat):i0 X h (List.replicate n v) (List.replicate n d):=by
  induction n with
  |zero=>exact .nil
  |succ n ih=>exact .cons r ih
section
variable{F:Fm}{ρ:b9}{P:PV→Prop}
theorem b0c{X:Addr→Prop}{s:Shared}(inv:I F X ρ s){vs:List Value}{l:List PV}(r:i0 X s.heap vs l):
    I F X ρ {s with heap:=s.heap.push {cls:= .type "tuple",data:= .seq vs.toArray}} ∧Ext F.C.G s {s with heap:=s.heap.push {cls:= .type "tuple",data:= .seq vs.toArray}} ∧
    Rep X (s.heap.push {cls:= .type "tuple",data:= .seq vs.toArray}) (.ref s.heap.objs.size) (.tup l):=
  ⟨inv.grow (c8 _),Ext.heap _ _ (Le.of (c8 _)),Rep.c7m (y9.new _ _) (inv.a8z (A8 _)) (r.le (Le.of (c8 _)))⟩
theorem b6t{X:Addr→Prop}{s:Shared}(inv:I F X ρ s){vs:List Value}{l:List PV}(r:i0 X s.heap vs l):
    I F X ρ {s with heap:=s.heap.push {cls:= .type "list",data:= .seq vs.toArray}} ∧Ext F.C.G s {s with heap:=s.heap.push {cls:= .type "list",data:= .seq vs.toArray}} ∧
    Rep X (s.heap.push {cls:= .type "list",data:= .seq vs.toArray}) (.ref s.heap.objs.size) (.lst l):=
  ⟨inv.grow (c8 _),Ext.heap _ _ (Le.of (c8 _)),Rep.c1x ⟨0,Heap.get?_push_size _ rfl⟩ (inv.a8z (A8 _)) (r.le (Le.of (c8 _)))⟩
theorem a8r{X:Addr→Prop}{s:Shared}{op:Operator}{v u:Value}{a b y:PV}{E Q:Value→Shared→Prop}(inv:I F X ρ s)(ra:Rep X s.heap v a)(rb:Rep X s.heap u b)(e:I5 op a b y)
    (q:∀v s',I F X ρ s'→Ext F.C.G s s'→Rep X s'.heap v y→Q v s'):wpAny (model F.C.prog F.C.w) F.A (binaryOp op v u) Q E s:=by
  revert ra rb q;cases e with
  |d0c a b=>intro ra rb q;obtain ⟨_,rfl⟩:=ra.int_inv;obtain ⟨_,rfl⟩:=rb.int_inv;exact P.add_int (q _ _ (inv.tok _) (Ext.tok' _ _) (.int _ _))
  |d0b a b=>intro ra rb q;obtain ⟨_,rfl⟩:=ra.int_inv;obtain ⟨_,rfl⟩:=rb.int_inv;exact P.sub_int (q _ _ (inv.tok _) (Ext.tok' _ _) (.int _ _))
  |c6u a b hm=>intro ra rb q;obtain ⟨_,rfl⟩:=ra.int_inv;obtain ⟨_,rfl⟩:=rb.int_inv;exact P.mul_int (q _ _ (inv.tok _) (Ext.tok' _ _) (.int _ _)) hm
  |c2f a b hb=>intro ra rb q;obtain ⟨_,rfl⟩:=ra.int_inv;obtain ⟨_,rfl⟩:=rb.int_inv;exact mod_int hb (q _ _ (inv.tok _) (Ext.tok' _ _) (.int _ _))
  |c7v a b hb hz=>intro ra rb q;obtain ⟨_,rfl⟩:=ra.int_inv;obtain ⟨_,rfl⟩:=rb.int_inv;exact floordiv_int hb (q _ _ (inv.tok _) (Ext.tok' _ _) (.int _ _)) (.inl (PyProof.noPylong_small hz))
  |c9q a n hn hz=>intro ra rb q;obtain ⟨_,rfl⟩:=ra.int_inv;obtain ⟨_,rfl⟩:=rb.int_inv;exact pow_int hn hz (q _ _ (inv.tok _) (Ext.tok' _ _) (.int _ _))
  | c9z l k hz=>
    intro ra rb q
    obtain ⟨a',vs,rfl,h1,hx,r1⟩:=ra.n8
    obtain ⟨b',us,rfl,h2,hy,r2⟩:=rb.n8
    refine c3o h1.isTup h2.isTup (fun e=>?_) (fun O e=>?_) (fun O O=>?_) (by refine b8 (r1.1 ..) (b8 (r2.1 ..) ?_);exact hz)
    · clear hz ra h1;subst e;have e:=r1.b1i;clear r1;subst e;exact q _ _ inv (Ext.refl _ _) rb
    · clear hz rb h2;subst e;have e:=r2.b1i;clear r2;subst e;exact q _ _ inv (Ext.refl _ _) (by refine b8 (List.append_nil ..) ?_;exact ra)
    · obtain ⟨i,x,r⟩:=b0c inv (r1.append r2);exact q _ _ i x r
  | c7w l k hz=>
    intro ra rb q
    obtain ⟨a',vs,rfl,h1,hx,r1⟩:=ra.lst_inv
    obtain ⟨b',us,rfl,h2,hy,r2⟩:=rb.lst_inv
    obtain ⟨i,x,r⟩:=b6t inv (r1.append r2)
    exact c2x h1.isList h2.isList (q _ _ i x r) (by refine b8 (r1.1 ..) (b8 (r2.1 ..) ?_);exact hz)
  | d0a d n hlo hz=>
    intro ra rb q
    obtain ⟨a',vs,rfl,h1,hx,r1⟩:=ra.lst_inv
    obtain ⟨_,rfl⟩:=rb.int_inv
    obtain ⟨v,vs',rfl,r,r'⟩:=r1.cons_inv
    rw [r'.nil_inv] at h1
    obtain ⟨i,x,r⟩:=b6t inv (i0.replicate r n.toNat)
    exact c2w h1 hlo hz (q _ _ i x r)
theorem Ev.bin{l r:Expr}{op:Operator}{pos:Pos}(h:Ev F ρ l fun a=>Ev F ρ r fun b=>∃y,I5 op a b y∧P y):Ev F ρ (.BinOp l op r pos) P:=fun X s inv Q E q=>by
  refine wpAny_BinOp (h X s inv _ _ fun v a s₁ p i₁ x1a r₁=>p X s₁ i₁ _ _ fun u b s₂ z1 i₂ x₂ r₂=>?_)
  obtain ⟨y,e,p2a⟩:=z1
  exact a8r i₂ (x₂.all i₁ r₁) r₂ e fun v s₃ i3a x3a r3a=>q _ _ _ p2a i3a ((x1a.trans x₂).trans x3a) r3a
end
end
section
variable [HH:u7]
noncomputable def Done(F:Fm)(v:Value)(d:PV)(s:Shared):Prop:=After F.C F.s₀ s∧Rep F.X₀ s.heap v d
theorem I.after{F:Fm}{X:Addr→Prop}{ρ:b9}{s₀ s:Shared}(i:I F X ρ s)(e:Ext F.C.G s₀ s):After F.C s₀ s:=⟨e,i.inv,fun a g=>i.d8 a (i.sub a g)⟩
structure JX(F:Fm)(X:Addr→Prop)(ρ:b9)(s:Shared):Prop where
  i:I F X ρ s
  x0:∀a,X a→F.X₀ a∨F.s₀.heap.get? a= .none
  x1:∀a,F.X₀ a→X a
  ext:Ext F.C.G F.s₀ s
structure m7(F:Fm)(X X':Addr→Prop)(s s':Shared):Prop where
  grow:∀a,X' a→X a∨s.heap.get? a= .none
  kept:∀b o,s.heap.get? b=some o→¬X b→b≠F.env.locals→(∀x,F.env.cells.lookup x≠some b)→s'.heap.get? b=some o
theorem m7.refl(F:Fm)(X:Addr→Prop)(s:Shared):m7 F X X s s:=⟨fun O=> .inl,fun O O e O O O=>e⟩
theorem m7.trans{F:Fm}{X1a X2a X3:Addr→Prop}{s₁ s₂ s₃:Shared}(x:m7 F X1a X2a s₁ s₂)(y:m7 F X2a X3 s₂ s₃)(hex:∀a o,s₁.heap.get? a=some o→∃o',s₂.heap.get? a=some o'):m7 F X1a X3 s₁ s₃ where
  grow:=fun a h=>(y.grow a h).elim (x.grow a) fun e=>by
    cases z:s₁.heap.get? a with
    |none=>exact .inr rfl
    |some o=>obtain ⟨o',h'⟩:=hex a o z;exact n9 e h'
  kept:=fun b o e h1 h2 h3=>y.kept b o (x.kept b o e h1 h2 h3) (fun q=>(x.grow b q).elim h1 fun z=>by rw [e] at z;cases z) h2 h3
theorem m7.x7{F:Fm}{X:Addr→Prop}{ρ:b9}{s s':Shared}(i:I F X ρ s)(e:Ext F.C.G s s'):m7 F X X s s':=⟨fun O=> .inl,fun b o z h O O=>e.le b o (fun g=>h (i.sub b g)) z⟩
theorem JX.alive{F:Fm}{X X':Addr→Prop}{ρ ρ':b9}{s s':Shared}(j:JX F X ρ s)(j':JX F X' ρ' s')(hX:∀a,X a→X' a)(k:m7 F X X' s s'):∀a o,s.heap.get? a=some o→∃o',s'.heap.get? a=some o':=fun a o e=>by
  by_cases h1:X a
  · exact j'.1.d8 a (hX a h1)
  · by_cases h2:a=F.env.locals
    · obtain ⟨m,o',es,ep,ho,_⟩:=j'.1.ns;exact ⟨o',h2▸ho⟩
    · by_cases h3:∃x,F.env.cells.lookup x=some a
      · obtain ⟨x,hx⟩:=h3;obtain ⟨u,o',ho,_⟩:=j'.1.cell x a hx;exact ⟨o',ho⟩
      · exact ⟨o,k.kept a o e h1 h2 fun x hx=>h3 ⟨x,hx⟩⟩
noncomputable def A0(F:Fm)(ρ:b9)(ss:List Stmt)(N:b9→Prop)(R:PV→Prop):Prop:=
  ∀ X s,JX F X ρ s→∀(Q:Flow→Shared→Prop) (E:Value→Shared→Prop),(∀ρ' s' X',N ρ'→JX F X' ρ' s'→(∀a,X a→X' a)→m7 F X X' s s'→Q .next s')→(∀v d s',R d→Done F v d s'→Q (.ret v) s')→
    wpAny (model F.C.prog F.C.w) F.A (execs ss F.env) Q E s
noncomputable def Ex(F:Fm)(ρ:b9)(st:Stmt)(N:b9→Prop)(R:PV→Prop):Prop:=
  ∀ X s,JX F X ρ s→∀(Q:Flow→Shared→Prop) (E:Value→Shared→Prop),(∀ρ' s' X',N ρ'→JX F X' ρ' s'→(∀a,X a→X' a)→m7 F X X' s s'→Q .next s')→(∀v d s',R d→Done F v d s'→Q (.ret v) s')→
    wpAny (model F.C.prog F.C.w) F.A (exec st F.env) Q E s
variable{F:Fm}{ρ:b9}{N:b9→Prop}{R:PV→Prop}
theorem A0.nil(h:N ρ):A0 F ρ [] N R:=fun X s j Q E n r=>wpAny_execs_nil (n _ _ _ h j (fun O h=>h) (m7.refl _ _ _))
theorem A0.cons{st:Stmt}{rest:List Stmt}(h:Ex F ρ st (fun ρ'=>A0 F ρ' rest N R) R):A0 F ρ (st::rest) N R:=fun X s j Q E n r=>
  wpAny_execs_cons (h X s j _ _ (fun ρ' s' X' p j' hX k=>p X' s' j' Q E (fun ρ2 s₂ X2a p2a j2a hX2a k₂=>n ρ2 s₂ X2a p2a j2a (fun a h=>hX2a a (hX a h)) (k.trans k₂ (j.alive j' hX k))) r) fun v d s' p dn=>r v d s' p dn)
theorem JX.step{s s':Shared}{X:Addr→Prop}(j:JX F X ρ s)(i:I F X ρ s')(e:Ext F.C.G s s'):JX F X ρ s':=⟨i,j.2,j.3,j.4.trans e⟩
theorem A0.after{ss:List Stmt}{X:Addr→Prop}{s s₁:Shared}(h:A0 F ρ ss N R)(j:JX F X ρ s)(i₁:I F X ρ s₁)(x1a:Ext F.C.G s s₁){Q:Flow→Shared→Prop}{E:Value→Shared→Prop}
    (n:∀ρ' s' X',N ρ'→JX F X' ρ' s'→(∀a,X a→X' a)→m7 F X X' s s'→Q .next s') (r:∀v d s',R d→Done F v d s'→Q (.ret v) s'):wpAny (model F.C.prog F.C.w) F.A (execs ss F.env) Q E s₁:=
  h X s₁ (j.step i₁ x1a) Q E (fun ρ2 s₂ X2a p2a j2a hX2a k₂=>n ρ2 s₂ X2a p2a j2a hX2a ((m7.x7 j.1 x1a).trans k₂ (j.alive (j.step i₁ x1a) (fun O h=>h) (m7.x7 j.1 x1a)))) r
theorem Ex.iff{test:Expr}{body orelse:List Stmt}{pos:Pos}(h:Tr F ρ test fun b=>Br b (A0 F ρ body N R) (A0 F ρ orelse N R)):Ex F ρ (.If test body orelse pos) N R:=fun X s j Q E n r=>by
  refine wpAny_If (h X s j.1 _ _ fun b s₁ p i₁ x1a=>?_)
  cases b with
  |true=>exact (p.1 rfl).after j i₁ x1a n r
  |false=>exact (p.2 rfl).after j i₁ x1a n r
theorem Ex.ret{e:Expr}{pos:Pos}(h:Ev F ρ e R):Ex F ρ (.Return (some e) pos) N R:=fun X s j Q E n r=>by
  refine wpAny_Return_some (h X s j.1 _ _ fun v d s₁ p i₁ x1a r₁=>r v d s₁ p ⟨i₁.after (j.4.trans x1a),r₁.sub j.3⟩)
theorem Ex.c5j{x:Str}{np pos:Pos}{l:List PV}(e:ρ.lookup x=some (.own (.lst l)))(h:R (.lst l))(hd:(x==("__debug__":Str))=false:=by decide):Ex F ρ (.Return (some (.Name x np)) pos) N R:=fun X s j Q E n r=>by
  obtain ⟨ad,vs⟩:=j.1.vars
  obtain ⟨h1,h2,h3,h3',us,h4,h5⟩:=vs.own x _ e
  refine wpAny_Return_some (wpAny_Name (t8 F.hk h1 ?_) hd)
  refine r _ _ _ h ⟨j.1.after j.4,Rep.c1x h4 (fun q=>?_) (h5.sub j.3)⟩
  obtain ⟨o,ho⟩:=F.hX _ q
  exact n9 h3' ho
noncomputable def l5(F:Fm)(x:Str):Prop:=F.env.kindOf x=some .local∨(F.env.kindOf x=some .cell∧∃c,F.env.cells.lookup x=some c∧F.s₀.heap.get? c= .none)
theorem a0b{h:Heap}{L:Addr}{m:Str→Option Value}(hn:h.Ns L m){a:Addr}{o:Obj}{vs:Array Value}{n:Nat}(ho:h.get? a=some o)(hd:o.data= .seq vs n):a≠L:=fun e=>by
  obtain ⟨o2,es2,ep2,p1,p2,p3,p4⟩:=hn
  exact a7k (odd e ho p1 hd p2)
theorem a1p{h:Heap}{L:Addr}{v:Option Value}(hn:h.IsCell L v){a:Addr}{o:Obj}{vs:Array Value}{n:Nat}(ho:h.get? a=some o)(hd:o.data= .seq vs n):a≠L:=fun e=>by
  obtain ⟨o2,p1,p2⟩:=hn
  exact c2d (odd e ho p1 hd p2)
theorem a3f{h:Heap}{L c:Addr}{m:Str→Option Value}{v:Option Value}(hn:h.Ns L m)(hc:h.IsCell c v):c≠L:=fun e=>by
  obtain ⟨o2,es2,ep2,p1,p2,p3,p4⟩:=hn
  obtain ⟨o,ho,hd⟩:=hc
  exact b9v (odd e ho p1 hd p2)
theorem Rep.turn{X:Addr→Prop}{h h':Heap}{v:Value}{d:PV}{L:Addr}(r:Rep X h v d)(hs:∀b,b≠L→h'.get? b=h.get? b)(hL:∀o vs n,h.get? L=some o→o.data≠ .seq vs n)(hex:∀a o,a=L→h.get? a=some o→∃o',h'.get? a=some o'):Rep X h' v d:=by
  induction r with
  |none=>exact .none
  |bool b=>exact .bool b
  |int i t=>exact .int i t
  |str s t=>exact .str s t
  |z8 v k=>exact .z8 v k
  |any v=>exact .any v
  | tup ht hx hl _ ih=>
    obtain ⟨n,ho⟩:=ht
    exact .tup ⟨n,(hs _ (fun e=>hL _ _ n (e▸ho) rfl)).trans ho⟩ hx hl ih
  | lst ht hx hl _ ih=>
    obtain ⟨n,ho⟩:=ht
    exact .lst ⟨n,(hs _ (fun e=>hL _ _ n (e▸ho) rfl)).trans ho⟩ hx hl ih
theorem i0.turn{X:Addr→Prop}{h h':Heap}{vs:List Value}{l:List PV}{L:Addr}(r:i0 X h vs l)(hs:∀b,b≠L→h'.get? b=h.get? b)(hL:∀o vs n,h.get? L=some o→o.data≠ .seq vs n)(hex:∀a o,a=L→h.get? a=some o→∃o',h'.get? a=some o'):i0 X h' vs l:=
  ⟨r.1,fun i v d e f=>(r.2 i v d e f).turn hs hL hex⟩
theorem I.turn{X:Addr→Prop}{s:Shared}{h':Heap}{tk:Nat}{L:Addr}(i:I F X ρ s)(hs:Heap.SameBut L s.heap h')(hX:¬X L)(hL:∀o vs n,s.heap.get? L=some o→o.data≠ .seq vs n)(hg:F.C.g.get? L= .none)
    (hns:∃m,h'.Ns F.env.locals m) (hc:∀x c,F.env.cells.lookup x=some c→∃v,h'.IsCell c v) {ρ':b9} (hv:∃ad,x8 F X ρ' h' ad):I F X ρ' {s with heap:=h',toks:=tk} where
  base:=fun b o hb e=>by
    have:b≠L:=fun q=>g7 q hg e
    exact (hs.2 b this).trans (i.base b o hb e)
  inv:=F.C.stable _ _ i.inv fun b o g e=>(hs.2 b fun q=>hX (q▸i.sub b g)).trans e
  d8:=fun a ha=>(by obtain ⟨o,ho⟩:=i.d8 a ha;exact ⟨o,(hs.2 a fun q=>hX (q▸ha)).trans ho⟩)
  sub:=i.sub
  new:=i.new
  ns:=hns
  cell:=hc
  apart:=i.apart
  u9:=i.u9
  s8:=i.s8
  vars:=hv
structure C1(F:Fm)(h h':Heap)(x:Str)(v:Value)(L:Addr):Prop where
  same:Heap.SameBut L h h'
  H6:∀o vs n,h.get? L=some o→o.data≠ .seq vs n
  here:j9 h' F.env x v
  there:∀y u,y≠x→j9 h F.env y u→j9 h' F.env y u
  back:∀y u,y≠x→j9 h' F.env y u→j9 h F.env y u
  ex:∀a o,a=L→h.get? a=some o→∃o',h'.get? a=some o'
  ns:∃m,h'.Ns F.env.locals m
  cell:∀y c,F.env.cells.lookup y=some c→∃u,h'.IsCell c u
  new:F.s₀.heap.get? L= .none
  which:L=F.env.locals∨∃y,F.env.cells.lookup y=some L
  at_:L=F.env.locals∨F.env.cells.lookup x=some L
theorem Ns.same{h:Heap}{L:Addr}{m m':Str→Option Value}(a:h.Ns L m)(b:h.Ns L m'):m=m':=by
  obtain ⟨o1,es1,ep1,q1,q2,q3,q4⟩:=a
  obtain ⟨o2,es2,ep2,p1,p2,p3,p4⟩:=b
  rw [q1] at p1;cases p1;rw [q2] at p2;cases p2
  exact funext fun x=>(q4 x).symm.trans (p4 x)
theorem Heap.Ns.ex{h:Heap}{L:Addr}{m:Str→Option Value}(a:h.Ns L m):∃o,h.get? L=some o:=(by obtain ⟨o,_,_,ho,_⟩:=a;exact ⟨o,ho⟩)
theorem k9{X:Addr→Prop}{s:Shared}{x:Str}{v:Value}{Q:Unit→Shared→Prop}{E:Value→Shared→Prop}(i:I F X ρ s)(hx:l5 F x)
    (k:∀h' tk L,C1 F s.heap h' x v L→Q () {s with heap:=h',toks:=tk}):wpAny (model F.C.prog F.C.w) F.A (storeName F.env x v) Q E s:=by
  obtain ⟨m,hm⟩:=i.ns
  rcases hx with hl|⟨hl,c,hc,hcn⟩
  · refine wpAny_storeName_local hl hm (fun h' hn hs=>?_) (by refine b8 (F.hk ..) ?_;rfl)
    have cne:∀c o u,s.heap.get? c=some o→o.data= .cell u→c≠F.env.locals:=fun c o u ho hd=>a3f hm ⟨o,ho,hd⟩
    have cne':∀c o u,h'.get? c=some o→o.data= .cell u→c≠F.env.locals:=fun c o u ho hd=>a3f hn ⟨o,ho,hd⟩
    refine k h' _ _ ⟨hs,fun o vs n ho hd=>a0b hm ho hd rfl,.loc hl _ hn (if_pos rfl),fun y u hy r=>?_,fun y u hy r=>?_,fun a o e O=>e▸Heap.Ns.ex hn,⟨_,hn⟩,fun y c hc=>?_,F.hL,.inl rfl,.inl rfl⟩
    · rcases r with ⟨k,m',hm',e⟩|⟨k,c,hc,o,ho,hd⟩
      · exact .loc k _ hn (by refine b8 (if_neg hy ..) (b8 (Ns.same hm hm' ..) ?_);exact e)
      · exact .I7 k c hc ⟨o,(hs.2 c (cne c o _ ho hd)).trans ho,hd⟩
    · rcases r with ⟨k,m',hm',e⟩|⟨k,c,hc,o,ho,hd⟩
      · refine .loc k _ hm ?_
        rw [← Ns.same hn hm'] at e
        simpa only [if_neg hy] using e
      · exact .I7 k c hc ⟨o,(hs.2 c (cne' c o _ ho hd)).symm.trans ho,hd⟩
    · obtain ⟨u,o,ho,hd⟩:=i.cell y c hc
      exact ⟨u,o,(hs.2 c (cne c o _ ho hd)).trans ho,hd⟩
  · obtain ⟨u0a,hu⟩:=i.cell x c hc
    have hLc:F.env.locals≠c:=(a3f hm hu).symm
    refine wpAny_storeName_cell F.hk hl hc hu fun h' hv hs=>k h' _ c ⟨hs,fun o vs n ho hd=>a1p hu ho hd rfl,.I7 (.inl hl) c hc hv,fun y u hy r=>?_,fun y u hy r=>?_,fun a o e O=>e▸(by obtain ⟨o,ho,_⟩:=hv;exact ⟨o,ho⟩),⟨m,hm.sameBut hs hLc⟩,fun y c' hc'=>?_,hcn,.inr ⟨x,hc⟩,.inr hc⟩
    · rcases r with ⟨k,m',hm',e⟩|⟨k,c',hc',o,ho,hd⟩
      · exact .loc k m' (hm'.sameBut hs hLc) e
      · have hcc:c'≠c:=fun q=>hy (name_of_addr i.apart (mem_of_lookup hc') (q▸mem_of_lookup hc))
        exact .I7 k c' hc' ⟨o,(hs.2 c' hcc).trans ho,hd⟩
    · rcases r with ⟨k,m',hm',e⟩|⟨k,c',hc',o,ho,hd⟩
      · exact .loc k m hm (by refine b8 (Ns.same (hm.sameBut hs hLc) hm' ..) ?_;exact e)
      · have hcc:c'≠c:=fun q=>hy (name_of_addr i.apart (mem_of_lookup hc') (q▸mem_of_lookup hc))
        exact .I7 k c' hc' ⟨o,(hs.2 c' hcc).symm.trans ho,hd⟩
    · by_cases hcc:c'=c
      · exact ⟨_,hcc▸hv⟩
      · obtain ⟨u,o,ho,hd⟩:=i.cell y c' hc'
        exact ⟨u,o,(hs.2 c' hcc).trans ho,hd⟩
theorem C1.off{X:Addr→Prop}{s:Shared}{h':Heap}{x:Str}{v:Value}{L:Addr}(i:I F X ρ s)(z:C1 F s.heap h' x v L):¬X L:=by
  rcases z.which with rfl|⟨y,e⟩
  · exact i.u9
  · exact i.s8 y L e
theorem C1.base{X:Addr→Prop}{s:Shared}{h':Heap}{x:Str}{v:Value}{L:Addr}(i:I F X ρ s)(z:C1 F s.heap h' x v L):F.C.g.get? L= .none:=by
  exact isNone fun o q=>by have:=F.h₀ L o (fun g=>z.off i (i.sub _ g)) q;exact n9 z.new this
theorem C1.seq{h h':Heap}{x:Str}{v:Value}{L a:Addr}{vs:Array Value}(z:C1 F h h' x v L)(p:h.PlainList a vs):h'.PlainList a vs:=by
  obtain ⟨n,ho⟩:=p
  exact ⟨n,(z.same.2 a fun q=>z.H6 _ _ _ (q▸ho) rfl).trans ho⟩
theorem lookup_cons_self{α:Type}(x:Str)(e:α)(ρ:List (Str×α)):((x,e)::ρ).lookup x=some e:=by refine b8 (List.lookup_cons ..) ?_;simp
theorem c5{α:Type}{x y:Str}(e:α)(ρ:List (Str×α))(h:y≠x):((x,e)::ρ).lookup y=ρ.lookup y:=by
  refine b8 (List.lookup_cons ..) ?_
  have:(y==x)=false:=by simpa using h
  exact b8 (this ..) rfl
theorem C1.keep{X:Addr→Prop}{s:Shared}{h':Heap}{tk:Nat}{x:Str}{v:Value}{L:Addr}(z:C1 F s.heap h' x v L):m7 F X X s {s with heap:=h',toks:=tk} :=
  ⟨fun O=> .inl,fun b o e O h2 h3=>(z.same.2 b fun q=>by
    rcases z.which with rfl|⟨y,hy⟩
    · exact h2 q
    · exact h3 y (q▸hy)).trans e⟩
end
section
variable [HH:u7]
noncomputable def C3(F:Fm)(X:Addr→Prop)(ρ:b9)(s:Shared)(v:Value):Ent→Prop
  | .val d=>Rep X s.heap v d
  | .own l=>∃a,v= .ref a∧X a∧¬F.C.G a∧F.s₀.heap.get? a= .none∧(∀y l',ρ.lookup y=some (.own l')→¬j9 s.heap F.env y (.ref a))∧G5 F.C.hsh X s.heap a l
noncomputable def b2d:Ent→Prop
  | .val _=>False
  | .own _=>True
noncomputable def c6w(s:Shared)(v:Value)(n:Ent):Prop:=b2d n→∀a,v= .ref a→s.heap.get? a= .none
noncomputable def F0(F:Fm)(ρ:b9)(e:Expr)(P:List PV→Prop):Prop:=
  ∀ X s,I F X ρ s→∀(Q:Value→Shared→Prop) (E:Value→Shared→Prop),(∀a vs l s',P l→I F X ρ s'→Ext F.C.G s s'→s.heap.get? a= .none→s'.heap.PlainList a vs.toArray→
    i0 (fun b=>X b∨b=a) s'.heap vs l→Q (.ref a) s')→wpAny (model F.C.prog F.C.w) F.A (eval e F.env) Q E s
noncomputable def I9(F:Fm)(ρ:b9)(e:Expr)(P:Ent→Prop):Prop:=
  ∀ X s,JX F X ρ s→∀(Q:Value→Shared→Prop) (E:Value→Shared→Prop),(∀v n s' X',P n→JX F X' ρ s'→(∀a,X a→X' a)→(∀a,X' a→X a∨s.heap.get? a= .none)→Ext F.C.G s s'→
    C3 F X' ρ s' v n→c6w s v n→Q v s')→wpAny (model F.C.prog F.C.w) F.A (eval e F.env) Q E s
variable{F:Fm}{ρ:b9}{N:b9→Prop}{R:PV→Prop}{P:Ent→Prop}
theorem I9.val{e:Expr}(h:Ev F ρ e fun d=>P (.val d)):I9 F ρ e P:=fun X s j Q E q=>
  h X s j.1 _ _ fun v d s' p i x r=>q v _ s' X p ⟨i,j.2,j.3,j.4.trans x⟩ (fun O h=>h) (fun O=> .inl) x r fun f=>f.elim
theorem Ext.back{X:Addr→Prop}{s s':Shared}{x:Str}{v:Value}(i:I F X ρ s)(e:Ext F.C.G s s')(r:j9 s'.heap F.env x v):j9 s.heap F.env x v:=by
  rcases r with ⟨k,m',hm',q⟩|⟨k,c,hc,o,ho,hd⟩
  · obtain ⟨m,hm⟩:=i.ns
    have hm2:s'.heap.Ns F.env.locals m:=hm.at' fun o z=>e.le _ o (fun g=>i.u9 (i.sub _ g)) z
    exact .loc k m hm (Ns.same hm2 hm'▸q)
  · obtain ⟨u,o',ho',hd'⟩:=i.cell x c hc
    have:=e.le _ _ (fun g=>i.s8 x c hc (i.sub _ g)) ho'
    rw [ho] at this;cases this
    exact .I7 k c hc ⟨o,ho',hd⟩
theorem I.d1h{X:Addr→Prop}{s s':Shared}{a:Addr}(i:I F X ρ s)(i':I F X ρ s')(e:Ext F.C.G s s')(ha:s.heap.get? a= .none)(pl:∃o,s'.heap.get? a=some o):I F (fun b=>X b∨b=a) ρ s' where
  base:=i'.base
  inv:=i'.inv
  d8:=fun b hb=>hb.elim (i'.d8 b) fun q=>q▸pl
  sub:=fun b g=> .inl (i'.sub b g)
  new :=fun b hb=>hb.elim (i'.new b) fun q=>by
    clear pl hb;subst q
    cases z:F.C.g.get? b with
    |none=>exact .inr rfl
    | some o=>
      by_cases g:F.C.G b
      · exact .inl g
      · have:=i.base b o g z;exact n9 ha this
  ns:=i'.ns
  cell:=i'.cell
  apart:=i'.apart
  u9:=fun hb=>hb.elim i'.u9 fun q=>by
    obtain ⟨m,hm⟩:=i.ns
    obtain ⟨o,ho⟩:=Heap.Ns.ex hm
    exact g7 q ha ho
  s8:=fun x c hc hb=>hb.elim (i'.s8 x c hc) fun q=>by
    obtain ⟨u,o,ho,_⟩:=i.cell x c hc
    exact g7 q ha ho
  vars:=by
    obtain ⟨ad,w⟩:=i.vars
    have xl:Le X s.heap s'.heap:=e.le.weak i.sub
    refine ⟨ad,fun x d q=>?_,fun x xs q=>?_,w.apart⟩
    · obtain ⟨u,h1,h2⟩:=w.val x d q
      exact ⟨u,h1.le xl i.u9 i.s8,h2.mono xl fun b hb=>hb.elim .inl fun z=> .inr (z▸ha)⟩
    · obtain ⟨h1,h2,h3,h3',h4⟩:=w.own x xs q
      exact ⟨h1.le xl i.u9 i.s8,.inl h2,h3,h3',h4.step (fun o z=>e.le _ o h3 z) fun v d r=>r.mono xl fun b hb=>hb.elim .inl fun z=> .inr (z▸ha)⟩
theorem JX.fresh{X:Addr→Prop}{s:Shared}{a:Addr}(j:JX F X ρ s)(ha:s.heap.get? a= .none):¬F.C.G a∧F.s₀.heap.get? a= .none:=by
  have g:¬F.C.G a:=fun g=>by obtain ⟨o,ho⟩:=j.1.d8 a (j.1.sub a g);exact n9 ha ho
  refine ⟨g,?_⟩
  exact isNone fun o z=>by have:=j.4.le a o g z;exact n9 ha this
noncomputable def b9q(F:Fm)(ρ:b9)(e:Expr)(P:PV→Prop):Prop:=
  ∀ X s,I F X ρ s→∀(Q:Value→Shared→Prop) (E:Value→Shared→Prop),(∀a d s',P d→I F X ρ s'→Ext F.C.G s s'→s.heap.get? a= .none→G5 F.C.hsh (fun b=>X b∨b=a) s'.heap a d→
    Q (.ref a) s')→wpAny (model F.C.prog F.C.w) F.A (eval e F.env) Q E s
theorem F0.fr{e:Expr}{P:PV→Prop}(h:F0 F ρ e fun l=>P (.lst l)):b9q F ρ e P:=fun X s i Q E q=>h X s i _ _ fun a vs l s' p i' x ha pl r=>q a (.lst l) s' p i' x ha ⟨vs,pl,r⟩
theorem I9.ofFr{e:Expr}(h:b9q F ρ e fun l=>P (.own l)):I9 F ρ e P:=fun X s j Q E q=>
  h X s j.1 _ _ fun a l s' p i x ha r=>by
    obtain ⟨g,hs⟩:=j.fresh ha
    refine q _ _ s' (fun b=>X b∨b=a) p ⟨j.1.d1h i x ha r.ex,fun b hb=>hb.elim (j.2 b) (fun z=> .inr (z▸hs)),fun b hb=> .inl (j.3 b hb),j.4.trans x⟩
      (fun O=> .inl) (fun b hb=>hb.elim .inl fun z=> .inr (z▸ha)) x ⟨a,rfl,.inr rfl,g,hs,fun y l' e' z=>?_,r⟩ (fun O b e=>by cases e;exact ha)
    have z':=Ext.back j.1 x z
    clear r g hs z;obtain ⟨ad,w⟩:=j.1.vars
    obtain ⟨h1,_,_,_,h4⟩:=w.own y l' e'
    have:=j9.same z' h1
    clear z';cases this
    obtain ⟨o,ho⟩:=h4.ex
    exact n9 ha ho
theorem I9.own{e:Expr}(h:F0 F ρ e fun l=>P (.own (.lst l))):I9 F ρ e P:=I9.ofFr (F0.fr h)
theorem C3.ext{X X':Addr→Prop}{s s':Shared}{v:Value}{n:Ent}(i:I F X ρ s)(e:Ext F.C.G s s')(h1:∀a,X a→X' a)(h2:∀a,X' a→X a∨s.heap.get? a= .none)(h:C3 F X ρ s v n):C3 F X' ρ s' v n:=by
  have xl:Le X s.heap s'.heap:=e.le.weak i.sub
  cases n with
  |val d=>exact Rep.mono h xl h2
  | own l=>
    obtain ⟨a,rfl,p1,p2,p3,p4,p5⟩:=h
    exact ⟨a,rfl,h1 a p1,p2,p3,fun y l' e' z=>p4 y l' e' (Ext.back i e z),p5.step (fun o z=>e.le _ o p2 z) fun v d r=>r.mono xl h2⟩
noncomputable def isAny:Ent→Bool
  | .val .any=>true
  |_=>false
theorem C3.ex{X:Addr→Prop}{s:Shared}{a:Addr}{n:Ent}(i:I F X ρ s)(hn:isAny n=false)(h:C3 F X ρ s (.ref a) n):∃o,s.heap.get? a=some o:=by
  cases n with
  | val d=>
    have h:Rep X s.heap (.ref a) d:=h
    cases h with
    | z8 _ k=>
      by_cases g:F.C.G a
      · exact i.d8 a (i.sub a g)
      · rcases k a rfl with g'|⟨o,ho⟩
        · exact absurd g' g
        · exact ⟨o,i.base a o g ho⟩
    |any=>cases hn
    |tup ht _ _ _=>let ⟨n,ho⟩:=ht;exact ⟨_,ho⟩
    |lst ht _ _ _=>let ⟨n,ho⟩:=ht;exact ⟨_,ho⟩
  | own l=>
    obtain ⟨b,e,p1,p2,p3,p4,p5⟩:=h
    clear p1 p2 p3 p4;cases e;exact p5.ex
theorem JX.store{X:Addr→Prop}{s:Shared}{x:Str}{v:Value}{n:Ent}{h':Heap}{tk:Nat}{L:Addr}(j:JX F X ρ s)(r:C3 F X ρ s v n)(z:C1 F s.heap h' x v L):JX F X ((x,n)::ρ) {s with heap:=h',toks:=tk} :=by
  obtain ⟨i,x0,x1,x2⟩:=j
  refine ⟨i.turn z.same (z.off i) z.H6 (z.base i) z.ns z.cell ?_,x0,x1,x2.gens,x2.os,x2.drawn,fun b o hb e=>(z.same.2 b fun q=>g7 q z.new e).trans (x2.le b o hb e)⟩
  clear x0 x1 x2
  obtain ⟨ad,w⟩:=i.vars
  have wown:∀y xs,y≠x→ρ.lookup y=some (.own xs)→j9 h' F.env y (.ref (ad y))∧X (ad y)∧¬F.C.G (ad y)∧F.s₀.heap.get? (ad y)= .none∧G5 F.C.hsh X h' (ad y) xs:=fun y xs hy e=>by
    obtain ⟨h1,h2,h3,h3',h4⟩:=w.own y xs e
    exact ⟨z.there y _ hy h1,h2,h3,h3',h4.step (fun o ho=>(z.same.2 _ fun q=>z.off i (q▸h2)).trans ho) fun v d r=>r.turn z.same.2 z.H6 z.ex⟩
  have wval:∀y d,y≠x→ρ.lookup y=some (.val d)→∃v,j9 h' F.env y v∧Rep X h' v d:=fun y d hy e=>by
    obtain ⟨u,h1,h2⟩:=w.val y d e
    exact ⟨u,z.there y u hy h1,h2.turn z.same.2 z.H6 z.ex⟩
  cases n with
  | val d =>
    refine ⟨ad,fun y d' e=>?_,fun y xs e=>?_,fun y ys y' ys' e e'=>?_⟩
    · by_cases hy:y=x
      · clear wown wval;subst hy;rw [lookup_cons_self] at e;cases e
        exact ⟨v,z.here,Rep.turn r z.same.2 z.H6 z.ex⟩
      · rw [c5 _ _ hy] at e;exact wval y d' hy e
    · by_cases hy:y=x
      · clear z wown wval;subst hy;rw [lookup_cons_self] at e;cases e
      · rw [c5 _ _ hy] at e;exact wown y xs hy e
    · by_cases hy:y=x
      · clear z wown wval e';subst hy;rw [lookup_cons_self] at e;cases e
      · by_cases hy':y'=x
        · clear z wown wval e hy;subst hy';rw [lookup_cons_self] at e';cases e'
        · rw [c5 _ _ hy] at e;rw [c5 _ _ hy'] at e'
          exact w.apart y ys y' ys' e e'
  | own l =>
    obtain ⟨a,rfl,p1,p2,p3,p4,p5⟩:=r
    have ne:∀y xs,ρ.lookup y=some (.own xs)→ad y≠a:=fun y xs e q=>p4 y xs e (q▸(w.own y xs e).1)
    refine ⟨fun y=>if y=x then a else ad y,fun y d' e=>?_,fun y xs e=>?_,fun y ys y' ys' e e' hyy=>?_⟩
    · by_cases hy:y=x
      · clear wown wval z;subst hy;rw [lookup_cons_self] at e;cases e
      · rw [c5 _ _ hy] at e;exact wval y d' hy e
    · by_cases hy:y=x
      · clear wown wval;subst hy;rw [lookup_cons_self] at e;cases e
        refine b8 (if_pos rfl ..) ?_
        exact ⟨z.here,p1,p2,p3,p5.step (fun o ho=>(z.same.2 _ fun q=>z.off i (q▸p1)).trans ho) fun v d r=>r.turn z.same.2 z.H6 z.ex⟩
      · rw [c5 _ _ hy] at e;rw [if_neg hy];exact wown y xs hy e
    · by_cases hy:y=x
      · have hy':y'≠x:=fun q=>hyy (hy.trans q.symm)
        rw [c5 _ _ hy'] at e'
        rw [if_pos hy,if_neg hy'];exact (ne y' ys' e').symm
      · rw [c5 _ _ hy] at e
        by_cases hy':y'=x
        · rw [if_neg hy,if_pos hy'];exact ne y ys e
        · rw [c5 _ _ hy'] at e'
          rw [if_neg hy,if_neg hy'];exact w.apart y ys y' ys' e e' hyy
theorem C3.stored{X:Addr→Prop}{s:Shared}{x:Str}{v u:Value}{n k:Ent}{h':Heap}{tk:Nat}{L:Addr}(i:I F X ρ s)(r:C3 F X ρ s v n)(hne:∀a,v= .ref a→b2d n→u≠ .ref a)(z:C1 F s.heap h' x u L):
    C3 F X ((x,k)::ρ) {s with heap:=h',toks:=tk} v n:=by
  cases n with
  |val d=>exact Rep.turn r z.same.2 z.H6 z.ex
  | own l=>
    obtain ⟨a,rfl,p1,p2,p3,p4,p5⟩:=r
    refine ⟨a,rfl,p1,p2,p3,fun y l' e' q=>?_,p5.step (fun o ho=>(z.same.2 _ fun q=>z.off i (q▸p1)).trans ho) fun v d r=>r.turn z.same.2 z.H6 z.ex⟩
    by_cases hy:y=x
    · clear e';subst hy;exact hne a rfl trivial (j9.same z.here q)
    · rw [c5 _ _ hy] at e';exact p4 y l' e' (z.back y _ hy q)
theorem Ex.b0k{x:Str}{value:Expr}{xp pos:Pos}(h:I9 F ρ value fun n=>N ((x,n)::ρ))(hx:l5 F x)(hs:swapsWith value (some (.Name x xp)) pos.line F.env=pure false:=by rfl):
    Ex F ρ (.Assign [.Name x xp] value pos) N R:=fun X s j Q E nn r=>by
  refine wpAny_Assign_Name (h X s j _ _ fun v n s₁ X1a p j1a a1a b1a x1a r₁ O=>?_) hs
  have k₁:m7 F X X1a s s₁:=⟨b1a,(m7.x7 j.1 x1a).kept⟩
  exact k9 j1a.1 hx fun h' tk L z=>nn _ _ X1a p (j1a.store r₁ z) a1a (k₁.trans z.keep (j.alive j1a a1a k₁))
theorem Ex.assign{x:Str}{value:Expr}{xp pos:Pos}(h:Ev F ρ value fun d=>N ((x,.val d)::ρ))(hx:l5 F x)(hs:swapsWith value (some (.Name x xp)) pos.line F.env=pure false:=by rfl):
    Ex F ρ (.Assign [.Name x xp] value pos) N R:=Ex.b0k (I9.val h) hx hs
theorem x8.congr{X:Addr→Prop}{h:Heap}{ad:Str→Addr}{ρ':b9}(w:x8 F X ρ h ad)(e:∀y,ρ'.lookup y=ρ.lookup y):x8 F X ρ' h ad:=
  ⟨fun x d q=>w.val x d (e x▸q),fun x l q=>w.own x l (e x▸q),fun x xs y ys q q'=>w.apart x xs y ys (e x▸q) (e y▸q')⟩
theorem I.congr{X:Addr→Prop}{s:Shared}{ρ':b9}(i:I F X ρ s)(e:∀y,ρ'.lookup y=ρ.lookup y):I F X ρ' s:=
  {i with vars:=(by obtain ⟨ad,w⟩:=i.vars;exact ⟨ad,w.congr e⟩)}
theorem x8.less{X:Addr→Prop}{h:Heap}{ad:Str→Addr}{ρ':b9}(w:x8 F X ρ h ad)(e:∀y n,ρ'.lookup y=some n→ρ.lookup y=some n):x8 F X ρ' h ad:=
  ⟨fun x d q=>w.val x d (e x _ q),fun x l q=>w.own x l (e x _ q),fun x xs y ys q q'=>w.apart x xs y ys (e x _ q) (e y _ q')⟩
theorem I.less{X:Addr→Prop}{s:Shared}{ρ':b9}(i:I F X ρ s)(e:∀y n,ρ'.lookup y=some n→ρ.lookup y=some n):I F X ρ' s:=
  {i with vars:=(by obtain ⟨ad,w⟩:=i.vars;exact ⟨ad,w.less e⟩)}
theorem JX.less{X:Addr→Prop}{s:Shared}{ρ':b9}(j:JX F X ρ s)(e:∀y n,ρ'.lookup y=some n→ρ.lookup y=some n):JX F X ρ' s:= {j with i:=j.i.less e}
theorem A0.less{ss:List Stmt}{ρ':b9}(h:A0 F ρ' ss N R)(e:∀y n,ρ'.lookup y=some n→ρ.lookup y=some n):A0 F ρ ss N R:=fun X s j=>h X s (j.less e)
theorem a9v{α:Type}{x y:Str}(a b:α)(ρ:List (Str×α))(h:x≠y)(z:Str):((x,a)::(y,b)::ρ).lookup z=((y,b)::(x,a)::ρ).lookup z:=by
  by_cases h1:z=x
  · subst h1;exact b8 (lookup_cons_self ..) (b8 (c5 _ _ h ..) (b8 (lookup_cons_self ..) rfl))
  · refine b8 (c5 _ _ h1 ..) ?_
    by_cases h2:z=y
    · subst h2;exact b8 (lookup_cons_self ..) (b8 (lookup_cons_self ..) rfl)
    · exact b8 (c5 _ _ h2 ..) (b8 (c5 _ _ h2 ..) (b8 (c5 _ _ h1 ..) rfl))
theorem Ex.assign2{x y:Str}{e₁ e₂:Expr}{xp yp tp pos vp:Pos}{k k':Nat}(h:I9 F ρ e₁ fun n=>I9 F ρ e₂ fun n'=>(b2d n'→isAny n=false)∧(b2d n→isAny n'=false)∧N ((y,n')::(x,n)::ρ))(hx:l5 F x)(hy:l5 F y)(hxy:x≠y)
    (hst:starEach [e₁,e₂] F.env=[(false,eval e₁ F.env),(false,eval e₂ F.env)]:=by rfl)
    (hs:swapsWithSole [.Tuple [.Name x xp,.Name y yp] k tp] (.Tuple [e₁,e₂] k' vp) pos.line F.env=pure false:=by rfl)
    (hw:swappedStores [.Tuple [.Name x xp,.Name y yp] k tp] (.Tuple [e₁,e₂] k' vp) F.env=pure (some [x,y])∨swappedStores [.Tuple [.Name x xp,.Name y yp] k tp] (.Tuple [e₁,e₂] k' vp) F.env=pure none):
    Ex F ρ (.Assign [.Tuple [.Name x xp,.Name y yp] k tp] (.Tuple [e₁,e₂] k' vp) pos) N R:=fun X s j Q E nn r=>by
  have disp :∀(Q₁:Value→Shared→Prop) (E:Value→Shared→Prop),(∀v1a v2a n n' s' X' t,N ((y,n')::(x,n)::ρ)→JX F X' ρ s'→(∀a,X a→X' a)→m7 F X X' s s'→C3 F X' ρ s' v1a n→C3 F X' ρ s' v2a n'→(∀a,v2a= .ref a→b2d n'→v1a≠ .ref a)→(∀a,v1a= .ref a→b2d n→v2a≠ .ref a)→
      IsTup s'.heap t [v1a,v2a].toArray→Q₁ (.ref t) s')→
      wpAny (model F.C.prog F.C.w) F.A (eval (.Tuple [e₁,e₂] k' vp) F.env) Q₁ E s:=fun Q₁ E q=>by
    refine wpAny_Tuple_spliced ?_
    refine b8 (hst ..) ?_
    refine Calls.spliced_cons (h X s j _ _ fun v1a n s₁ X1a p j1a a1a b1a x1a r₁ f1a=>?_)
    refine Calls.spliced_cons (p X1a s₁ j1a _ _ fun v2a n' s₂ X2a z1 j2a a2a b2a x₂ r₂ f2a=>?_)
    obtain ⟨q1a,q2a,p2a⟩:=z1
    refine Calls.spliced_nil ⟨(by show 2≤sizeLine;decide),?_⟩
    have r₁':=r₁.ext j1a.1 x₂ a2a b2a
    have ep:Ext F.C.G s₂ {s₂ with heap:=s₂.heap.push {cls:= .type "tuple",data:= .seq [v1a,v2a].toArray}} :=Ext.heap _ _ (Le.of (c8 _))
    have jj:JX F X2a ρ {s₂ with heap:=s₂.heap.push {cls:= .type "tuple",data:= .seq [v1a,v2a].toArray}} :=⟨j2a.1.grow (c8 _),j2a.2,j2a.3,j2a.4.trans ep⟩
    have k₁:m7 F X X1a s s₁:=⟨b1a,(m7.x7 j.1 x1a).kept⟩
    have k₂:m7 F X1a X2a s₁ s₂:=⟨b2a,(m7.x7 j1a.1 x₂).kept⟩
    have k₃:m7 F X2a X2a s₂ {s₂ with heap:=s₂.heap.push {cls:= .type "tuple",data:= .seq [v1a,v2a].toArray}} :=m7.x7 j2a.1 ep
    have k12a:=k₁.trans k₂ (j.alive j1a a1a k₁)
    have a12:∀a,X a→X2a a:=fun a h=>a2a a (a1a a h)
    refine q v1a v2a n n' _ X2a _ p2a jj a12 (k12a.trans k₃ (j.alive j2a a12 k12a)) (r₁'.ext j2a.1 ep (fun O h=>h) fun O=> .inl) (r₂.ext j2a.1 ep (fun O h=>h) fun O=> .inl) (fun a e o e'=>?_) (fun a e o e'=>?_) (IsTup.new _ _)
    · have:=f2a o a e
      clear f1a r₁' ep jj k₃;subst e'
      obtain ⟨o',ho'⟩:=r₁.ex j1a.1 (q1a o)
      exact n9 this ho'
    · clear p f1a q1a p2a r₁' ep jj k₃;subst e;subst e'
      cases n with
      |val d=>exact o.elim
      | own l=>
        cases n' with
        |own l'=>have:=f2a trivial a rfl;obtain ⟨o',ho'⟩:=r₁.ex j1a.1 rfl;exact n9 this ho'
        | val d=>
          obtain ⟨b,e,p1,p2,_⟩:=r₁
          clear f2a right;cases e
          have r₂:Rep X2a s₂.heap (.ref a) d:=r₂
          cases r₂ with
          | z8 _ k=>
            rcases k a rfl with g|⟨o,ho⟩
            · exact p2 g
            · exact (j2a.1.new a (a2a a p1)).elim p2 fun z=>by rw [show F.C.g.get? a=some o from ho] at z;cases z
          |any=>have:=q2a trivial;cases this
          |tup _ hx _ _=>exact hx (a2a a p1)
          |lst _ hx _ _=>exact hx (a2a a p1)
  have N1:∀(s':Shared) (X':Addr→Prop) (h':Heap),JX F X' ρ s'→Heap.ExtBut s'.heap.objs.size s'.heap h'→JX F X' ρ {s' with heap:=h'} ∧Ext F.C.G s' {s' with heap:=h'} :=fun s' X' h' j' e=>by
    have kp:∀b o,s'.heap.get? b=some o→h'.get? b=some o:=fun b o z=>e b o (Nat.ne_of_lt (Heap.lt_size z)) z
    exact ⟨⟨j'.1.grow kp,j'.2,j'.3,j'.4.trans (Ext.heap _ _ (Le.of kp))⟩,Ext.heap _ _ (Le.of kp)⟩
  rcases hw with hw|hw
  · refine Assign_Tuple_swapped (disp _ _ fun v1a v2a n n' s' X' t p j' aX kX r₁ r₂ d1a d2a ht=>?_) hs hw
    refine unpackItems_tuple (items:=[v1a,v2a].toArray) F.hA ht fun h' e=>?_
    obtain ⟨j2a,x₂⟩:=N1 s' X' h' j' e
    have r₁:=r₁.ext j'.1 x₂ (fun O h=>h) fun O=> .inl
    have r₂:=r₂.ext j'.1 x₂ (fun O h=>h) fun O=> .inl
    show wpAny _ _ (assignInOrder [bindName F.env y,bindName F.env x] [v2a,v1a]) _ _ _
    refine wpAny_assignInOrder_more (wpAny_bindName (k9 j2a.1 hy fun h₁ tk L z=>?_))
    have j3:=j2a.store (tk:=tk) r₂ z
    refine wpAny_assignInOrder_more (wpAny_bindName (k9 j3.1 hx fun h₂ tk' L' z'=>?_))
    have j4:=j3.store (tk:=tk') (r₁.stored (tk:=tk) (k:=n') j2a.1 d2a z) z'
    have k₂:=kX.trans (m7.x7 j'.1 x₂) (j.alive j' aX kX)
    have k₃:=k₂.trans (z.keep (X:=X') (tk:=tk)) (j.alive j2a aX k₂)
    have k4a:=k₃.trans (z'.keep (X:=X') (tk:=tk')) (j.alive j3 aX k₃)
    exact wpAny_assignInOrder_none (nn _ _ X' p {j4 with i:=j4.1.congr fun w=>a9v n' n ρ (fun q=>hxy q.symm) w} aX k4a)
  · refine PyProof.Rows.Assign_Tuple (disp _ _ fun v1a v2a n n' s' X' t p j' aX kX r₁ r₂ d1a d2a ht=>?_) hs hw
    refine assign_Tuple_tuple (items:=[v1a,v2a].toArray) F.hA ht rfl rfl fun h' e=>?_
    obtain ⟨j2a,x₂⟩:=N1 s' X' h' j' e
    have r₁:=r₁.ext j'.1 x₂ (fun O h=>h) fun O=> .inl
    have r₂:=r₂.ext j'.1 x₂ (fun O h=>h) fun O=> .inl
    show wpAny _ _ (assignInOrder [PySem.assign (.Name x xp) F.env,PySem.assign (.Name y yp) F.env] [v1a,v2a]) _ _ _
    refine wpAny_assignInOrder_more (wpAny_assign_Name (k9 j2a.1 hx fun h₁ tk L z=>?_))
    have j3:=j2a.store (tk:=tk) r₁ z
    refine wpAny_assignInOrder_more (wpAny_assign_Name (k9 j3.1 hy fun h₂ tk' L' z'=>?_))
    have j4:=j3.store (tk:=tk') (r₂.stored (tk:=tk) (k:=n) j2a.1 d1a z) z'
    have k₂:=kX.trans (m7.x7 j'.1 x₂) (j.alive j' aX kX)
    have k₃:=k₂.trans (z.keep (X:=X') (tk:=tk)) (j.alive j2a aX k₂)
    have k4a:=k₃.trans (z'.keep (X:=X') (tk:=tk')) (j.alive j3 aX k₃)
    exact wpAny_assignInOrder_none (nn _ _ X' p j4 aX k4a)
end
section
variable [HH:u7]
section
variable{prog:Program}{w:World}{A:Around}{s:Shared}{E Q:Value→Shared→Prop}
theorem b5w{sl:Addr}{n:Nat}{u:Tok}{Q:Int×Int×Nat→Shared→Prop}(hs:s.heap.IsSliceOf sl .none .none (.int (-1) u))(h:Q ((n:Int) - 1,-1,n) s):
    wpAny (model prog w) A (Builtin.Slice.sliceApplied (.ref sl) (pure (n:Int))) Q E s:=by
  obtain ⟨os,hos,hcs,hds⟩:=id hs
  unfold Builtin.Slice.sliceApplied Builtin.Slice.sliceFields
  refine wpAny_bind (wpAny_bind (wpAny_field hos hds (x:= .none) rfl (wpAny_bind (wpAny_field hos hds (x:= .none) rfl (wpAny_bind (wpAny_field hos hds (x:= .int (-1) u) rfl (wpAny_pure ?_)))))))
  refine wpAny_bind (slicePart_int ?_)
  show wpAny _ _ (if ((-1:Int)==0)=true then _ else _) _ _ s
  refine b8 (if_neg (by decide) ..) ?_
  refine wpAny_bind (slicePart_none (wpAny_bind (slicePart_none (wpAny_bind (wpAny_pure ?_)))))
  have e1:Builtin.Slice.sliceAdjust none none (-1) (n:Int)=((n:Int) - 1,-1):=by unfold Builtin.Slice.sliceAdjust;rfl
  show wpAny _ _ (match Builtin.Slice.sliceAdjust none none (-1) (n:Int) with|(lo,hi)=>pure (lo,(-1:Int),Builtin.Slice.slicePlaces lo hi (-1))) _ _ s
  refine b8 (e1 ..) ?_
  have e2:Builtin.Slice.slicePlaces ((n:Int) - 1) (-1) (-1)=n:=by
    unfold Builtin.Slice.slicePlaces
    have h1:¬((-1:Int)>0):=by lia
    have h2: -(-1:Int)=1:=rfl
    simp only [h1,if_false,h2,Int.ediv_one]
    split <;> lia
  show wpAny _ _ (pure ((n:Int) - 1,(-1:Int),Builtin.Slice.slicePlaces ((n:Int) - 1) (-1) (-1))) _ _ s
  refine b8 (e2 ..) ?_
  exact wpAny_pure h
theorem a5r{α β:Type}{f g:α→Option β} :∀ {l:List α},(∀x∈l,f x=g x)→l.filterMap f=l.filterMap g:=by
  intro LL
  induction LL with
  | nil=>
    rintro _
    exact rfl
  | cons x l ih=>
    rintro h
    exact b8 (List.filterMap_cons ..) (b8 (List.filterMap_cons ..) (b8 (h x (.head _) ..) (b8 (ih fun y hy=>h y (.tail _ hy) ..) rfl)))
theorem b7p(xs:List Value):((List.range xs.length).filterMap fun (k:Nat)=>xs[(((xs.length:Int) - 1)+(k:Int)*(-1)).toNat]?)=xs.reverse:=by
  have e:∀k,k<xs.length→xs[(((xs.length:Int) - 1)+(k:Int)*(-1)).toNat]?=xs.reverse[k]?:=fun k hk=>by
    have:(((xs.length:Int) - 1)+(k:Int)*(-1)).toNat=xs.length - 1 - k:=by lia
    exact b8 (this ..) (b8 (List.getElem?_reverse hk ..) rfl)
  refine b8 (a5r fun k hk=>e k (List.mem_range.mp hk) ..) ?_
  have:=krv_all xs.reverse.toArray
  simpa using this
theorem a3j{t sl:Addr}{vs:List Value}{u:Tok}(ht:IsTup s.heap t vs.toArray)(hs:s.heap.IsSliceOf sl .none .none (.int (-1) u))
    (h:Q (.ref s.heap.objs.size) {s with heap:=s.heap.push {cls:= .type "tuple",data:= .seq vs.reverse.toArray}}) (hz:vs.length≤sizeLine):wpAny (model prog w) A (getItem (.ref t) (.ref sl)) Q E s:=by
  have hok:sizeOk (.seq vs.reverse.toArray):=by
    show vs.reverse.toArray.size≤sizeLine
    refine b8 (List.size_toArray ..) (b8 (List.length_reverse ..) ?_);exact hz
  obtain ⟨os,hos,hcs,hds⟩:=id hs
  have hTs:s.TypeIs (.ref sl) "slice":=⟨os,hos,hcs⟩
  unfold getItem
  try with_reducible refine wpAny_holding ?_
  first|refine wpAny_bind (wpAny_pure ?_)|skip
  refine wpAny_bind (wpAny_sequenceKey ht.typeIs (by decide) ?_)
  refine wpAny_bind (wpAny_callSpecial?_slot (name:=Str.ofString "__getitem__") ht.typeIs slot_tuple_getitem
    (wpAny_call_entry slot_tuple_getitem ht.typeIs entry_tuple_getitem ?_ (args_tuple_getitem _ _)))
  show wpAny _ _ (Builtin.Tuple.tupleItemsOf (.ref t)>>=_) _ _ s
  refine wpAny_bind (tupleItemsOf_ ht ?_)
  refine wpAny_bind (wpAny_typeOf hTs ?_)
  refine b8 (if_pos (by decide) ..) ?_
  refine wpAny_bind (b5w (n:=vs.toArray.size) hs ?_)
  show wpAny _ _ (if (((vs.toArray.size:Int) - 1)==0&&(-1:Int)==1&&vs.toArray.size==vs.toArray.size)=true then _ else _) _ _ s
  refine b8 (if_neg (by simp) ..) ?_
  have e:((List.range vs.toArray.size).filterMap fun (k:Nat)=>vs.toArray[(((vs.toArray.size:Int) - 1)+(k:Int)*(-1)).toNat]?).toArray=vs.reverse.toArray:=by
    have:=b7p vs
    simp only [List.size_toArray,List.getElem?_toArray]
    exact b8 (this ..) rfl
  refine b8 (e ..) ?_
  first
    |exact wpAny_bind (m:=Builtin.Tuple.tupleExact _) (wpAny_newObj_type (wpAny_pure ⟨_,rfl,wpAny_pure h⟩) hok)
    |exact wpAny_bind (wpAny_bind (m:=Builtin.Tuple.tupleExact _) (wpAny_newObj_type (wpAny_pure ⟨_,rfl,wpAny_pure h⟩) hok))
    |exact wpAny_bind (wpAny_bind (m:=Builtin.Tuple.tupleExact _) (wpAny_newObj_type (wpAny_pure (wpAny_pure ⟨_,rfl,wpAny_pure h⟩)) hok))
end
section
variable{F:Fm}{ρ:b9}{P:PV→Prop}{PL:List PV→Prop}
theorem Ev.M8{e:Expr}(h:F0 F ρ e fun l=>P (.lst l)):Ev F ρ e P:=fun X s i Q E q=>
  h X s i Q E fun a vs l s' p i' x ha pl r=>q _ _ s' p i' x (Rep.c1x pl (i.a8z ha) (r.sub fun O=> .inl))
theorem a1z{C:Cx}{X:Addr→Prop}{s s':Shared}{a:Addr}(i:St C X s')(x:Ext C.G s s')(ha:s'.heap.objs.size≤a):s.heap.get? a= .none:=by
  cases z:s.heap.get? a with
  |none=>rfl
  | some o=>
    by_cases g:C.G a
    · obtain ⟨o',ho'⟩:=i.d8 _ (i.sub _ g);exact absurd (Heap.lt_size ho') (Nat.not_lt.mpr ha)
    · exact absurd (Heap.lt_size (x.le _ _ g z)) (Nat.not_lt.mpr ha)
noncomputable def v8(F:Fm)(ρ:b9)(e:Option Expr)(P:Option Int→Prop):Prop:=match e with
  |none=>P none
  |some e=>Ev F ρ e fun d=>∃i,d= .int i∧P (some i)
theorem a3q{X:Addr→Prop}{s:Shared}{e:Option Expr}{P:Option Int→Prop}(h:v8 F ρ e P)(i:I F X ρ s){Q E:Value→Shared→Prop}
    (q:∀v k s',P k→I F X ρ s'→Ext F.C.G s s'→IsPart v k→Q v s'):wpAny (model F.C.prog F.C.w) F.A (evalPart e F.env) Q E s:=by
  cases e with
  |none=>refine b8 (evalPart_none ..) ?_;exact wpAny_pure (q _ _ _ h i (Ext.refl _ _) .none)
  | some e=>
    refine b8 (evalPart_some ..) ?_
    refine h X s i _ _ fun v d s' z1 i' x r=>?_
    obtain ⟨k,hd,p⟩:=z1
    subst hd
    obtain ⟨t,rfl⟩:=r.int_inv
    exact q _ _ _ p i' x (.int _ _)
noncomputable def natOf(i:Int)(f:Nat→Option (List PV)):Option (List PV):=match i with
  | .ofNat n=>f n
  | .negSucc _=>none
noncomputable def b0b(lo hi st:Option Int)(l:List PV):Option (List PV):=match st with
  | none=>(match lo with
    | none=>(match hi with
      |none=>none
      |some j=>natOf j fun n=>some (l.take n))
    | some i=>(match hi with
      |none=>natOf i fun n=>some (l.drop n)
      |some _=>none))
  | some k=>(match lo with
    | none=>(match hi with
      |none=>if k== -1 then some l.reverse else none
      |some _=>none)
    |some _=>none)
inductive b3m(l:List PV):Option Int→Option Int→Option Int→List PV→Prop
  |drop (n:Nat):b3m l (some (.ofNat n)) none none (l.drop n)
  |take (n:Nat):b3m l none (some (.ofNat n)) none (l.take n)
  |rev:b3m l none none (some (-1)) l.reverse
theorem b0b.inv{lo hi st:Option Int}{l l':List PV}(h:b0b lo hi st l=some l'):b3m l lo hi st l':=by
  cases st with
  | none=>cases lo with
    | none=>cases hi with
      |none=>exact l8 h
      | some j=>cases j with
        |ofNat n=>exact Option.some.inj h▸ .take n
        |negSucc n=>exact l8 h
    | some i=>cases hi with
      | none=>cases i with
        |ofNat n=>exact Option.some.inj h▸ .drop n
        |negSucc n=>exact l8 h
      |some j=>exact l8 h
  | some k=>cases lo with
    | none=>cases hi with
      | none=>
        obtain ⟨e,h⟩:=a2q h
        exact eq_of_beq e▸Option.some.inj h▸ .rev
      |some j=>exact l8 h
    |some i=>exact l8 h
theorem b7d{α:Type}(l:List α)(n:Nat):l.drop (min n l.length)=l.drop n:=by
  by_cases h:n≤l.length
  · exact b8 (Nat.min_eq_left h ..) rfl
  · exact b8 (Nat.min_eq_right (by lia) ..) (b8 (List.drop_length ..) (b8 (List.drop_eq_nil_of_le (by lia) ..) rfl))
theorem a9l{X:Addr→Prop}{h:Heap}{lo hi st:Option Int}{l l':List PV}(k:b3m l lo hi st l'):∀ {vs:List Value},i0 X h vs l→i0 X h (slicePick vs.toArray lo hi st).toList l'∧st≠some 0:=by
  cases k with
  | drop n=>
    intro vs r
    refine ⟨b8 (kms_pick_eq ..) ?_,nofun⟩
    have:kms_pick vs.toArray.toList (some (Int.ofNat n)) none=vs.drop n:=by
      have h0:¬(Int.ofNat n<0):=Int.not_lt.mpr (Int.natCast_nonneg n)
      delta kms_pick;simp only [kms_lo,kms_hi,h0,if_false]
      exact b8 (show (Int.ofNat n).toNat=n from rfl ..) (b8 (b7d ..) (List.take_of_length_le (by rw [List.length_drop];exact Nat.sub_le_sub_left (Nat.min_le_left _ _) _)))
    exact b8 this (r.drop n)
  | take n=>
    intro vs r
    refine ⟨b8 (kms_pick_eq ..) ?_,nofun⟩
    have:kms_pick vs.toArray.toList none (some (Int.ofNat n))=vs.take n:=by
      have h0:¬(Int.ofNat n<0):=Int.not_lt.mpr (Int.natCast_nonneg n)
      delta kms_pick;simp only [kms_lo,kms_hi,h0,if_false,List.drop_zero,Nat.sub_zero]
      refine b8 (show (Int.ofNat n).toNat=n from rfl ..) ?_
      by_cases hn:n≤vs.length
      · exact b8 (Nat.min_eq_left hn ..) rfl
      · exact b8 (Nat.min_eq_right (Nat.le_of_not_le hn) ..) (b8 (List.take_length ..) (List.take_of_length_le (Nat.le_of_not_le hn)).symm)
    exact b8 this (r.take n)
  | rev=>
    intro vs r
    exact ⟨b8 (krv_pick ..) r.reverse,by decide⟩
theorem a9o{X:Addr→Prop}{h:Heap}{lo hi st:Option Int}{vs:List Value}{l l':List PV}(r:i0 X h vs l)(e:b0b lo hi st l=some l'):i0 X h (slicePick vs.toArray lo hi st).toList l'∧st≠some 0:=a9l (b0b.inv e) r
theorem F0.slice{value:Expr}{lo hi st:Option Expr}{p pos:Pos}(h:F7 F ρ value fun d=>v8 F ρ lo fun i=>v8 F ρ hi fun j=>v8 F ρ st fun k=>∃l l',d= .lst l∧l.length≤sizeLine∧b0b i j k l=some l'∧PL l')
    (hs:∃ops:Value→Value→List Value,∀o i,subscripted (.Slice lo hi st p) false o i=operate (ops o i) (getItem o i)):F0 F ρ (.Subscript value (.Slice lo hi st p) pos) PL:=fun X s i Q E q=>by
  obtain ⟨ops,hs⟩:=hs
  refine Subscript_ (h X s i _ _ fun v d s₁ p1a i₁ x1a r₁=>wpAny_Slice (a3q p1a i₁ fun vl kl s₂ p2a i₂ x₂ a2a=>a3q p2a i₂ fun vu ku s₃ p3a i3a x3a a3a=>a3q p3a i3a fun vs' ks s₄ z1 i4a x4a a4a=>?_))
  obtain ⟨l,l',hd,hz,hp,p4a⟩:=z1
  clear p1a p2a p3a;subst hd
  have x:=(x₂.trans x3a).trans x4a
  have r:=x.allB i₁ r₁
  clear r₁;obtain ⟨a,vs,rfl,pl,rl⟩:=r.lst_inv
  obtain ⟨rp,hst⟩:=a9o rl hp
  have pl':(s₄.heap.push {cls:= .type "slice",data:= .fields #[vl,vu,vs']}).PlainList a vs.toArray:=pl.at fun o e=>Heap.get?_push_of_some _ e
  refine tail_any (s:= {s₄ with heap:=s₄.heap.push {cls:= .type "slice",data:= .fields #[vl,vu,vs']}}) pl'.isList.typeIs slot_list_getitem.lookup (wpAny_getItem_list_slice pl'.isList (Heap.IsSliceOf.new ..) a2a a3a a4a hst ?_ (by refine b8 (List.size_toArray ..) (b8 (rl.1 ..) ?_);exact hz)) (hs _ _)
  have kp:∀b o,s₄.heap.get? b=some o→((s₄.heap.push {cls:= .type "slice",data:= .fields #[vl,vu,vs']}).push {cls:= .type "list",data:= .seq (slicePick vs.toArray kl ku ks)}).get? b=some o:=fun b o e=>Heap.get?_push_of_some _ (Heap.get?_push_of_some _ e)
  refine q _ (slicePick vs.toArray kl ku ks).toList l' _ p4a (i4a.grow kp) ((x1a.trans x).trans (Ext.heap _ _ (Le.of kp))) ?_ ⟨0,by refine b8 (Array.toArray_toList ..) ?_;exact Heap.get?_push_size _ rfl⟩ (rp.mono (Le.of kp) fun b hb=>hb.elim .inl fun z=> .inr (z▸?_))
  · exact a1z i4a.toSt (x1a.trans x) (by refine b8 (Heap.size_push ..) ?_;exact Nat.le_succ _)
  · exact a1z i4a.toSt (Ext.refl _ _) (by refine b8 (Heap.size_push ..) ?_;exact Nat.le_succ _)
inductive b2r:Option Int→Option Int→Option Int→List PV→List PV→Prop
  |drop (n:Nat) (l:List PV):n+1≤l.length→b2r (some (.ofNat (n+1))) none none l (l.drop (n+1))
  |rev (l:List PV):b2r none none (some (-1)) l l.reverse
inductive b7r(l:List PV):Value→Value→Value→List PV→Prop
  |drop (n:Nat) (t:Tok):n+1≤l.length→b7r l (.int (.ofNat (n+1)) t) .none .none (l.drop (n+1))
  |rev (t:Tok):b7r l .none .none (.int (-1) t) l.reverse
theorem b2r.vals{i j k:Option Int}{l l':List PV}(h:b2r i j k l l'):∀ {a b c:Value},IsPart a i→IsPart b j→IsPart c k→b7r l a b c l':=by
  cases h with
  |drop n l hn=>intro a b c x y z;cases x;cases y;cases z;exact .drop n _ hn
  |rev l=>intro a b c x y z;cases x;cases y;cases z;exact .rev _
theorem a7l{X:Addr→Prop}{l l':List PV}{x y z:Value}(hp:b7r l x y z l'):∀ {prog:Program} {w:World} {A:Around} {E:Value→Shared→Prop} {s:Shared} {a sl:Addr} {vs:List Value},i0 X s.heap vs l→IsTup s.heap a vs.toArray→s.heap.IsSliceOf sl x y z→vs.length≤sizeLine→
    ∃us,i0 X s.heap us l'∧∀ {Q:Value→Shared→Prop},Q (.ref s.heap.objs.size) {s with heap:=s.heap.push {cls:= .type "tuple",data:= .seq us.toArray}} →wpAny (model prog w) A (getItem (.ref a) (.ref sl)) Q E s:=by
  cases hp with
  |drop n t hn=>exact fun r ht hs hz=>⟨_,r.drop (n+1),fun q=>getItem_tuple_from ht hs (Nat.le_add_left _ _) (by refine b8 (List.size_toArray ..) (b8 (r.1 ..) ?_);exact hn) q (by refine b8 (List.size_toArray ..) ?_;exact hz)⟩
  |rev t=>exact fun r ht hs hz=>⟨_,r.reverse,fun q=>a3j ht hs q hz⟩
theorem Ev.c6h{value:Expr}{lo hi st:Option Expr}{p pos:Pos}(h:F7 F ρ value fun d=>v8 F ρ lo fun i=>v8 F ρ hi fun j=>v8 F ρ st fun k=>∃l l',d= .tup l∧l.length≤sizeLine∧b2r i j k l l'∧P (.tup l'))
    (hs:∃ops:Value→Value→List Value,∀o i,subscripted (.Slice lo hi st p) false o i=operate (ops o i) (getItem o i)):Ev F ρ (.Subscript value (.Slice lo hi st p) pos) P:=fun X s i Q E q=>by
  obtain ⟨ops,hs⟩:=hs
  refine Subscript_ (h X s i _ _ fun v d s₁ p1a i₁ x1a r₁=>wpAny_Slice (a3q p1a i₁ fun vl kl s₂ p2a i₂ x₂ a2a=>a3q p2a i₂ fun vu ku s₃ p3a i3a x3a a3a=>a3q p3a i3a fun vs' ks s₄ z1 i4a x4a a4a=>?_))
  obtain ⟨l,l',hd,hz,hp,p4a⟩:=z1
  clear p1a p2a p3a;subst hd
  have x:=(x₂.trans x3a).trans x4a
  have r:=x.allB i₁ r₁
  clear r₁;obtain ⟨a,vs,rfl,pl,_,rl⟩:=r.n8
  have i5a:=i4a.grow (s':= {s₄ with heap:=s₄.heap.push {cls:= .type "slice",data:= .fields #[vl,vu,vs']}}) (c8 _)
  have x5a:=(x1a.trans x).trans (Ext.heap s₄ (s₄.heap.push {cls:= .type "slice",data:= .fields #[vl,vu,vs']}) (Le.of (c8 _)))
  have rl':=rl.le (Le.of (c8 {cls:= .type "slice",data:= .fields #[vl,vu,vs']}))
  have pl':=pl.push {cls:= .type "slice",data:= .fields #[vl,vu,vs']}
  obtain ⟨us,ru,k⟩:=a7l (s:= {s₄ with heap:=s₄.heap.push {cls:= .type "slice",data:= .fields #[vl,vu,vs']}}) (hp.vals a2a a3a a4a) rl' pl'.isTup (Heap.IsSliceOf.new ..) (by refine b8 (rl.1 ..) ?_;exact hz)
  obtain ⟨i6,x6,r6⟩:=b0c i5a ru
  exact tail_any (s:= {s₄ with heap:=s₄.heap.push {cls:= .type "slice",data:= .fields #[vl,vu,vs']}}) pl'.isTup.typeIs PySem.F.slot_tuple_getitem.lookup (k (q _ _ _ p4a i6 (x5a.trans x6) r6)) (hs _ _)
theorem Ev.minusOne{i:Int}{k:Nat}{p pos:Pos}(h:P (.int (-i))):Ev F ρ (.UnaryOp .USub (.Constant (.int i) k p) pos) P:=fun X s inv Q E q=>
  wpAny_UnaryOp (wpAny_Constant_int (PySem.P.neg_int (q _ _ _ h (inv.tok _) (Ext.tok' _ _) (.int _ _))))
theorem F0.display{es:List Expr}{pos:Pos}(h:E7 F ρ es fun ds=>ds.length≤sizeLine∧PL ds):F0 F ρ (.List es pos) PL:=fun X s inv Q E q=>by
  refine wpAny_List_spliced (h X s pos inv _ _ fun vs ds s' p i x r=>⟨by refine b8 (r.1 ..) ?_;exact p.1,?_⟩)
  refine q _ vs ds _ p.2 (i.grow (c8 _)) (x.trans (Ext.heap _ _ (Le.of (c8 _)))) ?_ ⟨0,Heap.get?_push_size _ rfl⟩ (r.mono (Le.of (c8 _)) fun b hb=>hb.elim .inl fun z=> .inr (z▸A8 _))
  exact a1z i.toSt x (Nat.le_refl _)
end
end
section
variable [HH:u7]
section
variable{F:Fm}{ρ:b9}{P:PV→Prop}{PL:List PV→Prop}
theorem G6{X:Addr→Prop}{s:Shared}{x:Str}{np pos:Pos}{v:Value}{args:List Expr}{Q E:Value→Shared→Prop}(i:I F X ρ s)(hb:F.C.mg x=none∧F.C.mb x=some v)(hx:F.env.kindOf x=some .globalImplicit)(hd:(x==("__debug__":Str))=false)
    (h:wpAny (model F.C.prog F.C.w) F.A (callWith pos v [] (backTo pos (starEach args F.env)) []) Q E s):wpAny (model F.C.prog F.C.w) F.A (eval (.Call (.Name x np) args [] pos) F.env) Q E s:=
  wpAny_Call_NameR (c9e i hb.1 hb.2 hx hd h)
theorem list1{X:Addr→Prop}{s:Shared}{e:Expr}{pos:Pos}{P:PV→Prop}(h:F7 F ρ e P)(i:I F X ρ s)(hs:starEach [e] F.env=[(false,eval e F.env)]){Q:List Value→Shared→Prop}{E:Value→Shared→Prop}
    (q:∀v d s',P d→I F X ρ s'→Ext F.C.G s s'→C6 F.C X s'.heap v d→Q [v] s'):wpAny (model F.C.prog F.C.w) F.A (spliced (backTo pos (starEach [e] F.env))) Q E s:=by
  refine b8 (hs ..) ?_
  exact Calls.spliced_cons (h X s i _ _ fun v d s' p i' x r=>Calls.spliced_nil (q v d s' p i' x r))
theorem F0.listOf{e:Expr}{np pos:Pos}(h:F7 F ρ e fun d=>∃l,(d= .lst l∨d= .tup l)∧l.length≤sizeLine∧PL l)(hx:F.env.kindOf "list"=some .globalImplicit)(hs:starEach [e] F.env=[(false,eval e F.env)]:=by rfl):
    F0 F ρ (.Call (.Name "list" np) [e] [] pos) PL:=fun X s i Q E q=>by
  refine G6 i (F.C.bi "list" (.type "list") (.head _)) hx (by decide) (callWith_type1 (list1 h i hs fun v d s₁ ⟨l,hd,hz,p⟩ i₁ x1a r₁=>?_) hs rfl)
  have fin:∀(a:Addr) (vs:List Value) (T:String) (o:Obj) (n:Nat),v= .ref a→(T="list"∨T="tuple")→s₁.heap.get? a=some o→o.cls= .type T→o.data= .seq vs.toArray n→i0 X s₁.heap vs l→wpAny (model F.C.prog F.C.w) F.A (call (.type "list") [v]) Q E s₁:=fun a vs T o n hv hT ho hc hd rl=>by
    clear r₁;subst hv
    refine call_list_seq a hT ho hc hd (fun h' c' hk hD=>?_) (by refine b8 (List.size_toArray ..) (b8 (rl.1 ..) ?_);exact hz)
    exact q _ vs l _ p (i₁.grow hk) (x1a.trans (Ext.heap _ _ (Le.of hk))) (a1z i₁.toSt x1a (Nat.le_refl _)) ⟨c',hD⟩ (rl.mono (Le.of hk) fun b hb=>hb.elim .inl fun z=> .inr (z▸A8 _))
  rcases hd with rfl|rfl
  · obtain ⟨a,vs,hv,⟨n,ho⟩,rl⟩:=r₁.lst_inv
    exact fin a vs "list" _ n hv (.inl rfl) ho rfl rfl rl
  · obtain ⟨a,vs,hv,⟨n,ho⟩,_,rl⟩:=r₁.n8
    exact fin a vs "tuple" _ n hv (.inr rfl) ho rfl rfl rl
theorem Ev.tupleOf{e:Expr}{np pos:Pos}(h:F7 F ρ e fun d=>∃l,(d= .lst l∨d= .tup l)∧l.length≤sizeLine∧P (.tup l))(hx:F.env.kindOf "tuple"=some .globalImplicit)(hs:starEach [e] F.env=[(false,eval e F.env)]:=by rfl):
    Ev F ρ (.Call (.Name "tuple" np) [e] [] pos) P:=fun X s i Q E q=>by
  refine G6 i (F.C.bi "tuple" (.type "tuple") (.tail _ (.head _))) hx (by decide) (callWith_type1 (list1 h i hs fun v d s₁ ⟨l,hd,hz,p⟩ i₁ x1a r₁=>?_) hs rfl)
  rcases hd with rfl|rfl
  · obtain ⟨a,vs,rfl,pl,rl⟩:=r₁.lst_inv
    refine call_tuple_list pl.isList (fun h' hk=>?_) (by refine b8 (List.size_toArray ..) (b8 (rl.1 ..) ?_);exact hz)
    have i₂:=i₁.grow (s':= {s₁ with heap:=h'}) hk
    obtain ⟨i3a,x3a,r3a⟩:=b0c i₂ (rl.le (Le.of hk))
    exact q _ _ _ p i3a ((x1a.trans (Ext.heap _ _ (Le.of hk))).trans x3a) r3a
  · obtain ⟨a,vs,rfl,ht,hx',rl⟩:=r₁.n8
    exact call_tuple_same ht.isTup (q _ _ _ p i₁ x1a (Rep.c7m ht hx' rl))
theorem Ev.len{e:Expr}{np pos:Pos}(h:F7 F ρ e fun d=>∃l,(d= .lst l∨d= .tup l)∧l.length≤sizeLine∧P (.int l.length))(hx:F.env.kindOf "len"=some .globalImplicit)(hs:starEach [e] F.env=[(false,eval e F.env)]:=by rfl):
    Ev F ρ (.Call (.Name "len" np) [e] [] pos) P:=fun X s i Q E q=>by
  refine G6 i (F.C.bi "len" (.builtin "len") (.tail _ (.tail _ (.head _)))) hx (by decide) (callWith_builtin1 (list1 h i hs fun v d s₁ ⟨l,hd,hz,p⟩ i₁ x1a r₁=>?_) hs rfl)
  have hz':((l.length:Nat):Int)<2 ^ 63:=by rw [sizeLine_eq] at hz;lia
  rcases hd with rfl|rfl
  · obtain ⟨a,vs,rfl,pl,rl⟩:=r₁.lst_inv
    exact Calls.call_len_list pl.isList (by refine b8 (List.size_toArray ..) (b8 (rl.1 ..) ?_);exact hz') (by refine b8 (List.size_toArray ..) (b8 (rl.1 ..) ?_);exact q _ _ _ p (i₁.tok _) (x1a.trans (Ext.tok' _ _)) (.int _ _))
  · obtain ⟨a,vs,rfl,pl,_,rl⟩:=r₁.n8
    exact len_tuple pl.isTup (by refine b8 (List.size_toArray ..) (b8 (rl.1 ..) ?_);exact hz') (by refine b8 (List.size_toArray ..) (b8 (rl.1 ..) ?_);exact q _ _ _ p (i₁.tok _) (x1a.trans (Ext.tok' _ _)) (.int _ _))
theorem Ev.max2{e₁ e₂:Expr}{np pos:Pos}(h:Ev F ρ e₁ fun d=>Ev F ρ e₂ fun d'=>∃a b,d= .int a∧d'= .int b∧P (.int (if b>a then b else a)))(hx:F.env.kindOf "max"=some .globalImplicit)
    (hs:starEach [e₁,e₂] F.env=[(false,eval e₁ F.env),(false,eval e₂ F.env)]:=by rfl) (hs':starEach [e₂] F.env=[(false,eval e₂ F.env)]:=by rfl):
    Ev F ρ (.Call (.Name "max" np) [e₁,e₂] [] pos) P:=fun X s i Q E q=>by
  refine G6 i (F.C.bi "max" (.builtin "max") (by decide)) hx (by decide) (callWith_builtin1 ?_ (by exact b8 (hs ..) (b8 (hs' ..) rfl)) (by refine b8 (hs' ..) ?_;rfl))
  refine b8 (hs ..) ?_
  refine Calls.spliced_cons (h X s i _ _ fun v d s₁ p i₁ x1a r₁=>Calls.spliced_cons (p X s₁ i₁ _ _ fun v' d' s₂ ⟨a,b,hd,hd',p2a⟩ i₂ x₂ r₂=>Calls.spliced_nil ?_))
  clear p;subst hd;subst hd'
  obtain ⟨t,rfl⟩:=r₁.int_inv
  obtain ⟨u,rfl⟩:=r₂.int_inv
  refine max_two_ints F.hA fun h' tk hk=>?_
  have x:=(x1a.trans x₂).trans (Ext.tok s₂ h' tk (Le.of hk))
  by_cases hab:b>a
  · simp only [hab,if_true] at p2a ⊢;exact q _ _ _ p2a (i₂.grow hk) x (.int _ _)
  · simp only [hab,if_false] at p2a ⊢;exact q _ _ _ p2a (i₂.grow hk) x (.int _ _)
end
end
section
variable [HH:u7]
section
variable{F:Fm}{ρ:b9}{N:b9→Prop}{R:PV→Prop}
theorem JX.a5g{X:Addr→Prop}{s:Shared}{ad:Str→Addr}{x:Str}{l l':PV}{h':Heap}{tk:Nat}(j:JX F X ρ s)(w:x8 F X ρ s.heap ad)(e:ρ.lookup x=some (.own l))(hs:Heap.SameBut (ad x) s.heap h')
    (pl:Le X s.heap h'→G5 F.C.hsh X h' (ad x) l'):JX F X ((x,.own l')::ρ) {s with heap:=h',toks:=tk} ∧m7 F X X s {s with heap:=h',toks:=tk} :=by
  obtain ⟨hv,hX,hG,hn,hpl⟩:=w.own x l e
  have le:Le X s.heap h':=fun b o hb q=>(hs.2 b fun z=>hb (z▸hX)).trans q
  have i:=j.1
  have vat:∀y u,j9 s.heap F.env y u→j9 h' F.env y u:=fun y u z=>z.le le i.u9 i.s8
  refine ⟨⟨⟨⟨?_,?_,?_,i.sub,i.new⟩,?_,?_,i.apart,i.u9,i.s8,ad,?_,?_,?_⟩,j.2,j.3,j.4.gens,j.4.os,j.4.drawn,?_⟩,fun O=> .inl,fun b o q hb O O=>le b o hb q⟩
  · exact fun b o hb q=>(hs.2 b fun z=>by
      rcases i.new _ hX with g|g
      · exact hG g
      · rw [z,g] at q;cases q).trans (i.base b o hb q)
  · exact F.C.stable _ _ i.inv fun b o g q=>(hs.2 b fun z=>hG (z▸g)).trans q
  · intro a ha
    by_cases z:a=ad x
    · exact z▸(pl le).ex
    · obtain ⟨o,ho⟩:=i.d8 a ha;exact ⟨o,(hs.2 a z).trans ho⟩
  · obtain ⟨m,hm⟩:=i.ns;exact ⟨m,hm.at' fun o q=>le _ o i.u9 q⟩
  · intro y c hc
    obtain ⟨u,o,ho,hd⟩:=i.cell y c hc;exact ⟨u,o,le _ o (i.s8 y c hc) ho,hd⟩
  · intro y d q
    by_cases hy:y=x
    · clear e hs pl hv hX hG hn hpl;subst hy;rw [lookup_cons_self] at q;cases q
    · rw [c5 _ _ hy] at q
      obtain ⟨u,h1,h2⟩:=w.val y d q
      exact ⟨u,vat y u h1,h2.le le⟩
  · intro y xs q
    by_cases hy:y=x
    · clear e hs hpl;subst hy;rw [lookup_cons_self] at q;cases q
      exact ⟨vat _ _ hv,hX,hG,hn,pl le⟩
    · rw [c5 _ _ hy] at q
      obtain ⟨h1,h2,h3,h3',h4⟩:=w.own y xs q
      exact ⟨vat _ _ h1,h2,h3,h3',h4.step (fun o ho=>(hs.2 _ fun z=>w.apart y xs x l q e hy z).trans ho) fun v d r=>r.le le⟩
  · intro y ys y' ys' q q'
    by_cases hy:y=x
    · clear hs pl hv hX hG hn hpl q;subst hy
      intro hyy
      rw [c5 _ _ (fun z=>hyy z.symm)] at q'
      exact w.apart y l y' ys' e q' hyy
    · rw [c5 _ _ hy] at q
      by_cases hy':y'=x
      · clear hs pl hv hX hG hn hpl q' hy;subst hy';exact w.apart y ys y' l q e
      · rw [c5 _ _ hy'] at q';exact w.apart y ys y' ys' q q'
  · exact fun b o hb q=>(hs.2 b fun z=>by rw [z,hn] at q;cases q).trans (j.4.le b o hb q)
theorem b8p{env:Env}{x name:Str}{np:Pos} :attributeBase (.Name x np) name env (eval (.Name x np) env)=eval (.Name x np) env:=by
  unfold attributeBase;rfl
theorem ownCall{X:Addr→Prop}{s:Shared}{x name:Str}{np apos pos:Pos}{id:String}{args:List Expr}{l:List PV}{Q E:Value→Shared→Prop}(i:I F X ρ s)(e:ρ.lookup x=some (.own (.lst l)))(slot:Slot "list" name id)(hty:typeOf (.builtin id)=pure (.type "method_descriptor"))
    (hfew:((backTo pos (starEach args F.env)).all (fun x=>!x.1)&&(backToKw pos (keywordEach [] F.env)).all (fun x=>x.1.isSome)&&decide (args.length+([]:List Keyword).length+(if ([]:List Keyword).isEmpty then 0 else 1)<30))=true)
    (hline:(apos.endLine==pos.line)=true) (hd:(x==("__debug__":Str))=false)
    (h:∀ad,x8 F X ρ s.heap ad→wpAny (model F.C.prog F.C.w) F.A (callWith pos (.builtin id) [.ref (ad x)] (backTo pos (starEach args F.env)) []) Q E s):
    wpAny (model F.C.prog F.C.w) F.A (eval (.Call (.Attribute (.Name x np) name apos) args [] pos) F.env) Q E s:=by
  obtain ⟨ad,w⟩:=i.vars
  obtain ⟨hv,hX,hG,hn,vs,⟨n,hpl⟩,hr⟩:=w.own x _ e
  exact wpAny_Call_method b8p hfew hline PySem.F.plainAttrs_list slot hty (wpAny_Name (t8 F.hk hv ⟨⟨_,hpl,rfl⟩,fun a q=>by cases q;exact ⟨_,hpl,rfl⟩,h ad w⟩) hd)
theorem x8.move{X:Addr→Prop}{s s':Shared}{ad ad':Str→Addr}{x:Str}{l:PV}(w:x8 F X ρ s.heap ad)(i:I F X ρ s)(x':Ext F.C.G s s')(w':x8 F X ρ s'.heap ad')(e:ρ.lookup x=some (.own l)):ad' x=ad x:=by
  have h1:=(w.own x l e).1.le (x'.le.weak i.sub) i.u9 i.s8
  have:=j9.same (w'.own x l e).1 h1
  exact Value.ref.inj this
theorem Ex.append{x:Str}{e:Expr}{l:List PV}{np apos pos spos:Pos}(hx:ρ.lookup x=some (.own (.lst l)))(hz:l.length≤sizeLine)(h:Ev F ρ e fun d=>N ((x,.own (.lst (l++[d])))::ρ))(hs:starEach [e] F.env=[(false,eval e F.env)]:=by rfl)(hline:(apos.endLine==pos.line)=true:=by rfl)
    (hd:(x==("__debug__":Str))=false:=by decide) (hi:interactive F.env=false):Ex F ρ (.Expr (.Call (.Attribute (.Name x np) "append" apos) [e] [] pos) spos) N R:=fun X s j Q E n r=>by
  refine wpAny_Expr_any (ownCall j.1 hx PySem.F.slot_list_append PySem.F.type_list_append (by refine b8 (hs ..) ?_;rfl) hline hd fun ad w=>?_) hi rfl
  refine b8 (hs ..) ?_
  refine PySem.P.append_list (h X s j.1 _ _ fun v d s₁ p i₁ x1a r₁=>?_)
  obtain ⟨ad1,w1a⟩:=i₁.vars
  have e₁:=x8.move w j.1 x1a w1a hx
  obtain ⟨hv,hX,hG,hn,vs,⟨c,hpl⟩,hr⟩:=w1a.own x _ hx
  refine C5 (e₁ ..) ?_
  have j1a:=j.step i₁ x1a
  have k₁:=m7.x7 j.1 x1a
  refine ⟨vs.toArray,c,by refine b8 (List.size_toArray ..) (b8 (hr.1 ..) ?_);exact hz,hpl,?_⟩
  obtain ⟨j2a,k₂⟩:=j1a.a5g (h':=s₁.heap.update (ad1 x) (Obj.mapSeq fun xs=>xs.push v)) (tk:=s₁.toks) w1a hx (Heap.SameBut.update ..) (l':= .lst (l++[d])) fun le=>⟨vs++[v],⟨c+1,by
      refine b8 (Heap.get?_update_self _ hpl (by rw [Obj.mapSeq_push_plain];rfl) ..) (b8 (Obj.mapSeq_push_plain ..) ?_);simp⟩,(hr.append (.cons r₁ .nil)).le le⟩
  exact n _ _ X p j2a (fun O h=>h) (k₁.trans k₂ (j.alive j1a (fun O h=>h) k₁))
theorem Ex.extend{x:Str}{e:Expr}{l:List PV}{np apos pos spos:Pos}(hx:ρ.lookup x=some (.own (.lst l)))(h:Ev F ρ e fun d=>∃k,(d= .lst k∨d= .tup k)∧l.length+k.length≤sizeLine∧N ((x,.own (.lst (l++k)))::ρ))
    (hs:starEach [e] F.env=[(false,eval e F.env)]:=by rfl) (hline:(apos.endLine==pos.line)=true:=by rfl) (hd:(x==("__debug__":Str))=false:=by decide) (hi:interactive F.env=false):
    Ex F ρ (.Expr (.Call (.Attribute (.Name x np) "extend" apos) [e] [] pos) spos) N R:=fun X s j Q E n r=>by
  refine wpAny_Expr_any (ownCall j.1 hx PySem.F.slot_list_extend PySem.F.type_list_extend (by rw [hs];rfl) hline hd fun ad w=>?_) hi rfl
  rw [hs]
  have key:∀v d s₁,(∃k,(d= .lst k∨d= .tup k)∧l.length+k.length≤sizeLine∧N ((x,.own (.lst (l++k)))::ρ))→I F X ρ s₁→Ext F.C.G s s₁→Rep X s₁.heap v d→
      s₁.TypeIs (.ref (ad x)) "list"∧argsOk "list.extend" ⟨[.ref (ad x),v],[]⟩∧∃S,Meets (Builtin.«list.extend» ⟨[.ref (ad x),v],[]⟩) S∧S F.A (wants (fun O s'=>Q .next s') E) s₁:=fun v d s₁ ⟨k,hdk,hz,p⟩ i₁ x1a r₁=>by
    obtain ⟨ad1,w1a⟩:=i₁.vars
    have e₁:=x8.move w j.1 x1a w1a hx
    obtain ⟨hv,hX,hG,hn,vs,⟨c,hpl⟩,hr⟩:=w1a.own x _ hx
    rw [← e₁]
    have j1a:=j.step i₁ x1a
    have k₁:=m7.x7 j.1 x1a
    refine ⟨⟨_,hpl,rfl⟩,PySem.F.args_list_extend_2 _ _,?_⟩
    have fin:∀us:List Value,i0 X s₁.heap us k→Q .next {s₁ with heap:=s₁.heap.update (ad1 x) (Obj.mapSeq fun xs=>xs++us.toArray)} :=fun us ru=>by
      obtain ⟨j2a,k₂⟩:=j1a.a5g (h':=s₁.heap.update (ad1 x) (Obj.mapSeq fun xs=>xs++us.toArray)) (tk:=s₁.toks) w1a hx (Heap.SameBut.update ..) (l':= .lst (l++k)) fun le=>⟨vs++us,⟨_,by
        rw [Heap.get?_update_self _ hpl (by rw [mapSeq_app];rfl),mapSeq_app,show vs.toArray++us.toArray=(vs++us).toArray by simp]⟩,(hr.append ru).le le⟩
      exact n _ _ X p j2a (fun O h=>h) (k₁.trans k₂ (j.alive j1a (fun O h=>h) k₁))
    have door:∀us:List Value,i0 X s₁.heap us k→vs.toArray.size+us.toArray.size≤sizeLine:=fun us ru=>by rw [List.size_toArray,List.size_toArray,hr.1,ru.1];exact hz
    rcases hdk with rfl|rfl
    · obtain ⟨b,us,rfl,⟨c2,hb⟩,_,ru⟩:=r₁.lst_inv
      exact ⟨_,AutoSeq1.list_extend_list_list_0 (ad1 x) vs.toArray c b us.toArray c2 (extend_door (door us ru)) (Nat.le_trans (Nat.le_add_right _ _) (door us ru)) (Nat.le_succ_of_le (door us ru)),hpl,hb,fin us ru⟩
    · obtain ⟨b,us,rfl,⟨c2,hb⟩,_,ru⟩:=r₁.n8
      exact ⟨_,AutoSeq1.list_extend_list_tuple_0 (ad1 x) vs.toArray c b us.toArray c2 (extend_door (door us ru)) (Nat.le_trans (Nat.le_add_right _ _) (door us ru)) (Nat.le_succ_of_le (door us ru)),hpl,hb,fin us ru⟩
  exact seqMethod1_meets PySem.F.slot_list_extend PySem.F.entry_list_extend (h X s j.1 _ _ fun v d s₁ p i₁ x1a r₁=>key v d s₁ p i₁ x1a r₁)
theorem a6m(vs:List Value)(v:Value):(vs++[v]).toArray.eraseIdxIfInBounds ((vs++[v]).toArray.size - 1)=vs.toArray:=by
  have:=kl_erase vs [] v
  simpa using this
theorem Ex.b3o{x y:Str}{l:List PV}{d:PV}{np apos cpos yp pos:Pos}(hx:ρ.lookup x=some (.own (.lst (l++[d]))))(hz:l.length<sizeLine)(h:N ((y,.val d)::(x,.own (.lst l))::ρ))(hy:l5 F y)(hline:(apos.endLine==cpos.line)=true:=by rfl)
    (hd:(x==("__debug__":Str))=false:=by decide):Ex F ρ (.Assign [.Name y yp] (.Call (.Attribute (.Name x np) "pop" apos) [] [] cpos) pos) N R:=fun X s j Q E n r=>by
  refine wpAny_Assign_Name (ownCall j.1 hx PySem.F.slot_list_pop PySem.F.type_list_pop rfl hline hd fun ad w=>?_) rfl
  obtain ⟨hv,hX,hG,hn,vs,⟨c,hpl⟩,hr⟩:=w.own x _ hx
  obtain ⟨us,v,rfl,r1,r2⟩:∃us v,vs=us++[v]∧i0 X s.heap us l∧Rep X s.heap v d:=by
    have hlen:=hr.1
    rw [List.length_append,List.length_singleton] at hlen
    have hne:vs≠[]:=fun q=>by rw [q] at hlen;simp at hlen
    refine ⟨vs.dropLast,vs.getLast hne,(List.dropLast_concat_getLast hne).symm,?_,?_⟩
    · have:=hr.take (vs.length - 1)
      rw [← List.dropLast_eq_take] at this
      rw [show vs.length - 1=l.length by lia,List.take_left] at this
      exact this
    · refine hr.2 (vs.length - 1) _ d (by rw [List.getLast_eq_getElem,List.getElem?_eq_getElem]) ?_
      rw [show vs.length - 1=l.length by lia];simp
  refine PySem.P.pop_list (y:=v) hpl (by simp) ?_ (by rw [List.size_toArray,List.length_append,r1.1];exact hz)
  obtain ⟨j2a,k₂⟩:=j.a5g (h':=s.heap.update (ad x) (Obj.mapSeq fun xs=>xs.eraseIdxIfInBounds ((us++[v]).toArray.size - 1))) (tk:=s.toks) w hx (Heap.SameBut.update ..) (l':= .lst l) fun le=>⟨us,⟨c+1,by
    rw [Heap.get?_update_self _ hpl rfl]
    show some ({cls:= .type "list",dict:=none,data:= .seq ((us++[v]).toArray.eraseIdxIfInBounds ((us++[v]).toArray.size - 1)) (if ((us++[v]).toArray.eraseIdxIfInBounds ((us++[v]).toArray.size - 1)).size==(us++[v]).toArray.size then c else c+1),slots:= #[]} :Obj)=_
    rw [a6m];simp⟩,r1.le le⟩
  have r2':C3 F X ((x,.own (.lst l))::ρ) {s with heap:=s.heap.update (ad x) (Obj.mapSeq fun xs=>xs.eraseIdxIfInBounds ((us++[v]).toArray.size - 1)),toks:=s.toks} v (.val d):=
    r2.le (fun b o hb q=>(Heap.SameBut.update ..).2 b (fun z=>hb (z▸hX))|>.trans q)
  exact k9 j2a.1 hy fun h' tk L z=>n _ _ X h (j2a.store r2' z) (fun O h=>h) (k₂.trans z.keep (j.alive j2a (fun O h=>h) k₂))
end
end
section
set_option backward.match.sparseCases true
variable [HH:u7]
inductive c0r(C:Cx)(code:Value)(q:Str):Prop
  |mk (c:Addr) (oc:Obj) (vs:Array Value) (t:Tok) (g:¬C.G c) (e:code= .ref c) (h:C.g.get? c=some oc) (d:oc.data= .fields vs) (n:vs[1]?=some (.str q t))
inductive c6i(C:Cx)(dV:Value):Prop
  |mk (T:Addr) (ot:Obj) (n:Nat) (t:Tok) (i:Int) (e:dV= .ref T) (g:¬C.G T) (h:C.g.get? T=some ot) (d:ot.data= .seq #[Value.int i t] n)
inductive FnAt(C:Cx)(g:Str)(a:Addr)(st:Stmt):Prop
  |mk (o:Obj) (pm code doc dV:Value) (h1:C.mg g=some (.ref a)) (h2:¬C.G a) (h3:C.g.get? a=some o) (h4:o.data= .func (K0 st pm code doc dV .none)) (h5:c0r C code (a6c st))
      (h6:(u6 st).defaults=[]→dV= .none) (h7:∀e,(u6 st).defaults=[e]→c6i C dV)
noncomputable def Plain(st:Stmt)(names:List Str):Prop:=(u6 st).defaults=[]∧∀pm code doc vs,vs.length=names.length→bindArgs (K0 st pm code doc .none .none) ⟨vs,[]⟩=pure (names.zip vs)
noncomputable def a6o(st:Stmt)(names:List Str):Prop:=(∃e,(u6 st).defaults=[e])∧∀pm code doc T vs,vs.length=names.length→∃k:Option (Array Value)→Sem (List (Str×Value)),
  bindArgs (K0 st pm code doc (.ref T) .none) ⟨vs,[]⟩=(seqItems? (.ref T)>>=k)∧∀i t,k (some #[Value.int i t])=pure (names.zip vs)
structure c7h(C:Cx)(a:Addr)(o:Obj)(fd:FuncData)(body:List Stmt)(names:List Str):Prop where
  hG:¬C.G a
  ho:C.g.get? a=some o
  hdat:o.data= .func fd
  hcode:c0r C fd.code fd.qualname
  hbody:fd.body= .stmts body
  hclo:fd.closure=[]
  K6:fd.globals=mainGlobals
  M7:fd.builtins=builtinsNs
  hco:fd.scope.isCoroutine=false
  hgen:fd.scope.isGenerator=false
  hk:fd.scope.kind= .function
  hkind:∀x∈names,fd.scope.names.lookup x=some .local∨fd.scope.names.lookup x=some .cell
  hnd:names.Nodup
  hbind:∀(s:Shared) vs,vs.length=names.length→Le C.G C.g s.heap→BindsTo s fd ⟨vs,[]⟩ (names.zip vs)
noncomputable def H9:Option NameKind→Bool
  |some .local=>true
  |some .cell=>true
  |_=>false
theorem H9.inv{o:Option NameKind}(h:H9 o=true):o=some .local∨o=some .cell:=by
  cases o with
  |none=>cases h
  |some k=>cases k <;> first|(cases h;done)|exact .inl rfl|exact .inr rfl
noncomputable def a5s(st:Stmt)(names:List Str):Bool:=!(r7 st).isCoroutine&&(!(r7 st).isGenerator&&((r7 st).kind== .function&&(names.all (fun x=>H9 ((r7 st).names.lookup x))&&decide names.Nodup)))
theorem FnAt.in_{C:Cx}{g:Str}{a:Addr}{st:Stmt}(fn:FnAt C g a st){names:List Str}(hp:Plain st names∨a6o st names)(hb:a5s st names=true):∃o fd,C.mg g=some (.ref a)∧c7h C a o fd (B4 st) names∧fd.scope=r7 st∧fd.qualname=a6c st:=by
  obtain ⟨o,pm,code,doc,dV,h1,h2,h3,h4,h5,h6,h7⟩:=fn
  simp only [a5s,Bool.and_eq_true,Bool.not_eq_true',beq_iff_eq,List.all_eq_true,decide_eq_true_eq] at hb
  refine ⟨o,_,h1,⟨h2,h3,h4,h5,rfl,rfl,rfl,rfl,hb.1,hb.2.1,hb.2.2.1,fun x hx=>H9.inv (hb.2.2.2.1 x hx),hb.2.2.2.2,fun s vs hl le=>?_⟩,rfl,rfl⟩
  clear h4;rcases hp with ⟨q1,q2⟩|⟨⟨e,q1⟩,q2⟩
  · cases h6 q1
    exact .of_eq (q2 pm code doc vs hl)
  · obtain ⟨T,ot,n,t,i,rfl,hG,d8,hod⟩:=h7 e q1
    obtain ⟨k',e1,e2⟩:=q2 pm code doc T vs hl
    exact BindsTo.of_defaults (k:=k') rfl (le _ _ hG d8) hod e1 (e2 i t)
noncomputable def Con(C:Cx)(k:Nat)(f:Addr)(T:List PV→(PV→Prop)→Prop):Prop:=
  ∀ (A:Around) X s vs ds P,St C X s→A.handled=none→A.depth+k<recursionLimit→A.units+8*k+100<cLine→i0 X s.heap vs ds→T ds P→
    ∀(Q:Value→Shared→Prop) (E:Value→Shared→Prop),(∀v d s',P d→After C s s'→Rep X s'.heap v d→Q v s')→wpAny (model C.prog C.w) A (call (.ref f) vs []) Q E s
inductive d7(C:Cx)(k:Nat)(x:Str)(T:List PV→(PV→Prop)→Prop):Prop
  |mk (a:Addr) (o:Obj) (fd:FuncData) (h1:C.mg x=some (.ref a)) (h2:¬C.G a) (h3:C.g.get? a=some o) (h4:o.data= .func fd) (h5:Con C k a T)
theorem Con.mono{C:Cx}{k k':Nat}{f:Addr}{T:List PV→(PV→Prop)→Prop}(c:Con C k f T)(h:k≤k'):Con C k' f T:=
  fun A X s vs ds P st hh hd hu r t Q E q=>c A X s vs ds P st hh (by exact Nat.lt_of_le_of_lt (Nat.add_le_add_left (by assumption) _) (by assumption)) (by lia) r t Q E q
theorem d7.mono{C:Cx}{k k':Nat}{x:Str}{T:List PV→(PV→Prop)→Prop}(c:d7 C k x T)(h:k≤k'):d7 C k' x T:=
  (by obtain ⟨a,o,fd,h1,h2,h3,h4,h5⟩:=c;exact ⟨a,o,fd,h1,h2,h3,h4,h5.mono h⟩)
structure Of(F:Fm)(sc:Scope):Prop where
  scope:F.env.scope=sc
  cells:∀x,sc.names.lookup x=some .cell→∃c,F.env.cells.lookup x=some c∧F.s₀.heap.get? c= .none
theorem Of.kind{F:Fm}{sc:Scope}(o:Of F sc){x:Str}{k:NameKind}(h:sc.names.lookup x=some k):F.env.kindOf x=some k:=by show F.env.scope.names.lookup x=_;rw [o.scope];exact h
theorem Of.loc{F:Fm}{sc:Scope}(o:Of F sc){x:Str}(h:sc.names.lookup x=some .local):l5 F x:= .inl (o.kind h)
theorem Of.I7{F:Fm}{sc:Scope}(o:Of F sc){x:Str}(h:sc.names.lookup x=some .cell):l5 F x:= .inr ⟨o.kind h,o.cells x h⟩
noncomputable def binds(names:List Str)(ds:List PV):b9:=names.zip (ds.map .val)
theorem a6t(x:Str):∀(names:List (Str×NameKind)) (n:Nat) (acc:List (Str×Addr)),(acc.lookup x).isSome=true→((cellsFrom n names acc).lookup x).isSome=true:=by
  intro LL
  induction LL with
  | nil=>
    rintro _ _ h
    exact h
  | cons HD r ih=>
    obtain ⟨y,k⟩:=HD
    rintro n acc h
    unfold cellsFrom
    split
    · refine ih _ _ ?_
      refine b8 (List.lookup_cons ..) ?_;split
      · rfl
      · exact h
    · exact ih _ _ h
theorem a1k(x:Str):∀(names:List (Str×NameKind)) (n:Nat) (acc:List (Str×Addr)),names.lookup x=some .cell→((cellsFrom n names acc).lookup x).isSome=true:=by
  intro LL1
  induction LL1 with
  | nil=>
    nofun
  | cons HD r ih=>
    obtain ⟨y,k⟩:=HD
    rintro n acc h
    rw [List.lookup_cons] at h
    unfold cellsFrom
    split at h
    · rename_i hxy
      cases h
      refine b8 (if_pos (show (NameKind.cell==NameKind.cell)=true from rfl) ..) ?_
      exact a6t x r _ _ (by refine b8 (List.lookup_cons ..) (b8 (hxy ..) ?_);rfl)
    · split
      · exact ih _ _ h
      · exact ih _ _ h
theorem b5c{k:Str→Option NameKind}{x:Str} :∀(b:List (Str×Value)) (m:Str→Option Value),x∉b.map (·.1)→bindL k b m x=m x:=by
  intro LL
  induction LL with
  | nil=>
    rintro m h
    exact rfl
  | cons HD r ih=>
    obtain ⟨y,v⟩:=HD
    rintro m h
    rw [List.map_cons,List.mem_cons,not_or] at h
    unfold bindL
    refine b8 (ih _ h.2 ..) ?_
    split
    · exact if_neg h.1
    · rfl
theorem b6i{k:Str→Option NameKind}{x:Str} :∀(b:List (Str×Value)) (m:Str→Option Value),x∉b.map (·.1)→bindC k b m x=m x:=by
  intro LL
  induction LL with
  | nil=>
    rintro m h
    exact rfl
  | cons HD r ih=>
    obtain ⟨y,v⟩:=HD
    rintro m h
    rw [List.map_cons,List.mem_cons,not_or] at h
    unfold bindC
    refine b8 (ih _ h.2 ..) ?_
    split
    · rfl
    · exact if_neg h.1
theorem b9i{k:Str→Option NameKind}{x:Str}{v:Value}(hk:k x=some .local):∀(b:List (Str×Value)) (m:Str→Option Value),(b.map (·.1)).Nodup→(x,v)∈b→bindL k b m x=some v:=by
  intro LL1
  induction LL1 with
  | nil=>
    nofun
  | cons HD r ih=>
    obtain ⟨y,u⟩:=HD
    rintro m hn h
    rw [List.map_cons,List.nodup_cons] at hn
    unfold bindL
    rcases List.mem_cons.mp h with e|h
    · clear h;cases e
      refine b8 (b5c r _ hn.1 ..) (b8 (if_pos hk ..) ?_);exact if_pos rfl
    · exact ih _ hn.2 h
theorem b8m{k:Str→Option NameKind}{x:Str}{v:Value}(hk:k x≠some .local):∀(b:List (Str×Value)) (m:Str→Option Value),(b.map (·.1)).Nodup→(x,v)∈b→bindC k b m x=some v:=by
  intro LL1
  induction LL1 with
  | nil=>
    nofun
  | cons HD r ih=>
    obtain ⟨y,u⟩:=HD
    rintro m hn h
    rw [List.map_cons,List.nodup_cons] at hn
    unfold bindC
    rcases List.mem_cons.mp h with e|h
    · clear h;cases e
      refine b8 (b6i r _ hn.1 ..) (b8 (if_neg hk ..) ?_);exact if_pos rfl
    · exact ih _ hn.2 h
theorem a3r{x:Str}{n:Ent}{X:Addr→Prop}{h:Heap} :∀ {names:List Str} {ds:List PV} {vs:List Value},names.length=ds.length→i0 X h vs ds→(binds names ds).lookup x=some n→
    ∃v d,n= .val d∧Rep X h v d∧(x,v)∈names.zip vs:=by
  intro LL1
  induction LL1 with
  | nil=>
    rintro ds vs _ _ e
    exact l8 e
  | cons y ys ih=>
    intro LL2
    cases LL2 with
    | nil=>
      rintro vs hl _ _
      exact absurd hl (Nat.succ_ne_zero _)
    | cons d ds=>
      rintro vs hl r e
      obtain ⟨v,vs',rfl,r1,r2⟩:=r.cons_inv
      rw [show binds (y::ys) (d::ds)=(y,.val d)::binds ys ds from rfl,List.lookup_cons] at e
      split at e
      · rename_i hxy
        cases e
        exact ⟨v,d,rfl,r1,by refine b8 (beq_iff_eq.mp hxy ..) ?_;exact List.mem_cons_self⟩
      · obtain ⟨v',d',h1,h2,h3⟩:=ih (by exact Nat.succ.inj hl) r2 e
        exact ⟨v',d',h1,h2,List.mem_cons_of_mem _ h3⟩
theorem v9(h:Heap):h.get? h.objs.size= .none:=by
  exact isNone fun o e=>by exact absurd (Heap.lt_size e) (Nat.lt_irrefl _)
theorem a8v{h:Heap}{c:Addr}(hc:h.objs.size≤c):h.get? c= .none:=by
  exact isNone fun o e=>by exact absurd (Heap.lt_size e) (Nat.not_lt.mpr hc)
theorem enter{C:Cx}{k:Nat}{a:Addr}{o:Obj}{fd:FuncData}{body:List Stmt}{names:List Str}{A:Around}{X:Addr→Prop}{s:Shared}{vs:List Value}{ds:List PV}{Rz:Result→Shared→Prop}
    (fn:c7h C a o fd body names)
    (st:St C X s) (hh:A.handled=none) (hd:A.depth+(k+1)<recursionLimit) (hu:A.units+8*(k+1)+100<cLine) (r:i0 X s.heap vs ds) (hl:ds.length=names.length)
    (h:∀F:Fm,F.C=C→F.k=k→Of F fd.scope→F.env.code=fd.code→F.A=A.deeper F.env→F.s₀=s→F.X₀=X→F.env.frame=some F.env.locals→F.env.qual=fd.qualname++".<locals>."→∀s',JX F X (binds names ds) s'→
      wpAny (model C.prog C.w) F.A (execs body F.env) (fun f s'=>Rz (.ok (.ret (match f with| .ret v=>v|_=> .none))) s') (fun e s'=>wpAny (model C.prog C.w) F.A (leaving F.env e) (fun O s''=>Rz (.error e) s'') (fun e' s''=>Rz (.error e') s'') s') s'):
    codeAny (model C.prog C.w) A (.call (.ref a) ⟨vs,[]⟩) Rz s:=by
  obtain ⟨hG,ho,hdat,hcode,hbody,hclo,K6,M7,hco,hgen,hk,hkind,hnd,hbind⟩:=fn
  refine codeAny_call_function (o:=o) (fd:=fd) (body:=body) (by exact Nat.lt_of_le_of_lt (Nat.le_add_right _ _) (by assumption)) (st.base a o hG ho) hdat hco hgen hbody ?_ ?_
  · obtain ⟨c,oc,us,t,h1,h2,h3,h4,h5⟩:=hcode
    exact ⟨c,oc,us,t,h2,st.base c oc h1 h3,h4,h5⟩
  have hlv:vs.length=names.length:=r.1.trans hl
  refine hbind s vs hlv st.base _ _ _ _ ?_
  have hmem:∀x∈names.zip vs,x.1∈names:=fun x hx=>(List.of_mem_zip hx).1
  have hz:(names.zip vs).map (·.1)=names:=by rw [List.map_fst_zip (by exact Nat.le_of_eq (Eq.symm (by assumption)))]
  rw [hclo]
  refine wpAny_newFunctionEnv_cells hk (fun x hx=>(hkind x.1 (hmem x hx)).imp id fun e=>⟨e,a1k _ _ _ _ e⟩) fun env he s' x=>?_
  have hloc:env.locals=s.heap.objs.size:=by rw [he];rfl
  have hcel:env.cells=cellsFrom (s.heap.objs.size+1) fd.scope.names []:=by rw [he];rfl
  have hsc:env.scope=fd.scope:=by rw [he];rfl
  refine ⟨?_,?_⟩
  · obtain ⟨mc,⟨oS,es,ep,h1,h2,h3⟩,h4⟩:=C.hlim
    have hgS:¬C.G cStatics:=C.J7.2.2
    exact ⟨mc,⟨oS,es,ep,x.toInCall.keep _ _ (st.base _ _ hgS h1),h2,h3⟩,h4⟩
  have hcells:∀x c,env.cells.lookup x=some c→s.heap.get? c= .none:=fun y c hc=>a8v (Nat.le_of_lt (hloc▸x.above y c (mem_of_lookup hc)))
  let F:Fm:= {C,A:=A.deeper env,env,k,s₀:=s,X₀:=X,hA:=hh,hd:=(by show A.depth+1+k<_;lia),hu:=(by show A.units+3+_+_<_;lia),hk:=(by rw [hsc];exact hk),K6:=(by rw [he];exact K6),M7:=(by rw [he];exact M7),hX:=st.d8,hL:=(by rw [hloc];exact v9 _),h₀:=st.base}
  have hkeep:Le X s.heap s'.heap:=Le.of x.toInCall.keep
  obtain ⟨h',tk,es⟩:=x.toInCall.same
  have i:I F X (binds names ds) s':=by
    refine ⟨⟨st.base.trans (Le.of x.toInCall.keep),C.stable _ _ st.inv fun b o O e=>x.toInCall.keep b o e,fun b hb=>(by obtain ⟨o,ho⟩:=st.d8 b hb;exact ⟨o,x.toInCall.keep _ _ ho⟩),st.sub,st.new⟩,⟨_,x.toInCall.ns⟩,fun y c hc=>⟨_,x.cell y c hc⟩,x.apart,fun q=>?_,fun y c hc q=>?_,fun O=>0,?_,?_,?_⟩
    · obtain ⟨o,ho⟩:=st.d8 _ q
      rw [show F.env.locals=s.heap.objs.size from hloc,v9] at ho;cases ho
    · obtain ⟨o,ho⟩:=st.d8 _ q
      exact n9 (hcells y c hc) ho
    · intro y d e
      obtain ⟨v,d',h1,h2,h3⟩:=a3r hl.symm r e
      cases h1
      refine ⟨v,?_,h2.le hkeep⟩
      have hkd:F.env.kindOf y=some NameKind.local∨F.env.kindOf y=some NameKind.cell:=by show env.scope.names.lookup y=_∨env.scope.names.lookup y=_;rw [hsc];exact hkind y (hmem _ h3)
      rcases hkd with hkd|hkd
      · exact .loc hkd _ x.toInCall.ns (b9i hkd _ _ (by rw [hz];exact hnd) h3)
      · have hkd':fd.scope.names.lookup y=some .cell:=by rw [← hsc];exact hkd
        obtain ⟨c,hc⟩:=Option.isSome_iff_exists.mp (a1k y fd.scope.names (s.heap.objs.size+1) [] hkd')
        have hc':F.env.cells.lookup y=some c:=by show env.cells.lookup y=_;rw [hcel];exact hc
        have:=x.cell y c hc'
        rw [b8m (k:=env.kindOf) (by show F.env.kindOf y≠_;rw [hkd];decide) _ _ (by rw [hz];exact hnd) h3] at this
        exact .I7 (.inl hkd) c hc' this
    · intro y l e
      obtain ⟨v,d',h1,_⟩:=a3r hl.symm r e
      cases h1
    · intro y l y' l' e
      obtain ⟨v,d',h1,_⟩:=a3r hl.symm r e
      cases h1
  have j:JX F X (binds names ds) s':=⟨i,fun O=> .inl,fun O h=>h,by rw [es];exact Ext.tok s h' tk (Le.of (by have:=x.toInCall.keep;rw [es] at this;exact this))⟩
  exact codeAny_func (h F rfl rfl ⟨hsc,fun y hy=>by
    have:=a1k y fd.scope.names (s.heap.objs.size+1) [] hy
    obtain ⟨c,hc⟩:=Option.isSome_iff_exists.mp this
    exact ⟨c,hcel▸hc,hcells y c (hcel▸hc)⟩⟩ (by show env.code=_;rw [he];rfl) rfl rfl rfl (by show env.frame=some env.locals;rw [he];rfl) (by show env.qual=_;rw [he];rfl) s' j)
theorem d7.c5s{C:Cx}{k:Nat}{g:Str}{a:Addr}{o:Obj}{fd:FuncData}{body:List Stmt}{names:List Str}{T:List PV→(PV→Prop)→Prop}(hg:C.mg g=some (.ref a))(fn:c7h C a o fd body names)(hlen:∀ds P,T ds P→ds.length=names.length)
    (h:∀F:Fm,F.C=C→F.k=k→Of F fd.scope→F.env.code=fd.code→∀ds P,T ds P→A0 F (binds names ds) body (fun O=>P .none) P):d7 C (k+1) g T:=by
  refine ⟨a,o,fd,hg,fn.hG,fn.ho,fn.hdat,fun A X s vs ds P st hh hd hu r t Q E q=>wpAny_call (enter fn st hh hd hu r (hlen ds P t) fun F q1 q2 q3 q4 q5 q6 q7 q8 O s' j=>?_)⟩
  clear hg fn st r;subst q1 q6 q7
  exact h F rfl q2 q3 q4 ds P t F.X₀ s' j _ _ (fun ρ' s₂ X' p j' O O=>q _ _ _ p (j'.1.after j'.4) .none) fun v d s₂ p dn=>q _ _ _ p dn.1 dn.2
section
variable{F:Fm}{ρ:b9}{P:PV→Prop}
theorem Ev.call{x:Str}{T:List PV→(PV→Prop)→Prop}{e:Expr}{rest:List Expr}{np pos:Pos}(k:Nat)(c:d7 F.C k x T)(hk:k≤F.k)(h:E7 F ρ (e::rest) fun ds=>T ds P)(hx:F.env.kindOf x=some .globalImplicit)
    (he:starEach (e::rest) F.env=(false,eval e F.env)::starEach rest F.env:=by rfl) (hd:(x==("__debug__":Str))=false:=by decide):Ev F ρ (.Call (.Name x np) (e::rest) [] pos) P:=fun X s i Q E q=>by
  obtain ⟨a,o,fd,h1,h2,h3,h4,h5⟩:=c
  have hd':=F.hd
  have hu':=F.hu
  refine wpAny_Call_NameR (a6v i h1 hx hd ?_)
  refine callWith_def h4 (h X s pos i _ _ fun vs ds s₁ p i₁ x1a r₁=>⟨i₁.base a o h2 h3,?_⟩) he
  refine h5 F.A X s₁ vs ds P i₁.toSt F.hA (by exact Nat.lt_of_le_of_lt (Nat.add_le_add_left (by assumption) _) (by assumption)) (by lia) r₁ p _ _ fun v d s' p' af r'=>?_
  exact q v d s' p' (i₁.ext af) (x1a.trans af.ext) r'
end
end
section
variable [HH:u7]
section
variable{F:Fm}{ρ ρ':b9}{N:b9→Prop}{R:PV→Prop}
theorem I.c2m{X:Addr→Prop}{s:Shared}(i:I F X ρ s){a:Addr}{o:Obj}{vs:Array Value}{n:Nat}(ho:s.heap.get? a=some o)(hd:o.data= .seq vs n):a≠F.env.locals∧∀x,F.env.cells.lookup x≠some a:=by
  obtain ⟨m,hm⟩:=i.ns
  refine ⟨a0b hm ho hd,fun x e=>?_⟩
  obtain ⟨u,hu⟩:=i.cell x a e
  exact a1p hu ho hd rfl
theorem Rep.keep{X X':Addr→Prop}{s s':Shared}{v:Value}{d:PV}(j:JX F X ρ s)(j':JX F X' ρ' s')(a:∀b,X b→X' b)(k:m7 F X X' s s')(r:Rep X s.heap v d):Rep X' s'.heap v d:=by
  have off:∀b,¬X b→(∃o,s.heap.get? b=some o)→¬X' b:=fun b h1 ⟨o,ho⟩ h2=>(k.grow b h2).elim h1 fun z=>by rw [ho] at z;cases z
  induction r with
  |none=>exact .none
  |bool b=>exact .bool b
  |int i t=>exact .int i t
  |str s t=>exact .str s t
  |z8 v k=>exact .z8 v k
  |any v=>exact .any v
  | tup ht hx hl _ ih=>
    obtain ⟨n,ho⟩:=ht
    obtain ⟨h1,h2⟩:=j.1.c2m ho rfl
    exact .tup ⟨n,k.kept _ _ ho hx h1 h2⟩ (off _ hx ⟨_,ho⟩) hl ih
  | lst ht hx hl _ ih=>
    obtain ⟨n,ho⟩:=ht
    obtain ⟨h1,h2⟩:=j.1.c2m ho rfl
    exact .lst ⟨n,k.kept _ _ ho hx h1 h2⟩ (off _ hx ⟨_,ho⟩) hl ih
theorem i0.keep{X X':Addr→Prop}{s s':Shared}{v:List Value}{d:List PV}(j:JX F X ρ s)(j':JX F X' ρ' s')(a:∀b,X b→X' b)(k:m7 F X X' s s')(r:i0 X s.heap v d):i0 X' s'.heap v d:=
  ⟨r.1,fun i u e h1 h2=>(r.2 i u e h1 h2).keep j j' a k⟩
structure a8s(X:Addr→Prop)(h h':Heap)(a:Addr):Prop where
  kept:∀b o,b≠a→h.get? b=some o→h'.get? b=some o
  u9:¬X a
  H6:∀o vs n,h.get? a=some o→o.data≠ .seq vs n
theorem Rep.moves{X:Addr→Prop}{h h':Heap}{a:Addr}{v:Value}{d:PV}(m:a8s X h h' a)(r:Rep X h v d):Rep X h' v d:=by
  induction r with
  |none=>exact .none
  |bool b=>exact .bool b
  |int i t=>exact .int i t
  |str s t=>exact .str s t
  |z8 v k=>exact .z8 v k
  |any v=>exact .any v
  |tup ht hx hl _ ih=>obtain ⟨n,ho⟩:=ht;exact .tup ⟨n,m.kept _ _ (fun z=>m.H6 _ _ n (z▸ho) rfl) ho⟩ hx hl ih
  |lst ht hx hl _ ih=>obtain ⟨n,ho⟩:=ht;exact .lst ⟨n,m.kept _ _ (fun z=>m.H6 _ _ n (z▸ho) rfl) ho⟩ hx hl ih
theorem j9.moves{X:Addr→Prop}{s:Shared}{h':Heap}{a:Addr}{x:Str}{v:Value}(hl:a≠F.env.locals)(hc:∀x,F.env.cells.lookup x≠some a)(m:a8s X s.heap h' a)(r:j9 s.heap F.env x v):j9 h' F.env x v:=by
  rcases r with ⟨k,n,hn,e⟩|⟨k,c,hc',o,ho,hd⟩
  · exact .loc k n (hn.at' fun o z=>m.kept _ o (fun q=>hl q.symm) z) e
  · exact .I7 k c hc' ⟨o,m.kept _ o (fun q=>hc x (q▸hc')) ho,hd⟩
theorem JX.moves{X:Addr→Prop}{s:Shared}{h':Heap}{tk:Nat}{a:Addr}(j:JX F X ρ s)(hl:a≠F.env.locals)(hc:∀x,F.env.cells.lookup x≠some a)(hn:F.s₀.heap.get? a= .none)(m:a8s X s.heap h' a):JX F X ρ {s with heap:=h',toks:=tk} :=by
  have i:=j.1
  have hg:F.C.g.get? a= .none:=by
    exact isNone fun o q=>by have:=F.h₀ a o (fun g=>m.u9 (i.sub _ g)) q;exact n9 hn this
  refine ⟨⟨⟨fun b o hb e=>m.kept b o (fun q=>g7 q hg e) (i.base b o hb e),F.C.stable _ _ i.inv fun b o g e=>m.kept b o (fun q=>m.u9 (q▸i.sub b g)) e,
    fun b hb=>let ⟨o,ho⟩:=i.d8 b hb;⟨o,m.kept b o (fun q=>m.u9 (q▸hb)) ho⟩,i.sub,i.new⟩,?_,?_,i.apart,i.u9,i.s8,?_⟩,j.2,j.3,j.4.gens,j.4.os,j.4.drawn,?_⟩
  · obtain ⟨n,h⟩:=i.ns;exact ⟨n,h.at' fun o z=>m.kept _ o (fun q=>hl q.symm) z⟩
  · intro x c e
    obtain ⟨u,o,ho,hd⟩:=i.cell x c e
    exact ⟨u,o,m.kept c o (fun q=>hc x (q▸e)) ho,hd⟩
  · obtain ⟨ad,w⟩:=i.vars
    refine ⟨ad,fun x d e=>?_,fun x xs e=>?_,w.apart⟩
    · obtain ⟨u,h1,h2⟩:=w.val x d e
      exact ⟨u,h1.moves hl hc m,h2.moves m⟩
    · obtain ⟨h1,h2,h3,h3',h4⟩:=w.own x xs e
      exact ⟨h1.moves hl hc m,h2,h3,h3',h4.step (fun o ho=>m.kept _ o (fun q=>m.u9 (q▸h2)) ho) fun v d r=>r.moves m⟩
  · exact fun b o hb e=>m.kept b o (fun q=>g7 q hn e) (j.4.le b o hb e)
theorem m7.moves{X X':Addr→Prop}{s s':Shared}{h':Heap}{tk:Nat}{a:Addr}(k:m7 F X X' s s')(hn:s.heap.get? a= .none)(m:a8s X' s'.heap h' a):m7 F X X' s {s' with heap:=h',toks:=tk} :=
  ⟨k.grow,fun b o e h1 h2 h3=>m.kept b o (fun q=>g7 q hn e) (k.kept b o e h1 h2 h3)⟩
noncomputable def Wh(F:Fm)(test:Expr)(body:List Stmt)(N:b9→Prop)(R:PV→Prop):Nat→b9→Prop
  |0,_=>False
  |n+1,ρ=>Tr F ρ test fun b=>Br b (A0 F ρ body (Wh F test body N R n) R) (N ρ)
theorem Ex.c9o{test:Expr}{body:List Stmt}{pos:Pos}(n:Nat)(h:Wh F test body N R n ρ):Ex F ρ (.While test body [] pos) N R:=fun X s j Q E nn r=>by
  refine wpAny_While (codeAny_whileLoop (fun n s'=>∃X' ρ',Wh F test body N R n ρ'∧JX F X' ρ' s'∧(∀b,X b→X' b)∧m7 F X X' s s') (fun n s' h'=>?_) n ⟨X,ρ,h,j,fun O h=>h,m7.refl _ _ _⟩)
  obtain ⟨X',ρ',hw,j',a',k'⟩:=h'
  cases n with
  |zero=>exact hw.elim
  | succ n=>
    have hw:Tr F ρ' test fun b=>Br b (A0 F ρ' body (Wh F test body N R n) R) (N ρ'):=hw
    refine hw X' s' j'.1 _ _ fun b s₁ p i₁ x1a=>?_
    have j1a:=j'.step i₁ x1a
    have k₁:=k'.trans (m7.x7 j'.1 x1a) (j.alive j' a' k')
    cases b with
    |false=>exact wpAny_execs_nil (nn _ _ _ (p.2 rfl) j1a a' k₁)
    | true=>
      refine p.1 rfl X' s₁ j1a _ _ (fun ρ2 s₂ X2a p2a j2a a2a k₂=>?_) fun v d s₂ p2a dn=>r v d s₂ p2a dn
      exact ⟨n,Nat.lt_succ_self n,X2a,ρ2,p2a,j2a,fun b h=>a2a b (a' b h),k₁.trans k₂ (j.alive j1a a' k₁)⟩
noncomputable def Fo(F:Fm)(x:Str)(body:List Stmt)(N:b9→Prop)(R:PV→Prop):List PV→b9→Prop
  |[],ρ=>N ρ
  |d::ds,ρ=>A0 F ((x,.val d)::ρ) body (Fo F x body N R ds) R
structure x9(I ax:Addr)(vs:List Value)(i:Nat)(h:Heap):Prop where
  it:h.IsListIter I ax i∧h.IsList ax vs.toArray∨h.IsTupleIter I ax i∧h.IsTuple ax vs.toArray
theorem x9.at{I ax:Addr}{vs:List Value}{i:Nat}{h h':Heap}(x:x9 I ax vs i h)(e:∀o,h.get? I=some o→h'.get? I=some o)(e':∀o,h.get? ax=some o→h'.get? ax=some o):x9 I ax vs i h':=
  ⟨x.it.imp (fun z=>⟨z.1.at e,z.2.at e'⟩) fun z=>⟨z.1.at e,z.2.at e'⟩⟩
theorem x9.self{I ax:Addr}{vs:List Value}{i:Nat}{h:Heap}(x:x9 I ax vs i h):∃o us,h.get? I=some o∧o.data= .fields us:=by
  rcases x.it with ⟨⟨o,h1,_,h2⟩,_⟩|⟨⟨o,h1,_,h2⟩,_⟩ <;> exact ⟨o,_,h1,h2⟩
theorem x9.src{I ax:Addr}{vs:List Value}{i:Nat}{h:Heap}(x:x9 I ax vs i h):∃o n,h.get? ax=some o∧o.data= .seq vs.toArray n:=by
  rcases x.it with ⟨_,o,h1,_,n,h2⟩|⟨_,o,h1,_,n,h2⟩ <;> exact ⟨o,n,h1,h2⟩
theorem x9.step{prog:Program}{w:World}{A:Around}{I ax:Addr}{vs:List Value}{i:Nat}{s:Shared}{v:Value}{Q:Option Value→Shared→Prop}{E:Value→Shared→Prop}(x:x9 I ax vs i s.heap)(hne:ax≠I)(hv:vs[i]?=some v)
    (h:∀h',x9 I ax vs (i+1) h'→(∀b o,b≠I→s.heap.get? b=some o→h'.get? b=some o)→Q (some v) {s with heap:=h'}):wpAny (model prog w) A (pyNext (.ref I)) Q E s:=by
  rcases x.it with ⟨a,b⟩|⟨a,b⟩
  · exact wpAny_pyNext_list_item a b (by simpa using hv) fun h' hit hs=>h h' ⟨.inl ⟨hit,b.extBut hs.extBut hne⟩⟩ fun c o hc e=>hs.extBut c o hc e
  · exact wpAny_pyNext_tuple_item a b (by simpa using hv) fun h' hit hs=>h h' ⟨.inr ⟨hit,b.extBut hs.extBut hne⟩⟩ fun c o hc e=>hs.extBut c o hc e
theorem x9.last{prog:Program}{w:World}{A:Around}{I ax:Addr}{vs:List Value}{i:Nat}{s:Shared}{Q:Option Value→Shared→Prop}{E:Value→Shared→Prop}(hh:A.handled=none)(x:x9 I ax vs i s.heap)(hv:vs[i]?=none)
    (h:∀h',(∀b o,b≠I→s.heap.get? b=some o→h'.get? b=some o)→Q none {s with heap:=h'}):wpAny (model prog w) A (pyNext (.ref I)) Q E s:=by
  rcases x.it with ⟨a,b⟩|⟨a,b⟩
  · exact wpAny_pyNext_list_end hh a b (by simpa using hv) fun h' hs=>h h' hs
  · exact wpAny_pyNext_tuple_end hh a b (by simpa using hv) fun h' hs=>h h' hs
end
end
section
variable [HH:u7]
section
variable{F:Fm}{ρ ρ':b9}{N:b9→Prop}{R:PV→Prop}
theorem a5e{X:Addr→Prop}{s:Shared}{v:Value}{d:PV}{l:List PV}{Q:Value→Shared→Prop}{E:Value→Shared→Prop}(r:Rep X s.heap v d)(hd:d= .lst l∨d= .tup l)
    (h:∀I ax vs h',ax≠I→s.heap.get? I= .none→(∃o n,s.heap.get? ax=some o∧o.data= .seq vs.toArray n)→¬X ax→i0 X s.heap vs l→(∀b o,s.heap.get? b=some o→h'.get? b=some o)→x9 I ax vs 0 h'→Q (.ref I) {s with heap:=h'}):
    wpAny (model F.C.prog F.C.w) F.A (pyIter v) Q E s:=by
  rcases hd with rfl|rfl
  · obtain ⟨a,vs,rfl,hp,hx,rl⟩:=r.lst_inv
    have hlt:a<s.heap.objs.size:=by obtain ⟨_,e⟩:=hp;exact Heap.lt_size e
    exact wpAny_pyIter_list hp.isList (h _ a vs _ (Nat.ne_of_lt hlt) (v9 _) (by obtain ⟨n,e⟩:=hp;exact ⟨_,n,e,rfl⟩) hx rl (c8 _) ⟨.inl ⟨⟨_,Heap.get?_push_size _ rfl,rfl,rfl⟩,hp.isList.push _⟩⟩)
  · obtain ⟨a,vs,rfl,hp,hx,rl⟩:=r.n8
    have hlt:a<s.heap.objs.size:=by obtain ⟨_,e⟩:=hp;exact Heap.lt_size e
    have ht:s.heap.IsTuple a vs.toArray:=by obtain ⟨n,e⟩:=hp;exact ⟨_,e,rfl,n,rfl⟩
    exact wpAny_pyIter_tuple ht (h _ a vs _ (Nat.ne_of_lt hlt) (v9 _) (by obtain ⟨n,e⟩:=hp;exact ⟨_,n,e,rfl⟩) hx rl (c8 _) ⟨.inr ⟨⟨_,Heap.get?_push_size _ rfl,rfl,rfl⟩,ht.push _⟩⟩)
inductive d0x(F:Fm)(X:Addr→Prop)(s:Shared)(I ax:Addr)(vs:List Value)(l:List PV)(Pend:List PV→b9→Prop)(n:Nat)(s':Shared):Prop
  |mk (pre r:List PV) (X':Addr→Prop) (ρ':b9) (e:l=pre++r) (en:n=r.length) (j:JX F X' ρ' s') (a:∀b,X b→X' b) (k:m7 F X X' s s') (c:¬X' I) (rl:i0 X' s'.heap vs l) (hX:¬X' ax) (st:x9 I ax vs pre.length s'.heap) (p:Pend r ρ')
theorem c0h{Pend:List PV→b9→Prop}{x:Str}{iter:Expr}{body:List Stmt}{xp pos:Pos}(h:Ev F ρ iter fun d=>∃l,(d= .lst l∨d= .tup l)∧Pend l ρ)(hx:l5 F x)(hs:∀x,foldedSetIterable iter F.env x=pure x)
    {X:Addr→Prop} {s:Shared} (j:JX F X ρ s) {Q:Flow→Shared→Prop} {E:Value→Shared→Prop} (fin:∀ρ' s' X',Pend [] ρ'→JX F X' ρ' s'→(∀b,X b→X' b)→m7 F X X' s s'→Q .next s')
    (turn:∀a r ρ' X' s',Pend (a::r) ρ'→JX F X' ((x,.val a)::ρ') s'→∀Q':Flow→Shared→Prop,(∀ρ4 s₄ X4,Pend r ρ4→JX F X4 ρ4 s₄→(∀b,X' b→X4 b)→m7 F X' X4 s' s₄→Q' .next s₄)→(∀v s₄,Q (.ret v) s₄→Q' (.ret v) s₄)→
      wpAny (model F.C.prog F.C.w) F.A (execs body F.env) Q' (notedBy (model F.C.prog F.C.w) F.A F.env (cameBackBy (model F.C.prog F.C.w) F.A F.env E)) s'):
    wpAny (model F.C.prog F.C.w) F.A (exec (.For (.Name x xp) iter body [] pos) F.env) Q E s:=by
  refine wpAny_For (h X s j.i _ _ fun v d s₁ ⟨l,hd,p⟩ i₁ x1a r₁=>a5e r₁ hd fun I ax vs h₁ hne hI hax hX rl kp st=>?_) hs
  have hI0a:s.heap.get? I= .none:=isNone fun o q=>by
    by_cases g:F.C.G I
    · exact (i₁.d8 I (i₁.sub I g)).elim fun o' ho'=>n9 hI ho'
    · exact n9 hI (x1a.le I o g q)
  have hI1:=(j.fresh hI0a).2
  have e₁:Ext F.C.G s₁ {s₁ with heap:=h₁} :=Ext.heap _ _ (Le.of kp)
  have j1a:=(j.step i₁ x1a).step (i₁.grow (s':= {s₁ with heap:=h₁}) kp) e₁
  have k₁:=(m7.x7 j.i x1a).trans (m7.x7 i₁ e₁) (j.alive (j.step i₁ x1a) (fun O h=>h) (m7.x7 j.i x1a))
  have hl:I≠F.env.locals:=fun q=>j.i.ns.elim fun m hm=>(Heap.Ns.ex hm).elim fun o ho=>n9 hI0a (q▸ho)
  have hc:∀y,F.env.cells.lookup y≠some I:=fun y q=>(j.i.cell y I q).elim fun O z=>z.elim fun O e=>n9 hI0a e.1
  have hXI:¬X I:=fun q=>(j.i.d8 I q).elim fun O ho=>n9 hI0a ho
  refine codeAny_forLoop_any (d0x F X s I ax vs l Pend) (fun n s' h'=>?_) l.length ⟨[],l,X,ρ,rfl,rfl,j1a,fun O h=>h,k₁,hXI,rl.le (Le.of kp),hX,st,p⟩
  clear hXI k₁ j1a e₁ rl st p
  clear hd;obtain ⟨pre,r,X',ρ',e,en,j',a',k',cI,rl,hX',st,p⟩:=h'
  have mv:∀h'',(∀b o,b≠I→s'.heap.get? b=some o→h''.get? b=some o)→a8s X' s'.heap h'' I:=fun h'' hk=>⟨hk,cI,(fun o vs n ho hd=>by
    obtain ⟨o',us,ho',hd'⟩:=st.self
    rw [ho] at ho';cases ho';rw [hd] at hd';cases hd')⟩
  cases r with
  | nil=>
    refine st.last F.hA (List.getElem?_eq_none (by refine b8 (rl.1 ..) (b8 (e ..) (b8 (List.append_nil ..) ?_));exact Nat.le_refl _)) fun h₂ hk2a=>?_
    have m₂:=mv h₂ hk2a
    exact wpAny_execs_nil (fin ρ' _ X' p (j'.moves (tk:=s'.toks) hl hc hI1 m₂) a' (k'.moves (tk:=s'.toks) hI0a m₂))
  |cons a r=>
  subst e en
  have hv:vs[pre.length]?=some (vs[pre.length]'(by refine b8 (rl.1 ..) (b8 (List.length_append ..) ?_);exact Nat.lt_add_of_pos_right (Nat.succ_pos _))):=List.getElem?_eq_getElem _
  refine st.step hne hv fun h₂ st2a hk2a=>wpAny_pure ?_
  have m₂:=mv h₂ hk2a
  have j2a:=j'.moves (tk:=s'.toks) hl hc hI1 m₂
  have k₂:=k'.moves (tk:=s'.toks) hI0a m₂
  have rv:=(rl.2 _ _ a hv (by refine b8 (List.getElem?_append_right (Nat.le_refl _) ..) (b8 (Nat.sub_self ..) ?_);rfl)).moves m₂
  refine wpAny_assign_Name (k9 j2a.i hx fun h₃ tk L z=>?_)
  have j3:JX F X' ((x,.val a)::ρ') {s' with heap:=h₃,toks:=tk} :=j2a.store (n:= .val a) rv z
  have k₃:m7 F X X' s {s' with heap:=h₃,toks:=tk} :=k₂.trans (z.keep (X:=X') (tk:=tk)) (j.alive j2a a' k₂)
  have rl3:i0 X' h₃ vs (pre++a::r):=⟨rl.1,fun k u e h1 h2=>Rep.turn ((rl.2 k u e h1 h2).moves m₂) z.same.2 z.H6 z.ex⟩
  have IL:I≠L:=fun q=>z.which.elim (fun e=>hl (q.trans e)) (fun z1=>by obtain ⟨y,e⟩:=z1;exact hc y (q▸e))
  have axL:ax≠L:=fun q=>by
    obtain ⟨o,n,ho,hd⟩:=st2a.src
    exact z.H6 o _ n (q▸ho) hd
  have st3a:x9 I ax vs (pre.length+1) h₃:=st2a.at (fun o e=>(z.same.2 I IL).trans e) fun o e=>(z.same.2 ax axL).trans e
  obtain ⟨oa,na,hoa,hda⟩:=st3a.src
  obtain ⟨oI,us,hoI,_⟩:=st3a.self
  obtain ⟨ha1,ha2⟩:=j3.i.c2m (s:= {s' with heap:=h₃,toks:=tk}) hoa hda
  exact turn a r ρ' X' _ p j3 _ (fun ρ4 s₄ X4 p4a j4 a4a k4a=>⟨r.length,Nat.lt_succ_self _,pre++[a],r,X4,ρ4,List.append_cons pre a r,rfl,j4,fun b h=>a4a b (a' b h),k₃.trans k4a (j.alive j3 a' k₃),fun q=>(k4a.grow I q).elim cI fun z'=>n9 z' hoI,
    i0.keep j3 j4 a4a k4a rl3,fun q=>(k4a.grow ax q).elim hX' fun z'=>n9 z' hoa,by refine b8 (List.length_append ..) ?_;exact st3a.at (fun o e=>k4a.kept I o e cI hl hc) fun o e=>k4a.kept ax o e hX' ha1 ha2,p4a⟩) fun v s₄ q=>q
theorem Ex.for{x:Str}{iter:Expr}{body:List Stmt}{xp pos:Pos}(h:Ev F ρ iter fun d=>∃l,(d= .lst l∨d= .tup l)∧Fo F x body N R l ρ)(hx:l5 F x)
    (hs:∀x,foldedSetIterable iter F.env x=pure x:=by intro _;rfl):Ex F ρ (.For (.Name x xp) iter body [] pos) N R:=fun X s j Q E nn r=>
  c0h (Pend:=Fo F x body N R) h hx hs j nn fun a rest ρ' X' s' p j' Q' next ret=>p X' s' j' Q' _ next fun v d s₄ p4a dn=>ret v s₄ (r v d s₄ p4a dn)
end
end
section
variable [HH:u7]
noncomputable def C4(env:Env):List (Str×NameKind)→List (Str×Addr)→List (Str×Addr)
  |[],cs=>cs
  |(y,k)::r,cs=>if k== .free then C4 env r ((y,(env.cells.lookup y).getD 0)::cs) else C4 env r cs
theorem b2u(env:Env)(f:Str×NameKind→List (Str×Addr)→Sem (ForInStep (List (Str×Addr))))
    (hf:∀y k cs,f (y,k) cs=if k== .free then (do let a ← cellOf env y;pure (.yield ((y,a)::cs))) else pure (.yield cs)):∀(names:List (Str×NameKind)) (cs:List (Str×Addr)),(∀y,(y,NameKind.free)∈names→∃c,env.cells.lookup y=some c)→forIn names cs f=pure (C4 env names cs)
  :=by
  intro names
  induction names with
  |nil=>intro cs h;rw [List.forIn_nil];rfl
  | cons p r ih=>
    intro cs h
    obtain ⟨y,k⟩:=p
    have ih:=fun cs=>ih cs fun y hy=>h y (List.mem_cons_of_mem _ hy)
    rw [List.forIn_cons,hf]
    unfold C4
    by_cases hk:(k==NameKind.free)=true
    · rw [if_pos hk,if_pos hk]
      obtain rfl:k= .free:=eq_of_beq hk
      obtain ⟨c,hc⟩:=h y List.mem_cons_self
      have:cellOf env y=pure c:=by unfold cellOf;rw [hc]
      rw [this,hc,pure_bind,pure_bind]
      exact ih _
    · rw [if_neg hk,if_neg hk,pure_bind]
      exact ih _
theorem a0h{scope:Scope}{env:Env}(h:∀y,(y,NameKind.free)∈scope.names→∃c,env.cells.lookup y=some c):closureFor scope env=pure (C4 env scope.names []):=by
  unfold closureFor
  dsimp only
  exact b8 (b2u env _ (fun y k cs=>by rfl) _ _ h ..) (b8 (pure_bind ..) rfl)
theorem a3c{env:Env}{y:Str}{c:Addr} :∀(names:List (Str×NameKind)) (cs:List (Str×Addr)),(y,c)∈C4 env names cs→(y,c)∈cs∨((y,NameKind.free)∈names∧c=(env.cells.lookup y).getD 0):=by
  intro LL
  induction LL with
  | nil=>
    rintro cs h
    exact .inl h
  | cons HD r ih=>
    obtain ⟨z,k⟩:=HD
    rintro cs h
    unfold C4 at h
    split at h
    · rename_i hk
      rcases ih _ h with h|⟨h,e⟩
      · rcases List.mem_cons.mp h with e|h
        · clear h;cases e
          obtain rfl:k= .free:=eq_of_beq hk
          exact .inr ⟨List.mem_cons_self,rfl⟩
        · exact .inl h
      · exact .inr ⟨List.mem_cons_of_mem _ h,e⟩
    · rcases ih _ h with h|⟨h,e⟩
      · exact .inl h
      · exact .inr ⟨List.mem_cons_of_mem _ h,e⟩
theorem b8i{env:Env}{y:Str} :∀(names:List (Str×NameKind)) (cs:List (Str×Addr)),(cs.lookup y).isSome=true→((C4 env names cs).lookup y).isSome=true:=by
  intro LL
  induction LL with
  | nil=>
    rintro cs h
    exact h
  | cons HD r ih=>
    obtain ⟨z,k⟩:=HD
    rintro cs h
    unfold C4
    split
    · refine ih _ ?_
      refine b8 (List.lookup_cons ..) ?_;split
      · rfl
      · exact h
    · exact ih _ h
theorem b0x{env:Env}{y:Str} :∀(names:List (Str×NameKind)) (cs:List (Str×Addr)),(y,NameKind.free)∈names→((C4 env names cs).lookup y).isSome=true:=by
  intro LL1
  induction LL1 with
  | nil=>
    nofun
  | cons HD r ih=>
    obtain ⟨z,k⟩:=HD
    rintro cs h
    unfold C4
    rcases List.mem_cons.mp h with e|h
    · clear h;cases e
      refine b8 (if_pos (show (NameKind.free==NameKind.free)=true from rfl) ..) ?_
      exact b8i r _ (by refine b8 (lookup_cons_self ..) ?_;rfl)
    · split
      · exact ih _ h
      · exact ih _ h
theorem a3i{env:Env}(ha:env.cells.Pairwise fun x y=>x.2≠y.2):∀(names:List (Str×NameKind)) (cs:List (Str×Addr)),(∀y,(y,NameKind.free)∈names→∃c,env.cells.lookup y=some c)→(names.map (·.1)).Nodup→
    (cs.Pairwise fun x y=>x.2≠y.2)→(∀y c,(y,c)∈cs→env.cells.lookup y=some c∧y∉names.map (·.1))→(C4 env names cs).Pairwise fun x y=>x.2≠y.2:=by
  intro LL
  induction LL with
  | nil=>
    rintro cs _ _ h _
    exact h
  | cons HD r ih=>
    obtain ⟨z,k⟩:=HD
    rintro cs hf hn h hc
    rw [List.map_cons,List.nodup_cons] at hn
    unfold C4
    have hf':∀y,(y,NameKind.free)∈r→∃c,env.cells.lookup y=some c:=fun y hy=>hf y (List.mem_cons_of_mem _ hy)
    have hc':∀y c,(y,c)∈cs→env.cells.lookup y=some c∧y∉r.map (·.1):=fun y c hy=>⟨(hc y c hy).1,fun q=>(hc y c hy).2 (List.mem_cons_of_mem _ q)⟩
    split
    · rename_i hk
      obtain rfl:k= .free:=eq_of_beq hk
      obtain ⟨c₀,hc0a⟩:=hf z List.mem_cons_self
      refine ih _ hf' hn.2 (List.pairwise_cons.mpr ⟨fun y hy e=>?_,h⟩) fun y c hy=>?_
      · rw [hc0a] at e
        have e:c₀=y.2:=e
        have h1:=(hc y.1 y.2 hy).1
        have:=name_of_addr ha (mem_of_lookup hc0a) (e▸mem_of_lookup h1)
        exact (hc y.1 y.2 hy).2 (this▸List.mem_cons_self)
      · rcases List.mem_cons.mp hy with e|hy
        · clear hy;cases e
          exact ⟨by refine b8 (hc0a ..) ?_;rfl,hn.1⟩
        · exact hc' y c hy
    · exact ih _ hf' hn.2 h hc'
set_option genCtorIdx false in
structure m5(F:Fm)(sc:Scope) where
  L:Addr
  own:List (Str×Addr)
  s:Shared
  hL:F.C.g.get? L= .none
  hk:sc.kind= .function
  ho:∀x,sc.names.lookup x=some .cell→∃c,own.lookup x=some c∧F.C.g.get? c= .none
noncomputable def m5.fm{F:Fm}{sc:Scope}(d:m5 F sc):Fm:=
  {C:=F.C,A:=F.A,env:=compEnvC sc (d.own++C4 F.env sc.names []) d.L F.env,k:=F.k,s₀:= {d.s with heap:=F.C.g},X₀:=fun O=>False,hA:=F.hA,hd:=F.hd,hu:=F.hu,hk:=d.hk,K6:=F.K6,M7:=F.M7,hX:=fun O h=>h.elim,hL:=d.hL,h₀:=Le.refl _ _}
theorem a0p{env:Env}{k:NameKind}(hk:k≠ .free):∀ {names:List (Str×NameKind)} {x:Str},names.lookup x=some k→
    (names.map fun (n,k)=>if (k==NameKind.free&&env.scope.kind== .function&&env.kindOf n==some .cell) then (n,NameKind.cell) else (n,k)).lookup x=some k
  | (n,k')::r,x,h=>by
    have ih:= @a0p env k hk r x
    show List.lookup x ((if (k'==NameKind.free&&env.scope.kind== .function&&env.kindOf n==some .cell)=true then (n,NameKind.cell) else (n,k'))::_)=_
    cases hx:x==n with
    | true=>
      simp only [List.lookup_cons,hx] at h
      clear ih;cases h
      refine b8 (if_neg (by cases k <;> first|exact absurd rfl hk|simp) ..) ?_
      simp only [List.lookup_cons,hx]
    | false=>
      simp only [List.lookup_cons,hx] at h
      split <;> simp only [List.lookup_cons,hx] <;> exact ih h
theorem a3v{env:Env} :∀ {names:List (Str×NameKind)} {x:Str},names.lookup x=some .free→
    (names.map fun (n,k)=>if (k==NameKind.free&&env.scope.kind== .function&&env.kindOf n==some .cell) then (n,NameKind.cell) else (n,k)).lookup x=some .cell∨
    (names.map fun (n,k)=>if (k==NameKind.free&&env.scope.kind== .function&&env.kindOf n==some .cell) then (n,NameKind.cell) else (n,k)).lookup x=some .free
  | (n,k')::r,x,h=>by
    have ih:= @a3v env r x
    show List.lookup x ((if (k'==NameKind.free&&env.scope.kind== .function&&env.kindOf n==some .cell)=true then (n,NameKind.cell) else (n,k'))::_)=_∨List.lookup x ((if (k'==NameKind.free&&env.scope.kind== .function&&env.kindOf n==some .cell)=true then (n,NameKind.cell) else (n,k'))::_)=_
    cases hx:x==n with
    | true=>
      simp only [List.lookup_cons,hx] at h
      cases h
      split
      · left;simp only [List.lookup_cons,hx]
      · right;simp only [List.lookup_cons,hx]
    | false=>
      simp only [List.lookup_cons,hx] at h
      split <;> simp only [List.lookup_cons,hx] <;> exact ih h
section
variable{F:Fm}{sc:Scope}(d:m5 F sc)
theorem m5.kind{x:Str}{k:NameKind}(hk:k≠ .free)(h:sc.names.lookup x=some k):d.fm.env.kindOf x=some k:=a0p hk h
theorem m5.free{x:Str}(h:sc.names.lookup x=some .free):d.fm.env.kindOf x=some .cell∨d.fm.env.kindOf x=some .free:=a3v h
structure c6(F:Fm)(sc:Scope)(ρ ρc:b9):Prop where
  nodup:(sc.names.map (·.1)).Nodup
  cells:∀y,(y,NameKind.free)∈sc.names→∃c,F.env.cells.lookup y=some c
  vars:∀y n,ρc.lookup y=some n→sc.names.lookup y=some .free∧(y==("__classdict__":Str))=false∧ρ.lookup y=some n∧F.env.kindOf y≠some .local
theorem a4w{x:Str}{k:NameKind} :∀ {names:List (Str×NameKind)},names.lookup x=some k→(x,k)∈names:=mem_of_lookup
theorem a7n{names:List (Str×NameKind)}(h:(names.map (·.1)).Nodup){y:Str}{k:NameKind}(hm:(y,k)∈names):names.lookup y=some k:=by
  induction names with
  |nil=>cases hm
  | cons p r ih=>
    obtain ⟨a,b⟩:=p
    rw [List.map_cons,List.nodup_cons] at h
    rcases List.mem_cons.mp hm with e|hm
    · clear h hm;cases e;exact lookup_cons_self _ _ _
    · exact (c5 _ _ fun q:y=a=>h.1 (List.mem_map.mpr ⟨_,hm,q⟩)).trans (ih h.2 hm)
theorem c6.free{ρ ρc:b9}(c:c6 F sc ρ ρc){y:Str}(h:(y,NameKind.free)∈sc.names):sc.names.lookup y=some .free:=a7n c.nodup h
theorem m5.look{y:Str}(h:(∃c,d.own.lookup y=some c)∨sc.names.lookup y=some .free):∃c,d.fm.env.cells.lookup y=some c:=by
  show∃c,(d.own++C4 F.env sc.names []).lookup y=some c
  refine b8 (List.lookup_append ..) ?_
  cases e:d.own.lookup y with
  |some c=>exact ⟨c,rfl⟩
  | none=>
    obtain ⟨c,hc⟩:=Option.isSome_iff_exists.mp (b0x (env:=F.env) sc.names [] (a4w (h.resolve_left fun z=>z.elim fun c z=>n9 e z)))
    exact ⟨c,by refine b8 (hc ..) ?_;rfl⟩
theorem m5.cap{y:Str}(h:sc.names.lookup y=some .free):d.fm.env.kindOf y≠some .local∧∃c,d.fm.env.cells.lookup y=some c:=⟨by rcases d.free h with e|e <;> refine b8 (e ..) ?_ <;> decide,d.look (.inr h)⟩
theorem m5.d0t{x:Str}(h:sc.names.lookup x=some .cell):d.fm.env.kindOf x≠some .local∧∃c,d.fm.env.cells.lookup x=some c:=⟨by refine b8 (d.kind (by decide) h ..) ?_;decide,d.look (.inl ((d.ho x h).imp fun O z=>z.1))⟩
theorem m5.sto{x:Str}(h:sc.names.lookup x=some .local∨sc.names.lookup x=some .cell):l5 d.fm x:=h.imp (fun h=>d.kind (by decide) h) fun h=>⟨d.kind (by decide) h,(d.ho x h).imp fun c z=>⟨by
  show (d.own++C4 F.env sc.names []).lookup x=some c
  refine b8 (List.lookup_append ..) (b8 (z.1 ..) ?_);rfl,z.2⟩⟩
end
end
section
variable [HH:u7]
structure a6f(F:Fm)(X:Addr→Prop)(s₁:Shared)(I:Addr)(l:List PV)(St:Nat→Heap→Prop)(T:Addr→Prop):Prop where
  frame:∀i h h',St i h→(∀b o,T b→h.get? b=some o→h'.get? b=some o)→St i h'
  there:∀i h b,St i h→T b→∃o,h.get? b=some o
  item:∀i d (s:Shared) (Q:Option Value→Shared→Prop) (E:Value→Shared→Prop),l[i]?=some d→St i s.heap→
    (∀v h' tk,St (i+1) h'→(∀b o,(T b→∃o',s₁.heap.get? b=some o')→s.heap.get? b=some o→h'.get? b=some o)→Rep X s₁.heap v d→Q (some v) {s with heap:=h',toks:=tk})→wpAny (model F.C.prog F.C.w) F.A (pyNext (.ref I)) Q E s
  done:∀(s:Shared) (Q:Option Value→Shared→Prop) (E:Value→Shared→Prop),St l.length s.heap→
    (∀h' tk,(∀b o,(T b→∃o',s₁.heap.get? b=some o')→s.heap.get? b=some o→h'.get? b=some o)→Q none {s with heap:=h',toks:=tk})→wpAny (model F.C.prog F.C.w) F.A (pyNext (.ref I)) Q E s
  self:∀i (s:Shared) (Q:Value→Shared→Prop) (E:Value→Shared→Prop),St i s.heap→Q (.ref I) s→wpAny (model F.C.prog F.C.w) F.A (pyIter (.ref I)) Q E s
noncomputable def A9(F:Fm)(ρ:b9)(P:Bool→Prop):List Expr→Prop
  |[]=>P true
  |[c]=>Tr F ρ c P
  |_=>False
noncomputable def Co(F:Fm)(ρc:b9)(x:Str)(ifs:List Expr)(elt:Expr)(PL:List PV→Prop):List PV→List PV→Prop
  |[],out=>PL out
  |d::ds,out=>A9 F ((x,.val d)::ρc) (fun b=>Br b (Ev F ((x,.val d)::ρc) elt fun r=>Co F ρc x ifs elt PL ds (out++[r])) (Co F ρc x ifs elt PL ds out)) ifs
section
variable{F:Fm}{ρ ρc:b9}{sc:Scope}
theorem Rep.step{X:Addr→Prop}{h h':Heap}{v:Value}{d:PV}{L:Addr}(hk:∀b o,¬X b→b≠L→h.get? b=some o→h'.get? b=some o)(hL:∀o vs n,h.get? L=some o→o.data≠ .seq vs n)(r:Rep X h v d):Rep X h' v d:=by
  induction r with
  |none=>exact .none
  |bool b=>exact .bool b
  |int i t=>exact .int i t
  |str s t=>exact .str s t
  |z8 v k=>exact .z8 v k
  |any v=>exact .any v
  |tup ht hx hl _ ih=>obtain ⟨n,ho⟩:=ht;exact .tup ⟨n,hk _ _ hx (fun z=>hL _ _ n (z▸ho) rfl) ho⟩ hx hl ih
  |lst ht hx hl _ ih=>obtain ⟨n,ho⟩:=ht;exact .lst ⟨n,hk _ _ hx (fun z=>hL _ _ n (z▸ho) rfl) ho⟩ hx hl ih
theorem A9.run{ifs:List Expr}{P:Bool→Prop}{X:Addr→Prop}{s:Shared}(h:A9 F ρ P ifs)(i:I F X ρ s){Q:Bool→Shared→Prop}{E:Value→Shared→Prop}(q:∀b s',P b→I F X ρ s'→Ext F.C.G s s'→Q b s'):
    wpAny (model F.C.prog F.C.w) F.A (forIn ifs true fun c r=>if r=true then do let ok ← isTrue c F.env (eval c F.env);pure (ForInStep.yield ok) else pure (ForInStep.yield r)) Q E s:=by
  match ifs,h with
  |[],h=>exact wpAny_tests_nil (q true s h i (Ext.refl _ _))
  |[c],h=>exact wpAny_tests_one (h X s i Q E q)
theorem I.off{X:Addr→Prop}{s₁:Shared}(i:I F X ρ s₁){a:Addr}(h:s₁.heap.get? a= .none):¬F.C.G a∧F.C.g.get? a= .none:=
  have g:¬F.C.G a:=fun g=>(i.d8 a (i.sub a g)).elim fun O e=>n9 h e
  ⟨g,isNone fun o e=>n9 h (i.base a o g e)⟩
structure CC(F:Fm)(sc:Scope)(X:Addr→Prop)(ρ ρc:b9)(s₁:Shared)(d:m5 F sc)(D:Addr)(X':Addr→Prop):Prop where
  i:I F X ρ s₁
  c:c6 F sc ρ ρc
  x1:∀b,X b→X' b
  x2:∀b,X' b→X b∨s₁.heap.get? b= .none
  xD:X' D
  nD:s₁.heap.get? D= .none
  nL:s₁.heap.get? d.L= .none
  xL:¬X' d.L
  own:∀x c,(x,c)∈d.own→s₁.heap.get? c= .none∧¬X' c∧sc.names.lookup x=some .cell
  apart:d.own.Pairwise fun x y=>x.2≠y.2
structure CT(F:Fm)(sc:Scope)(s₁:Shared)(d:m5 F sc)(D:Addr)(X':Addr→Prop)(ts:List (Str×PV))(out:List PV)(s':Shared):Prop where
  ext:Ext F.C.G s₁ s'
  inv:F.C.inv s'.heap
  d8:∀b,X' b→∃o,s'.heap.get? b=some o
  ns:∃m,s'.heap.Ns d.L m
  cells:∀x c,d.fm.env.cells.lookup x=some c→∃v,s'.heap.IsCell c v
  alive:∀x c,(x,c)∈d.own→∃o,s'.heap.get? c=some o
  ts:∀y dd,ts.lookup y=some dd→∃v,j9 s'.heap d.fm.env y v∧Rep X' s'.heap v dd
  acc:∃vs,s'.heap.PlainList D vs.toArray∧i0 X' s'.heap vs out
section
variable{d:m5 F sc}{X X':Addr→Prop}{s₁ s':Shared}{D:Addr}{ts:List (Str×PV)}{out:List PV}
theorem CC.cell(k:CC F sc X ρ ρc s₁ d D X'){y:Str}{c:Addr}(h:(y,c)∈d.fm.env.cells):(y,c)∈d.own∨((y,NameKind.free)∈sc.names∧F.env.cells.lookup y=some c):=by
  rcases List.mem_append.mp (show (y,c)∈d.own++C4 F.env sc.names [] from h) with h|h
  · exact .inl h
  · rcases a3c _ _ h with h1|⟨h1,h2⟩
    · cases h1
    · exact .inr ⟨h1,(k.c.cells y h1).elim fun c₀ hc0a=>by refine b8 (h2 ..) (b8 (hc0a ..) ?_);rfl⟩
theorem CC.u9(k:CC F sc X ρ ρc s₁ d D X'){y:Str}{c:Addr}(h:d.fm.env.cells.lookup y=some c):¬X' c:=(k.cell (mem_of_lookup h)).elim (fun h=>(k.own y c h).2.1) fun h q=>
  (k.x2 c q).elim (k.i.s8 y c h.2) fun z=>(k.i.cell y c h.2).elim fun O z'=>z'.elim fun O e=>n9 z e.1
theorem CC.up(k:CC F sc X ρ ρc s₁ d D X')(e:Ext F.C.G s₁ s'){v:Value}{dd:PV}(r:Rep X s₁.heap v dd):Rep X' s'.heap v dd:=r.mono (e.le.weak k.i.sub) k.x2
theorem CT.i(k:CC F sc X ρ ρc s₁ d D X')(t:CT F sc s₁ d D X' ts out s'):I d.fm X' (ts.map (fun x=>(x.1,Ent.val x.2))++ρc) s':=by
  have lkt:∀(ts:List (Str×PV)) y,(ts.map (fun x=>(x.1,Ent.val x.2))++ρc).lookup y=match ts.lookup y with|some dd=>some (.val dd)|none=>ρc.lookup y:=fun ts y=>by
    induction ts with
    |nil=>rfl
    | cons t ts ih=>
      refine b8 (List.map_cons ..) (b8 (List.cons_append ..) (b8 (List.lookup_cons ..) (b8 (List.lookup_cons ..) (b8 (ih ..) ?_))))
      cases y==t.1 <;> rfl
  obtain ⟨ad,w⟩:=k.i.vars
  have cap:∀y n v,ρc.lookup y=some n→j9 s₁.heap F.env y v→j9 s'.heap d.fm.env y v:=fun y n v hy r=>by
    obtain ⟨h1,h2,_,h3⟩:=k.c.vars y n hy
    rcases r with ⟨k',_⟩|⟨_,c₀,hc0a,o,ho,hd⟩
    · exact absurd k' h3
    · obtain ⟨c₁,hc1a⟩:=d.look (.inr h1)
      refine .I7 ((d.free h1).imp id fun z=>⟨z,h2⟩) c₁ hc1a ?_
      rcases k.cell (mem_of_lookup hc1a) with h|h
      · have:=(k.own y c₁ h).2.2
        rw [h1] at this;cases this
      · have:=h.2
        rw [hc0a] at this;clear hc1a h;cases this
        exact ⟨o,t.ext.le _ o (fun g=>k.i.s8 y c₀ hc0a (k.i.sub _ g)) ho,hd⟩
  refine ⟨⟨k.i.base.trans t.ext.le,t.inv,t.d8,fun a g=>k.x1 a (k.i.sub a g),fun a ha=>(k.x2 a ha).elim (k.i.new a) fun q=> .inr (k.i.off q).2⟩,t.ns,t.cells,?_,k.xL,fun y c h=>k.u9 h,ad,fun y dd hy=>?_,fun y n hy=>?_,fun y n y' n' hy hy' hne=>?_⟩
  · refine List.pairwise_append.mpr ⟨k.apart,a3i k.i.apart sc.names [] k.c.cells k.c.nodup List.Pairwise.nil fun y c hy=>(nomatch hy),fun a ha b hb q=>?_⟩
    rcases k.cell (List.mem_append_right d.own hb:(b.1,b.2)∈_) with h|h
    · rcases a3c (y:=b.1) (c:=b.2) _ _ hb with h1|⟨h1,_⟩
      · cases h1
      · have:=(k.own b.1 b.2 h).2.2
        rw [k.c.free h1] at this;cases this
    · exact (k.i.cell _ _ h.2).elim fun O z=>z.elim fun O e=>g7 q.symm (k.own a.1 a.2 ha).1 e.1
  · rw [lkt] at hy
    cases e:ts.lookup y with
    |some dd'=>rw [e] at hy;cases hy;exact t.ts y dd e
    | none=>
      rw [e] at hy
      obtain ⟨v,r1,r2⟩:=w.val y dd (k.c.vars y _ hy).2.2.1
      exact ⟨v,cap y _ v hy r1,k.up t.ext r2⟩
  · rw [lkt] at hy
    cases e:ts.lookup y with
    |some dd'=>rw [e] at hy;cases hy
    | none=>
      rw [e] at hy
      obtain ⟨r1,r2,r3,r4,r5⟩:=w.own y n (k.c.vars y _ hy).2.2.1
      exact ⟨cap y _ _ hy r1,k.x1 _ r2,r3,(k.i.new _ r2).elim (fun g=>absurd g r3) id,r5.step (fun o ho=>t.ext.le _ o r3 ho) fun v d r=>k.up t.ext r⟩
  · rw [lkt] at hy hy'
    cases e:ts.lookup y with
    |some dd'=>rw [e] at hy;cases hy
    | none=>
      cases e':ts.lookup y' with
      |some dd'=>rw [e'] at hy';cases hy'
      | none=>
        rw [e] at hy
        rw [e'] at hy'
        exact w.apart y n y' n' (k.c.vars y _ hy).2.2.1 (k.c.vars y' _ hy').2.2.1 hne
theorem CT.sub(t:CT F sc s₁ d D X' ts out s'){ts':List (Str×PV)}(h:∀y dd,ts'.lookup y=some dd→ts.lookup y=some dd):CT F sc s₁ d D X' ts' out s':= {t with ts:=fun y dd e=>t.ts y dd (h y dd e)}
theorem CT.nil(t:CT F sc s₁ d D X' ts out s'):CT F sc s₁ d D X' [] out s':=t.sub fun O O e=>nomatch e
theorem CT.eval(k:CC F sc X ρ ρc s₁ d D X')(t:CT F sc s₁ d D X' ts out s'){ρ':b9}{s'':Shared}(i:I d.fm X' ρ' s'')(x:Ext F.C.G s' s''):CT F sc s₁ d D X' ts out s'' where
  ext:=t.ext.trans x
  inv:=i.inv
  d8:=i.d8
  ns:=i.ns
  cells:=i.cell
  alive:=fun y c h=>(t.alive y c h).imp fun o e=>x.le c o (k.i.off (k.own y c h).1).1 e
  ts:=fun y dd e=>(t.ts y dd e).imp fun v h=>⟨h.1.le (x.le.weak i.sub) i.u9 i.s8,h.2.le (x.le.weak i.sub)⟩
  acc:=t.acc.imp fun vs h=>⟨h.1.at fun o e=>x.le D o (k.i.off k.nD).1 e,h.2.le (x.le.weak i.sub)⟩
theorem CT.keep(k:CC F sc X ρ ρc s₁ d D X')(t:CT F sc s₁ d D X' ts out s'){out':List PV}{h':Heap}{tk:Nat}(kp:Le X' s'.heap h')(old:∀b o,(∃o',s₁.heap.get? b=some o')→s'.heap.get? b=some o→h'.get? b=some o)(d8:∀b,X' b→∃o,h'.get? b=some o)
    (acc:∃vs,h'.PlainList D vs.toArray∧i0 X' h' vs out'):CT F sc s₁ d D X' ts out' {s' with heap:=h',toks:=tk} where
  ext:=⟨t.ext.gens,t.ext.os,t.ext.drawn,fun b o n e=>old b o ⟨o,e⟩ (t.ext.le b o n e)⟩
  inv:=F.C.stable _ _ t.inv fun b o g e=>old b o (k.i.d8 b (k.i.sub b g)) e
  d8:=d8
  ns:=t.ns.imp fun m h=>h.at' fun o e=>kp _ o k.xL e
  cells:=fun y c hc=>(t.cells y c hc).imp fun v h=>h.imp fun o z=>⟨kp c o (k.u9 hc) z.1,z.2⟩
  alive:=fun y c h=>(t.alive y c h).imp fun o e=>kp c o (k.own y c h).2.1 e
  ts:=fun y dd e=>(t.ts y dd e).imp fun v h=>⟨h.1.le kp k.xL fun y c hc=>k.u9 hc,h.2.le kp⟩
  acc:=acc
theorem CT.append(k:CC F sc X ρ ρc s₁ d D X')(t:CT F sc s₁ d D X' ts out s'){v:Value}{r:PV}(rv:Rep X' s'.heap v r)(hz:out.length≤sizeLine){Q:Value→Shared→Prop}{E:Value→Shared→Prop}
    (q:∀h',CT F sc s₁ d D X' ts (out++[r]) {s' with heap:=h'} →(∀b o,b≠D→s'.heap.get? b=some o→h'.get? b=some o)→Q .none {s' with heap:=h'}):wpAny (model F.C.prog F.C.w) F.A (call (.builtin "list.append") [.ref D,v]) Q E s':=by
  obtain ⟨vs,pl,rl⟩:=t.acc
  refine wpAny_list_append_plain (hsz:=by rw [List.size_toArray,rl.1];exact hz) pl fun h' pl' hs=>?_
  have kp:∀b o,b≠D→s'.heap.get? b=some o→h'.get? b=some o:=fun b o n e=>(hs.2 b n).trans e
  have le:Le X' s'.heap h':=fun b o n e=>kp b o (fun q=>n (q▸k.xD)) e
  refine q h' (t.keep k le (fun b o z e=>kp b o (fun q=>z.elim fun O z=>g7 q k.nD z) e) (fun b hb=>?_) ⟨vs++[v],by rw [show (vs++[v]).toArray=vs.toArray.push v by simp];exact pl',(rl.append (.cons rv .nil)).le le⟩) kp
  by_cases z:b=D
  · obtain ⟨n,e⟩:=pl'
    exact ⟨_,z▸e⟩
  · exact (t.d8 b hb).imp fun o e=>kp b o z e
theorem CC.c7k(k:CC F sc X ρ ρc s₁ d D X'){x:Str}(hx:sc.names.lookup x=some .local∨sc.names.lookup x=some .cell){M:Addr}(h:M=d.L∨d.fm.env.cells.lookup x=some M):s₁.heap.get? M= .none:=h.elim (fun e=>e▸k.nL) fun e=>(k.cell (mem_of_lookup e)).elim (fun h=>(k.own _ _ h).1) fun h=>by
  have:=k.c.free h.1
  rcases hx with hx|hx <;> rw [hx] at this <;> cases this
theorem CT.store(k:CC F sc X ρ ρc s₁ d D X')(t:CT F sc s₁ d D X' ts out s'){x:Str}(hx:sc.names.lookup x=some .local∨sc.names.lookup x=some .cell){v:Value}{dd:PV}(r:Rep X' s'.heap v dd){h':Heap}{tk:Nat}{M:Addr}(z:C1 d.fm s'.heap h' x v M):
    CT F sc s₁ d D X' ((x,dd)::ts) out {s' with heap:=h',toks:=tk} :=by
  have hM:s₁.heap.get? M= .none:=k.c7k hx z.at_
  have nM:¬X' M:=z.off (t.i k)
  have kp:∀b o,b≠M→s'.heap.get? b=some o→h'.get? b=some o:=fun b o n e=>(z.same.2 b n).trans e
  have kpo:∀b o,(∃o',s₁.heap.get? b=some o')→s'.heap.get? b=some o→h'.get? b=some o:=fun b o ex e=>kp b o (fun q=>ex.elim fun O e=>g7 q hM e) e
  refine ⟨⟨t.ext.gens,t.ext.os,t.ext.drawn,fun b o n e=>kpo b o ⟨o,e⟩ (t.ext.le b o n e)⟩,F.C.stable _ _ t.inv fun b o g e=>kpo b o (k.i.d8 b (k.i.sub b g)) e,fun b hb=>(t.d8 b hb).imp fun o e=>kp b o (fun q=>nM (q▸hb)) e,z.ns,z.cell,fun y c h=>?_,fun y d' e=>?_,
    t.acc.imp fun vs h=>⟨z.seq h.1,h.2.turn z.same.2 z.H6 z.ex⟩⟩
  · by_cases q:c=M
    · exact (t.alive y c h).elim fun o e=>z.ex c o q e
    · exact (t.alive y c h).imp fun o e=>kp c o q e
  by_cases hy:y=x
  · clear hx;subst hy;rw [lookup_cons_self] at e;cases e
    exact ⟨v,z.here,r.turn z.same.2 z.H6 z.ex⟩
  · rw [c5 _ _ hy] at e
    exact (t.ts y d' e).imp fun u h=>⟨z.there y u hy h.1,h.2.turn z.same.2 z.H6 z.ex⟩
end
end
theorem a2i{prog:Program}{w:World}{A:Around}{R:Result→Shared→Prop}{s:Shared}{elt target iter:Expr}{ifs:List Expr}{scope:Scope}{pos:Pos}{it acc:Value}{env:Env}(I:Nat→Shared→Prop)
    (turn : ∀ n s,I n s→wpAny (model prog w) A (pyNext it) (fun r s₁=>match r with
      |none=>R (.ok .next) s₁
      |some v=>wpAny (model prog w) A (letOwnedTupleGo target it v) (fun O s₁=>wpAny (model prog w) A (assign target env v) (fun O s₂=>
          wpAny (model prog w) A (forIn ifs true fun c r=>if r=true then do let ok ← isTrue c env (eval c env);pure (ForInStep.yield ok) else pure (ForInStep.yield r)) (fun ok s₃=>
            if ok=true then wpAny (model prog w) A (eval elt env) (fun x s₄=>
              wpAny (model prog w) A (call (.builtin "list.append") [acc,x]) (fun O s5a=>∃m,m<n∧I m s5a) (notedBy (model prog w) A env fun e s'=>R (.error e) s') s₄) (notedBy (model prog w) A env fun e s'=>R (.error e) s') s₃
            else∃m,m<n∧I m s₃) (notedBy (model prog w) A env fun e s'=>R (.error e) s') s₂) (notedBy (model prog w) A env fun e s'=>R (.error e) s') s₁) (notedBy (model prog w) A env fun e s'=>R (.error e) s') s₁) (notedBy (model prog w) A env fun e s'=>R (.error e) s') s)
    (n:Nat) (h:I n s):codeAny (model prog w) A (.compLoop (.ListComp elt [⟨target,iter,ifs,0⟩] scope pos) 0 it acc env) R s:=by
  refine codeAny_loop rfl I (fun n s hI=>?_) n h
  show wpAny _ A ((compTurn (.ListComp elt [⟨target,iter,ifs,0⟩] scope pos) 0 it acc env).onRaise (fun x=>do noteFrame x env;theTreesLotGoes x)) _ _ s
  refine wpAny_noted ?_
  refine b8 (compTurn_list ..) ?_
  refine wpAny_bind (wpAny_standAt (wpAny_bind (wpAny_mono (turn n s hI) (fun r s₁ h₁=>?_) fun O O h'=>h')))
  cases r with
  |none=>exact wpAny_pure h₁
  | some v=>
    refine wpAny_bind (wpAny_mono h₁ (fun O s₂ h₂=>?_) fun O O h'=>h')
    refine wpAny_bind (wpAny_mono h₂ (fun O s₂ h₂=>wpAny_bind (wpAny_mono h₂ (fun ok s₃ h₃=>?_) fun O O h'=>h')) fun O O h'=>h')
    cases ok with
    |false=>exact wpAny_pure ⟨rfl,h₃⟩
    | true=>
      exact wpAny_bind (wpAny_bind (wpAny_mono h₃ (fun x s₄ h4a=>wpAny_bind (wpAny_mono h4a (fun O s5a h5a=>wpAny_pure (wpAny_pure ⟨rfl,h5a⟩)) fun O O h'=>h')) fun O O h'=>h'))
section
variable{F:Fm}{ρ ρc:b9}{sc:Scope}{d:m5 F sc}{X X':Addr→Prop}{s₁:Shared}{D:Addr}
structure c1w(F:Fm)(X:Addr→Prop)(s₁:Shared)(D C:Addr)(out:List PV)(s':Shared):Prop where
  nD:s₁.heap.get? D= .none
  nC:s₁.heap.get? C= .none
  ne:D≠C
  ns:∃m,s'.heap.Ns C m
  acc:∃vs,s'.heap.PlainList D vs.toArray∧i0 (fun b=>X b∨b=D) s'.heap vs out
  af:After F.C s₁ s'
theorem CT.done{ts:List (Str×PV)}{out:List PV}{s':Shared}(k:CC F sc X ρ ρc s₁ d D X')(t:CT F sc s₁ d D X' ts out s'){h':Heap}{tk:Nat}(kp:Le X' s'.heap h')(old:∀b o,(∃o',s₁.heap.get? b=some o')→s'.heap.get? b=some o→h'.get? b=some o)(kD:∀o,s'.heap.get? D=some o→h'.get? D=some o):
    c1w F X s₁ D d.L out {s' with heap:=h',toks:=tk} where
  nD:=k.nD
  nC:=k.nL
  ne:=fun q=>k.xL (q▸k.xD)
  ns:=t.ns.imp fun m h=>h.at' fun o e=>kp _ o k.xL e
  acc:=t.acc.imp fun vs h=>⟨h.1.at kD,(h.2.le kp).sub fun b z=>z.elim (k.x1 b) fun q=>q▸k.xD⟩
  af:=⟨⟨t.ext.gens,t.ext.os,t.ext.drawn,fun b o n e=>old b o ⟨o,e⟩ (t.ext.le b o n e)⟩,F.C.stable _ _ t.inv fun b o g e=>old b o (k.i.d8 b (k.i.sub b g)) e,fun a g=>(t.d8 a (k.x1 a (k.i.sub a g))).imp fun o e=>old a o (k.i.d8 a (k.i.sub a g)) e⟩
inductive b7i{α:Type}(F:Fm)(sc:Scope)(s₁:Shared)(d:m5 F sc)(D:Addr)(X':Addr→Prop)(ts0:List (Str×PV))(Z:List α→List α→List PV→Prop)(l:List α)(St:Nat→Heap→Prop)(Pend:List α→List PV→Prop)(n:Nat)(s':Shared):Prop
  |mk (pre r:List α) (out:List PV) (e:l=pre++r) (en:n=r.length) (ho:Z pre r out) (t:CT F sc s₁ d D X' ts0 out s') (st:St pre.length s'.heap) (p:Pend r out)
theorem a8t{α:Type}{target iter elt:Expr}{ifs:List Expr}{pos:Pos}{it:Value}{l:List α}{tsOf:α→List (Str×PV)}{Pend:List α→List PV→Prop}{St:Nat→Heap→Prop}{R:Result→Shared→Prop}{s:Shared}(k:CC F sc X ρ ρc s₁ d D X')(hz:l.length≤sizeLine)
    (item:∀n a out s',l[n]?=some a→CT F sc s₁ d D X' [] out s'→St n s'.heap→∀(Q:Unit→Shared→Prop) (Rn:Shared→Prop) (E:Value→Shared→Prop),(∀s₄,CT F sc s₁ d D X' (tsOf a) out s₄→St (n+1) s₄.heap→Q () s₄)→
      wpAny (model F.C.prog F.C.w) F.A (pyNext it) (fun r s₁=>match r with
        |none=>Rn s₁
        |some v=>wpAny (model F.C.prog F.C.w) F.A (letOwnedTupleGo target it v) (fun O s₂=>wpAny (model F.C.prog F.C.w) F.A (PySem.assign target d.fm.env v) Q E s₂) E s₁) E s')
    (done:∀out s',CT F sc s₁ d D X' [] out s'→St l.length s'.heap→∀(Q:Option Value→Shared→Prop) (E:Value→Shared→Prop),(∀s₄,c1w F X s₁ D d.L out s₄→Q none s₄)→wpAny (model F.C.prog F.C.w) F.A (pyNext it) Q E s')
    (frE:∀n s s'',St n s.heap→Ext F.C.G s s''→St n s''.heap) (frA:∀n (h h':Heap),St n h→(∀b o,b≠D→h.get? b=some o→h'.get? b=some o)→St n h')
    (body:∀a r out,Pend (a::r) out→A9 d.fm ((tsOf a).map (fun x=>(x.1,Ent.val x.2))++ρc) (fun b=>Br b (Ev d.fm ((tsOf a).map (fun x=>(x.1,Ent.val x.2))++ρc) elt fun r'=>Pend r (out++[r'])) (Pend r out)) ifs)
    (fin:∀out s',Pend [] out→c1w F X s₁ D d.L out s'→R (.ok .next) s') (t0:CT F sc s₁ d D X' [] [] s) (st0:St 0 s.heap) (p0:Pend l []):
    codeAny (model F.C.prog F.C.w) F.A (.compLoop (.ListComp elt [⟨target,iter,ifs,0⟩] sc pos) 0 it (.ref D) d.fm.env) R s:=by
  refine a2i (b7i F sc s₁ d D X' [] (fun pre O out=>out.length≤pre.length) l St Pend) (fun n s' h'=>?_) l.length ⟨[],l,[],rfl,rfl,Nat.le_refl _,t0,st0,p0⟩
  obtain ⟨pre,r,out,e,en,ho,t,st,p⟩:=h'
  cases r with
  |nil=>exact done out s' t (by refine b8 (e ..) (b8 (List.append_nil ..) ?_);exact st) _ _ fun s₄ z=>fin out s₄ p z
  | cons a r=>
    clear done p0;subst e en
    have hl:(pre++[a]).length=pre.length+1:=List.length_append
    have nx:pre++a::r=(pre++[a])++r:=List.append_cons pre a r
    rw [List.length_append] at hz
    refine item pre.length a out s' (by refine b8 (List.getElem?_append_right (Nat.le_refl _) ..) (b8 (Nat.sub_self ..) ?_);rfl) t st _ _ _ fun s₄ t₄ st4=>?_
    refine (body a r out p).run (t₄.i k) fun b s5a p5a i5a x5a=>?_
    have t5a:=t₄.eval k i5a x5a
    have st5:=frE _ _ _ st4 x5a
    cases b with
    |false=>exact ⟨r.length,Nat.lt_succ_self _,pre++[a],r,out,nx,rfl,by refine b8 (hl ..) ?_;exact Nat.le_succ_of_le ho,t5a.nil,hl▸st5,p5a.2 rfl⟩
    | true=>
      refine p5a.1 rfl _ s5a i5a _ _ fun v' r' s6 p6a i6 x6 r6=>?_
      exact (t5a.eval k i6 x6).append k r6 (Nat.le_trans ho (Nat.le_trans (Nat.le_add_right _ _) hz)) fun h' t7 kp=>⟨r.length,Nat.lt_succ_self _,pre++[a],r,out++[r'],nx,rfl,by refine b8 (hl ..) (b8 (List.length_append ..) ?_);exact Nat.succ_le_succ ho,t7.nil,hl▸frA _ _ _ (frE _ _ _ st5 x6) kp,p6a⟩
structure TI(F:Fm)(s₁:Shared)(D:Addr)(X X' T:Addr→Prop):Prop where
  x:∀b,T b→s₁.heap.get? b= .none→X' b
  d:∀b,T b→b≠D
  g:∀b,T b→¬F.C.G b
  back:∀b,X' b→X b∨b=D∨T b
theorem TI.le{T:Addr→Prop}(ti:TI F s₁ D X X' T){h h':Heap}(kp:∀b o,(T b→∃o',s₁.heap.get? b=some o')→h.get? b=some o→h'.get? b=some o):Le X' h h':=fun b o n e=>kp b o (fun tb=>by
  cases z:s₁.heap.get? b with
  |none=>exact absurd (ti.x b tb z) n
  |some o'=>exact ⟨o',rfl⟩) e
theorem c6t{I0:Addr}{l:List PV}{St:Nat→Heap→Prop}{T:Addr→Prop}{x:Str}{xp:Pos}(k:CC F sc X ρ ρc s₁ d D X')(it:a6f F X s₁ I0 l St T)(ti:TI F s₁ D X X' T)(hx:sc.names.lookup x=some .local∨sc.names.lookup x=some .cell)(n:Nat)(a:PV)(out:List PV)(s':Shared)(hn:l[n]?=some a)(t:CT F sc s₁ d D X' [] out s')(st:St n s'.heap)
    (Q:Unit→Shared→Prop) (Rn:Shared→Prop) (E:Value→Shared→Prop) (q:∀s₄,CT F sc s₁ d D X' [(x,a)] out s₄→St (n+1) s₄.heap→Q () s₄):
    wpAny (model F.C.prog F.C.w) F.A (pyNext (.ref I0)) (fun r s₁=>match r with
        |none=>Rn s₁
        |some v=>wpAny (model F.C.prog F.C.w) F.A (letOwnedTupleGo (.Name x xp) (.ref I0) v) (fun O s₂=>wpAny (model F.C.prog F.C.w) F.A (PySem.assign (.Name x xp) d.fm.env v) Q E s₂) E s₁) E s':=by
  refine it.item n a s' _ _ hn st fun v h₃ tk3 st3a kp3 rv=>wpAny_pure ?_
  have t3a:CT F sc s₁ d D X' [] out {s' with heap:=h₃,toks:=tk3} :=t.keep k (ti.le kp3) (fun b o ex e=>kp3 b o (fun O=>ex) e) (fun b hb=>by
    by_cases tb:T b
    · exact it.there _ _ b st3a tb
    · exact (t.d8 b hb).imp fun o e=>kp3 b o (fun z=>absurd z tb) e) (t.acc.imp fun vs h=>⟨h.1.at fun o e=>kp3 D o (fun z=>absurd rfl (ti.d D z)) e,h.2.le (ti.le kp3)⟩)
  refine wpAny_assign_Name (k9 (t3a.i k) (d.sto hx) fun h4a tk4 M z=>q _ (t3a.store k hx (k.up t3a.ext rv) z) (it.frame _ _ _ st3a fun b o tb e=>(z.same.2 b fun q=>?_).trans e))
  exact z.off (t3a.i k) (q▸ti.x b tb (q▸k.c7k hx z.at_))
structure c8m(F:Fm)(sc:Scope)(h:Heap)(L:Addr)(own:List (Str×Addr))(h':Heap):Prop where
  nL:h.get? L= .none
  I7:∀x c,(x,c)∈own→h.get? c= .none∧c≠L∧sc.names.lookup x=some .cell∧∃v,h'.IsCell c v
  apart:own.Pairwise fun x y=>x.2≠y.2
  has:∀x,sc.names.lookup x=some .cell→∃c,own.lookup x=some c
  ns:∃m,h'.Ns L m
  keep:∀b o,h.get? b=some o→h'.get? b=some o
noncomputable def a8l(F:Fm)(sc:Scope):Prop:=∀(s:Shared) (Q:Env→Shared→Prop) (E:Value→Shared→Prop),(∀L own h' tk,c8m F sc s.heap L own h'→Q (newEnv sc L F.env.globals (own++C4 F.env sc.names []) F.env.qual none .none (some F.env) builtinsNs) {s with heap:=h',toks:=tk})→
  wpAny (model F.C.prog F.C.w) F.A (newFunctionEnv sc F.env.globals (C4 F.env sc.names []) [] F.env.qual none .none (some F.env)) Q E s
theorem a8l.plain(hcell:∀y∈sc.names,y.2≠ .cell)(hkind:sc.kind= .function):a8l F sc:=fun s Q E q=>
  wpAny_newFunctionEnv hcell (fun y hy=>nomatch hy) (fun h' hn hs=>q _ [] h' _ ⟨v9 _,(fun x c h=>nomatch h),.nil,fun x h=>absurd rfl (hcell _ (mem_of_lookup h)),⟨_,hn⟩,fun b o e=>hs.extBut b o (Nat.ne_of_lt (Heap.lt_size e)) (Heap.get?_push_of_some _ e)⟩) hkind
theorem a8l.cell{x:Str}(hx:sc.names.lookup x=some .cell)(hu:∀y,sc.names.lookup y=some .cell→y=x)(h1:∀n acc,cellsFrom n sc.names acc=(x,n)::acc)(h2:∀h,pushCells h sc.names=h.push {cls:= .type "cell",data:= .cell none}):a8l F sc:=fun s Q E q=>by
  rw [newFunctionEnv,if_pos (Option.isSome_some)]
  refine wpAny_bind (wpAny_alloc ?_)
  refine wpAny_bind (wpAny_layCells _ (fun name kind cells=>by cases hkc:kind==NameKind.cell <;> simp [hkc]) _ _ _ _ ?_)
  refine b8 (h1 ..) (b8 (h2 ..) ?_)
  rw [show ({s with heap:=s.heap.push {cls:= .type "dict",data:= .dict #[]}} :Shared).heap.objs.size=s.heap.objs.size+1 from Heap.size_push ..]
  refine wpAny_bind ?_
  refine b8 (List.forIn_nil ..) ?_
  have hK:s.heap.get? (s.heap.objs.size+1)= .none:=Heap.get?_none_of_le (Nat.le_succ _)
  refine wpAny_pure (wpAny_pure (q s.heap.objs.size [(x,s.heap.objs.size+1)] _ _ ⟨v9 _,fun y c h=>?_,List.pairwise_singleton _ _,fun y h=>(hu y h)▸⟨_,lookup_cons_self _ _ _⟩,⟨_,(Heap.Ns.new s.heap (.type "dict")).keeps (c8 _)⟩,fun b o e=>c8 _ b o (c8 _ b o e)⟩))
  cases List.mem_singleton.mp h
  exact ⟨hK,Nat.succ_ne_self _,hx,none,_,by refine C5 (Heap.size_push s.heap {cls:= .type "dict",data:= .dict #[]} ..) ?_;exact Heap.get?_push_size _ rfl,rfl⟩
noncomputable def a3b(F:Fm)(X:Addr→Prop)(s₁:Shared)(h₁:Heap)(it:Value)(e:Expr)(sc:Scope)(PL:List PV→Prop):Prop:=∀(RR:Value→Addr→Result→Shared→Prop) (E:Value→Shared→Prop),(∀D C s' out,PL out→c1w F X s₁ D C out s'→RR (.ref D) C (.ok .next) s')→
  wpAny (model F.C.prog F.C.w) F.A (newList []) (fun acc s₃=>wpAny (model F.C.prog F.C.w) F.A (newFunctionEnv sc F.env.globals (C4 F.env sc.names []) [] F.env.qual none .none (some F.env)) (fun cenv s₄=>
    codeAny (model F.C.prog F.C.w) F.A (.compStart e 0 it acc {cenv with scope:=relabel sc F.env}) (RR acc cenv.locals) s₄) E s₃) E {s₁ with heap:=h₁}
theorem a6w{T:Addr→Prop}{h₁:Heap}{it:Value}{target iter elt:Expr}{ifs:List Expr}{gs:List Comprehension}{pos:Pos}{PL:List PV→Prop}(i:I F X ρ s₁)(c:c6 F sc ρ ρc)(nw:a8l F sc)(hkind:sc.kind= .function)(hk1a:∀b o,s₁.heap.get? b=some o→h₁.get? b=some o)
    (hT:∀b,T b→(∃o,h₁.get? b=some o)∧¬F.C.G b)
    (loop:∀(d:m5 F sc) D X' s',CC F sc X ρ ρc s₁ d D X'→CT F sc s₁ d D X' [] [] s'→(∀b o,h₁.get? b=some o→s'.heap.get? b=some o)→TI F s₁ D X X' T→∀R:Result→Shared→Prop,(∀out s'',PL out→c1w F X s₁ D d.L out s''→R (.ok .next) s'')→
      codeAny (model F.C.prog F.C.w) F.A (.compLoop (.ListComp elt (⟨target,iter,ifs,0⟩::gs) sc pos) 0 it (.ref D) d.fm.env) R s')
    (self:∀(s:Shared) (Q:Value→Shared→Prop) (E:Value→Shared→Prop),(∀b o,h₁.get? b=some o→s.heap.get? b=some o)→Q it s→wpAny (model F.C.prog F.C.w) F.A (pyIter it) Q E s):
    a3b F X s₁ h₁ it (.ListComp elt (⟨target,iter,ifs,0⟩::gs) sc pos) sc PL:=fun RR E fin=>by
  refine wpAny_newObj_type (nw _ _ _ fun L own h₂ tk n=>?_)
  dsimp only at n ⊢
  have hD:h₁.get? h₁.objs.size= .none:=v9 _
  have pD:(h₁.push {cls:= .type "list",dict:=none,data:= .seq ([]:List Value).toArray}).get? h₁.objs.size=some {cls:= .type "list",dict:=none,data:= .seq ([]:List Value).toArray} :=Heap.get?_push_size _ rfl
  have kp:∀b o,h₁.get? b=some o→(h₁.push {cls:= .type "list",dict:=none,data:= .seq ([]:List Value).toArray}).get? b=some o:=c8 _
  generalize h₁.push {cls:= .type "list",dict:=none,data:= .seq ([]:List Value).toArray} =H at n pD kp
  generalize h₁.objs.size=D at hD pD
  have new1a:∀ {a},h₁.get? a= .none→s₁.heap.get? a= .none:=fun h=>isNone fun o e=>n9 h (hk1a _ o e)
  have newH:∀ {a},H.get? a= .none→h₁.get? a= .none:=fun h=>isNone fun o e=>n9 h (kp _ o e)
  have k₂:∀b o,h₁.get? b=some o→h₂.get? b=some o:=fun b o e=>n.keep b o (kp b o e)
  let d:m5 F sc:=⟨L,own,s₁,(i.off (new1a (newH n.nL))).2,hkind,fun x hx=>(n.has x hx).imp fun c e=>⟨e,(i.off (new1a (newH (n.I7 x c (mem_of_lookup e)).1))).2⟩⟩
  generalize hX:(fun b=>X b∨b=D∨T b∧s₁.heap.get? b= .none)=X'
  have off:∀ {a},H.get? a= .none→¬X' a:=fun {a} h q=>by
    rw [← hX] at q
    rcases q with q|q|q
    · exact (i.d8 a q).elim fun o e=>n9 (new1a (newH h)) e
    · exact g7 q.symm h pD
    · exact (hT a q.1).1.elim fun o e=>n9 (newH h) e
  have cc:CC F sc X ρ ρc s₁ d D X':=⟨i,c,fun b h=>hX▸ .inl h,fun b h=>by
    rw [← hX] at h
    exact h.imp id fun h=>h.elim (fun q=>q▸new1a hD) fun q=>q.2,hX▸ .inr (.inl rfl),new1a hD,new1a (newH n.nL),off n.nL,fun x c h=>⟨new1a (newH (n.I7 x c h).1),off (n.I7 x c h).1,(n.I7 x c h).2.2.1⟩,n.apart⟩
  have ct:CT F sc s₁ d D X' [] [] {s₁ with heap:=h₂,toks:=tk} :=⟨Ext.tok _ _ _ (Le.of fun b o e=>k₂ b o (hk1a b o e)),F.C.stable _ _ i.inv fun b o O e=>k₂ b o (hk1a b o e),fun b h=>by
    rw [← hX] at h
    rcases h with h|h|h
    · exact (i.d8 b h).imp fun o e=>k₂ b o (hk1a b o e)
    · exact ⟨_,n.keep b _ (h▸pD)⟩
    · exact (hT b h.1).1.imp fun o e=>k₂ b o e,n.ns,fun x c h=>(cc.cell (mem_of_lookup h)).elim (fun h=>(n.I7 x c h).2.2.2) fun h=>(i.cell x c h.2).imp fun v z=>z.imp fun o e=>⟨k₂ c o (hk1a c o e.1),e.2⟩,fun x c h=>(n.I7 x c h).2.2.2.elim fun O z=>z.imp fun O e=>e.1,(fun y dd e=>nomatch e),[],⟨0,n.keep D _ pD⟩,.nil⟩
  have ti:TI F s₁ D X X' T:=⟨fun b t z=>hX▸ .inr (.inr ⟨t,z⟩),fun b t q=>(hT b t).1.elim fun o e=>g7 q hD e,fun b t=>(hT b t).2,fun b h=>by
    rw [← hX] at h
    exact h.imp id fun h=>h.imp id fun h=>h.1⟩
  have go:=loop d D X' _ cc ct k₂ ti (RR (.ref D) L) fun out s'' p e=>fin D L s'' out p e
  exact codeAny_compStart_list go (self _ _ _ k₂ go)
end
end
section
variable [HH:u7]
noncomputable def I6(F:Fm)(ρ:b9)(e:Expr)(P:List PV→Prop):Prop:=
  ∀ X s,I F X ρ s→∀(Q:Value→Shared→Prop) (E:Value→Shared→Prop),(∀s₁ h₁ I0 l St T,P l→I F X ρ s₁→Ext F.C.G s s₁→(∀b o,s₁.heap.get? b=some o→h₁.get? b=some o)→a6f F X s₁ I0 l St T→
    (∀b,T b→(∃o,h₁.get? b=some o)∧¬F.C.G b)→St 0 h₁→Q (.ref I0) {s₁ with heap:=h₁})→wpAny (model F.C.prog F.C.w) F.A (eval e F.env) (fun v s'=>wpAny (model F.C.prog F.C.w) F.A (pyIter v) Q E s') E s
section
variable{F:Fm}{ρ ρc:b9}{sc:Scope}{P:List PV→Prop}
theorem x9.c4q{X:Addr→Prop}{s₁:Shared}{I0 ax:Addr}{vs:List Value}{l:List PV}(hne:ax≠I0)(hI:s₁.heap.get? I0= .none)(rl:i0 X s₁.heap vs l):
    a6f F X s₁ I0 l (x9 I0 ax vs) (fun b=>b=I0∨b=ax) where
  frame:=fun i h h' st k=>st.at (fun o e=>k _ o (.inl rfl) e) fun o e=>k _ o (.inr rfl) e
  there:=fun i h b st t=>by
    clear hne hI;rcases t with rfl|rfl
    · obtain ⟨o,us,e,_⟩:=st.self;exact ⟨o,e⟩
    · obtain ⟨o,n,e,_⟩:=st.src;exact ⟨o,e⟩
  item:=fun i d s Q E hd st q=>by
    obtain ⟨v,hv,rv⟩:=rl.get hd
    exact st.step hne hv fun h' st' hk=>q v h' s.toks st' (fun b o hb e=>hk b o (fun z=>by obtain ⟨o',e'⟩:=hb (.inl z);exact g7 z hI e') e) rv
  done:=fun s Q E st q=>st.last F.hA (List.getElem?_eq_none (by refine b8 (rl.1 ..) ?_;exact Nat.le_refl _)) fun h' hk=>q h' s.toks fun b o hb e=>hk b o (fun z=>by obtain ⟨o',e'⟩:=hb (.inl z);exact g7 z hI e') e
  self:=fun i s Q E st q=>by
    rcases st.it with ⟨a,_⟩|⟨a,_⟩
    · exact wpAny_pyIter_listiter a q
    · exact wpAny_pyIter_tupleiter a q
theorem I6.seq{e:Expr}(h:Ev F ρ e fun d=>∃l,(d= .lst l∨d= .tup l)∧P l):I6 F ρ e P:=fun X s i Q E q=>
  h X s i _ _ fun v d s₁ ⟨l,hd,p⟩ i₁ x1a r₁=>a5e r₁ hd fun I0 ax vs h₁ hne hI hax hX rl kp st=>
    q s₁ h₁ I0 l _ _ p i₁ x1a kp (x9.c4q hne hI rl) (fun b hb=>by
      clear hne hax;rcases hb with rfl|rfl
      · obtain ⟨o,us,e,_⟩:=st.self
        exact ⟨⟨o,e⟩,fun g=>by obtain ⟨o',ho'⟩:=i₁.d8 _ (i₁.sub _ g);exact n9 hI ho'⟩
      · obtain ⟨o,n,e,_⟩:=st.src
        exact ⟨⟨o,e⟩,fun g=>hX (i₁.sub _ g)⟩) st
theorem b0a{X:Addr→Prop}{s₁:Shared}{I0:Addr}(n:Nat)(hI:s₁.heap.get? I0= .none):
    a6f F X s₁ I0 ((List.range n).map fun i=>PV.int ((i:Nat):Int)) (fun i h=>IsRangeIter h I0 (i:Nat) ((n:Int) - (i:Nat)) 1) (fun b=>b=I0) where
  frame:=fun i h h' st k=>k _ _ rfl st
  there:=fun i h b st t=>⟨_,t▸st⟩
  item:=fun i d s Q E hd st q=>by
    have hi:i<n:=by
      have:=(List.getElem?_eq_some_iff.mp hd).1
      simpa using this
    have hd':d= .int i:=by
      rw [List.getElem?_map,List.getElem?_range hi] at hd
      exact (Option.some.inj hd).symm
    clear hd;subst hd'
    refine wpAny_pyNext_range_item st (by lia) fun h' hit' hs'=>?_
    refine q _ h' _ ?_ (fun b o hb e=>(hs'.2 b fun z=>by obtain ⟨o',e'⟩:=hb z;exact g7 z hI e').trans e) (.int _ _)
    have e1:((i+1:Nat):Int)=(i:Int)+1:=by push_cast;rfl
    have e2:(n:Int) - ((i+1:Nat):Int)=(n:Int) - (i:Int) - 1:=by lia
    refine b8 (e2 ..) (b8 (e1 ..) ?_);exact hit'
  done:=fun s Q E st q=>by
    have st:IsRangeIter s.heap I0 (((List.range n).map fun i=>PV.int ((i:Nat):Int)).length:Nat) ((n:Int) - (((List.range n).map fun i=>PV.int ((i:Nat):Int)).length:Nat)) 1:=st
    refine wpAny_pyNext_range_end F.hA st (by simp) fun h' he'=>q h' s.toks fun b o hb e=>he' b o (fun z=>by obtain ⟨o',e'⟩:=hb z;exact g7 z hI e') e
  self:=fun i s Q E st q=>wpAny_pyIter_rangeiter st q
theorem I6.range{e:Expr}{np pos:Pos}(h:Ev F ρ e fun d=>∃n:Nat,d= .int n∧n≤sizeLine∧P ((List.range n).map fun i=>PV.int ((i:Nat):Int)))(hx:F.env.kindOf "range"=some .globalImplicit)(hs:starEach [e] F.env=[(false,eval e F.env)]:=by rfl):
    I6 F ρ (.Call (.Name "range" np) [e] [] pos) P:=fun X s i Q E q=>by
  refine G6 i (F.C.bi "range" (.type "range") (.tail _ (.tail _ (.tail _ (.head _))))) hx (by decide) (callWith_type1 (list1 (F7.of h) i hs fun v d s₁ ⟨n,hd,hz,p⟩ i₁ x1a r₁=>?_) hs rfl)
  subst hd
  cases r₁ with
  |own _ o=>exact o.elim
  |of r₁=>
  obtain ⟨t,rfl⟩:=r₁.int_inv
  refine call_range_1 ?_
  have hz':((n:Nat):Int)<2 ^ 62:=by rw [sizeLine_eq] at hz;lia
  have hsz:Builtin.Range.rangeSize 0 (n:Int) 1=(n:Int):=by refine b8 (rangeSize_one ..) ?_;split <;> lia
  generalize hh:s₁.heap.push {cls:= .type "range",dict:=none,data:= .fields #[.int 0 s₁.toks,.int (n:Int) t,.int 1 (s₁.toks+1)]} =h₂
  have hk:∀b o,s₁.heap.get? b=some o→h₂.get? b=some o:=fun b o e=>hh▸Heap.get?_push_of_some _ e
  have hr:IsRange h₂ s₁.heap.objs.size 0 (n:Int) 1 s₁.toks t (s₁.toks+1):=hh▸IsRange.new ..
  refine wpAny_pyIter_range hr (small_one (by lia) (by lia) (by lia) hz') ?_
  refine q {s₁ with heap:=h₂,toks:=s₁.toks+1+1} _ h₂.objs.size _ _ _ p ((i₁.grow (s':= {s₁ with heap:=h₂,toks:=s₁.toks+1+1}) hk)) (x1a.trans (Ext.tok s₁ h₂ _ (Le.of hk))) (c8 _) (b0a n (v9 _)) (fun b hb=>?_) ?_
  · subst hb
    exact ⟨⟨_,Heap.get?_push_size _ rfl⟩,fun g=>by obtain ⟨o',ho'⟩:=(i₁.grow (s':= {s₁ with heap:=h₂,toks:=s₁.toks+1+1}) hk).d8 _ (i₁.sub _ g);exact n9 (show h₂.get? h₂.objs.size=none from v9 _) ho'⟩
  · show IsRangeIter _ _ _ _ _
    refine b8 (hsz ..) ?_
    have:((n:Int) - ((0:Nat):Int))=(n:Int):=by lia
    refine b8 (this ..) ?_
    exact Heap.get?_push_size _ rfl
theorem c2y{X:Addr→Prop}{s₁:Shared}{h₁:Heap}{I0:Addr}{l:List PV}{St:Nat→Heap→Prop}{T:Addr→Prop}{x:Str}{elt iter:Expr}{ifs:List Expr}{pos xp:Pos}{PL:List PV→Prop}(i:I F X ρ s₁)(c:c6 F sc ρ ρc)(nw:a8l F sc)(hkind:sc.kind= .function)(hx:sc.names.lookup x=some .local∨sc.names.lookup x=some .cell)
    (hk:∀b o,s₁.heap.get? b=some o→h₁.get? b=some o) (it:a6f F X s₁ I0 l St T) (hT:∀b,T b→(∃o,h₁.get? b=some o)∧¬F.C.G b) (st:St 0 h₁) (hz:l.length≤sizeLine) (p:∀d:m5 F sc,Co d.fm ρc x ifs elt PL l []):a3b F X s₁ h₁ (.ref I0) (.ListComp elt [⟨.Name x xp,iter,ifs,0⟩] sc pos) sc PL:=
  a6w i c nw hkind hk hT (fun d D X' s' k t up ti R fin=>a8t (tsOf:=fun a=>[(x,a)]) (Pend:=fun r out=>Co d.fm ρc x ifs elt PL r out) (St:=St) k hz (c6t k it ti hx)
      (fun out s' t st Q E q=>it.done s' Q E st fun h₃ tk3 kp3=>q _ (t.done k (ti.le kp3) (fun b o ex e=>kp3 b o (fun O=>ex) e) fun o e=>kp3 D o (fun z=>absurd rfl (ti.d D z)) e))
      (fun n s s'' st x=>it.frame _ _ _ st fun b o t e=>x.le b o (ti.g b t) e) (fun n h h' st kp=>it.frame _ _ _ st fun b o t e=>kp b o (ti.d b t) e) (fun a r out p=>p) fin t (it.frame _ _ _ st fun b o t e=>up b o e) (p d))
    fun s Q E up q=>it.self 0 s Q E (it.frame _ _ _ st fun b o t e=>up b o e) q
theorem c1w.free{X:Addr→Prop}{s₁ s':Shared}{D C:Addr}{out:List PV}{m:Str→Option Value}{h':Heap}(i:I F X ρ s₁)(z:c1w F X s₁ D C out s')(hn:s'.heap.Ns C m)(hs:Heap.SameBut C s'.heap h'):After F.C s₁ {s' with heap:=h'} ∧∃vs,h'.PlainList D vs.toArray∧i0 (fun b=>X b∨b=D) h' vs out:=by
  have kp:∀b o,(b=C→False)→s'.heap.get? b=some o→h'.get? b=some o:=fun b o n e=>(hs.2 b n).trans e
  have nG:∀b,F.C.G b→b≠C:=fun b g q=>(i.off z.nC).1 (q▸g)
  refine ⟨⟨⟨z.af.ext.gens,z.af.ext.os,z.af.ext.drawn,fun b o n e=>kp b o (fun q=>g7 q z.nC e) (z.af.ext.le b o n e)⟩,F.C.stable _ _ z.af.inv fun b o g e=>kp b o (nG b g) e,fun a g=>(z.af.d8 a g).imp fun o e=>kp a o (nG a g) e⟩,z.acc.imp fun vs h=>⟨h.1.at fun o e=>kp D o z.ne e,h.2.1,fun k u e h1 h2=>(h.2.2 k u e h1 h2).step (L:=C) (fun b o O n e=>kp b o n e) fun o us n ho hd=>a0b hn ho hd rfl⟩⟩
noncomputable def EvG(F:Fm)(ρ:b9)(e:Expr)(K:(Addr→Prop)→Shared→Heap→Value→Prop):Prop:=
  ∀X s,I F X ρ s→∀(Q:Value→Shared→Prop) (E:Value→Shared→Prop),(∀s₁ h₁ v,I F X ρ s₁→Ext F.C.G s s₁→K X s₁ h₁ v→Q v {s₁ with heap:=h₁})→wpAny (model F.C.prog F.C.w) F.A (eval e F.env) (fun v s'=>wpAny (model F.C.prog F.C.w) F.A (pyIter v) Q E s') E s
theorem F0.b7w{elt target iter:Expr}{ifs:List Expr}{gs:List Comprehension}{pos:Pos}{PL:List PV→Prop}(c:c6 F sc ρ ρc)(h:EvG F ρ iter fun X s₁ h₁ v=>a3b F X s₁ h₁ v (.ListComp elt (⟨target,iter,ifs,0⟩::gs) sc pos) sc PL)
    (hkind:sc.kind= .function) (hnames:∀y∈sc.names,y.2= .local→sc.names.lookup y.1=some .local) (hs:∀x,foldedSetIterable iter F.env x=pure x):F0 F ρ (.ListComp elt (⟨target,iter,ifs,0⟩::gs) sc pos) PL:=fun X s i Q E q=>by
  refine b8 (eval_ListComp ..) ?_
  refine wpAny_comprehension_free (use:=none) rfl hs (a0h c.cells) hkind hnames (h X s i _ _ fun s₁ h₁ v i₁ x1a r=>r (fun acc C=>compPost (model F.C.prog F.C.w) F.A E none Q acc C) E fun D C s' out po z=>z.ns.imp fun m hn=>⟨hn,fun h' hs'=>?_⟩)
  obtain ⟨af,vs,pl,rl⟩:=z.free i₁ hn hs'
  exact q D vs out {s' with heap:=h'} po (i₁.ext af) (x1a.trans af.ext) (isNone fun o e=>n9 z.nD (x1a.le D o (i₁.off z.nD).1 e)) pl rl
theorem F0.comp{x:Str}{elt iter:Expr}{ifs:List Expr}{pos xp:Pos}{PL:List PV→Prop}(c:c6 F sc ρ ρc)(h:I6 F ρ iter fun l=>l.length≤sizeLine∧∀d:m5 F sc,Co d.fm ρc x ifs elt PL l [])(hx:sc.names.lookup x=some .local)
    (hcell:∀y∈sc.names,y.2≠ .cell:=by decide) (hkind:sc.kind= .function:=by rfl) (hnames:∀y∈sc.names,y.2= .local→sc.names.lookup y.1=some .local:=by decide)
    (hs:∀x,foldedSetIterable iter F.env x=pure x:=by intro _;rfl):F0 F ρ (.ListComp elt [⟨.Name x xp,iter,ifs,0⟩] sc pos) PL:=
  F0.b7w c (fun X s i Q E q=>h X s i Q E fun s₁ h₁ I0 l St T p i₁ x1a hk it hT st=>q s₁ h₁ _ i₁ x1a (c2y i₁ c (.plain hcell hkind) hkind (.inl hx) hk it hT st p.1 p.2)) hkind hnames hs
theorem F0.c9b{x:Str}{elt iter:Expr}{ifs:List Expr}{pos xp:Pos}{PL:List PV→Prop}(c:c6 F sc ρ ρc)(h:I6 F ρ iter fun l=>l.length≤sizeLine∧∀d:m5 F sc,Co d.fm ρc x ifs elt PL l [])(hx:sc.names.lookup x=some .cell)
    (hu:∀y∈sc.names,y.2= .cell→y.1=x:=by decide) (hc1:∀n acc,cellsFrom n sc.names acc=(x,n)::acc:=by intro _ _;rfl) (hc2:∀h,pushCells h sc.names=h.push {cls:= .type "cell",data:= .cell none} :=by intro _;rfl) (hkind:sc.kind= .function:=by rfl) (hnames:∀y∈sc.names,y.2= .local→sc.names.lookup y.1=some .local:=by decide)
    (hs:∀x,foldedSetIterable iter F.env x=pure x:=by intro _;rfl):F0 F ρ (.ListComp elt [⟨.Name x xp,iter,ifs,0⟩] sc pos) PL:=
  F0.b7w c (fun X s i Q E q=>h X s i Q E fun s₁ h₁ I0 l St T p i₁ x1a hk it hT st=>q s₁ h₁ _ i₁ x1a (c2y i₁ c (.cell hx (fun y e=>hu _ (mem_of_lookup e) rfl) hc1 hc2) hkind (.inr hx) hk it hT st p.1 p.2)) hkind hnames hs
end
end
section
variable [HH:u7]
section
variable{F:Fm}{ρ ρc:b9}{sc:Scope}{N:b9→Prop}{R:PV→Prop}
theorem Ex.a1s{x y:Str}{elt iter:Expr}{ifs:List Expr}{pos xp yp spos:Pos}(c:c6 F sc ρ ρc)(h:I6 F ρ iter fun l=>l.length≤sizeLine∧∀d:m5 F sc,Co d.fm ρc x ifs elt (fun out=>N ((y,.val (.lst out))::ρ)) l [])(hx:sc.names.lookup x=some .local)(hy:l5 F y)
    (hsw:swapsWith (.ListComp elt [⟨.Name x xp,iter,ifs,0⟩] sc pos) (some (.Name y yp)) spos.line F.env=pure true)
    (hcell:∀y∈sc.names,y.2≠ .cell:=by decide) (hkind:sc.kind= .function:=by rfl) (hnames:∀y∈sc.names,y.2= .local→sc.names.lookup y.1=some .local:=by decide)
    (hs:∀x,foldedSetIterable iter F.env x=pure x:=by intro _;rfl):Ex F ρ (.Assign [.Name y yp] (.ListComp elt [⟨.Name x xp,iter,ifs,0⟩] sc pos) spos) N R:=fun X s j Q E n r=>by
  refine b8 (exec_Assign_Name_used _ _ _ _ hsw ..) ?_
  refine wpAny_bind (wpAny_standAt (wpAny_bind ?_))
  show wpAny _ F.A (do let _ ← comprehension (.ListComp elt [⟨.Name x xp,iter,ifs,0⟩] sc pos) sc F.env _ (newList []) false (eval iter F.env) (some (PySem.assign (.Name y yp) F.env))) _ _ s
  refine wpAny_bind (wpAny_mono (wpAny_comprehension_free (use:=some (PySem.assign (.Name y yp) F.env)) (Q:=fun O s'=>Q .next s') rfl hs (a0h c.cells) hkind hnames (h X s j.1 _ _ fun s₁ h₁ I0 l St T ⟨hz,p⟩ i₁ x1a hk it hT st=>?_)) (fun O s' hq=>wpAny_pure (wpAny_pure hq)) fun O O e=>e)
  refine c2y i₁ c (.plain hcell hkind) hkind (.inl hx) hk it hT st hz p (fun acc C=>compPost (model F.C.prog F.C.w) F.A E (some (PySem.assign (.Name y yp) F.env)) (fun O s'=>Q .next s') acc C) E fun D C s' out po ce=>?_
  obtain ⟨vs,pl,rl⟩:=ce.acc
  obtain ⟨m,hn⟩:=ce.ns
  have hD:=ce.nD
  have hC:=ce.nC
  have i₂:=i₁.ext ce.af
  have x₂:=x1a.trans ce.af.ext
  have j2a:=j.step i₂ x₂
  have hCs:s.heap.get? C= .none:=isNone fun o e=>n9 hC (x1a.le C o (i₁.off hC).1 e)
  have hXC:¬X C:=fun q=>(i₁.d8 C q).elim fun O e=>n9 hC e
  have rD:C3 F X ρ s' (.ref D) (.val (.lst out)):=Rep.c1x pl (fun q=>(i₁.d8 D q).elim fun O e=>n9 hD e) (rl.sub fun O=> .inl)
  have hCl:C≠F.env.locals:=fun q=>i₁.ns.elim fun m' hm'=>(Heap.Ns.ex hm').elim fun o ho=>n9 hC (q▸ho)
  have hCc:∀y,F.env.cells.lookup y≠some C:=fun y q=>(i₁.cell y C q).elim fun O z=>z.elim fun O e=>n9 hC e.1
  refine wpAny_assign_Name (k9 i₂ hy fun h₃ tk L z=>?_)
  have j3:JX F X ((y,.val (.lst out))::ρ) {s' with heap:=h₃,toks:=tk} :=j2a.store (n:= .val (.lst out)) rD z
  have hn3:h₃.Ns C m:=hn.at' fun o e=>(z.same.2 C fun q=>z.which.elim (fun e=>hCl (q.trans e)) (fun z1=>by obtain ⟨w,e⟩:=z1;exact hCc w (q▸e))).trans e
  refine ⟨m,hn3,fun h' hs'=>?_⟩
  have mv:a8s X h₃ h' C:=⟨fun b o hb e=>(hs'.2 b hb).trans e,hXC,fun o us n ho hd=>a0b hn3 ho hd rfl⟩
  have k₃:=(m7.x7 j.1 x₂).trans (z.keep (X:=X) (tk:=tk)) (j.alive j2a (fun O h=>h) (m7.x7 j.1 x₂))
  exact n _ _ X po (j3.moves (tk:=tk) hCl hCc (j.fresh hCs).2 mv) (fun O h=>h) (k₃.moves (tk:=tk) hCs mv)
end
end
section
variable [HH:u7]
section
variable{F:Fm}{ρ ρc:b9}{N:b9→Prop}{R:PV→Prop}
theorem A9.nil{P:Bool→Prop}(h:P true):A9 F ρ P []:=h
theorem A9.one{P:Bool→Prop}{c:Expr}(h:Tr F ρ c P):A9 F ρ P [c]:=h
theorem c4o(a b:PV):[a,b].length≤sizeLine:=(by show 2≤sizeLine;decide)
theorem a1w:interactive F.env=false:=by
  unfold interactive;refine b8 (show F.env.scope.kind= .function from F.hk ..) ?_;rfl
theorem Ex.c3y{x y:Str}{value:Expr}{xp yp tp pos:Pos}{k:Nat}(h:Ev F ρ value fun d=>∃a b,d= .tup [a,b]∧N ((y,.val b)::(x,.val a)::ρ))(hx:l5 F x)(hy:l5 F y)
    (hs:swapsWithSole [.Tuple [.Name x xp,.Name y yp] k tp] value pos.line F.env=pure false:=by rfl) (hw:swappedStores [.Tuple [.Name x xp,.Name y yp] k tp] value F.env=pure none:=by rfl):
    Ex F ρ (.Assign [.Tuple [.Name x xp,.Name y yp] k tp] value pos) N R:=fun X s j Q E nn r=>by
  refine PyProof.Rows.Assign_Tuple (h X s j.1 _ _ fun v d s₁ ⟨a,b,hd,p⟩ i₁ x1a r₁=>?_) hs hw
  subst hd
  obtain ⟨t,vs,rfl,ht,hX,rl⟩:=r₁.n8
  obtain ⟨v1a,vs',rfl,ra,rl'⟩:=rl.cons_inv
  clear rl;obtain ⟨v2a,vs'',rfl,rb,rl''⟩:=rl'.cons_inv
  obtain rfl:=rl''.nil_inv
  have j1a:=j.step i₁ x1a
  refine assign_Tuple_tuple (items:=[v1a,v2a].toArray) F.hA ht.isTup rfl rfl fun h' e=>?_
  have kp:∀b o,s₁.heap.get? b=some o→h'.get? b=some o:=fun b o z=>e b o (Nat.ne_of_lt (Heap.lt_size z)) z
  have x₂:Ext F.C.G s₁ {s₁ with heap:=h'} :=Ext.heap _ _ (Le.of kp)
  have j2a:=j1a.step (i₁.grow (s':= {s₁ with heap:=h'}) kp) x₂
  have k₂:=(m7.x7 j.1 x1a).trans (m7.x7 i₁ x₂) (j.alive j1a (fun O h=>h) (m7.x7 j.1 x1a))
  show wpAny _ _ (assignInOrder [PySem.assign (.Name x xp) F.env,PySem.assign (.Name y yp) F.env] [v1a,v2a]) _ _ _
  refine wpAny_assignInOrder_more (wpAny_assign_Name (k9 j2a.1 hx fun h₁ tk L z=>?_))
  have ra':C3 F X ρ {s₁ with heap:=h'} v1a (.val a):=ra.le (Le.of kp)
  have rb':C3 F X ρ {s₁ with heap:=h'} v2a (.val b):=rb.le (Le.of kp)
  have j3:=j2a.store (tk:=tk) ra' z
  refine wpAny_assignInOrder_more (wpAny_assign_Name (k9 j3.1 hy fun h₂ tk' L' z'=>?_))
  have j4:=j3.store (tk:=tk') (rb'.stored (tk:=tk) (k:= .val a) j2a.1 (fun O O f=>f.elim) z) z'
  have k₃:=k₂.trans (z.keep (X:=X) (tk:=tk)) (j.alive j2a (fun O h=>h) k₂)
  have k4a:=k₃.trans (z'.keep (X:=X) (tk:=tk')) (j.alive j3 (fun O h=>h) k₃)
  exact wpAny_assignInOrder_none (nn _ _ X p j4 (fun O h=>h) k4a)
end
end
section
set_option backward.match.sparseCases true
variable [HH:u7]
section
variable{F:Fm}{ρ ρc:b9}{N N':b9→Prop}{R:PV→Prop}{P:PV→Prop}
theorem v8.none{P:Option Int→Prop}(h:P .none):v8 F ρ .none P:=h
theorem v8.some{e:Expr}{P:Option Int→Prop}(h:Ev F ρ e fun d=>∃i,d= .int i∧P (some i)):v8 F ρ (.some e) P:=h
theorem A0.mono{ss:List Stmt}(h:A0 F ρ ss N R)(k:∀ρ',N ρ'→N' ρ'):A0 F ρ ss N' R:=fun X s j Q E n r=>h X s j Q E (fun ρ' s' X' p=>n ρ' s' X' (k ρ' p)) r
theorem Ex.mono{ss:Stmt}(h:Ex F ρ ss N R)(k:∀ρ',N ρ'→N' ρ'):Ex F ρ ss N' R:=fun X s j Q E n r=>h X s j Q E (fun ρ' s' X' p=>n ρ' s' X' (k ρ' p)) r
theorem Ev.mono{e:Expr}{P P':PV→Prop}(h:Ev F ρ e P)(k:∀d,P d→P' d):Ev F ρ e P':=fun X s i Q E q=>h X s i Q E fun v d s' p=>q v d s' (k d p)
theorem Co.list{α:Type}{x:Str}{ifs:List Expr}{elt:Expr}{PL:List PV→Prop}(enc:α→PV)(g:α→Option PV):∀(l:List α) (out:List PV),
    (∀a∈l,∀(K:PV→Prop) (K':Prop),(match g a with|some r=>K r|none=>K')→A9 F ((x,.val (enc a))::ρc) (fun b=>Br b (Ev F ((x,.val (enc a))::ρc) elt K) K') ifs)→
    PL (out++l.filterMap g)→Co F ρc x ifs elt PL (l.map enc) out:=by
  intro LL
  induction LL with
  | nil=>
    rintro out _ h
    rw [List.filterMap_nil,List.append_nil] at h;exact h
  | cons a l ih=>
    rintro out hs h
    refine hs a List.mem_cons_self _ _ ?_
    have ih:∀out,PL (out++l.filterMap g)→Co F ρc x ifs elt PL (l.map enc) out:=fun out h=>ih out (fun a ha=>hs a (List.mem_cons_of_mem _ ha)) h
    rw [List.filterMap_cons] at h
    revert h
    cases g a with
    |none=>exact fun h=>ih out h
    |some r=>exact fun h=>ih _ (by simpa using h)
theorem Fo.list{α:Type}{x:Str}{body:List Stmt}(enc:α→PV)(Inv:List α→b9→Prop)(hs:∀a rest ρ,Inv (a::rest) ρ→A0 F ((x,.val (enc a))::ρ) body (Inv rest) R)(he:∀ρ,Inv [] ρ→N ρ):
    ∀(l:List α) (ρ:b9),Inv l ρ→Fo F x body N R (l.map enc) ρ
  |[],ρ,h=>he ρ h
  |a::l,ρ,h=>(hs a l ρ h).mono fun ρ' h'=>Fo.list enc Inv hs he l ρ' h'
theorem E1{n:Nat}(h:n≤4096):n≤sizeLine:=Nat.le_trans h (by decide)
theorem d1d{n:Nat}(h:n<4096):n<sizeLine:=Nat.lt_of_lt_of_le h (by decide)
theorem c6.none{sc:Scope}(hn:(sc.names.map (·.1)).Nodup)(hf:∀x∈sc.names,x.2≠ .free):c6 F sc ρ []:=⟨hn,fun y hy=>absurd rfl (hf _ hy),fun y n e=>by cases e⟩
noncomputable def a8j(F:Fm)(sc:Scope)(ρ:b9):b9→Prop
  |[]=>True
  |(x,n)::r=>(sc.names.lookup x=some .free∧(x==("__classdict__":Str))=false∧ρ.lookup x=some n∧F.env.kindOf x≠some .local∧∃c,F.env.cells.lookup x=some c)∧a8j F sc ρ r
theorem a8j.mem{sc:Scope} :∀ {ρc:b9},a8j F sc ρ ρc→∀p∈ρc,sc.names.lookup p.1=some .free∧(p.1==("__classdict__":Str))=false∧ρ.lookup p.1=some p.2∧F.env.kindOf p.1≠some .local∧∃c,F.env.cells.lookup p.1=some c:=by
  intro LL1
  induction LL1 with
  | nil=>
    nofun
  | cons HD r ih=>
    obtain ⟨x,n⟩:=HD
    rintro h p hp
    rcases List.mem_cons.mp hp with e|hp
    · clear hp;subst e;exact h.1
    · exact ih h.2 p hp
theorem c6.of{sc:Scope}{ρc:b9}(fs:List Str)(h:a8j F sc ρ ρc)(hn:(sc.names.map (·.1)).Nodup)(hall:∀x∈sc.names,x.2= .free→x.1∈fs)(hfs:ρc.map (·.1)=fs:=by rfl):c6 F sc ρ ρc:=by
  refine ⟨hn,fun y hy=>?_,fun y n e=>?_⟩
  · have:=hall _ hy rfl
    rw [← hfs] at this
    obtain ⟨p,hp,e⟩:=List.mem_map.mp this
    have:=(h.mem p hp).2.2.2.2
    rw [e] at this;exact this
  · have:=h.mem _ (mem_of_lookup e)
    exact ⟨this.1,this.2.1,this.2.2.1,this.2.2.2.1⟩
theorem Of.cap{sc:Scope}(o:Of F sc){x:Str}(h:sc.names.lookup x=some .cell):F.env.kindOf x≠some .local∧∃c,F.env.cells.lookup x=some c:=
  ⟨by refine b8 (o.kind h ..) ?_;decide,(by obtain ⟨c,e,_⟩:=o.cells x h;exact ⟨c,e⟩)⟩
theorem c0c(x:Str)(p:Pos):(Expr.Name x p).pos=p:=rfl
noncomputable def swF(b1 b2:Bool)(ns:List Str)(b3 b4:Bool):Sem (Option (List Str)):=do
  if b1 then return none
  if b2 then return none
  if ns.length !=2||ns.eraseDups.length !=ns.length then return none
  if b3 then return none
  if b4 then unsupported "assign.tuple-of-constant-expressions:order-of-the-stores"
  return some ns
noncomputable def swN(env:Env)(x y:Str)(l m:Nat):List Str:=[if env.kindOf x==some .local&&l==l then some x else none,if env.kindOf y==some .local&&m==l then some y else none].filterMap id
theorem swap_eq{env:Env}{x y:Str}{e₁ e₂:Expr}{xp yp tp vp:Pos}{k k':Nat} :swappedStores [.Tuple [.Name x xp,.Name y yp] k tp] (.Tuple [e₁,e₂] k' vp) env=
    swF (env.blockKind != .function) ([e₁,e₂].any fun| .Starred .. =>true|_=>false) (swN env x y xp.line yp.line) ([e₁,e₂].all (foldedForSure 8)) ([e₁,e₂].all (constantsAlone 8)):=rfl
theorem a1x{x y:Str}{e₁ e₂:Expr}{xp yp tp vp:Pos}{k k':Nat}(hx:F.env.kindOf x=some .local)(hy:F.env.kindOf y=some .local)(hxy:(y==x)=false)(hl:(yp.line==xp.line)=true)
    (h1:([e₁,e₂].any fun| .Starred .. =>true|_=>false)=false) (h2:[e₁,e₂].all (foldedForSure 8)=false) (h3:[e₁,e₂].all (constantsAlone 8)=false):
    swappedStores [.Tuple [.Name x xp,.Name y yp] k tp] (.Tuple [e₁,e₂] k' vp) F.env=pure (some [x,y]):=by
  have hn:swN F.env x y xp.line yp.line=[x,y]:=by rw [swN,hx,hy,hl,beq_self_eq_true,beq_self_eq_true];rfl
  have he:[x,y].eraseDups=[x,y]:=by
    rw [List.eraseDups_cons,List.filter_cons,hxy];rfl
  rw [swap_eq,hn,h1,h2,h3,show (F.env.blockKind != .function)=false by rw [Env.blockKind,F.hk];rfl,swF,he]
  rfl
theorem b1n{b1 b2 b3 b4:Bool}{ns:List Str}(h:(ns.length !=2)=true):swF b1 b2 ns b3 b4=pure none:=by
  rw [swF,h]
  cases b1 <;> cases b2 <;> rfl
theorem c1i{x y:Str}{e₁ e₂:Expr}{xp yp tp vp:Pos}{k k':Nat}(hx:F.env.kindOf x≠some .local):
    swappedStores [.Tuple [.Name x xp,.Name y yp] k tp] (.Tuple [e₁,e₂] k' vp) F.env=pure none:=by
  have hx':(F.env.kindOf x==some .local)=false:=beq_eq_false_iff_ne.mpr hx
  rw [swap_eq]
  refine b1n ?_
  rw [swN,hx']
  cases (F.env.kindOf y==some .local&&yp.line==xp.line) <;> rfl
theorem Ex.expr{x:Str}{args:List Expr}{np cpos pos:Pos}(h:Ev F ρ (.Call (.Name x np) args [] cpos) fun O=>N ρ):Ex F ρ (.Expr (.Call (.Name x np) args [] cpos) pos) N R:=fun X s j Q E n r=>by
  refine wpAny_Expr_any (h X s j.1 _ _ fun v d s₁ p i₁ x1a O=>?_) a1w rfl
  exact n _ _ X p (j.step i₁ x1a) (fun O h=>h) (m7.x7 j.1 x1a)
end
end
section
variable [HH:u7]
theorem j8{α:Type} :∀ {l:List α} {n:Nat},l.length=n+1→∃a r,l=a::r∧r.length=n:=by
  intro LL1
  induction LL1 with
  | nil=>
    nofun
  | cons a r ih=>
    rintro _ h
    exact ⟨a,r,rfl,Nat.succ.inj h⟩
theorem plain1{st:Stmt}{a:Str}(h0:(u6 st).defaults=[])(h:∀pm code doc u,bindArgs (K0 st pm code doc .none .none) ⟨[u],[]⟩=pure [(a,u)]):Plain st [a]:=⟨h0,fun pm code doc vs hl=>by
  obtain ⟨u,r1,rfl,e1⟩:=j8 hl
  clear hl;obtain rfl:=List.eq_nil_of_length_eq_zero e1
  exact h pm code doc u⟩
theorem plain2{st:Stmt}{a b:Str}(h0:(u6 st).defaults=[])(h:∀pm code doc u v,bindArgs (K0 st pm code doc .none .none) ⟨[u,v],[]⟩=pure [(a,u),(b,v)]):Plain st [a,b]:=⟨h0,fun pm code doc vs hl=>by
  obtain ⟨u,r1,rfl,e1⟩:=j8 hl
  clear hl;obtain ⟨v,r2,rfl,e2⟩:=j8 e1
  obtain rfl:=List.eq_nil_of_length_eq_zero e2
  exact h pm code doc u v⟩
theorem a2l{st:Stmt}{a b c:Str}(h0:(u6 st).defaults=[])(h:∀pm code doc u v w,bindArgs (K0 st pm code doc .none .none) ⟨[u,v,w],[]⟩=pure [(a,u),(b,v),(c,w)]):Plain st [a,b,c]:=⟨h0,fun pm code doc vs hl=>by
  obtain ⟨u,r1,rfl,e1⟩:=j8 hl
  clear hl;obtain ⟨v,r2,rfl,e2⟩:=j8 e1
  obtain ⟨w,r3,rfl,e3⟩:=j8 e2
  obtain rfl:=List.eq_nil_of_length_eq_zero e3
  exact h pm code doc u v w⟩
theorem c0l{st:Stmt}{a b c d:Str}(h0:(u6 st).defaults=[])(h:∀pm code doc u v w x,bindArgs (K0 st pm code doc .none .none) ⟨[u,v,w,x],[]⟩=pure [(a,u),(b,v),(c,w),(d,x)]):Plain st [a,b,c,d]:=⟨h0,fun pm code doc vs hl=>by
  obtain ⟨u,r1,rfl,e1⟩:=j8 hl
  clear hl;obtain ⟨v,r2,rfl,e2⟩:=j8 e1
  obtain ⟨w,r3,rfl,e3⟩:=j8 e2
  obtain ⟨x,r4,rfl,e4⟩:=j8 e3
  obtain rfl:=List.eq_nil_of_length_eq_zero e4
  exact h pm code doc u v w x⟩
theorem c0g{st:Stmt}{a b c d e:Str}(h0:(u6 st).defaults=[])(h:∀pm code doc u v w x y,bindArgs (K0 st pm code doc .none .none) ⟨[u,v,w,x,y],[]⟩=pure [(a,u),(b,v),(c,w),(d,x),(e,y)]):Plain st [a,b,c,d,e]:=⟨h0,fun pm code doc vs hl=>by
  obtain ⟨u,r1,rfl,e1⟩:=j8 hl
  clear hl;obtain ⟨v,r2,rfl,e2⟩:=j8 e1
  obtain ⟨w,r3,rfl,e3⟩:=j8 e2
  obtain ⟨x,r4,rfl,e4⟩:=j8 e3
  obtain ⟨y,r5,rfl,e5⟩:=j8 e4
  obtain rfl:=List.eq_nil_of_length_eq_zero e5
  exact h pm code doc u v w x y⟩
inductive Ty where
  |bool|byte|pair|enum|led|none|never
  deriving DecidableEq
noncomputable def Ty.pv:Ty→PV
  | .bool=> .tup [.str "bool"]
  | .byte=> .tup [.str "int",.str "u8"]
  | .pair=> .tup [.str "tuple",.tup [.tup [.str "bool"],.tup [.str "bool"]]]
  | .enum=> .tup [.str "adt",.str "E",.tup [],.tup []]
  | .led=> .tup [.str "ref",.none,.bool false,.tup [.str "bool"]]
  | .none=> .tup [.str "adt",.str "N",.tup [],.tup []]
  | .never=> .tup [.str "never"]
set_option genSizeOf true in
inductive c7 where
  |i7 (t:Ty)
  |cb (b:Bool)
  |ci (i:Int)
  |rg (lo hi:Int)
  |pr (p q:c7)
  |v0
  |v1 (p:c7)
  |df (p:c7)
  |b0 (t:Ty) (n:Int)
  |bp (t:Ty) (n:Int) (p:c7)
  |or (t:Ty) (p q:c7)
noncomputable def c7.pv:c7→PV
  | .i7 t=> .tup [.str "wild",t.pv]
  | .cb b=> .tup [.str "const",Ty.bool.pv,.bool b]
  | .ci i=> .tup [.str "const",Ty.byte.pv,.int i]
  | .rg lo hi=> .tup [.str "range",Ty.byte.pv,.int lo,.int hi]
  | .pr p q=> .tup [.str "fields",Ty.pair.pv,.tup [p.pv,q.pv]]
  | .v0=> .tup [.str "variant",Ty.enum.pv,.int 0,.tup []]
  | .v1 p=> .tup [.str "variant",Ty.enum.pv,.int 1,.tup [p.pv]]
  | .df p=> .tup [.str "deref",Ty.led.pv,p.pv]
  | .b0 t n=> .tup [.str "bind",t.pv,.int n,.str "copy",.none]
  | .bp t n p=> .tup [.str "bind",t.pv,.int n,.str "copy",p.pv]
  | .or t p q=> .tup [.str "or",t.pv,.tup [p.pv,q.pv]]
noncomputable def c7.bare:c7→c7
  | .b0 t _=> .i7 t
  | .bp _ _ p=>p.bare
  |p=>p
end
section
open PySem.Calls
noncomputable def srcOf:Expr→Option Src:=
  J1 (fun O=>none) (fun y p'=>some (.par y p')) (fun O O O=>none) (fun O O O=>none) (fun O O O=>none) (fun l p'=>match l with
    |[]=>some (.lst p')
    |_=>none) (fun O O O=>none) (fun O O O O=>none) (fun O O O O=>none) (fun O O O O=>none) (fun O O O=>none) (fun O O O O=>none) (fun O O O O=>none) (fun O O O=>none) (fun O O O O=>none) (fun k v p'=>match k,v with
    |[],[]=>some (.dct p')
    |_,_=>none)
noncomputable def B6.of:Stmt→Option B6:=
  c7q (fun O=>none) (fun O O O O O O O O O O=>none) (fun O O O O O O O O O O O=>none) (fun O O O O=>none) (fun O O=>none) (fun ts e r=>match ts with
    |[t]=>b1k (fun O=>none) (fun v n q=>E4 (fun O=>none) (fun O p=>(srcOf e).map fun s=>⟨n,s,p,q,r⟩) v) t
    |_=>none) (fun O O=>none) (fun O O O O=>none) (fun O O O O O=>none)
noncomputable def c3v(st:Stmt):List Stmt:=
  c7q (fun O=>[]) (fun O O O O O O O O O O=>[]) (fun O O O b O O O O O O O=>b) (fun O O O O=>[]) (fun O O=>[]) (fun O O O=>[]) (fun O O=>[]) (fun O O O O=>[]) (fun O O O O O=>[]) st
noncomputable def a0w(n:Nat):List B6:=(B4 ((c3v (i9 n)).getD 0 (.Pass ⟨0,0,0,0⟩))).filterMap B6.of
noncomputable def fdOf(P:Params)(a:Addr):FuncData:=match (t9 P).lookup a with
  |some ⟨_,_,.func fd,_⟩=>fd
  |_=>Calls.docDef "" (u6 (i9 0)) [] (r7 (i9 0)) .none .none .none
noncomputable def b1h(l:List B6)(ps:List Str):Bool:=l.all fun i=>match i.v with
  | .par y _=>ps.contains y&&!(y==("__debug__":Str))
  |_=>true
theorem b1h.all{l:List B6}{ps:List Str}(h:b1h l ps=true)(i:B6)(hi:i∈l)(y:Str)(p:Pos)(e:i.v= .par y p):y∈ps∧(y==("__debug__":Str))=false:=by
  have:=List.all_eq_true.mp h i hi
  rw [e] at this
  rw [Bool.and_eq_true,Bool.not_eq_true',List.contains_iff_mem] at this
  exact this
theorem d1f(P:Params):c4c (t9 P) 275 265 (fdOf P 265) (a0w 44) ["self","modules"] where
  mro:=⟨_,rfl,rfl,rfl,fun O=>rfl,by decide⟩
  set:=by kernel_rfl
  made:=by kernel_rfl
  init:=by kernel_rfl
  fn:=by kernel_rfl
  c5z:=⟨_,rfl,rfl⟩
  code:=⟨264,_,_,_,rfl,rfl,rfl,rfl⟩
  body:=by kernel_rfl
  nms:=fun i hi=>beq_iff_eq.mp (List.all_eq_true.mp (show ((a0w 44).all fun i=>findIn (t9 P) (.ref 275) i.n==some none)=true by kernel_rfl) i hi)
  nd:=by rw [show (a0w 44).map (·.n)=[("modules":Str),"adts","variants","sigs","traits","impls","consts","bodies"] by kernel_rfl];decide
  len:=by rw [show (a0w 44).length=8 by kernel_rfl];decide
  c9h:=b1h.all (by kernel_rfl)
  sc:=by kernel_rfl
  self:=rfl
theorem d0z(P:Params):c4c (t9 P) 246 243 (fdOf P 243) (a0w 43) ["self","path","regions","params","variants","is_enum","module","publics"] where
  mro:=⟨_,rfl,rfl,rfl,fun O=>rfl,by decide⟩
  set:=by kernel_rfl
  made:=by kernel_rfl
  init:=by kernel_rfl
  fn:=by kernel_rfl
  c5z:=⟨_,rfl,rfl⟩
  code:=⟨242,_,_,_,rfl,rfl,rfl,rfl⟩
  body:=by kernel_rfl
  nms:=fun i hi=>beq_iff_eq.mp (List.all_eq_true.mp (show ((a0w 43).all fun i=>findIn (t9 P) (.ref 246) i.n==some none)=true by kernel_rfl) i hi)
  nd:=by rw [show (a0w 43).map (·.n)=[("path":Str),"module","regions","params","variants","publics","is_enum"] by kernel_rfl];decide
  len:=by rw [show (a0w 43).length=7 by kernel_rfl];decide
  c9h:=b1h.all (by kernel_rfl)
  sc:=by kernel_rfl
  self:=rfl
section
variable{prog:Program}{w:World}{A:Around}{h:Heap}{g:Array GenState}{d:PySem.Drawn}{t:Nat}{os:OsState}{R:Result→Shared→Prop}
theorem b2p(X:(t9 w.params).In h)(hlim:h.NoLimit)(hroom:A.depth+2<recursionLimit)
    (hq:∀x dx ad h' tk mA,(∀b o,h.get? b=some o→h'.get? b=some o)→h.get? x=none→h.get? dx=none→h.get? ad=none→ad≠x→M0 h' x dx 275 mA→mA "adts"=some (.ref ad)→h'.get? ad=some emptyDict→R (.ok (.ret (.ref x))) ⟨h',g,d,tk,os⟩):
    codeAny (model prog w) A (.call (.ref 275) ⟨[.none],[]⟩) R ⟨h,g,d,t,os⟩:=by
  refine b1e (bs:=[("modules",.none)]) (d1f w.params) X hlim hroom rfl (by decide) (fun s x X=>binds_K (T:=258) X rfl rfl rfl rfl (by kernel_rfl)) fun x dx h' tk mA hk nx nd I hl=>?_
  have hm:∃i∈a0w 44,i.n=("adts":Str)∧∃p,i.v= .dct p:=⟨_,.tail _ (.head _),rfl,_,rfl⟩
  obtain ⟨i,hi,e,p,e2⟩:=hm
  have:=hl i hi
  rw [e2,e] at this
  obtain ⟨a,a1,a2,a3,a4⟩:=this
  exact hq x dx a h' tk mA hk nx nd a2 a4 I a1 a3
theorem b8r{v1 v2 v3 v4 v5:Value}(X:(t9 w.params).In h)(hlim:h.NoLimit)(hroom:A.depth+2<recursionLimit)
    (hq:∀x dx h' tk mA,(∀b o,h.get? b=some o→h'.get? b=some o)→h.get? x=none→h.get? dx=none→M0 h' x dx 246 mA→mA "regions"=some v2→mA "params"=some v3→mA "variants"=some v4→mA "is_enum"=some v5→R (.ok (.ret (.ref x))) ⟨h',g,d,tk,os⟩):
    codeAny (model prog w) A (.call (.ref 246) ⟨[v1,v2,v3,v4,v5],[]⟩) R ⟨h,g,d,t,os⟩:=by
  refine b1e (bs:=[("path",v1),("regions",v2),("params",v3),("variants",v4),("is_enum",v5),("module",.str "" 514),("publics",.ref 235)]) (d0z w.params) X hlim hroom rfl (by decide)
    (fun s x X=>binds_K (T:=236) X rfl rfl rfl rfl (by kernel_rfl)) fun x dx h' tk mA hk nx nd I hl=>?_
  have get:∀(n:Str) v,(∃i∈a0w 43,i.n=n∧∃p,i.v= .par n p)→n≠"self"→List.lookup n [(("path":Str),v1),("regions",v2),("params",v3),("variants",v4),("is_enum",v5),("module",.str "" 514),("publics",.ref 235)]=some v→mA n=some v:=fun n v ⟨i,hi,e,p,e2⟩ hn hv=>by
    have:=hl i hi
    rw [e2] at this
    rcases this with this|this
    · exact absurd this hn
    · rw [e] at this;exact this.trans hv
  exact hq x dx h' tk mA hk nx nd I (get _ _ ⟨_,.tail _ (.tail _ (.head _)),rfl,_,rfl⟩ (by decide) rfl) (get _ _ ⟨_,.tail _ (.tail _ (.tail _ (.head _))),rfl,_,rfl⟩ (by decide) rfl) (get _ _ ⟨_,.tail _ (.tail _ (.tail _ (.tail _ (.head _)))),rfl,_,rfl⟩ (by decide) rfl) (get _ _ ⟨_,.tail _ (.tail _ (.tail _ (.tail _ (.tail _ (.tail _ (.head _)))))),rfl,_,rfl⟩ (by decide) rfl)
end
end
section
variable [HH:u7]
structure a4s(F:Fm)(X:Addr→Prop)(s₁:Shared)(I:Addr)(l:List (PV×PV))(St:Nat→Heap→Prop)(Mid:Nat→Addr→Heap→Prop)(T:Addr→Prop):Prop where
  frame:∀i h h',St i h→(∀b o,T b→h.get? b=some o→h'.get? b=some o)→St i h'
  there:∀i h b,St i h→T b→∃o,h.get? b=some o
  item:∀i d (s:Shared) (Q:Option Value→Shared→Prop) (E:Value→Shared→Prop),l[i]?=some d→St i s.heap→
    (∀v1a v2a P h' tk,IsTup h' P [v1a,v2a].toArray→(T P→∃o',s₁.heap.get? P=some o')→Mid i P h'→(∀b o,(T b→∃o',s₁.heap.get? b=some o')→s.heap.get? b=some o→h'.get? b=some o)→
      Rep X s₁.heap v1a d.1→Rep X s₁.heap v2a d.2→Q (some (.ref P)) {s with heap:=h',toks:=tk})→wpAny (model F.C.prog F.C.w) F.A (pyNext (.ref I)) Q E s
  go:∀(elts:List Expr) (k:Nat) (pos:Pos) i P (s:Shared) (Q:Unit→Shared→Prop) (E:Value→Shared→Prop),Mid i P s.heap→
    (∀h',St (i+1) h'→(∀b o,(T b→∃o',s₁.heap.get? b=some o')→s.heap.get? b=some o→h'.get? b=some o)→Q () {s with heap:=h'})→wpAny (model F.C.prog F.C.w) F.A (letOwnedTupleGo (.Tuple elts k pos) (.ref I) (.ref P)) Q E s
  done:∀(s:Shared) (Q:Option Value→Shared→Prop) (E:Value→Shared→Prop),St l.length s.heap→
    (∀h' tk,(∀b o,(T b→∃o',s₁.heap.get? b=some o')→s.heap.get? b=some o→h'.get? b=some o)→Q none {s with heap:=h',toks:=tk})→wpAny (model F.C.prog F.C.w) F.A (pyNext (.ref I)) Q E s
  self:∀i (s:Shared) (Q:Value→Shared→Prop) (E:Value→Shared→Prop),St i s.heap→Q (.ref I) s→wpAny (model F.C.prog F.C.w) F.A (pyIter (.ref I)) Q E s
noncomputable def Co2(F:Fm)(ρc:b9)(x y:Str)(ifs:List Expr)(elt:Expr)(PL:List PV→Prop):List (PV×PV)→List PV→Prop
  |[],out=>PL out
  |(a,b)::ds,out=>A9 F ((y,.val b)::(x,.val a)::ρc) (fun t=>Br t (Ev F ((y,.val b)::(x,.val a)::ρc) elt fun r=>Co2 F ρc x y ifs elt PL ds (out++[r])) (Co2 F ρc x y ifs elt PL ds out)) ifs
section
variable{F:Fm}{ρ ρc:b9}{sc:Scope}{d:m5 F sc}{X X':Addr→Prop}{s₁:Shared}{D:Addr}
noncomputable abbrev ts2 (x y:Str) (p:PV×PV):List (Str×PV):=[(y,p.2),(x,p.1)]
theorem c8h{I0:Addr}{l:List (PV×PV)}{St:Nat→Heap→Prop}{Mid:Nat→Addr→Heap→Prop}{T:Addr→Prop}{x y:Str}{xp yp tp:Pos}{kk:Nat}(k:CC F sc X ρ ρc s₁ d D X')(it:a4s F X s₁ I0 l St Mid T)(ti:TI F s₁ D X X' T)(hx:sc.names.lookup x=some .local)(hy:sc.names.lookup y=some .local)
    (n:Nat) (a:PV×PV) (out:List PV) (s':Shared) (hn:l[n]?=some a) (t:CT F sc s₁ d D X' [] out s') (st:St n s'.heap) (Q:Unit→Shared→Prop) (Rn:Shared→Prop) (E:Value→Shared→Prop) (q:∀s₄,CT F sc s₁ d D X' (ts2 x y a) out s₄→St (n+1) s₄.heap→Q () s₄):
    wpAny (model F.C.prog F.C.w) F.A (pyNext (.ref I0)) (fun r s₁=>match r with
        |none=>Rn s₁
        |some v=>wpAny (model F.C.prog F.C.w) F.A (letOwnedTupleGo (.Tuple [.Name x xp,.Name y yp] kk tp) (.ref I0) v) (fun O s₂=>wpAny (model F.C.prog F.C.w) F.A (PySem.assign (.Tuple [.Name x xp,.Name y yp] kk tp) d.fm.env v) Q E s₂) E s₁) E s':=by
  refine it.item n a s' _ _ hn st fun v1a v2a Pt h₁ tk htup hTP mid kp1 rv1 rv2=>?_
  refine it.go _ _ _ n Pt _ _ _ mid fun h₂ st2a kp2=>?_
  refine assign_Tuple_tuple (s:= {s' with heap:=h₂,toks:=tk}) (items:=[v1a,v2a].toArray) F.hA ((by obtain ⟨o,e,r⟩:=htup;exact ⟨o,kp2 Pt o hTP e,r⟩)) rfl rfl fun h₃ e₃=>?_
  have kq:∀b o,h₂.get? b=some o→h₃.get? b=some o:=fun b o z=>e₃ b o (Nat.ne_of_lt (Heap.lt_size z)) z
  have kp3:∀b o,(T b→∃o',s₁.heap.get? b=some o')→s'.heap.get? b=some o→h₃.get? b=some o:=fun b o hb e=>kq b o (kp2 b o hb (kp1 b o hb e))
  have t3a:CT F sc s₁ d D X' [] out {s' with heap:=h₃,toks:=tk} :=t.keep k (ti.le kp3) (fun b o ex e=>kp3 b o (fun O=>ex) e) (fun b hb=>by
    by_cases tb:T b
    · exact (it.there _ _ b st2a tb).imp fun o e=>kq b o e
    · exact (t.d8 b hb).imp fun o e=>kp3 b o (fun z=>absurd z tb) e) (t.acc.imp fun vs h=>⟨h.1.at fun o e=>kp3 D o (fun z=>absurd rfl (ti.d D z)) e,h.2.le (ti.le kp3)⟩)
  have st3a:St (n+1) h₃:=it.frame _ _ _ st2a fun b o O e=>kq b o e
  have off:∀ {x:Str} {h h':Heap} {v:Value} {M b:Addr} {ts:List (Str×PV)} {s:Shared},sc.names.lookup x=some .local→CT F sc s₁ d D X' ts out s→C1 d.fm s.heap h' x v M→T b→b≠M:=fun hx t z tb q=>z.off (t.i k) (q▸ti.x _ tb (q▸k.c7k (.inl hx) z.at_))
  show wpAny _ _ (assignInOrder [PySem.assign (.Name x xp) d.fm.env,PySem.assign (.Name y yp) d.fm.env] [v1a,v2a]) _ _ _
  refine wpAny_assignInOrder_more (wpAny_assign_Name (k9 (t3a.i k) (d.sto (.inl hx)) fun h4a tk4 M z=>?_))
  have t₄:=t3a.store (tk:=tk4) k (.inl hx) (k.up t3a.ext rv1) z
  refine wpAny_assignInOrder_more (wpAny_assign_Name (k9 (t₄.i k) (d.sto (.inl hy)) fun h5a tk5 M' z'=>wpAny_assignInOrder_none ?_))
  exact q _ (t₄.store k (.inl hy) (k.up t₄.ext rv2) z') (it.frame _ _ _ (it.frame _ _ _ st3a fun b o tb e=>(z.same.2 b (off (h:=h4a) hx t3a z tb)).trans e) fun b o tb e=>(z'.same.2 b (off (h:=h4a) hy t₄ z' tb)).trans e)
theorem c4y{h₁:Heap}{I0:Addr}{l:List (PV×PV)}{St:Nat→Heap→Prop}{Mid:Nat→Addr→Heap→Prop}{T:Addr→Prop}{x y:Str}{elt iter:Expr}{ifs:List Expr}{pos xp yp tp:Pos}{kk:Nat}{PL:List PV→Prop}(i:I F X ρ s₁)(c:c6 F sc ρ ρc)(nw:a8l F sc)(hkind:sc.kind= .function)(hx:sc.names.lookup x=some .local)(hy:sc.names.lookup y=some .local)
    (hk:∀b o,s₁.heap.get? b=some o→h₁.get? b=some o) (it:a4s F X s₁ I0 l St Mid T) (hT:∀b,T b→(∃o,h₁.get? b=some o)∧¬F.C.G b) (st:St 0 h₁) (hz:l.length≤sizeLine) (p:∀d:m5 F sc,Co2 d.fm ρc x y ifs elt PL l []):a3b F X s₁ h₁ (.ref I0) (.ListComp elt [⟨.Tuple [.Name x xp,.Name y yp] kk tp,iter,ifs,0⟩] sc pos) sc PL:=
  a6w i c nw hkind hk hT (fun d D X' s' k t up ti R fin=>a8t (tsOf:=ts2 x y) (Pend:=fun r out=>Co2 d.fm ρc x y ifs elt PL r out) (St:=St) k hz (c8h k it ti hx hy)
      (fun out s' t st Q E q=>it.done s' Q E st fun h₃ tk3 kp3=>q _ (t.done k (ti.le kp3) (fun b o ex e=>kp3 b o (fun O=>ex) e) fun o e=>kp3 D o (fun z=>absurd rfl (ti.d D z)) e))
      (fun n s s'' st x=>it.frame _ _ _ st fun b o t e=>x.le b o (ti.g b t) e) (fun n h h' st kp=>it.frame _ _ _ st fun b o t e=>kp b o (ti.d b t) e) (fun a r out p=>p) fin t (it.frame _ _ _ st fun b o t e=>up b o e) (p d))
    fun s Q E up q=>it.self 0 s Q E (it.frame _ _ _ st fun b o t e=>up b o e) q
end
end
section
section
variable{prog:Program}{w:World}{A:Around}{E:Value→Shared→Prop}{s:Shared}
theorem a1o{it t:Addr}{i:Nat}{items:Array Value}{x:Value}{Q:Value→Shared→Prop}(hit:s.heap.IsTupleIter it t i)(ht:s.heap.IsTuple t items)(hx:items[i]?=some x)
    (hQ:∀h',h'.IsTupleIter it t (i+1)→Heap.SameBut it s.heap h'→Q x {s with heap:=h'}):wpAny (model prog w) A (Builtin.SmallTypes.nextOf (.ref it)) Q E s:=by
  obtain ⟨o,ho,hc,hd⟩:=id hit
  obtain ⟨ol,hol,_,nl,hdl⟩:=ht
  unfold Builtin.SmallTypes.nextOf
  refine wpAny_bind (wpAny_callSpecial?_slot (name:=Str.ofString "__next__") hit.typeIs PySem.F.slot_tuple_iterator_next
    (wpAny_call_entry PySem.F.slot_tuple_iterator_next hit.typeIs PySem.F.entry_tuple_iterator_next ?_ (PySem.F.args_tuple_iterator_next_1 _)))
  show wpAny _ _ (field (.ref it) 0>>=_) _ _ s
  refine wpAny_bind (wpAny_field ho hd (x:= .ref t) rfl ?_)
  show wpAny _ _ (if (Value.ref t==Value.none)=true then _ else _) _ _ s
  refine b8 (if_neg (show¬((Value.ref t==Value.none)=true) from Bool.false_ne_true) ..) ?_
  show wpAny _ _ (field (.ref it) 1>>=_) _ _ s
  refine wpAny_bind (wpAny_field ho hd (x:= .int i 0) rfl ?_)
  show wpAny _ _ (seqItems? (.ref t)>>=_) _ _ s
  refine wpAny_bind (wpAny_seqItems hol hdl ?_)
  simp only [Int.toNat_natCast,hx]
  refine wpAny_bind (wpAny_setField ho hd (by simp) (wpAny_pure ⟨x,rfl,wpAny_pure (hQ _ ?_ (Heap.SameBut.update ..))⟩))
  exact ⟨_,Heap.get?_update_self _ ho (Obj.isFreed_of_fields (Obj.data_mapFields hd _)),(Obj.cls_mapFields ..).trans hc,by refine b8 (Obj.data_mapFields hd ..) ?_;simp [rawInt]⟩
theorem a5m{it t:Addr}{i:Nat}{items:Array Value}{Q:Value→Shared→Prop}(hh:A.handled=none)(hit:s.heap.IsTupleIter it t i)(ht:s.heap.IsTuple t items)(hx:items[i]?=none)
    (hE:∀h' e,Heap.ExtBut it s.heap h'→(∃o,h'.get? e=some o∧o.cls= .type "StopIteration")→E (.ref e) {s with heap:=h'}):wpAny (model prog w) A (Builtin.SmallTypes.nextOf (.ref it)) Q E s:=by
  obtain ⟨o,ho,hc,hd⟩:=id hit
  obtain ⟨ol,hol,_,nl,hdl⟩:=ht
  unfold Builtin.SmallTypes.nextOf
  refine wpAny_bind (wpAny_callSpecial?_slot (name:=Str.ofString "__next__") hit.typeIs PySem.F.slot_tuple_iterator_next
    (wpAny_call_entry PySem.F.slot_tuple_iterator_next hit.typeIs PySem.F.entry_tuple_iterator_next ?_ (PySem.F.args_tuple_iterator_next_1 _)))
  show wpAny _ _ (field (.ref it) 0>>=_) _ _ s
  refine wpAny_bind (wpAny_field ho hd (x:= .ref t) rfl ?_)
  show wpAny _ _ (if (Value.ref t==Value.none)=true then _ else _) _ _ s
  refine b8 (if_neg (show¬((Value.ref t==Value.none)=true) from Bool.false_ne_true) ..) ?_
  show wpAny _ _ (field (.ref it) 1>>=_) _ _ s
  refine wpAny_bind (wpAny_field ho hd (x:= .int i 0) rfl ?_)
  show wpAny _ _ (seqItems? (.ref t)>>=_) _ _ s
  refine wpAny_bind (wpAny_seqItems hol hdl ?_)
  simp only [Int.toNat_natCast,hx]
  refine wpAny_bind (wpAny_rule (wpAny_bind (wpAny_setField ho hd (by simp) ?_)))
  show wpAny _ _ (newExc (.type "StopIteration") []>>=_) _ _ _
  refine wpAny_bind ?_
  simp only [newExc,newTuple]
  refine wpAny_bind (wpAny_newObj_type ?_ (by size_fits))
  refine wpAny_bind (m:=firstArgMember _ _) (wpAny_of_eq (a:=Value.none) (by first|rfl|(simp only [firstArgMember];rfl)) ?_)
  refine wpAny_newObj_type ?_ (by size_fits)
  rw [raiseNew]
  refine wpAny_bind (wpAny_handled ?_)
  first|refine b8 (show A.in1.handled=none from hh ..) ?_|rw [hh]
  refine wpAny_bind (wpAny_pure (wpAny_throw ?_))
  exact hE _ _ (((Heap.SameBut.update ..).extBut.push _).push _) ⟨_,Heap.get?_push_size _ rfl,rfl⟩
structure F6(z TI TO i1 i2 t1 t2:Addr)(us vs:Array Value)(f0:Value)(h:Heap):Prop where
  hz:IsZip h z TI TO f0
  hTI:IsPair h TI (.ref i1) (.ref i2)
  hTO:∃a b,IsPair h TO a b
  ht1:h.IsTuple t1 us
  K9:h.IsTuple t2 vs
theorem b4t{z TI TO i1 i2 t1 t2:Addr}{k:Nat}{us vs:Array Value}{x y:Value}{Q:Option Value→Shared→Prop}(D:ZipApart z TI TO i1 i2 t1 t2)(Z:F6 z TI TO i1 i2 t1 t2 us vs .none s.heap)
    (h1:s.heap.IsTupleIter i1 t1 k) (h2:s.heap.IsTupleIter i2 t2 k) (hx:us[k]?=some x) (hy:vs[k]?=some y)
    (hQ:∀h',F6 z TI TO i1 i2 t1 t2 us vs (rawInt s.heap.objs.size) h'→h'.IsTupleIter i1 t1 (k+1)→h'.IsTupleIter i2 t2 (k+1)→IsPair h' s.heap.objs.size x y→
      (∀c o,c≠z→c≠TO→c≠i1→c≠i2→s.heap.get? c=some o→h'.get? c=some o)→Q (some (.ref s.heap.objs.size)) {s with heap:=h'}):
    wpAny (model prog w) A (pyNext (.ref z)) Q E s:=by
  obtain ⟨hz,hTI,⟨a,b,hTO⟩,ht1,K9⟩:=Z
  have hT:s.TypeIs (.ref z) "zip":=⟨_,hz,rfl⟩
  unfold pyNext
  refine wpAny_bind (wpAny_attempt (wpAny_callSpecial?_slot (name:=Str.ofString "__next__") hT PySem.F.slot_zip_next (wpAny_call_entry PySem.F.slot_zip_next hT PySem.F.entry_zip_next ?_ (PySem.F.args_zip_next_1 _))))
  show wpAny _ _ (field (.ref z) 2>>=_) _ _ _
  refine wpAny_bind (wpAny_field hz rfl (x:= .bool false) rfl ?_)
  show wpAny _ _ (field (.ref z) 3>>=_) _ _ _
  refine wpAny_bind (wpAny_field hz rfl (x:= .ref TI) rfl ?_)
  refine wpAny_bind (wpAny_seqItems hTI rfl ?_)
  show wpAny _ _ (Builtin.SmallTypes.ownedTupleIsFree (.ref z)>>=_) _ _ _
  refine wpAny_bind ?_
  unfold Builtin.SmallTypes.ownedTupleIsFree
  refine wpAny_bind (wpAny_field hz rfl (x:= .none) rfl (wpAny_pure ?_))
  rw [if_pos rfl]
  refine wpAny_bind (wpAny_rule ?_)
  refine wpAny_bind (wpAny_field hz rfl (x:= .ref TO) rfl ?_)
  refine wpAny_bind (wpAny_setField_rec hz (by exact Nat.le_add_left _ _) fun h₁ hz1a hs1a=>?_)
  replace hz1a:IsZip h₁ z TI TO .ellipsis:=hz1a
  refine wpAny_bind ?_
  rw [List.zipIdx_cons,List.zipIdx_cons,List.zipIdx_nil,List.forIn_cons]
  refine wpAny_bind (wpAny_bind (wpAny_onRaise ?_))
  show wpAny _ _ (Builtin.SmallTypes.nextOf (.ref i1)>>=_) _ _ _
  refine wpAny_bind (a1o (h1.extBut hs1a.extBut D.i1z) (ht1.extBut hs1a.extBut D.l1z) hx fun h₂ h12a hs2a=>wpAny_pure ?_)
  have hTO2:IsPair h₂ TO a b:=hs2a.extBut _ _ D.TOi1 (hs1a.extBut _ _ D.TOz hTO)
  refine wpAny_bind (wpAny_seqItems hTO2 rfl ?_)
  refine wpAny_bind (wpAny_updateSeq_pair hTO2 fun h₃ hTO3 hs3=>?_)
  replace hTO3:IsPair h₃ TO x b:=hTO3
  as_aux_lemma=>
  refine wpAny_bind (wpAny_letGo (wpAny_pure ?_))
  refine wpAny_bind (wpAny_bind (wpAny_onRaise ?_))
  show wpAny _ _ (Builtin.SmallTypes.nextOf (.ref i2)>>=_) _ _ _
  refine wpAny_bind (a1o (((h2.extBut hs1a.extBut D.i2z).extBut hs2a.extBut D.i12.symm).extBut hs3.extBut D.TOi2.symm)
    (((K9.extBut hs1a.extBut D.l2z).extBut hs2a.extBut D.l2i1).extBut hs3.extBut D.l2TO) hy fun h4a h24 hs4=>wpAny_pure ?_)
  have hTO4:IsPair h4a TO x b:=hs4.extBut _ _ D.TOi2 hTO3
  refine wpAny_bind (wpAny_seqItems hTO4 rfl ?_)
  refine wpAny_bind (wpAny_updateSeq_pair hTO4 fun h5a hTO5 hs5=>?_)
  replace hTO5:IsPair h5a TO x y:=hTO5
  refine wpAny_bind (wpAny_letGo (wpAny_pure (wpAny_pure ?_)))
  refine wpAny_bind (wpAny_seqItems hTO5 rfl ?_)
  refine wpAny_bind (wpAny_newTuple ?_)
  have hsz:h5a.objs.size=s.heap.objs.size:=by rw [hs5.1,hs4.1,hs3.1,hs2a.1,hs1a.1]
  have k5a:∀c o,c≠z→c≠TO→c≠i1→c≠i2→s.heap.get? c=some o→h5a.get? c=some o:=fun c o c1 c2 c3 c4 e=>
    hs5.extBut _ _ c2 (hs4.extBut _ _ c4 (hs3.extBut _ _ c2 (hs2a.extBut _ _ c3 (hs1a.extBut _ _ c1 e))))
  have hz5:IsZip h5a z TI TO .ellipsis:=hs5.extBut _ _ D.TOz.symm (hs4.extBut _ _ D.i2z.symm (hs3.extBut _ _ D.TOz.symm (hs2a.extBut _ _ D.i1z.symm hz1a)))
  have h15:h5a.IsTupleIter i1 t1 (k+1):=((h12a.extBut hs3.extBut D.TOi1.symm).extBut hs4.extBut D.i12).extBut hs5.extBut D.TOi1.symm
  have h25:h5a.IsTupleIter i2 t2 (k+1):=h24.extBut hs5.extBut D.TOi2.symm
  have hzlt:z<h5a.objs.size:=Heap.lt_size hz5
  have hi1lt:i1<h5a.objs.size:=by obtain ⟨_,e,_⟩:=h15;exact Heap.lt_size e
  have hi2lt:i2<h5a.objs.size:=by obtain ⟨_,e,_⟩:=h25;exact Heap.lt_size e
  show wpAny _ _ (Builtin.SmallTypes.ownedTupleHandOut (.ref z) (.ref h5a.objs.size)>>=_) _ _ _
  refine wpAny_bind ?_
  unfold Builtin.SmallTypes.ownedTupleHandOut
  have hz6:IsZip (h5a.push {cls:= .type "tuple",data:= .seq #[x,y]}) z TI TO .ellipsis:=Heap.get?_push_of_some _ hz5
  refine wpAny_bind (wpAny_setField_rec hz6 (by exact Nat.le_add_left _ _) fun h7a hz7 hs7=>?_)
  replace hz7:IsZip h7a z TI TO (rawInt h5a.objs.size):=hz7
  refine wpAny_setField_rec hz7 (by exact Nat.le_add_left _ _) fun h8a hz8 hs8=>?_
  replace hz8:IsZip h8a z TI TO (rawInt h5a.objs.size):=hz8
  have up:∀c o,c≠z→h5a.get? c=some o→h8a.get? c=some o:=fun c o c1 e=>hs8.extBut _ _ c1 (hs7.extBut _ _ c1 (Heap.get?_push_of_some _ e))
  have hP:IsPair h8a h5a.objs.size x y:=hs8.extBut _ _ (Nat.ne_of_gt hzlt) (hs7.extBut _ _ (Nat.ne_of_gt hzlt) (Heap.get?_push_size _ rfl))
  rw [hsz] at hP hz8 ⊢
  refine wpAny_pure ⟨_,rfl,wpAny_pure (hQ h8a ⟨hz8,up _ _ D.TIz (k5a _ _ D.TIz D.TITO D.TIi1 D.TIi2 hTI),⟨x,y,up _ _ D.TOz hTO5⟩,?_,?_⟩ ?_ ?_ hP fun c o c1 c2 c3 c4 e=>up c o c1 (k5a c o c1 c2 c3 c4 e))⟩
  · obtain ⟨o,e,r⟩:=ht1;exact ⟨o,up _ _ D.l1z (k5a _ _ D.l1z D.l1TO D.l1i1 D.l1i2 e),r⟩
  · obtain ⟨o,e,r⟩:=K9;exact ⟨o,up _ _ D.l2z (k5a _ _ D.l2z D.l2TO D.l2i1 D.l2i2 e),r⟩
  · obtain ⟨o,e,r⟩:=h15;exact ⟨o,up _ _ D.i1z e,r⟩
  · obtain ⟨o,e,r⟩:=h25;exact ⟨o,up _ _ D.i2z e,r⟩
theorem b1m{z TI TO i1 i2 t1 t2:Addr}{k:Nat}{us vs:Array Value}{Q:Option Value→Shared→Prop}(hh:A.handled=none)(D:ZipApart z TI TO i1 i2 t1 t2)(Z:F6 z TI TO i1 i2 t1 t2 us vs .none s.heap)
    (h1:s.heap.IsTupleIter i1 t1 k) (h2:s.heap.IsTupleIter i2 t2 k) (hend:us[k]?=none)
    (hQ:∀h',(∀c o,c≠z→c≠TO→c≠i1→c≠i2→s.heap.get? c=some o→h'.get? c=some o)→Q none {s with heap:=h'}):wpAny (model prog w) A (pyNext (.ref z)) Q E s:=by
  obtain ⟨hz,hTI,⟨a,b,hTO⟩,ht1,K9⟩:=Z
  have hT:s.TypeIs (.ref z) "zip":=⟨_,hz,rfl⟩
  have key:∀h' e,(∀c o,c≠z→c≠TO→c≠i1→c≠i2→s.heap.get? c=some o→h'.get? c=some o)→(∃o,h'.get? e=some o∧o.cls= .type "StopIteration")→
      wpAny (model prog w) A (do if ← isInstance (.ref e) (.type "StopIteration") then pure none else throw (.ref e)) Q E {s with heap:=h'} :=fun h' e hk ⟨o,ho,hc⟩=>
    wpAny_bind (wpAny_isInstance (T:="StopIteration") (b:=true) ⟨o,ho,hc⟩ isSubtype_stop (wpAny_pure (hQ _ hk)))
  unfold pyNext
  refine wpAny_bind (wpAny_attempt (wpAny_callSpecial?_slot (name:=Str.ofString "__next__") hT PySem.F.slot_zip_next (wpAny_call_entry PySem.F.slot_zip_next hT PySem.F.entry_zip_next ?_ (PySem.F.args_zip_next_1 _))))
  show wpAny _ _ (field (.ref z) 2>>=_) _ _ _
  refine wpAny_bind (wpAny_field hz rfl (x:= .bool false) rfl ?_)
  show wpAny _ _ (field (.ref z) 3>>=_) _ _ _
  refine wpAny_bind (wpAny_field hz rfl (x:= .ref TI) rfl ?_)
  refine wpAny_bind (wpAny_seqItems hTI rfl ?_)
  show wpAny _ _ (Builtin.SmallTypes.ownedTupleIsFree (.ref z)>>=_) _ _ _
  refine wpAny_bind ?_
  unfold Builtin.SmallTypes.ownedTupleIsFree
  refine wpAny_bind (wpAny_field hz rfl (x:= .none) rfl (wpAny_pure ?_))
  refine b8 (if_pos rfl ..) ?_
  refine wpAny_bind (wpAny_rule ?_)
  refine wpAny_bind (wpAny_field hz rfl (x:= .ref TO) rfl ?_)
  refine wpAny_bind (wpAny_setField_rec hz (by simp) fun h₁ hz1a hs1a=>?_)
  replace hz1a:IsZip h₁ z TI TO .ellipsis:=hz1a
  refine wpAny_bind ?_
  refine b8 (List.zipIdx_cons ..) (b8 (List.zipIdx_cons ..) (b8 (List.zipIdx_nil ..) (b8 (List.forIn_cons ..) ?_)))
  refine wpAny_bind (wpAny_bind (wpAny_onRaise ?_))
  show wpAny _ _ (Builtin.SmallTypes.nextOf (.ref i1)>>=_) _ _ _
  refine wpAny_bind (a5m hh (h1.extBut hs1a.extBut D.i1z) (ht1.extBut hs1a.extBut D.l1z) hend fun h₂ e hs2a he=>?_)
  clear hQ hz hT;obtain ⟨oe,hoe,hce⟩:=he
  have hz2a:IsZip h₂ z TI TO .ellipsis:=hs2a _ _ D.i1z.symm hz1a
  have hez:e≠z:=fun x=>by subst x;rw [hz2a] at hoe;cases hoe;simp at hce
  exact wpAny_setField_rec hz2a (by simp) fun h₃ O hs3=>key h₃ e (fun c o c1 O c3 O x=>hs3.extBut _ _ c1 (hs2a _ _ c3 (hs1a.extBut _ _ c1 x))) ⟨oe,hs3.extBut _ _ hez hoe,hce⟩
end
end
section
noncomputable abbrev zt1 (h:Heap) (l1:Addr):Heap:=h.push {cls:= .type "tuple_iterator",data:= .fields #[.ref l1,.int 0 0]}
noncomputable abbrev zt2 (h:Heap) (l1 l2:Addr):Heap:=(zt1 h l1).push {cls:= .type "tuple_iterator",data:= .fields #[.ref l2,.int 0 0]}
noncomputable abbrev zt3 (h:Heap) (l1 l2:Addr):Heap:=(zt2 h l1 l2).push {cls:= .type "tuple",data:= .seq #[.ref h.objs.size,.ref (zt1 h l1).objs.size]}
noncomputable abbrev zt4 (h:Heap) (l1 l2:Addr):Heap:=(zt3 h l1 l2).push {cls:= .type "tuple",data:= .seq #[.none,.none]}
noncomputable abbrev zt5 (h:Heap) (l1 l2:Addr):Heap:=(zt4 h l1 l2).push {cls:= .type "zip",data:= .fields #[.none,.bool false,.bool false,.ref (zt2 h l1 l2).objs.size,.ref (zt3 h l1 l2).objs.size]}
theorem c7d(l1 l2:Addr)(xs ys:Array Value):
    Meets (Builtin.«zip.__new__» ⟨[.type "zip",.ref l1,.ref l2],[]⟩) (fun O R s=>s.heap.IsTuple l1 xs∧s.heap.IsTuple l2 ys∧
      R (.ok (.ret (.ref (zt4 s.heap l1 l2).objs.size))) {s with heap:=zt5 s.heap l1 l2}):=
  .of_wp fun prog w A R s h=>by
    obtain ⟨hp,g,d,tk,os⟩:=s;obtain ⟨hl1,hl2,h⟩:=h
    have hsub:=sub_zip
    have hL1:Heap.IsTuple (Shared.heap ⟨hp,g,d,tk,os⟩) l1 xs:=hl1
    have hL2:Heap.IsTuple (Shared.heap ⟨hp.push {cls:= .type "tuple_iterator",data:= .fields #[.ref l1,.int 0 0]},g,d,tk,os⟩) l2 ys:=Heap.IsTuple.push hl2 _
    wp_walk using wpAny_pyIter_tuple hL1,wpAny_pyIter_tuple hL2
    exact ⟨_,rfl,h⟩
section
variable{prog:Program}{w:World}{A:Around}{E:Value→Shared→Prop}{s:Shared}
theorem b4k{n l1 l2:Nat}(h1:l1<n)(h2:l2<n):ZipApart (n+4) (n+2) (n+3) n (n+1) l1 l2:=by
  refine ⟨?_,?_,?_,?_,?_,?_,?_,?_,?_,?_,?_,?_,?_,?_,?_,?_,?_,?_⟩ <;> (intro q;exact absurd (show @Eq Nat _ _ from q) (by lia))
theorem b3u{l1 l2:Addr}{xs ys:Array Value}{Q:Value→Shared→Prop}(hl1:s.heap.IsTuple l1 xs)(hl2:s.heap.IsTuple l2 ys)
    (h:∀h',F6 (s.heap.objs.size+4) (s.heap.objs.size+2) (s.heap.objs.size+3) s.heap.objs.size (s.heap.objs.size+1) l1 l2 xs ys .none h'→h'.IsTupleIter s.heap.objs.size l1 0→h'.IsTupleIter (s.heap.objs.size+1) l2 0→
      ZipApart (s.heap.objs.size+4) (s.heap.objs.size+2) (s.heap.objs.size+3) s.heap.objs.size (s.heap.objs.size+1) l1 l2→(∀c o,s.heap.get? c=some o→h'.get? c=some o)→Q (.ref (s.heap.objs.size+4)) {s with heap:=h'}):
    wpAny (model prog w) A (call (.type "zip") [.ref l1,.ref l2]) Q E s:=by
  refine callType_new PySem.F.called_zip (by decide) (PySem.F.typeCall_zip_2 _ _) (PySem.F.newCall_zip_2 _ _) (fun obj=>PySem.F.args_object_init_3 obj _ _) PySem.F.entry_zip_new
    (c7d l1 l2 xs ys) ⟨hl1,hl2,?_⟩
  have z1:(zt1 s.heap l1).objs.size=s.heap.objs.size+1:=Heap.size_push ..
  have z2:(zt2 s.heap l1 l2).objs.size=s.heap.objs.size+2:=by rw [Heap.size_push,z1]
  have z3:(zt3 s.heap l1 l2).objs.size=s.heap.objs.size+3:=by rw [Heap.size_push,z2]
  have z4:(zt4 s.heap l1 l2).objs.size=s.heap.objs.size+4:=by rw [Heap.size_push,z3]
  have g5:(zt5 s.heap l1 l2).get? (zt4 s.heap l1 l2).objs.size=some _:=Heap.get?_push_size _ rfl
  have g4:(zt5 s.heap l1 l2).get? (zt3 s.heap l1 l2).objs.size=some _:=Heap.get?_push_of_some _ (Heap.get?_push_size _ rfl)
  have g3:(zt5 s.heap l1 l2).get? (zt2 s.heap l1 l2).objs.size=some _:=Heap.get?_push_of_some _ (Heap.get?_push_of_some _ (Heap.get?_push_size _ rfl))
  have g2:(zt5 s.heap l1 l2).get? (zt1 s.heap l1).objs.size=some _:=Heap.get?_push_of_some _ (Heap.get?_push_of_some _ (Heap.get?_push_of_some _ (Heap.get?_push_size _ rfl)))
  have g1:(zt5 s.heap l1 l2).get? s.heap.objs.size=some _:=Heap.get?_push_of_some _ (Heap.get?_push_of_some _ (Heap.get?_push_of_some _ (Heap.get?_push_of_some _ (Heap.get?_push_size _ rfl))))
  have up:∀c o,s.heap.get? c=some o→(zt5 s.heap l1 l2).get? c=some o:=fun c o x=>
    Heap.get?_push_of_some _ (Heap.get?_push_of_some _ (Heap.get?_push_of_some _ (Heap.get?_push_of_some _ (Heap.get?_push_of_some _ x))))
  show _∧_
  rw [z2,z3,z4] at g5
  rw [z1,z2] at g3
  rw [z3] at g4
  rw [z1] at g2
  rw [z4]
  have b1:l1<s.heap.objs.size:=by obtain ⟨_,e,_⟩:=hl1;exact Heap.lt_size e
  have b2:l2<s.heap.objs.size:=by obtain ⟨_,e,_⟩:=hl2;exact Heap.lt_size e
  refine ⟨⟨_,g5,rfl⟩,h _ ⟨g5,g3,⟨_,_,g4⟩,(by obtain ⟨o,e,r⟩:=hl1;exact ⟨o,up _ _ e,r⟩),(by obtain ⟨o,e,r⟩:=hl2;exact ⟨o,up _ _ e,r⟩)⟩ ⟨_,g1,rfl,rfl⟩ ⟨_,g2,rfl,rfl⟩ ?_ up⟩
  exact b4k b1 b2
end
end
section
variable [HH:u7]
noncomputable def c3u(F:Fm)(ρ:b9)(e:Expr)(P:List (PV×PV)→Prop):Prop:=
  ∀ X s,I F X ρ s→∀(Q:Value→Shared→Prop) (E:Value→Shared→Prop),(∀s₁ h₁ tk I0 l St Mid T,P l→I F X ρ s₁→Ext F.C.G s s₁→(∀b o,s₁.heap.get? b=some o→h₁.get? b=some o)→a4s F X s₁ I0 l St Mid T→
    (∀b,T b→(∃o,h₁.get? b=some o)∧¬F.C.G b)→St 0 h₁→Q (.ref I0) {s₁ with heap:=h₁,toks:=tk})→wpAny (model F.C.prog F.C.w) F.A (eval e F.env) (fun v s'=>wpAny (model F.C.prog F.C.w) F.A (pyIter v) Q E s') E s
section
variable{F:Fm}{ρ ρc:b9}{sc:Scope}{P:List (PV×PV)→Prop}
noncomputable def a9r(X:Addr→Prop)(s₁:Shared)(vs:List Value)(l:List (PV×PV))(h:Heap):Prop:=
  ∀(j:Nat) v d,vs[j]?=some v→l[j]?=some d→∃P v1a v2a,v= .ref P∧y9 h P [v1a,v2a].toArray∧(∃o,s₁.heap.get? P=some o)∧Rep X s₁.heap v1a d.1∧Rep X s₁.heap v2a d.2
theorem a6n{prog:Program}{w:World}{A:Around}{s:Shared}{elts:List Expr}{k:Nat}{pos:Pos}{I0 P:Addr}{Q:Unit→Shared→Prop}{E:Value→Shared→Prop}{o:Obj}{n:String}{us:Array Value}(ho:s.heap.get? I0=some o)(hc:o.cls= .type n)(hd:o.data= .fields us)
    (hn:["enumerate","zip","dict_itemiterator","dict_reverseitemiterator","odict_iterator","itertools.zip_longest","itertools.pairwise"].contains n=false) (h:Q () s):wpAny (model prog w) A (letOwnedTupleGo (.Tuple elts k pos) (.ref I0) (.ref P)) Q E s:=by
  obtain ⟨oc,od,oda,osl⟩:=o
  simp only at hc hd
  subst hc hd
  unfold letOwnedTupleGo
  refine wpAny_bind (wpAny_load ho ?_)
  show wpAny _ _ (if (["enumerate","zip","dict_itemiterator","dict_reverseitemiterator","odict_iterator","itertools.zip_longest","itertools.pairwise"].contains n&&us[0]?==some (rawInt P))=true then _ else _) Q E s
  refine b8 (hn ..) (b8 (if_neg (by simp) ..) ?_)
  exact wpAny_pure h
theorem x9.c1z{X:Addr→Prop}{s₁:Shared}{I0 ax:Addr}{vs:List Value}{l:List (PV×PV)}(hne:ax≠I0)(hI:s₁.heap.get? I0= .none)(hax:∃o,s₁.heap.get? ax=some o)(hl:vs.length=l.length):
    a4s F X s₁ I0 l (fun i h=>x9 I0 ax vs i h∧a9r X s₁ vs l h) (fun i O h=>x9 I0 ax vs (i+1) h∧a9r X s₁ vs l h) (fun b=>b=I0∨b=ax∨∃j:Nat,vs[j]?=some (.ref b)) where
  frame:=fun i h h' st k=>⟨st.1.at (fun o e=>k _ o (.inl rfl) e) fun o e=>k _ o (.inr (.inl rfl)) e,fun j v d hv hd=>by
    obtain ⟨P,v1a,v2a,rfl,⟨n,ho⟩,r⟩:=st.2 j v d hv hd
    exact ⟨P,v1a,v2a,rfl,⟨n,k _ _ (.inr (.inr ⟨j,hv⟩)) ho⟩,r⟩⟩
  there:=fun i h b st t=>by
    clear hne hI hax;rcases t with rfl|rfl|⟨j,hj⟩
    · obtain ⟨o,us,e,_⟩:=st.1.self;exact ⟨o,e⟩
    · obtain ⟨o,n,e,_⟩:=st.1.src;exact ⟨o,e⟩
    · have hlt:j<l.length:=by refine C5 (hl ..) ?_;exact (List.getElem?_eq_some_iff.mp hj).1
      obtain ⟨P,v1a,v2a,e,⟨n,ho⟩,_⟩:=st.2 j _ _ hj (List.getElem?_eq_getElem hlt)
      cases e;exact ⟨_,ho⟩
  item:=fun i d s Q E hd st q=>by
    have hlt:i<vs.length:=by refine b8 (hl ..) ?_;exact (List.getElem?_eq_some_iff.mp hd).1
    obtain ⟨P,v1a,v2a,hv,⟨n,ho⟩,hex,r₁,r₂⟩:=st.2 i _ _ (List.getElem?_eq_getElem hlt) hd
    have hPI:P≠I0:=fun z=>by obtain ⟨o,e⟩:=hex;exact g7 z hI e
    refine st.1.step hne (v:= .ref P) (by exact b8 (List.getElem?_eq_getElem hlt ..) (b8 (hv ..) rfl)) fun h' st' hk=>?_
    have pa:a9r X s₁ vs l h':=fun j v d hv hd=>by
      obtain ⟨P',u1a,u2a,rfl,⟨n,ho⟩,hex,r⟩:=st.2 j v d hv hd
      exact ⟨P',u1a,u2a,rfl,⟨n,hk _ _ (fun z=>by obtain ⟨o,e⟩:=hex;exact g7 z hI e) ho⟩,hex,r⟩
    exact q v1a v2a P h' s.toks ⟨_,hk _ _ hPI ho,rfl,n,rfl⟩ (fun O=>hex) ⟨st',pa⟩ (fun b o hb e=>hk b o (fun z=>by obtain ⟨o',e'⟩:=hb (.inl z);exact g7 z hI e') e) r₁ r₂
  go:=fun elts k pos i P s Q E st q=>by
    rcases st.1.it with ⟨⟨o,ho,hc,hd⟩,_⟩|⟨⟨o,ho,hc,hd⟩,_⟩
    · exact a6n ho hc hd (by decide) (q s.heap st fun b o O e=>e)
    · exact a6n ho hc hd (by decide) (q s.heap st fun b o O e=>e)
  done:=fun s Q E st q=>st.1.last F.hA (List.getElem?_eq_none (by refine b8 (hl ..) ?_;exact Nat.le_refl _)) fun h' hk=>q h' s.toks fun b o hb e=>hk b o (fun z=>by obtain ⟨o',e'⟩:=hb (.inl z);exact g7 z hI e') e
  self:=fun i s Q E st q=>by
    rcases st.1.it with ⟨a,_⟩|⟨a,_⟩
    · exact wpAny_pyIter_listiter a q
    · exact wpAny_pyIter_tupleiter a q
noncomputable def c8g(p:PV×PV):PV:= .tup [p.1,p.2]
theorem c3u.seq{e:Expr}(h:Ev F ρ e fun d=>∃l,(d= .lst (l.map c8g)∨d= .tup (l.map c8g))∧P l):c3u F ρ e P:=fun X s i Q E q=>
  h X s i _ _ fun v d s₁ ⟨l,hd,p⟩ i₁ x1a r₁=>a5e r₁ hd fun I0 ax vs h₁ hne hI hax hX rl kp st=>by
    have hex:∃o,s₁.heap.get? ax=some o:=(by obtain ⟨o,_,e,_⟩:=hax;exact ⟨o,e⟩)
    have pa:∀(j:Nat) v d,vs[j]?=some v→l[j]?=some d→∃P v1a v2a,v= .ref P∧y9 s₁.heap P [v1a,v2a].toArray∧¬X P∧Rep X s₁.heap v1a d.1∧Rep X s₁.heap v2a d.2:=fun j v d hv hd=>by
      have:=rl.2 j v (c8g d) hv (by rw [List.getElem?_map,hd];rfl)
      clear hv;obtain ⟨P,us,rfl,ht,hxP,ru⟩:=this.n8
      obtain ⟨v1a,us',rfl,r₁,ru'⟩:=ru.cons_inv
      clear ru;obtain ⟨v2a,us'',rfl,r₂,ru''⟩:=ru'.cons_inv
      obtain rfl:=ru''.nil_inv
      exact ⟨P,v1a,v2a,rfl,ht,hxP,r₁,r₂⟩
    have hlen:vs.length=l.length:=by rw [rl.1,List.length_map]
    refine q s₁ h₁ s₁.toks I0 l _ _ _ p i₁ x1a kp (x9.c1z hne hI hex hlen) (fun b hb=>?_) ⟨st,fun j v d hv hd=>?_⟩
    · clear hne hax hex;rcases hb with rfl|rfl|⟨j,hj⟩
      · obtain ⟨o,us,e,_⟩:=st.self
        exact ⟨⟨o,e⟩,fun g=>by obtain ⟨o',ho'⟩:=i₁.d8 _ (i₁.sub _ g);exact n9 hI ho'⟩
      · obtain ⟨o,n,e,_⟩:=st.src
        exact ⟨⟨o,e⟩,fun g=>hX (i₁.sub _ g)⟩
      · have hlt:j<l.length:=by rw [← hlen];exact (List.getElem?_eq_some_iff.mp hj).1
        obtain ⟨P,v1a,v2a,e,⟨n,ho⟩,hxP,_⟩:=pa j _ _ hj (List.getElem?_eq_getElem hlt)
        cases e
        exact ⟨⟨_,kp _ _ ho⟩,fun g=>hxP (i₁.sub _ g)⟩
    · obtain ⟨P,v1a,v2a,rfl,⟨n,ho⟩,hxP,r₁,r₂⟩:=pa j v d hv hd
      exact ⟨P,v1a,v2a,rfl,⟨n,kp _ _ ho⟩,⟨_,ho⟩,r₁,r₂⟩
theorem F0.b8e{x y:Str}{elt iter:Expr}{ifs:List Expr}{pos xp yp tp:Pos}{kk:Nat}{PL:List PV→Prop}(c:c6 F sc ρ ρc)(h:c3u F ρ iter fun l=>l.length≤sizeLine∧∀d:m5 F sc,Co2 d.fm ρc x y ifs elt PL l [])(hx:sc.names.lookup x=some .local)(hy:sc.names.lookup y=some .local)
    (hcell:∀y∈sc.names,y.2≠ .cell:=by decide) (hkind:sc.kind= .function:=by rfl) (hnames:∀y∈sc.names,y.2= .local→sc.names.lookup y.1=some .local:=by decide)
    (hs:∀x,foldedSetIterable iter F.env x=pure x:=by intro _;rfl):F0 F ρ (.ListComp elt [⟨.Tuple [.Name x xp,.Name y yp] kk tp,iter,ifs,0⟩] sc pos) PL:=
  F0.b7w c (fun X s i Q E q=>h X s i Q E fun s₁ h₁ tk I0 l St Mid T p i₁ x1a hk it hT st=>q {s₁ with toks:=tk} h₁ _ (i₁.tok tk) (x1a.trans (Ext.tok' _ _)) (c4y (s₁:= {s₁ with toks:=tk}) (i₁.tok tk) c (.plain hcell hkind) hkind hx hy hk ⟨it.frame,it.there,it.item,it.go,it.done,it.self⟩ hT st p.1 p.2)) hkind hnames hs
end
end
section
variable [HH:u7]
section
variable{F:Fm}{ρ ρc:b9}{sc:Scope}{P:List (PV×PV)→Prop}
theorem F6.keep{z TI TO i1 i2 t1 t2:Addr}{us vs:Array Value}{f0:Value}{h h':Heap}(Z:F6 z TI TO i1 i2 t1 t2 us vs f0 h)(k:∀b o,b∈[z,TI,TO,i1,i2,t1,t2]→h.get? b=some o→h'.get? b=some o):F6 z TI TO i1 i2 t1 t2 us vs f0 h':=
  ⟨k _ _ (.head _) Z.hz,k _ _ (.tail _ (.head _)) Z.hTI,(by obtain ⟨a,b,e⟩:=Z.hTO;exact ⟨a,b,k _ _ (.tail _ (.tail _ (.head _))) e⟩),(by obtain ⟨o,e,r⟩:=Z.ht1;exact ⟨o,k _ _ (by simp) e,r⟩),(by obtain ⟨o,e,r⟩:=Z.K9;exact ⟨o,k _ _ (by simp) e,r⟩)⟩
theorem a0d{h h':Heap}{i t:Addr}{k:Nat}(x:h.IsTupleIter i t k)(e:∀o,h.get? i=some o→h'.get? i=some o):h'.IsTupleIter i t k:=(by obtain ⟨o,ho,r⟩:=x;exact ⟨o,e _ ho,r⟩)
theorem st7{z TI TO i1 i2 t1 t2:Addr}{us vs:Array Value}{f0:Value}{h:Heap}{k j:Nat}(Z:F6 z TI TO i1 i2 t1 t2 us vs f0 h)(h1:h.IsTupleIter i1 t1 k)(h2:h.IsTupleIter i2 t2 j):∀b,b∈[z,TI,TO,i1,i2,t1,t2]→∃o,h.get? b=some o:=by
  obtain ⟨a1,a2,⟨_,_,a3⟩,⟨o4,a4,_⟩,⟨o5,a5,_⟩⟩:=Z
  obtain ⟨o6,a6,_⟩:=h1
  obtain ⟨o7,a7,_⟩:=h2
  exact List.forall_mem_cons.mpr ⟨⟨_,a1⟩,List.forall_mem_cons.mpr ⟨⟨_,a2⟩,List.forall_mem_cons.mpr ⟨⟨_,a3⟩,List.forall_mem_cons.mpr ⟨⟨_,a6⟩,List.forall_mem_cons.mpr ⟨⟨_,a7⟩,List.forall_mem_cons.mpr ⟨⟨_,a4⟩,List.forall_mem_cons.mpr ⟨⟨_,a5⟩,fun O h=>b9o h⟩⟩⟩⟩⟩⟩⟩
theorem c0m{l:List Addr}{h:Heap}{b a:Addr}(hb:b∈l→∃o,h.get? b=some o)(ha:a∈l)(hn:h.get? a= .none):b≠a:=fun q=>by
  obtain ⟨o',e'⟩:=hb (q▸ha);exact n9 hn (q▸e')
theorem b8l{X:Addr→Prop}{s₁:Shared}{z TI TO i1 i2 t1 t2:Addr}{us vs:List Value}{l m:List PV}(D:ZipApart z TI TO i1 i2 t1 t2)(ru:i0 X s₁.heap us l)(rv:i0 X s₁.heap vs m)(hlm:l.length=m.length)
    (hz:s₁.heap.get? z= .none) (hTO:s₁.heap.get? TO= .none) (h1:s₁.heap.get? i1= .none) (h2:s₁.heap.get? i2= .none):
    a4s F X s₁ z (l.zip m) (fun k h=>F6 z TI TO i1 i2 t1 t2 us.toArray vs.toArray .none h∧h.IsTupleIter i1 t1 k∧h.IsTupleIter i2 t2 k)
      (fun k P h=>F6 z TI TO i1 i2 t1 t2 us.toArray vs.toArray (rawInt P) h∧h.IsTupleIter i1 t1 (k+1)∧h.IsTupleIter i2 t2 (k+1)) (fun b=>b∈[z,TI,TO,i1,i2,t1,t2]) where
  frame:=fun i h h' st k=>⟨st.1.keep fun b o hb e=>k b o hb e,a0d st.2.1 fun o e=>k _ o (by simp) e,a0d st.2.2 fun o e=>k _ o (by simp) e⟩
  there:=fun i h b st t=>st7 st.1 st.2.1 st.2.2 b t
  item:=fun k d s Q E hd st q=>by
    have hk:=(List.getElem?_eq_some_iff.mp hd).1
    rw [List.length_zip] at hk
    have hkl:k<l.length:=by lia
    have hkm:k<m.length:=by lia
    have hdd:d=(l[k],m[k]):=by
      rw [List.getElem?_eq_getElem (by refine b8 (List.length_zip ..) ?_;assumption),List.getElem_zip] at hd
      exact (Option.some.inj hd).symm
    obtain ⟨x,hx,rx⟩:=ru.get (List.getElem?_eq_getElem hkl)
    obtain ⟨y,hy,ry⟩:=rv.get (List.getElem?_eq_getElem hkm)
    refine b4t D st.1 st.2.1 st.2.2 (by simpa using hx) (by simpa using hy) fun h' Z h1' h2' hP kp=>?_
    have fresh:∀b,b∈[z,TI,TO,i1,i2,t1,t2]→s.heap.objs.size≠b:=fun b hb e=>by obtain ⟨o,ho⟩:=st7 st.1 st.2.1 st.2.2 b hb;exact absurd (Heap.lt_size ho) (e▸Nat.lt_irrefl b)
    refine q x y s.heap.objs.size h' s.toks ⟨_,hP,rfl,0,rfl⟩ (fun t=>absurd rfl (fresh _ t)) ⟨Z,h1',h2'⟩ (fun b o hb e=>?_) (by refine b8 (hdd ..) ?_;exact rx) (by refine b8 (hdd ..) ?_;exact ry)
    exact kp b o (c0m hb (.head _) hz) (c0m hb (.tail _ (.tail _ (.head _))) hTO) (c0m hb (.tail _ (.tail _ (.tail _ (.head _)))) h1) (c0m hb (.tail _ (.tail _ (.tail _ (.tail _ (.head _))))) h2) e
  go:=fun elts k pos i P s Q E st q=>by
    refine wpAny_letOwnedTupleGo_zip st.1.hz fun h' hz' hs'=>q h' ⟨⟨hz',hs'.extBut _ _ D.TIz st.1.hTI,(by obtain ⟨a,b,e⟩:=st.1.hTO;exact ⟨a,b,hs'.extBut _ _ D.TOz e⟩),(by obtain ⟨o,e,r⟩:=st.1.ht1;exact ⟨o,hs'.extBut _ _ D.l1z e,r⟩),(by obtain ⟨o,e,r⟩:=st.1.K9;exact ⟨o,hs'.extBut _ _ D.l2z e,r⟩)⟩,
      a0d st.2.1 fun o e=>hs'.extBut _ _ D.i1z e,a0d st.2.2 fun o e=>hs'.extBut _ _ D.i2z e⟩ fun b o hb e=>hs'.extBut _ _ (fun q=>?_) e
    obtain ⟨o',e'⟩:=hb (q▸ .head _);exact n9 hz (q▸e')
  done:=fun s Q E st q=>by
    have hl:(l.zip m).length=us.length:=by refine b8 (List.length_zip ..) (b8 (ru.1 ..) ?_);lia
    rw [hl] at st
    refine b1m F.hA D st.1 st.2.1 st.2.2 (by simp) fun h' kp=>q h' s.toks fun b o hb e=>?_
    exact kp b o (c0m hb (.head _) hz) (c0m hb (.tail _ (.tail _ (.head _))) hTO) (c0m hb (.tail _ (.tail _ (.tail _ (.head _)))) h1) (c0m hb (.tail _ (.tail _ (.tail _ (.tail _ (.head _))))) h2) e
  self:=fun i s Q E st q=>wpAny_pyIter_zip st.1.hz q
theorem b3p{e₁ e₂:Expr}{X:Addr→Prop}{s:Shared}{pos:Pos}{P:PV→PV→Prop}(h:Ev F ρ e₁ fun a=>Ev F ρ e₂ fun b=>P a b)(i:I F X ρ s)(hs:starEach [e₁,e₂] F.env=[(false,eval e₁ F.env),(false,eval e₂ F.env)]){Q:List Value→Shared→Prop}{E:Value→Shared→Prop}
    (q:∀v u a b s',P a b→I F X ρ s'→Ext F.C.G s s'→Rep X s'.heap v a→Rep X s'.heap u b→Q [v,u] s'):wpAny (model F.C.prog F.C.w) F.A (spliced (backTo pos (starEach [e₁,e₂] F.env))) Q E s:=by
  refine b8 (hs ..) ?_
  exact Calls.spliced_cons (h X s i _ _ fun v a s₁ p i₁ x1a r₁=>Calls.spliced_cons (p X s₁ i₁ _ _ fun u b s₂ p2a i₂ x₂ r₂=>Calls.spliced_nil (q v u a b s₂ p2a i₂ (x1a.trans x₂) (x₂.all i₁ r₁) r₂)))
theorem c0z{e₁ e₂:Expr}{np pos:Pos}{X:Addr→Prop}{s:Shared}{PP:List PV→List PV→Prop}(h:Ev F ρ e₁ fun a=>Ev F ρ e₂ fun b=>∃l m,a= .tup l∧b= .tup m∧PP l m)(i:I F X ρ s)(hx:F.env.kindOf "zip"=some .globalImplicit){Q E:Value→Shared→Prop}
    (q:∀s₁ h₁ z TI TO i1 i2 t1 t2 us vs l m,PP l m→I F X ρ s₁→Ext F.C.G s s₁→i0 X s₁.heap us l→i0 X s₁.heap vs m→¬X t1→¬X t2→ZipApart z TI TO i1 i2 t1 t2→(∀b o,s₁.heap.get? b=some o→h₁.get? b=some o)→
      F6 z TI TO i1 i2 t1 t2 us.toArray vs.toArray .none h₁→h₁.IsTupleIter i1 t1 0→h₁.IsTupleIter i2 t2 0→(∀b,b∈[z,TI,TO,i1,i2]→s₁.heap.get? b= .none)→Q (.ref z) {s₁ with heap:=h₁})
    (hs:starEach [e₁,e₂] F.env=[(false,eval e₁ F.env),(false,eval e₂ F.env)]:=by rfl) (hs':starEach [e₂] F.env=[(false,eval e₂ F.env)]:=by rfl):
    wpAny (model F.C.prog F.C.w) F.A (eval (.Call (.Name "zip" np) [e₁,e₂] [] pos) F.env) Q E s:=by
  refine G6 i (F.C.bi "zip" (.type "zip") (by decide)) hx (by decide) (callWith_type1 (b3p h i hs fun v u a b s₁ ⟨l,m,ha,hb,p⟩ i₁ x1a r₁ r₂=>?_) (by exact b8 (hs ..) (b8 (hs' ..) rfl)) (by refine b8 (hs' ..) ?_;rfl))
  subst ha;subst hb
  obtain ⟨t1,us,rfl,h1,hX1,ru⟩:=r₁.n8
  obtain ⟨t2,vs,rfl,h2,hX2,rv⟩:=r₂.n8
  have none_of:∀b:Addr,s₁.heap.objs.size≤b→s₁.heap.get? b= .none:=fun b hb=>a8v hb
  refine b3u h1.isTup h2.isTup fun h' Z a1 a2 D up=>q s₁ h' _ _ _ _ _ t1 t2 us vs l m p i₁ x1a ru rv hX1 hX2 D up Z a1 a2 fun b hb=>?_
  simp only [List.mem_cons,List.not_mem_nil,or_false] at hb
  rcases hb with rfl|rfl|rfl|rfl|rfl
  · exact none_of _ (Nat.le_add_right _ _)
  · exact none_of _ (Nat.le_add_right _ _)
  · exact none_of _ (Nat.le_add_right _ _)
  · exact none_of _ (Nat.le_refl _)
  · exact none_of _ (Nat.le_add_right _ _)
theorem c3u.zip{e₁ e₂:Expr}{np pos:Pos}(h:Ev F ρ e₁ fun a=>Ev F ρ e₂ fun b=>∃l m,a= .tup l∧b= .tup m∧l.length=m.length∧P (l.zip m))(hx:F.env.kindOf "zip"=some .globalImplicit)
    (hs:starEach [e₁,e₂] F.env=[(false,eval e₁ F.env),(false,eval e₂ F.env)]:=by rfl) (hs':starEach [e₂] F.env=[(false,eval e₂ F.env)]:=by rfl):c3u F ρ (.Call (.Name "zip" np) [e₁,e₂] [] pos) P:=fun X s i Q E q=>by
  refine c0z (PP:=fun l m=>l.length=m.length∧P (l.zip m)) h i hx (fun s₁ h₁ z TI TO i1 i2 t1 t2 us vs l m p i₁ x1a ru rv hX1 hX2 D up Z a1 a2 hn=>?_) hs hs'
  refine wpAny_pyIter_zip Z.hz (q s₁ h₁ s₁.toks z (l.zip m) _ _ _ p.2 i₁ x1a up (b8l D ru rv p.1 (hn z (.head _)) (hn TO (.tail _ (.tail _ (.head _)))) (hn i1 (.tail _ (.tail _ (.tail _ (.head _))))) (hn i2 (by simp))) (fun b hb=>?_) ⟨Z,a1,a2⟩)
  have ng:∀b,s₁.heap.get? b= .none→¬F.C.G b:=fun b hb g=>by obtain ⟨o,ho⟩:=i₁.d8 b (i₁.sub b g);exact n9 hb ho
  clear D;obtain ⟨⟨b1,b2,⟨_,_,b3⟩,⟨o4,b4,_⟩,⟨o5,b5,_⟩⟩,⟨o6,b6,_⟩,⟨o7,b7,_⟩⟩:=And.intro Z (And.intro a1 a2)
  simp only [List.mem_cons,List.not_mem_nil,or_false] at hb
  rcases hb with rfl|rfl|rfl|rfl|rfl|rfl|rfl
  · exact ⟨⟨_,b1⟩,ng _ (hn _ (.head _))⟩
  · exact ⟨⟨_,b2⟩,ng _ (hn _ (.tail _ (.head _)))⟩
  · exact ⟨⟨_,b3⟩,ng _ (hn _ (.tail _ (.tail _ (.head _))))⟩
  · exact ⟨⟨_,b6⟩,ng _ (hn _ (.tail _ (.tail _ (.tail _ (.head _)))))⟩
  · exact ⟨⟨_,b7⟩,ng _ (hn _ (by simp))⟩
  · exact ⟨⟨_,b4⟩,fun g=>hX1 (i₁.sub _ g)⟩
  · exact ⟨⟨_,b5⟩,fun g=>hX2 (i₁.sub _ g)⟩
end
end
section
theorem a4c:typeLookup (.type "zip") "__getattr__"=pure none:=by refine b8 (typeLookup_type ..) (b8 (builtinLookup_eq_fast ..) ?_);kernel_rfl
theorem a7c:typeLookup (.type "zip") "keys"=pure none:=by refine b8 (typeLookup_type ..) (b8 (builtinLookup_eq_fast ..) ?_);kernel_rfl
theorem a3n:entryFor table "zip.__getattribute__"=some Builtin.«object.__getattribute__»:=
  entryFor_alias (id':="object.__getattribute__") (by kernel_rfl) (by decide+kernel) (by decide+kernel) (by kernel_rfl)
theorem a5y(a:Addr)(fs:Array Value)(sl:Array (Option Value))(name:Str)(u:Tok)(hmiss:typeLookup (.type "zip") name=pure none)(hname:(["__module__","__name__","__qualname__","__doc__","__annotations__"]:List Str).contains name=false)(hsz:name.length+100≤sizeLine:=by size_fits):
    Meets (Builtin.«object.__getattribute__» ⟨[.ref a,.str name u],[]⟩) (fun A R s=>s.heap.get? a=some {cls:= .type "zip",dict:=none,data:= .fields fs,slots:=sl} ∧raisesAttr (.ref a) name A R s):=
  Meets.of_wp fun prog w A R s hs=>by
    obtain ⟨hp,g,d,tk,os⟩:=s
    obtain ⟨hx,hs⟩:=hs
    have hT:(⟨hp,g,d,tk,os⟩:Shared).TypeIs (.ref a) "zip":=⟨_,hx,rfl⟩
    unfold Builtin.«object.__getattribute__»
    repeat (any_goals (first|assumption|wp_step))
    refine b8 (hname ..) (b8 (if_neg Bool.false_ne_true ..) ?_)
    repeat (any_goals (first|assumption|wp_step))
    exact wpAny_raiseAttrError hs.1 hs.2 (attrMsg_fits (by decide+kernel) hsz)
theorem b2k{prog:Program}{w:World}{A:Around}{E:Value→Shared→Prop}{s:Shared}{a:Addr}{fs:Array Value}{Q:Option Value→Shared→Prop}
    (hx:s.heap.get? a=some {cls:= .type "zip",dict:=none,data:= .fields fs,slots:= #[]}) (hA:A.handled=none)
    (h:∀h' tk,(∀b o,s.heap.get? b=some o→h'.get? b=some o)→Q none {s with heap:=h',toks:=tk}):wpAny (model prog w) A (getAttr? (.ref a) "keys") Q E s:=by
  obtain ⟨hp,g,d,tk,os⟩:=s
  have hT:∀tk',(⟨hp,g,d,tk',os⟩:Shared).TypeIs (.ref a) "zip":=fun O=>⟨_,hx,rfl⟩
  have f1:=sub_AttributeError
  have f3:=PySem.F.slot_zip_getattribute.lookup
  have f4:=PySem.F.slot_zip_getattribute.bind (.ref a)
  have f5:=a4c
  unfold getAttr? getAttrBy? getAttrBy
  repeat (any_goals (first|assumption|exact hT _|((with_reducible show wpAny _ _ (call (Value.builtin "zip.__getattribute__") _ _) _ _ _);refine call_meets PySem.F.slot_zip_getattribute (hT _) a3n (PySem.F.args_zip_getattribute_2 _ _) (a5y a fs #[] "keys" _ a7c (by decide)) ⟨hx,hA,fun h' tk' e hx'=>?_⟩)|wp_step))
  obtain ⟨t',u',he⟩:=hx'.there
  show wpAny _ _ (getattributeRaised _ _ _ _ _ _ _) _ _ _
  unfold getattributeRaised
  repeat (any_goals (first|assumption|wp_step))
  exact h h' tk' hx'.keeps
variable [HH:u7]
theorem a5w:entryFor table "dict.update.loop"=some Builtin.«dict.update.loop»:=entryFor_of_tree (by kernel_rfl)
section
variable{prog:Program}{w:World}{A:Around}{E:Value→Shared→Prop}{s:Shared}
theorem a5p{z TI TO i1 i2 t1 t2:Addr}{vs:Array Value}{Q:Value→Shared→Prop}(hh:A.handled=none)(D:ZipApart z TI TO i1 i2 t1 t2)(Z:F6 z TI TO i1 i2 t1 t2 #[] vs .none s.heap)
    (h1:s.heap.IsTupleIter i1 t1 0) (h2:s.heap.IsTupleIter i2 t2 0)
    (hQ:∀v h' tk,(∀c o,c≠z→c≠TO→c≠i1→c≠i2→s.heap.get? c=some o→h'.get? c=some o)→Q v {s with heap:=h',toks:=tk}):
    wpAny (model prog w) A (call (.type "dict") [.ref z]) Q E s:=by
  refine callType_codes (Q₁:=fun obj s₁=>obj= .ref s.heap.objs.size∧s₁= {s with heap:=s.heap.push {cls:= .type "dict",data:= .dict #[]}}) PySem.F.kt_called_dict (PySem.F.kt_typeCall_dict_1 _) PySem.F.entry_dict_init (kt_code_dict_new _ ⟨rfl,rfl⟩) ?_
  rintro obj s₁ ⟨rfl,rfl⟩
  have hnew:(s.heap.push {cls:= .type "dict",data:= .dict #[]}).DictOf (intKind prog w) s.heap.objs.size []:=Heap.DictOf.new s.heap
  have hz:(s.heap.push {cls:= .type "dict",data:= .dict #[]}).get? z=_:=Heap.get?_push_of_some _ Z.hz
  have hT:({s with heap:=s.heap.push {cls:= .type "dict",data:= .dict #[]}} :Shared).TypeIs (.ref z) "zip":=⟨_,hz,rfl⟩
  refine ⟨hnew.typeIs,PySem.F.args_dict_init_2 _ _,?_⟩
  unfold Builtin.«dict.__init__»
  refine wpAny_bind ?_
  unfold Builtin.Dict.selfAndRest
  refine wpAny_bind (wpAny_notOrdered_dict hnew.typeIs ?_)
  show wpAny _ _ (pure (s.heap.objs.size,[Value.ref z])) _ _ _
  refine wpAny_pure ?_
  show wpAny _ _ (Builtin.Dict.updateFrom "dict.__init__" s.heap.objs.size (.ref z) [] .none) _ _ _
  unfold Builtin.Dict.updateFrom
  refine wpAny_bind (wpAny_typeOf hT ?_)
  refine b8 (if_pos (by decide) ..) ?_
  refine wpAny_bind (b2k (s:= {s with heap:=s.heap.push {cls:= .type "dict",data:= .dict #[]}}) hz hh fun h₂ tk2 k₂=>?_)
  have up:∀b o,s.heap.get? b=some o→h₂.get? b=some o:=fun b o e=>k₂ b o (Heap.get?_push_of_some _ e)
  have Z2:F6 z TI TO i1 i2 t1 t2 #[] vs .none h₂:=Z.keep fun b o O e=>up b o e
  refine b8 (if_pos (show (Option.isNone (none:Option Value))=true from rfl) ..) ?_
  refine wpAny_bind (wpAny_rule ?_)
  refine wpAny_bind (wpAny_pyIter_zip (s:= {s with heap:=h₂,toks:=tk2}) Z2.hz ?_)
  refine wpAny_pure ⟨Code.quiet_builtin _ (by decide+kernel),codeAny_builtin a5w ?_⟩
  show wpAny _ _ (pyNext (.ref z)>>=_) _ _ _
  refine wpAny_bind (b1m (s:= {s with heap:=h₂,toks:=tk2}) hh D Z2 (a0d h1 fun o e=>up _ o e) (a0d h2 fun o e=>up _ o e) rfl fun h₃ k₃=>?_)
  show wpAny _ _ (Builtin.Dict.addKeywords s.heap.objs.size []>>=fun O=>ret .none) _ _ _
  refine wpAny_bind (wpAny_pure ?_)
  refine wpAny_pure ?_
  exact ⟨rfl,hQ _ h₃ tk2 fun c o c1 c2 c3 c4 e=>k₃ c o c1 c2 c3 c4 (up c o e)⟩
end
end
section
variable [HH:u7]
section
variable{F:Fm}{ρ ρc:b9}{N:b9→Prop}{R:PV→Prop}{P:PV→Prop}
theorem Ev.b6x{e₁ e₂:Expr}{np dp zpos pos:Pos}(h:Ev F ρ e₁ fun a=>Ev F ρ e₂ fun b=>∃l m,a= .tup l∧b= .tup m∧l=[]∧P .any)(hx:F.env.kindOf "zip"=some .globalImplicit)(hy:F.env.kindOf "dict"=some .globalImplicit)
    (hs:starEach [e₁,e₂] F.env=[(false,eval e₁ F.env),(false,eval e₂ F.env)]:=by rfl) (hs':starEach [e₂] F.env=[(false,eval e₂ F.env)]:=by rfl):
    Ev F ρ (.Call (.Name "dict" dp) [.Call (.Name "zip" np) [e₁,e₂] [] zpos] [] pos) P:=fun X s i Q E q=>by
  refine G6 i (F.C.bi "dict" (.type "dict") (by decide)) hy (by decide) (callWith_type1 (Calls.spliced_cons ?_) rfl rfl)
  refine c0z (PP:=fun l m=>l=[]∧P .any) h i hx (fun s₁ h₁ z TI TO i1 i2 t1 t2 us vs l m ⟨hl,p⟩ i₁ x1a ru rv hX1 hX2 D up Z a1 a2 hn=>Calls.spliced_nil ?_) hs hs'
  subst hl
  rw [ru.nil_inv] at Z
  refine a5p (s:= {s₁ with heap:=h₁}) F.hA D Z a1 a2 fun v h' tk k=>?_
  have kp:∀b o,s₁.heap.get? b=some o→h'.get? b=some o:=fun b o e=>by
    have off:∀a,a∈[z,TI,TO,i1,i2]→b≠a:=fun a ha q=>by subst q;exact n9 (hn _ ha) e
    exact k b o (off z (.head _)) (off TO (.tail _ (.tail _ (.head _)))) (off i1 (.tail _ (.tail _ (.tail _ (.head _))))) (off i2 (by simp)) (up b o e)
  exact q v .any _ p (i₁.grow kp) (x1a.trans (Ext.tok _ _ _ (Le.of kp))) (.any _)
end
end
section
variable [HH:u7]
structure b9u(C:Cx)(c P:Addr):Prop where
  d8:C.G P
  u9:¬C.G c
  code:∀h,Le C.G C.g h→CodeHd h c P
  at_:∀h,C.inv h→∃ps,h.get? P=some (tabObj ps)∧TriplesOk ps.toList
  turn:∀h h' ps,C.inv h→h'.get? P=some (tabObj ps)→TriplesOk ps.toList→(∀b o,C.G b→b≠P→h.get? b=some o→h'.get? b=some o)→C.inv h'
  bt:∀h,Le C.G C.g h→h.BuiltinsAt C.mg P
section
variable{F:Fm}{ρ:b9}{N:b9→Prop}{R:PV→Prop}
theorem Ex.nested{name:Str}{params:Arguments}{body:List Stmt}{scope:Scope}{pos:Pos}{c P:Addr}(tab:b9u F.C c P)(hcode:F.env.code= .ref c)(hcells:∀y,(y,NameKind.free)∈scope.names→∃c,F.env.cells.lookup y=some c)(hst:l5 F name)
    (h:N ((name,.val .any)::ρ)) (hd0:params.defaults=[]:=by rfl) (hk0:params.kw_defaults=[]:=by rfl) (ha:annTrees params none F.env=[]:=by rfl):
    Ex F ρ (.FunctionDef name params body [] none [] scope none name pos) N R:=fun X s j Q E n r=>by
  refine nestDef_K hd0 hk0 ha ?_
  have hcl:=a0h hcells
  have le:=j.1.base
  have hg:s.heap.Ns mainGlobals F.C.mg:=by
    obtain ⟨o,es,ep,ho,hdt,r⟩:=F.C.hg
    exact ⟨o,es,ep,le _ _ F.C.J7.1 ho,hdt,r⟩
  obtain ⟨ps,hP,ht⟩:=tab.at_ _ j.1.inv
  have hgP:mainGlobals≠P:=fun q=>by
    obtain ⟨o,es,ep,e,hd,_⟩:=hg
    rw [q,hP] at e;cases e;cases hd
  have fin:∀(f:Addr) (h':Heap) (tk:Nat),(∀b o,b≠P→s.heap.get? b=some o→h'.get? b=some o)→(∃ps',h'.get? P=some (tabObj ps')∧TriplesOk ps'.toList)→
      wpAny (model F.C.prog F.C.w) F.A (storeName F.env name (.ref f)) (fun O s''=>Q .next s'') E {s with heap:=h',toks:=tk} :=fun f h' tk hk ⟨ps',hP',ht'⟩=>by
    have af:After F.C s {s with heap:=h',toks:=tk} :=⟨Ext.tok s h' tk fun b o hb e=>hk b o (fun q=>hb (q▸tab.d8)) e,
      tab.turn _ _ _ j.1.inv hP' ht' fun b o O hb e=>hk b o hb e,fun a g=>by
        by_cases q:a=P
        · exact ⟨_,q▸hP'⟩
        · obtain ⟨o,ho⟩:=j.1.d8 a (j.1.sub a g);exact ⟨o,hk a o q ho⟩⟩
    have i₂:=j.1.ext af
    have j2a:=j.step i₂ af.ext
    have k₂:=m7.x7 j.1 af.ext
    refine k9 i₂ hst fun h'' tk' L z=>?_
    have j3:JX F X ((name,.val .any)::ρ) _:=j2a.store (n:= .val .any) (v:= .ref f) (tk:=tk') (Rep.any _) z
    exact n _ _ X h j3 (fun O h=>h) (k₂.trans (z.keep (X:=X) (tk:=tk')) (j.alive j2a (fun O h=>h) k₂))
  cases hf:codeAmong pos ps.toList with
  | none=>
    refine makeFunction_K hcl F.K6 hg hcode (tab.code _ le) hP ht hf hgP (tab.bt _ le) fun c' ctv doc h' tk hx O O O hP'=>?_
    refine fin _ _ tk (fun b o hb e=>Heap.get?_push_of_some _ (hx b o hb e)) ⟨_,Heap.get?_push_of_some _ hP',?_⟩
    have:=TriplesOk_snoc pos.line pos.col (.ref c') ps.toList ht
    simpa using this
  | some cv=>
    refine makeFunction_hit hcl F.K6 hg hcode (tab.code _ le) hP ht hf (tab.bt _ le) fun ctv doc h' tk hk O=>?_
    exact fin _ _ tk (fun b o O e=>Heap.get?_push_of_some _ (hk b o e)) ⟨_,Heap.get?_push_of_some _ (hk _ _ hP),ht⟩
end
end
section
variable [HH:u7]
theorem a8h(elt t1 i1 t2 i2:Expr)(sc:Scope)(pos:Pos)(it acc:Value)(env:Env):
    compTurn (.ListComp elt [⟨t1,i1,[],0⟩,⟨t2,i2,[],0⟩] sc pos) 0 it acc env=(standAt i1.pos>>=fun O=>pyNext it>>=fun r=>match r with
      |none=>pure (.done .next)
      | some v=>letOwnedTupleGo t1 it v>>=fun O=>assign t1 env v>>=fun O=>
        eval i2 env>>=fun x=>standAt i2.pos>>=fun O=>foldedSetIterable i2 env x>>=fun x=>holding [x] (pyIter x)>>=fun it2=>runOwn (.compStart (.ListComp elt [⟨t1,i1,[],0⟩,⟨t2,i2,[],0⟩] sc pos) 1 it2 acc env) env>>=fun O=>
          again (.compLoop (.ListComp elt [⟨t1,i1,[],0⟩,⟨t2,i2,[],0⟩] sc pos) 0 it acc env)):=by rfl
theorem a9n(elt t1 i1 t2 i2:Expr)(sc:Scope)(pos:Pos)(it acc:Value)(env:Env):
    compTurn (.ListComp elt [⟨t1,i1,[],0⟩,⟨t2,i2,[],0⟩] sc pos) 1 it acc env=(standAt i2.pos>>=fun O=>pyNext it>>=fun r=>match r with
      |none=>pure (.done .next)
      | some v=>letOwnedTupleGo t2 it v>>=fun O=>assign t2 env v>>=fun O=>
        (eval elt env>>=fun x=>call (.builtin "list.append") [acc,x]>>=fun O=>pure ())>>=fun O=>
          again (.compLoop (.ListComp elt [⟨t1,i1,[],0⟩,⟨t2,i2,[],0⟩] sc pos) 1 it acc env)):=by rfl
section
variable{prog:Program}{w:World}{A:Around}{R:Result→Shared→Prop}{s:Shared}{elt t1 i1 t2 i2:Expr}{sc:Scope}{pos:Pos}{it acc:Value}{env:Env}
theorem c3p(I:Nat→Shared→Prop)
    (turn :∀n s,I n s→wpAny (model prog w) A (pyNext it) (fun r s₁=>match r with
      |none=>R (.ok .next) s₁
      |some v=>wpAny (model prog w) A (letOwnedTupleGo t2 it v) (fun O s₁=>wpAny (model prog w) A (assign t2 env v) (fun O s₂=>wpAny (model prog w) A (eval elt env) (fun x s₃=>
          wpAny (model prog w) A (call (.builtin "list.append") [acc,x]) (fun O s₄=>∃m,m<n∧I m s₄) (notedBy (model prog w) A env fun e s'=>R (.error e) s') s₃)
          (notedBy (model prog w) A env fun e s'=>R (.error e) s') s₂) (notedBy (model prog w) A env fun e s'=>R (.error e) s') s₁) (notedBy (model prog w) A env fun e s'=>R (.error e) s') s₁) (notedBy (model prog w) A env fun e s'=>R (.error e) s') s)
    (n:Nat) (h:I n s):
    codeAny (model prog w) A (.compLoop (.ListComp elt [⟨t1,i1,[],0⟩,⟨t2,i2,[],0⟩] sc pos) 1 it acc env) R s:=by
  refine codeAny_loop rfl I (fun n s hI=>?_) n h
  show wpAny _ A ((compTurn (.ListComp elt [⟨t1,i1,[],0⟩,⟨t2,i2,[],0⟩] sc pos) 1 it acc env).onRaise (fun x=>do noteFrame x env;theTreesLotGoes x)) _ _ s
  refine wpAny_noted ?_
  refine b8 (a9n ..) ?_
  refine wpAny_bind (wpAny_standAt (wpAny_bind (wpAny_mono (turn n s hI) (fun r s₁ h₁=>?_) fun O O h'=>h')))
  cases r with
  |none=>exact wpAny_pure h₁
  | some v=>
    refine wpAny_bind (wpAny_mono h₁ (fun O s₁ h₁=>?_) fun O O h'=>h')
    exact wpAny_bind (wpAny_mono h₁ (fun O s₂ h₂=>wpAny_bind (wpAny_bind (wpAny_mono h₂ (fun x s₃ h₃=>wpAny_bind (wpAny_mono h₃
      (fun O s₄ h4a=>wpAny_pure (wpAny_pure ⟨rfl,h4a⟩)) fun O O h'=>h')) fun O O h'=>h'))) fun O O h'=>h')
theorem b9l(I:Nat→Shared→Prop)
    (turn :∀n s,I n s→wpAny (model prog w) A (pyNext it) (fun r s₁=>match r with
      |none=>R (.ok .next) s₁
      |some v=>wpAny (model prog w) A (letOwnedTupleGo t1 it v) (fun O s₁=>wpAny (model prog w) A (assign t1 env v) (fun O s₂=>wpAny (model prog w) A (eval i2 env) (fun x s₃=>
          wpAny (model prog w) A (pyIter x) (fun it2 s₄=>codeAny (model prog w) A (.compStart (.ListComp elt [⟨t1,i1,[],0⟩,⟨t2,i2,[],0⟩] sc pos) 1 it2 acc env) (fun r s'=>match r with| .ok f=>∃m,m<n∧I m s'| .error e=>cameBackBy (model prog w) A env (notedBy (model prog w) A env fun e s'=>R (.error e) s') e s') s₄) (notedBy (model prog w) A env fun e s'=>R (.error e) s') s₃)
          (notedBy (model prog w) A env fun e s'=>R (.error e) s') s₂) (notedBy (model prog w) A env fun e s'=>R (.error e) s') s₁) (notedBy (model prog w) A env fun e s'=>R (.error e) s') s₁) (notedBy (model prog w) A env fun e s'=>R (.error e) s') s)
    (n:Nat) (h:I n s) (hs:∀x,foldedSetIterable i2 env x=pure x):
    codeAny (model prog w) A (.compLoop (.ListComp elt [⟨t1,i1,[],0⟩,⟨t2,i2,[],0⟩] sc pos) 0 it acc env) R s:=by
  refine codeAny_loop rfl I (fun n s hI=>?_) n h
  show wpAny _ A ((compTurn (.ListComp elt [⟨t1,i1,[],0⟩,⟨t2,i2,[],0⟩] sc pos) 0 it acc env).onRaise (fun x=>do noteFrame x env;theTreesLotGoes x)) _ _ s
  refine wpAny_noted ?_
  refine b8 (a8h ..) ?_
  refine wpAny_bind (wpAny_standAt (wpAny_bind (wpAny_mono (turn n s hI) (fun r s₁ h₁=>?_) fun O O h'=>h')))
  cases r with
  |none=>exact wpAny_pure h₁
  | some v=>
    refine wpAny_bind (wpAny_mono h₁ (fun O s₁ h₁=>?_) fun O O h'=>h')
    refine wpAny_bind (wpAny_mono h₁ (fun O s₂ h₂=>wpAny_bind (wpAny_mono h₂ (fun x s₃ h₃=>?_) fun O O h'=>h')) fun O O h'=>h')
    refine wpAny_bind (wpAny_standAt ?_)
    refine b8 (hs ..) (b8 (pure_bind ..) ?_)
    refine wpAny_bind (wpAny_holding (wpAny_mono h₃ (fun it2 s₄ h4a=>?_) fun O O h'=>h'))
    refine wpAny_bind (wpAny_runOwn ?_)
    refine b8 (Around.mark_none ..) ?_
    exact codeAny_mono h4a fun r s' hr=>by
      cases r with
      |ok f=>exact wpAny_pure ⟨rfl,hr⟩
      |error e=>exact hr
theorem b9b
    (h0:codeAny (model prog w) A (.compLoop (.ListComp elt [⟨t1,i1,[],0⟩,⟨t2,i2,[],0⟩] sc pos) 1 it acc env) R s)
    (h:wpAny (model prog w) A (pyIter it) (fun it' s'=>codeAny (model prog w) A (.compLoop (.ListComp elt [⟨t1,i1,[],0⟩,⟨t2,i2,[],0⟩] sc pos) 1 it' acc env) R s')
      (notedBy (model prog w) A env fun x s'=>R (.error x) s') s):
    codeAny (model prog w) A (.compStart (.ListComp elt [⟨t1,i1,[],0⟩,⟨t2,i2,[],0⟩] sc pos) 1 it acc env) R s:=by
  refine codeAny_of_tree ?_
  show wpAny _ _ ((compStart (.ListComp elt [⟨t1,i1,[],0⟩,⟨t2,i2,[],0⟩] sc pos) 1 it acc env).onRaise (fun x=>do noteFrame x env;standAt theWindowsPlace)) _ _ s
  refine wpAny_notedAt ?_
  unfold compStart
  show wpAny _ _ (ask>>=_) _ _ s
  refine wpAny_bind (wpAny_askSetting (wpAny_ite ?_))
  split
  · first
      |exact wpAny_bind (wpAny_pure (wpAny_pure (And.intro rfl h0)))
      |exact wpAny_pure (And.intro rfl h0)
  · first
      |exact wpAny_bind (wpAny_rule (wpAny_bind (wpAny_standAt (wpAny_bind (wpAny_mono h (fun it' s' h'=>wpAny_pure (And.intro rfl h')) fun O O x=>x)))))
      |(refine wpAny_bind (wpAny_rule ?_);show wpAny _ _ (standAt i2.pos>>=_) _ _ s;exact wpAny_bind (wpAny_standAt (wpAny_bind (wpAny_mono h (fun it' s' h'=>wpAny_pure (And.intro rfl h')) fun O O x=>x))))
end
noncomputable def flat:PV→Bool
  | .none=>true
  | .bool _=>true
  | .int _=>true
  | .str _=>true
  |_=>false
theorem Rep.flat{X Y:Addr→Prop}{h h':Heap}{v:Value}{d:PV}(f:flat d=true)(r:Rep X h v d):Rep Y h' v d:=by
  cases r <;> first|exact .none|exact .bool _|exact .int _ _|exact .str _ _|cases f
noncomputable def Co3(F:Fm)(ρc:b9)(x y:Str)(i2 elt:Expr)(PL:List PV→Prop):List PV→List PV→Prop
  |[],out=>PL out
  |d::ds,out=>Ev F ((x,.val d)::ρc) i2 fun d2a=>∃l2a,(d2a= .lst l2a∨d2a= .tup l2a)∧l2a.all flat=true∧out.length+l2a.length≤sizeLine∧Co F ((x,.val d)::ρc) y [] elt (fun out'=>Co3 F ρc x y i2 elt PL ds out') l2a out
section
variable{F:Fm}{ρ ρc:b9}{sc:Scope}{d:m5 F sc}{X X':Addr→Prop}{s₁:Shared}{D:Addr}
theorem x9.c5t{prog:Program}{w:World}{A:Around}{I ax:Addr}{vs:List Value}{i:Nat}{s:Shared}{Q:Value→Shared→Prop}{E:Value→Shared→Prop}(x:x9 I ax vs i s.heap)(h:Q (.ref I) s):wpAny (model prog w) A (pyIter (.ref I)) Q E s:=by
  rcases x.it with ⟨a,b⟩|⟨a,b⟩
  · exact wpAny_pyIter_listiter a h
  · exact wpAny_pyIter_tupleiter a h
theorem CC.d8(k:CC F sc X ρ ρc s₁ d D X'){ts:List (Str×PV)}{out:List PV}{s':Shared}(t:CT F sc s₁ d D X' ts out s'){I:Addr}(hI:s'.heap.get? I= .none):CC F sc X ρ ρc s₁ d D (fun b=>X' b∨b=I) where
  i:=k.i
  c:=k.c
  x1:=fun b h=> .inl (k.x1 b h)
  x2:=fun b h=>h.elim (k.x2 b) fun q=> .inr (isNone fun o e=>g7 q hI (t.ext.le b o (fun g=>(t.d8 b (k.x1 b (k.i.sub b g))).elim fun O e=>g7 q hI e) e))
  xD:= .inl k.xD
  nD:=k.nD
  nL:=k.nL
  xL:=fun h=>h.elim k.xL fun q=>t.ns.elim fun m hm=>(Heap.Ns.ex hm).elim fun o e=>g7 q hI e
  own:=fun x c h=>⟨(k.own x c h).1,fun z=>z.elim (k.own x c h).2.1 fun q=>(t.alive x c h).elim fun o e=>g7 q hI e,(k.own x c h).2.2⟩
  apart:=k.apart
theorem CT.c7z(k:CC F sc X ρ ρc s₁ d D X'){ts:List (Str×PV)}{out:List PV}{s':Shared}(t:CT F sc s₁ d D X' ts out s'){I:Addr}(hI:s'.heap.get? I= .none){h':Heap}(kp:∀b o,s'.heap.get? b=some o→h'.get? b=some o)(ex:∃o,h'.get? I=some o):CT F sc s₁ d D (fun b=>X' b∨b=I) ts out {s' with heap:=h'} :=by
  have t':CT F sc s₁ d D X' ts out {s' with heap:=h'} :=t.keep k (Le.of kp) (fun b o O e=>kp b o e) (fun b h=>(t.d8 b h).imp fun o e=>kp b o e) (t.acc.imp fun vs h=>⟨h.1.at fun o e=>kp _ o e,h.2.le (Le.of kp)⟩)
  have up:∀ {v dd},Rep X' s'.heap v dd→Rep (fun b=>X' b∨b=I) h' v dd:=fun r=>r.mono (Le.of kp) fun b (z:X' b∨b=I)=>Or.imp id (fun (q:b=I)=>q▸hI) z
  exact {t' with d8:=fun b (h:X' b∨b=I)=>Or.elim h (fun h=>t'.d8 b h) fun (q:b=I)=>q▸ex,ts:=fun y dd e=>(t.ts y dd e).imp fun v h=>⟨h.1.le (X:=X') (Le.of kp) k.xL fun y c hc=>k.u9 hc,up h.2⟩,acc:=t.acc.imp fun vs h=>⟨h.1.at fun o e=>kp _ o e,h.2.1,fun i v d a b=>up (h.2.2 i v d a b)⟩}
theorem CT.d1j{ts:List (Str×PV)}{out:List PV}{s':Shared}{I:Addr}(k:CC F sc X ρ ρc s₁ d D X')(nI:s₁.heap.get? I= .none)(nX:¬X' I)(nL:d.L≠I)(nC:∀x c,d.fm.env.cells.lookup x=some c→c≠I)(nO:∀x c,(x,c)∈d.own→c≠I)(t:CT F sc s₁ d D (fun b=>X' b∨b=I) ts out s'){h':Heap}(kp:∀b o,b≠I→s'.heap.get? b=some o→h'.get? b=some o):CT F sc s₁ d D X' ts out {s' with heap:=h'} :=by
  have le:Le (fun b=>X' b∨b=I) s'.heap h':=fun b o n e=>kp b o (fun q=>n (.inr q)) e
  have old:∀b o,(∃o',s₁.heap.get? b=some o')→s'.heap.get? b=some o→h'.get? b=some o:=fun b o ex e=>kp b o (fun q=>ex.elim fun O e=>g7 q nI e) e
  have dn:∀ {v dd},Rep (fun b=>X' b∨b=I) s'.heap v dd→Rep X' h' v dd:=fun r=>(r.le le).sub fun b h=> .inl h
  have ne:∀b,X' b→b≠I:=fun b h q=>nX (q▸h)
  exact { ext:=⟨t.ext.gens,t.ext.os,t.ext.drawn,fun b o n e=>old b o ⟨o,e⟩ (t.ext.le b o n e)⟩
          inv:=F.C.stable _ _ t.inv fun b o g e=>old b o (k.i.d8 b (k.i.sub b g)) e
          d8:=fun b h=>(t.d8 b (.inl h)).imp fun o e=>kp b o (ne b h) e
          ns:=t.ns.imp fun m h=>h.at' fun o e=>kp _ o nL e
          cells:=fun y c hc=>(t.cells y c hc).imp fun v h=>h.imp fun o z=>⟨kp c o (nC y c hc) z.1,z.2⟩
          alive:=fun y c h=>(t.alive y c h).imp fun o e=>kp c o (nO y c h) e
          ts:=fun y dd e=>(t.ts y dd e).imp fun v h=>⟨h.1.le (X:=fun b=>b=I) (fun b o n e=>kp b o n e) nL fun y c hc=>nC y c hc,dn h.2⟩
          acc:=t.acc.imp fun vs h=>⟨h.1.at fun o e=>kp D o (ne D k.xD) e,h.2.1,fun i v d a b=>dn (h.2.2 i v d a b)⟩}
structure In3(St:Nat→Heap→Prop)(n:Nat)(I ax:Addr)(vs:List Value)(q:Nat)(h:Heap):Prop where
  it:x9 I ax vs q h
  st:St n h
theorem c5k{h₁:Heap}{I0:Addr}{l:List PV}{St:Nat→Heap→Prop}{T:Addr→Prop}{x y:Str}{elt iter i2:Expr}{pos xp yp:Pos}{PL:List PV→Prop}(i:I F X ρ s₁)(c:c6 F sc ρ ρc)(nw:a8l F sc)(hkind:sc.kind= .function)(hx:sc.names.lookup x=some .local)(hy:sc.names.lookup y=some .local)(hxy:y≠x)
    (hs2:∀d:m5 F sc,∀v,foldedSetIterable i2 d.fm.env v=pure v) (hk:∀b o,s₁.heap.get? b=some o→h₁.get? b=some o) (it:a6f F X s₁ I0 l St T) (hT:∀b,T b→(∃o,h₁.get? b=some o)∧¬F.C.G b) (st:St 0 h₁) (p0:∀d:m5 F sc,Co3 d.fm ρc x y i2 elt PL l []):
    a3b F X s₁ h₁ (.ref I0) (.ListComp elt [⟨.Name x xp,iter,[],0⟩,⟨.Name y yp,i2,[],0⟩] sc pos) sc PL:=by
  refine a6w i c nw hkind hk hT (fun d D X' s' k t up ti R fin=>?_) fun s Q E up q=>it.self 0 s Q E (it.frame _ _ _ st fun b o t e=>up b o e) q
  refine b9l (b7i F sc s₁ d D X' [] (fun O O O=>True) l St fun r out=>Co3 d.fm ρc x y i2 elt PL r out) (fun n s' h'=>?_) l.length ⟨[],l,[],rfl,rfl,trivial,t,it.frame _ _ _ st fun b o t e=>up b o e,p0 d⟩ (hs2 d)
  clear p0;obtain ⟨pre,r,out,e,en,-,t,st,p⟩:=h'
  cases r with
  |nil=>exact it.done s' _ _ (by refine b8 (e ..) (b8 (List.append_nil ..) ?_);exact st) fun h₃ tk3 kp3=>fin out _ p (t.done k (ti.le kp3) (fun b o ex e=>kp3 b o (fun O=>ex) e) fun o e=>kp3 D o (fun z=>absurd rfl (ti.d D z)) e)
  |cons a r=>
  subst e en
  refine c6t k it ti (.inl hx) pre.length a out s' (by refine b8 (List.getElem?_append_right (Nat.le_refl _) ..) (b8 (Nat.sub_self ..) ?_);rfl) t st _ _ _ fun s₄ t₄ st4=>?_
  refine p X' _ (t₄.i k) _ _ fun v2a d2a s5a ⟨l2a,hd2a,fl,hz2a,co2⟩ i5a x5a r5a=>a5e (F:=d.fm) r5a hd2a fun I2 ax vs2 h₆ hne hI hax hXax rl2 kp it₂=>?_
  have t5a:=t₄.eval k i5a x5a
  have k₂:=k.d8 t5a hI
  have nX:¬X' I2:=fun h=>(t5a.d8 I2 h).elim fun o e=>n9 hI e
  have t6:=t5a.c7z k hI kp ((by obtain ⟨o,_,e,_⟩:=it₂.self;exact ⟨o,e⟩))
  have nI:s₁.heap.get? I2= .none:=isNone fun o e=>n9 hI (t5a.ext.le I2 o (fun g=>nX (k.x1 _ (k.i.sub _ g))) e)
  have TI2:∀b,T b→b≠I2:=fun b tb q=>(it.there _ _ b st4 tb).elim fun o e=>g7 q hI (x5a.le b o (ti.g b tb) e)
  have st6:St (pre.length+1) h₆:=it.frame _ _ _ st4 fun b o tb e=>kp b o (x5a.le b o (ti.g b tb) e)
  have axD:ax≠D:=fun q=>hXax (q▸k.xD)
  as_aux_lemma=>
  have inner:codeAny (model F.C.prog F.C.w) F.A (.compLoop (.ListComp elt [⟨.Name x xp,iter,[],0⟩,⟨.Name y yp,i2,[],0⟩] sc pos) 1 (.ref I2) (.ref D) d.fm.env) (fun r' s'=>match r' with
      | .ok f=>∃m,m<(a::r).length∧b7i F sc s₁ d D X' [] (fun O O O=>True) (pre++a::r) St (fun r out=>Co3 d.fm ρc x y i2 elt PL r out) m s'
      | .error e=>cameBackBy (model F.C.prog F.C.w) F.A d.fm.env (notedBy (model F.C.prog F.C.w) F.A d.fm.env fun e s'=>R (.error e) s') e s') {s5a with heap:=h₆} :=by
    refine c3p (b7i F sc s₁ d D (fun b=>X' b∨b=I2) [(x,a)] (fun O r out=>out.length+r.length≤sizeLine∧r.all flat=true) l2a (In3 St (pre.length+1) I2 ax vs2) fun r₂ out=>Co d.fm ((x,.val a)::ρc) y [] elt (fun out'=>Co3 d.fm ρc x y i2 elt PL r out') r₂ out) (fun n s' h'=>?_) l2a.length
      ⟨[],l2a,out,rfl,rfl,⟨hz2a,fl⟩,t6,⟨it₂,st6⟩,co2⟩
    clear hd2a fl hz2a co2;obtain ⟨pre2,r₂,out,e,en,⟨hz,fm⟩,t,⟨it',stO⟩,p⟩:=h'
    cases r₂ with
    | nil=>
      refine it'.last F.hA (List.getElem?_eq_none (by refine b8 (rl2.1 ..) (b8 (e ..) (b8 (List.append_nil ..) ?_));exact Nat.le_refl _)) fun h₃ kp3=>?_
      have t':=t.d1j k nI nX (fun q=>k₂.xL (.inr q)) (fun y c hc q=>k₂.u9 hc (.inr q)) (fun y c h q=>(k₂.own y c h).2.1 (.inr q)) kp3
      exact ⟨r.length,Nat.lt_succ_self _,pre++[a],r,out,List.append_cons pre a r,rfl,trivial,t'.nil,by refine b8 (List.length_append ..) ?_;exact it.frame _ _ _ stO fun b o tb e=>kp3 b o (TI2 b tb) e,p⟩
    |cons b r₂=>
    subst e en
    have hv:vs2[pre2.length]?=some (vs2[pre2.length]'(by refine b8 (rl2.1 ..) (b8 (List.length_append ..) ?_);exact Nat.lt_add_of_pos_right (Nat.succ_pos _))):=List.getElem?_eq_getElem _
    refine it'.step hne hv fun h₃ it3 kp3=>wpAny_pure ?_
    rw [List.all_cons,Bool.and_eq_true] at fm
    have rb:=rl2.2 _ _ b hv (by refine b8 (List.getElem?_append_right (Nat.le_refl _) ..) (b8 (Nat.sub_self ..) ?_);rfl)
    have le:Le (fun b=>X' b∨b=I2) s'.heap h₃:=fun b o n e=>kp3 b o (fun q=>n (.inr q)) e
    have t3a:CT F sc s₁ d D (fun b=>X' b∨b=I2) [(x,a)] out {s' with heap:=h₃} :=t.keep k₂ le (fun b o ex e=>kp3 b o (fun q=>ex.elim fun O e=>g7 q nI e) e) (fun b hb=>by
      by_cases q:b=I2
      · obtain ⟨o,us,e,_⟩:=it3.self;exact ⟨o,q▸e⟩
      · exact (t.d8 b hb).imp fun o e=>kp3 b o q e) (t.acc.imp fun vs h=>⟨h.1.at fun o e=>kp3 D o (fun q=>nX (q▸k.xD)) e,h.2.le le⟩)
    refine wpAny_assign_Name (k9 (t3a.i k₂) (d.sto (.inl hy)) fun h4a tk4 M z=>?_)
    have t₄:=t3a.store (tk:=tk4) k₂ (.inl hy) (rb.flat fm.1) z
    have nM:∀b,(X' b∨b=I2)→b≠M:=fun b h q=>z.off (t3a.i k₂) (q▸h)
    have tM:∀b,T b→b≠M:=fun b tb q=>by
      by_cases h:s₁.heap.get? b= .none
      · exact nM b (.inl (ti.x b tb h)) q
      · exact h (q▸k.c7k (.inl hy) z.at_)
    have i4a:=t₄.i k₂
    have axM:ax≠M:=fun q=>by
      obtain ⟨o,n,e,hd⟩:=it3.src
      exact z.H6 o _ n (q▸e) hd
    refine ((p:Br true (Ev d.fm ((y,.val b)::(x,.val a)::ρc) elt _) _).1 rfl) _ _ i4a _ _ fun v' r' s6 p6a i6 x6 r6=>?_
    have gI:¬F.C.G I2:=fun g=>nX (k.x1 _ (k.i.sub _ g))
    have gax:¬F.C.G ax:=fun g=>hXax (k.x1 _ (k.i.sub _ g))
    refine (t₄.eval k₂ i6 x6).append k₂ r6 (Nat.le_trans (Nat.le_add_right _ _) hz) fun h7a t7 kD=>⟨r₂.length,Nat.lt_succ_self _,pre2++[b],r₂,out++[r'],List.append_cons pre2 b r₂,rfl,⟨?_,fm.2⟩,t7.sub fun y' dd e=>?_,?_,p6a⟩
    · refine b8 (List.length_append ..) (b8 (Nat.add_assoc ..) (b8 (List.length_singleton ..) (b8 (Nat.add_comm 1 ..) ?_)));exact hz
    · rcases List.mem_cons.mp (mem_of_lookup e) with q|q
      · cases q;exact (c5 _ _ fun q=>hxy q.symm).trans e
      · cases q
    · refine b8 (List.length_append ..) ?_
      exact ⟨it3.at (fun o e=>kD _ o (fun q=>nX (q▸k.xD)) (x6.le _ o gI ((z.same.2 _ (nM _ (.inr rfl))).trans e))) fun o e=>kD _ o axD (x6.le _ o gax ((z.same.2 _ axM).trans e)),
        it.frame _ _ _ stO fun b o tb e=>kD b o (ti.d b tb) (x6.le b o (ti.g b tb) ((z.same.2 b (tM b tb)).trans (kp3 b o (TI2 b tb) e)))⟩
  exact b9b inner (it₂.c5t (s:= {s5a with heap:=h₆}) inner)
theorem F0.c2g{x y:Str}{elt iter i2:Expr}{pos xp yp:Pos}{PL:List PV→Prop}(c:c6 F sc ρ ρc)(h:I6 F ρ iter fun l=>l.length≤sizeLine∧∀d:m5 F sc,Co3 d.fm ρc x y i2 elt PL l [])(hx:sc.names.lookup x=some .local)(hy:sc.names.lookup y=some .local)(hxy:y≠x)(hs2:∀d:m5 F sc,∀v,foldedSetIterable i2 d.fm.env v=pure v)
    (hcell:∀y∈sc.names,y.2≠ .cell:=by decide) (hkind:sc.kind= .function:=by rfl) (hnames:∀y∈sc.names,y.2= .local→sc.names.lookup y.1=some .local:=by decide)
    (hs:∀x,foldedSetIterable iter F.env x=pure x:=by intro _;rfl):F0 F ρ (.ListComp elt [⟨.Name x xp,iter,[],0⟩,⟨.Name y yp,i2,[],0⟩] sc pos) PL:=
  F0.b7w c (fun X s i Q E q=>h X s i Q E fun s₁ h₁ I0 l St T p i₁ x1a hk it hT st=>q s₁ h₁ _ i₁ x1a (c5k i₁ c (.plain hcell hkind) hkind hx hy hxy hs2 hk it hT st p.2)) hkind hnames hs
end
end
section
variable [HH:u7]
mutual
noncomputable def b1s(w:World):PV→Int
  | .none=>0xFCA86420
  | .bool b=>if b then 1 else 0
  | .int i=>hashInt i
  | .str s=>hashStr w s
  | .tup l=>reduceHash (Builtin.Tuple.tupleHashOf (a4x w l))
  | .lst _=>0
  | .dct _=>0
  | .z8 _=>0
  | .any=>0
noncomputable def a4x(w:World):List PV→List Int
  |[]=>[]
  |d::l=>b1s w d::a4x w l
end
mutual
noncomputable def b4g:PV→Nat
  | .tup l=>b0t l+1
  | .none=>1
  | .bool _=>1
  | .int _=>1
  | .str _=>1
  | .lst _=>1
  | .dct _=>1
  | .z8 _=>1
  | .any=>1
noncomputable def b0t:List PV→Nat
  |[]=>0
  |d::l=>b4g d+b0t l
end
section
variable{prog:Program}{w:World}{E:Value→Shared→Prop}
theorem a6l(n:Nat)(ih:∀(d:PV),a0q n d=true→∀(A:Around) (s:Shared) (v:Value) (X:Addr→Prop) (Q:Int→Shared→Prop),Rep X s.heap v d→A.units+n<cLine→Q (b1s w d) {s with toks:=s.toks+b4g d} →wpAny (model prog w) A (pyHash v) Q E s):
    ∀ (l:List PV) (vs:List Value) (A:Around) (s:Shared) (X:Addr→Prop) (b:Array Int) (Q:Array Int→Shared→Prop),l.all (a0q n)=true→i0 X s.heap vs l→A.units+n<cLine→
      (∀b',b'.toList=b.toList++a4x w l→Q b' {s with toks:=s.toks+b0t l})→
      wpAny (model prog w) A (forIn vs b fun x r=>do let h ← pyHash x;pure PUnit.unit;pure (ForInStep.yield (r.push h))) Q E s
  | [],vs,A,s,X,b,Q,_,r,_,h=>by
    refine b8 (r.nil_inv ..) ?_
    exact wpAny_pure (h b (by simp [a4x]))
  | d::l,vs,A,s,X,b,Q,hk,r,hu,h=>by
    obtain ⟨v,vs',rfl,r1,r2⟩:=r.cons_inv
    simp only [List.all_cons,Bool.and_eq_true] at hk
    refine b8 (List.forIn_cons ..) ?_
    refine wpAny_bind (wpAny_bind (ih d hk.1 A s v X _ r1 hu ?_))
    refine wpAny_bind (wpAny_pure (wpAny_pure ?_))
    refine a6l n ih l vs' A {s with toks:=s.toks+b4g d} X _ Q hk.2 r2 hu fun b' hb=>?_
    have:=h b' (by simp [hb,a4x])
    simpa [b0t,Nat.add_assoc] using this
theorem a6g:∀(n:Nat) (d:PV),a0q n d=true→∀(A:Around) (s:Shared) (v:Value) (X:Addr→Prop) (Q:Int→Shared→Prop),Rep X s.heap v d→A.units+n<cLine→Q (b1s w d) {s with toks:=s.toks+b4g d} →
    wpAny (model prog w) A (pyHash v) Q E s
  | n,.none,_,A,s,v,X,Q,r,hu,h=>by
    refine b8 (r.none_inv ..) ?_
    exact pyHash_slot (T:="NoneType") rfl PySem.F.slot_NoneType_hash PySem.F.entry_NoneType_hash (PySem.F.args_NoneType_hash_1 _) (beq_builtin_none _) (.inr (by exact Nat.lt_of_le_of_lt (Nat.le_add_right _ _) (by assumption))) (wpAny_bind (wpAny_pure (wpAny_bind (wpAny_mkInt (wpAny_pure ⟨_,_,rfl,h⟩)))))
  | n,.bool b,_,A,s,v,X,Q,r,hu,h=>by
    refine b8 (r.bool_inv ..) ?_
    refine pyHash_slot (T:="bool") rfl PySem.F.slot_bool_hash PySem.entry_int_hash (PySem.args_int_hash _) (beq_builtin_none _) (.inr (by exact Nat.lt_of_le_of_lt (Nat.le_add_right _ _) (by assumption))) ?_
    clear r;cases b
    · exact (show wpAny _ _ (do ret (← mkInt 0)) _ _ s from wpAny_bind (wpAny_mkInt (wpAny_pure ⟨_,_,rfl,h⟩)))
    · exact (show wpAny _ _ (do ret (← mkInt 1)) _ _ s from wpAny_bind (wpAny_mkInt (wpAny_pure ⟨_,_,rfl,h⟩)))
  | n,.int i,_,A,s,v,X,Q,r,hu,h=>by
    obtain ⟨t,rfl⟩:=r.int_inv
    exact wpAny_pyHash_int h
  | n,.str x,_,A,s,v,X,Q,r,hu,h=>by
    obtain ⟨t,rfl⟩:=r.str_inv
    exact wpAny_pyHash_str h
  |0,.tup l,hk,_,_,_,_,_,_,_,_=>by cases hk
  | n+1,.tup l,hk,A,s,v,X,Q,r,hu,h=>by
    obtain ⟨a,vs,rfl,⟨c,ho⟩,hX,rl⟩:=r.n8
    refine pyHash_slot (T:="tuple") ⟨_,ho,rfl⟩ PySem.F.slot_tuple_hash PySem.F.entry_tuple_hash (PySem.F.args_tuple_hash_1 _) (beq_builtin_none _) (.inr (by exact Nat.lt_of_le_of_lt (Nat.le_add_right _ _) (by assumption))) ?_
    show wpAny _ _ (Builtin.Tuple.tupleItemsOf (.ref a)>>=_) _ _ s
    refine wpAny_bind (wpAny_tupleItemsOf ho rfl ?_)
    refine wpAny_bind ?_
    refine C5 (Array.forIn_toList ..) ?_
    refine a6l n (fun d hd=>a6g n d hd) l vs A.in1 s X #[] _ hk rl (by simp only [Around.in1_units] at hu ⊢;lia) fun b hb=>?_
    show wpAny _ _ (retInt (Builtin.Tuple.tupleHashOf b.toList)) _ _ _
    refine b8 (hb ..) ?_
    exact wpAny_bind (wpAny_mkInt (wpAny_pure ⟨_,_,rfl,h⟩))
  |n,.lst _,hk,_,_,_,_,_,_,_,_=>by cases n <;> cases hk
  |n,.dct _,hk,_,_,_,_,_,_,_,_=>by cases n <;> cases hk
  |n,.z8 _,hk,_,_,_,_,_,_,_,_=>by cases n <;> cases hk
  |n,.any,hk,_,_,_,_,_,_,_,_=>by cases n <;> cases hk
end
theorem a8f{prog:Program}{w:World}{E:Value→Shared→Prop}{A:Around}{s:Shared}{X:Addr→Prop} :∀(n:Nat) (d:PV) (v:Value) (Q:Bool→Shared→Prop),a0q n d=true→Rep X s.heap v d→Q true s→wpAny (model prog w) A (eqIsQuiet n v) Q E s
  |n,.none,v,Q,_,r,h=>by refine b8 (r.none_inv ..) ?_;refine b8 (eqIsQuiet_byValue n (by rfl) ..) ?_;exact wpAny_pure h
  |n,.bool b,v,Q,_,r,h=>by refine b8 (r.bool_inv ..) ?_;refine b8 (eqIsQuiet_byValue n (by rfl) ..) ?_;exact wpAny_pure h
  |n,.int i,v,Q,_,r,h=>by obtain ⟨t,rfl⟩:=r.int_inv;refine b8 (eqIsQuiet_byValue n (by rfl) ..) ?_;exact wpAny_pure h
  |n,.str x,v,Q,_,r,h=>by obtain ⟨t,rfl⟩:=r.str_inv;refine b8 (eqIsQuiet_byValue n (by rfl) ..) ?_;exact wpAny_pure h
  |0,.tup l,_,_,hk,_,_=>by cases hk
  | n + 1,.tup l,v,Q,hk,r,h=>by
    obtain ⟨a,vs,rfl,⟨c,ho⟩,hX,rl⟩:=r.n8
    have hT:s.TypeIs (.ref a) "tuple":=⟨_,ho,rfl⟩
    unfold eqIsQuiet
    refine wpAny_bind (wpAny_specialOf hT PySem.F.slot_tuple_eq.lookup ?_)
    show wpAny _ _ (isInstance (.ref a) (.type "tuple")>>=_) _ _ s
    refine wpAny_bind (wpAny_isInstance hT isSubtype_tuple_tuple ?_)
    refine b8 (if_neg (show¬((!true)=true) from Bool.false_ne_true) ..) ?_
    refine wpAny_bind (wpAny_seqItems ho rfl ?_)
    refine wpAny_bind ?_
    show wpAny _ _ (forIn vs.toArray _ _) _ _ s
    refine C5 (Array.forIn_toList ..) ?_
    refine wpAny_forIn_list _ (fun rest r s'=>r.1=none∧s'=s∧∃l',i0 X s.heap rest l'∧l'.all (a0q n)=true) _ ?_ ?_ _ _ ⟨rfl,rfl,l,rl,hk⟩
    · clear h ho rl hT;rintro v rest r s' ⟨hr,rfl,l',rl',hl'⟩
      cases l' with
      |nil=>have:=rl'.1;simp at this
      | cons d l'=>
        obtain ⟨v',vs',e,r1,r2⟩:=rl'.cons_inv
        cases e
        simp only [List.all_cons,Bool.and_eq_true] at hl'
        refine wpAny_bind (a8f n d v _ hl'.1 r1 ?_)
        refine b8 (if_neg (show¬((!true)=true) from Bool.false_ne_true) ..) ?_
        exact wpAny_pure ⟨rfl,rfl,l',r2,hl'.2⟩
    · clear r ho rl hT;rintro ⟨r1,r2⟩ s' ⟨hr,rfl,_⟩
      simp only at hr
      subst hr
      exact wpAny_pure h
  |n,.lst _,_,_,hk,_,_=>by cases n <;> cases hk
  |n,.dct _,_,_,hk,_,_=>by cases n <;> cases hk
  |n,.z8 _,_,_,hk,_,_=>by cases n <;> cases hk
  |n,.any,_,_,hk,_,_=>by cases n <;> cases hk
end
section
variable [HH:u7]
inductive E6(hsh:PV→Int)(X:Addr→Prop)(h:Heap):List DictEntry→List (PV×PV)→Prop
  |nil:E6 hsh X h [] []
  |cons {e:DictEntry} {k d:PV} {es:List DictEntry} {kvs:List (PV×PV)} :e.hash=hsh k→Rep X h e.key k→Rep X h e.val d→E6 hsh X h es kvs→E6 hsh X h (e::es) ((k,d)::kvs)
theorem E6.len{hsh:PV→Int}{X:Addr→Prop}{h:Heap}{es:List DictEntry}{kvs:List (PV×PV)}(x:E6 hsh X h es kvs):es.length=kvs.length:=by
  induction x with
  |nil=>rfl
  |cons _ _ _ _ ih=>simp [ih]
theorem E6.of{hsh:PV→Int}{X:Addr→Prop}{h:Heap} :∀ {es:List DictEntry} {kvs:List (PV×PV)},es.length=kvs.length→(∀(i:Nat) e kv,es[i]?=some e→kvs[i]?=some kv→e.hash=hsh kv.1∧Rep X h e.key kv.1∧Rep X h e.val kv.2)→E6 hsh X h es kvs:=by
  intro LL1
  induction LL1 with
  | nil=>
    intro LL2
    cases LL2 with
    | nil=>
      rintro _ _
      exact .nil
    | cons _ _=>
      nofun
  | cons e es ih=>
    intro LL3
    cases LL3 with
    | nil=>
      nofun
    | cons kv kvs=>
      rintro hl hi
      obtain ⟨h1,h2,h3⟩:=hi 0 e kv rfl rfl
      exact .cons h1 h2 h3 (ih (by exact Nat.succ.inj hl) fun i e kv a b=>hi (i+1) e kv (by exact a) (by exact b))
theorem E6.at{hsh:PV→Int}{X:Addr→Prop}{h:Heap}{es:List DictEntry}{kvs:List (PV×PV)}(x:E6 hsh X h es kvs):∀(i:Nat) e kv,es[i]?=some e→kvs[i]?=some kv→e.hash=hsh kv.1∧Rep X h e.key kv.1∧Rep X h e.val kv.2:=by
  induction x with
  |nil=>intro i e kv a;simp at a
  | cons h1 h2 h3 _ ih=>
    intro i e kv a b
    cases i with
    |zero=>simp at a b;subst a b;exact ⟨h1,h2,h3⟩
    |succ i=>exact ih i e kv (by simpa using a) (by simpa using b)
theorem B3.iff{hsh:PV→Int}{X:Addr→Prop}{h:Heap}{a:Addr}{kvs:List (PV×PV)} :B3 hsh X h a kvs↔∃es ep,h.get? a=some {cls:= .type "dict",data:= .dict es ep} ∧E6 hsh X h es.toList kvs:=by
  constructor
  · rintro ⟨es,ep,h1,h2,h3⟩
    exact ⟨es,ep,h1,E6.of (by exact h2) fun i e kv a b=>h3 i e kv (by simpa using a) b⟩
  · rintro ⟨es,ep,h1,h2⟩
    exact ⟨es,ep,h1,by exact h2.len,fun i e kv a b=>h2.at i e kv (by simpa using a) b⟩
inductive E9{K:Type}(X:Addr→Prop)(h:Heap):List (K×Value)→List (K×PV)→Prop
  |nil:E9 X h [] []
  |cons {k:K} {v:Value} {d:PV} {kvs:List (K×Value)} {m:List (K×PV)} :Rep X h v d→E9 X h kvs m→E9 X h ((k,v)::kvs) ((k,d)::m)
theorem E9.keys{K:Type}{X:Addr→Prop}{h:Heap}{kvs:List (K×Value)}{m:List (K×PV)}(x:E9 X h kvs m):kvs.map (·.1)=m.map (·.1):=by
  induction x with
  |nil=>rfl
  |cons _ _ ih=>simp [ih]
theorem E9.mono{K:Type}{X Y:Addr→Prop}{h h':Heap}{kvs:List (K×Value)}{m:List (K×PV)}(x:E9 X h kvs m)(r:∀v d,Rep X h v d→Rep Y h' v d):E9 Y h' kvs m:=by
  induction x with
  |nil=>exact .nil
  |cons h1 _ ih=>exact .cons (r _ _ h1) ih
noncomputable def putK{K:Type}[DecidableEq K](m:List (K×PV))(k:K)(d:PV):List (K×PV):=
  if m.any (fun x=>x.1=k) then m.map (fun x=>if x.1=k then (x.1,d) else x) else m++[(k,d)]
theorem E9.append{K:Type}{X:Addr→Prop}{h:Heap}{kvs us:List (K×Value)}{m n:List (K×PV)}(x:E9 X h kvs m)(y:E9 X h us n):E9 X h (kvs++us) (m++n):=by
  induction x with
  |nil=>exact y
  |cons h1 _ ih=>exact .cons h1 ih
theorem E9.stored{K:Type}[DecidableEq K]{X:Addr→Prop}{h:Heap}{kvs:List (K×Value)}{m:List (K×PV)}{k:K}{v:Value}{d:PV}(x:E9 X h kvs m)(r:Rep X h v d):E9 X h (PySem.stored kvs k v) (putK m k d):=by
  have e:kvs.any (fun kv=>kv.1=k)=m.any (fun x=>x.1=k):=by
    clear r
    induction x with
    |nil=>rfl
    |cons _ _ ih=>exact congrArg _ ih
  have p:E9 X h (kvs.map fun kv=>if kv.1=k then (kv.1,v) else kv) (m.map fun x=>if x.1=k then (x.1,d) else x):=by
    clear e
    induction x with
    |nil=>exact .nil
    | @cons k' v' d' kvs m h1 h2 ih=>
      by_cases hk:k'=k
      · have a:∀ {α:Type} (y z:K×α),(if k'=k then y else z)=y:=fun _ _=>if_pos hk
        show E9 X h ((if k'=k then (k',v) else (k',v'))::_) ((if k'=k then (k',d) else (k',d'))::_)
        rw [a,a];exact .cons r ih
      · have a:∀ {α:Type} (y z:K×α),(if k'=k then y else z)=z:=fun _ _=>if_neg hk
        show E9 X h ((if k'=k then (k',v) else (k',v'))::_) ((if k'=k then (k',d) else (k',d'))::_)
        rw [a,a];exact .cons h1 ih
  rw [PySem.stored,putK,e]
  by_cases q:(m.any fun x=>x.1=k)=true
  · rw [if_pos q,if_pos q];exact p
  · rw [if_neg q,if_neg q];exact x.append (.cons r .nil)
theorem a7j{K:Type}[DecidableEq K](m:List (K×PV))(k:K)(d:PV):(putK m k d).length≤m.length+1:=by
  unfold putK;split <;> simp
theorem a4q{K:Type}[DecidableEq K](m:List (K×PV))(k:K)(d:PV):(putK m k d).map (·.1)=if k∈m.map (·.1) then m.map (·.1) else m.map (·.1)++[k]:=by
  rw [putK]
  by_cases h:k∈m.map (·.1)
  · have e:(m.any fun x=>decide (x.1=k))=true:=by
      obtain ⟨x,hx,hk⟩:=List.mem_map.mp h
      exact List.any_eq_true.mpr ⟨x,hx,decide_eq_true hk⟩
    rw [if_pos h,if_pos e,List.map_map]
    exact List.map_congr_left fun x O=>by
      by_cases q:x.1=k
      · exact (congrArg Prod.fst (if_pos q):(if x.1=k then (x.1,d) else x).1=(x.1,d).1)
      · exact (congrArg Prod.fst (if_neg q):(if x.1=k then (x.1,d) else x).1=x.1)
  · have e:¬(m.any fun x=>decide (x.1=k))=true:=fun z=>by
      obtain ⟨x,hx,e⟩:=List.any_eq_true.mp z
      exact h (List.mem_map.mpr ⟨x,hx,of_decide_eq_true e⟩)
    rw [if_neg h,if_neg e,List.map_append];rfl
theorem a1t{K:Type}[DecidableEq K]{m:List (K×PV)}(k:K)(d:PV)(h:(m.map (·.1)).Nodup):((putK m k d).map (·.1)).Nodup:=by
  refine b8 (a4q ..) ?_
  split
  · exact h
  · rename_i hk
    refine b8 (propext (List.nodup_append ..)) ?_
    exact ⟨h,by simp,fun x hx y hy=>by simp at hy;subst hy;exact fun e=>hk (e▸hx)⟩
noncomputable def ik(m:List (Int×PV)):List (PV×PV):=m.map fun x=>(.int x.1,x.2)
theorem b0g(k:Int)(d:PV)(m:List (Int×PV)):ik ((k,d)::m)=(.int k,d)::ik m:=rfl
section
variable{prog:Program}{w:World}
theorem E6.int{hsh:PV→Int}(hh:∀i,hsh (.int i)=hashInt i){X:Addr→Prop}{h:Heap} :∀ {es:List DictEntry} {m:List (Int×PV)},E6 hsh X h es (ik m)→
    ∃kvs:List (Int×Value),Pairs (intKind prog w) es kvs∧(∀e∈es,∃k,(intKind prog w).is k e.key=true∧e.hash=hashInt k)∧E9 X h kvs m:=by
  intro LL1
  induction LL1 with
  | nil=>
    intro LL2
    cases LL2 with
    | nil=>
      rintro _
      exact ⟨[],.nil,fun e he=>(by simp at he),.nil⟩
    | cons HD m=>
      obtain ⟨k,d⟩:=HD
      rintro x
      rw [b0g] at x;cases x
  | cons e es ih=>
    intro LL3
    cases LL3 with
    | nil=>
      rintro x
      cases x
    | cons HD m=>
      obtain ⟨k,d⟩:=HD
      rintro x
      rw [b0g] at x
      cases x with
      | cons h1 h2 h3 h4=>
        obtain ⟨kvs,p,q,v⟩:=ih h4
        obtain ⟨t,ht⟩:=h2.int_inv
        have hk:(intKind prog w).is k e.key=true:=by refine b8 (ht ..) ?_;simp [intKind,Value.isInt]
        exact ⟨(k,e.val)::kvs,.cons hk rfl p,fun e' he=>by
          clear h2 h3 ht;rcases List.mem_cons.mp he with r|he
          · clear he;subst r;exact ⟨k,hk,h1.trans (hh k)⟩
          · exact q e' he,.cons h3 v⟩
theorem E6.ofInt{hsh:PV→Int}(hh:∀i,hsh (.int i)=hashInt i){X:Addr→Prop}{h:Heap}{es:List DictEntry}{kvs:List (Int×Value)}{m:List (Int×PV)}(p:Pairs (intKind prog w) es kvs)
    (q:∀e∈es,∃k,(intKind prog w).is k e.key=true∧e.hash=hashInt k) (v:E9 X h kvs m):E6 hsh X h es (ik m):=by
  induction p generalizing m with
  |nil=>cases v;exact .nil
  | @cons e kv es kvs h1 h2 _ ih=>
    cases v with
    | @cons k v' d _ m r v=>
      refine b8 (b0g ..) ?_
      have h1:Value.isInt k e.key=true:=h1
      obtain ⟨t,ht⟩:=Value.isInt_shape h1
      obtain ⟨k',h3,h4⟩:=q e List.mem_cons_self
      have h3:Value.isInt k' e.key=true:=h3
      have hkk:k'=k:=Value.isInt_inj _ _ _ h3 h1
      refine .cons (by exact b8 (h4 ..) (b8 (hkk ..) (b8 (hh ..) rfl))) (by refine b8 (ht ..) ?_;exact .int _ _) (by refine b8 (h2 ..) ?_;exact r) (ih (fun e' he=>q e' (List.mem_cons_of_mem _ he)) v)
theorem B3.int{hsh:PV→Int}(hh:∀i,hsh (.int i)=hashInt i){X:Addr→Prop}{h:Heap}{a:Addr}{m:List (Int×PV)}(hn:(m.map (·.1)).Nodup)(x:B3 hsh X h a (ik m)):∃kvs,h.DictOf (intKind prog w) a kvs∧E9 X h kvs m:=by
  obtain ⟨es,ep,h1,h2⟩:=B3.iff.mp x
  obtain ⟨kvs,p,q,v⟩:=E6.int (prog:=prog) (w:=w) hh h2
  exact ⟨kvs,⟨_,es,ep,h1,⟨rfl,rfl,rfl⟩,rfl,fun e he=>q e (Array.mem_toList_iff.mpr he),p,by refine b8 (v.keys ..) ?_;exact hn⟩,v⟩
theorem B3.ofInt{hsh:PV→Int}(hh:∀i,hsh (.int i)=hashInt i){X:Addr→Prop}{h:Heap}{a:Addr}{kvs:List (Int×Value)}{m:List (Int×PV)}(x:h.DictOf (intKind prog w) a kvs)(v:E9 X h kvs m):B3 hsh X h a (ik m):=by
  obtain ⟨⟨c,dd,dt,sl⟩,es,ep,ho,⟨h1,h2,h3⟩,hd,hk,hp,_⟩:=x
  simp only at h1 h2 h3 hd
  subst h1 h2 h3 hd
  exact B3.iff.mpr ⟨es,ep,ho,E6.ofInt hh hp (fun e he=>hk e (Array.mem_toList_iff.mp he)) v⟩
end
section
variable{F:Fm}{ρ:b9}{N:b9→Prop}{R:PV→Prop}{P:PV→Prop}
theorem b6v{C:Cx}{a:Addr}(h:C.g.get? a= .none):(a==sysModules)=false:=by
  refine beq_eq_false_iff_ne.mpr fun e=>?_
  obtain ⟨o,ho⟩:=C.mods
  rw [e] at h
  rw [show C.g.get? sysModules=some o from ho] at h;cases h
theorem I.c0s{X:Addr→Prop}{s:Shared}{ad:Str→Addr}{x:Str}{l:PV}(i:I F X ρ s)(w:x8 F X ρ s.heap ad)(e:ρ.lookup x=some (.own l)):F.C.g.get? (ad x)= .none:=
  (i.new _ (w.own x l e).2.1).elim (fun g=>absurd g (w.own x l e).2.2.1) id
theorem Ex.setInt{x:Str}{m:List (Int×PV)}{value key:Expr}{np tp pos:Pos}(hx:ρ.lookup x=some (.own (.dct (ik m))))(hn:(m.map (·.1)).Nodup)(hz:m.length≤sizeLine)
    (h:Ev F ρ value fun d=>Ev F ρ key fun k=>∃i,k= .int i∧N ((x,.own (.dct (ik (putK m i d))))::ρ)) (hd:(x==("__debug__":Str))=false:=by decide)
    (hs:swapsWith value (some (.Subscript (.Name x np) key tp)) pos.line F.env=pure false:=by rfl):Ex F ρ (.Assign [.Subscript (.Name x np) key tp] value pos) N R:=fun X s j Q E n r=>by
  refine wpAny_Assign_Subscript (h X s j.1 _ _ fun v d s₁ p1a i₁ x1a r₁=>?_) hs
  obtain ⟨ad,w⟩:=i₁.vars
  refine wpAny_Name (t8 F.hk (w.own x _ hx).1 ?_) hd
  refine p1a X s₁ i₁ _ _ fun u k s₂ z1 i₂ x₂ r₂=>?_
  obtain ⟨i,hk,p2a⟩:=z1
  subst hk
  obtain ⟨t,rfl⟩:=r₂.int_inv
  obtain ⟨ad2,w2a⟩:=i₂.vars
  have e₂:=x8.move w i₁ x₂ w2a hx
  refine C5 (e₂ ..) ?_
  have j2a:=j.step i₂ (x1a.trans x₂)
  have k₂:=m7.x7 j.1 (x1a.trans x₂)
  obtain ⟨hv,hX,hG,hn',ho⟩:=w2a.own x _ hx
  obtain ⟨kvs,hm,vv⟩:=B3.int (prog:=F.C.prog) (w:=F.C.w) F.C.a9d hn ho
  refine wpAny_setItem_pairs (k:=i) (by simp [intKind,Value.isInt]) hm (fun h' hm' hs'=>?_) (by have:=congrArg List.length vv.keys;simp at this;refine b8 (this ..) ?_;exact hz)
  have rv:Rep X s₂.heap v d:=x₂.all i₁ r₁
  obtain ⟨j3,k₃⟩:=j2a.a5g (h':=h') (tk:=s₂.toks+1) w2a hx hs' (l':= .dct (ik (putK m i d))) fun le=>B3.ofInt F.C.a9d hm' ((vv.mono fun v d r=>r.le le).stored (rv.le le))
  exact n _ _ X p2a j3 (fun O h=>h) (k₂.trans k₃ (j.alive j2a (fun O h=>h) k₂))
theorem Rep.avoid{X:Addr→Prop}{h:Heap}{v:Value}{d:PV}{L:Addr}(r:Rep X h v d)(hL:∀o vs n,h.get? L=some o→o.data≠ .seq vs n):Rep (fun b=>X b∨b=L) h v d:=by
  induction r with
  |none=>exact .none
  |bool b=>exact .bool b
  |int i t=>exact .int i t
  |str s t=>exact .str s t
  |z8 v k=>exact .z8 v k
  |any v=>exact .any v
  | tup ht hx hl _ ih=>
    obtain ⟨n,ho⟩:=ht
    exact .tup ⟨n,ho⟩ (fun z=>z.elim hx fun e=>hL _ _ n (e▸ho) rfl) hl ih
  | lst ht hx hl _ ih=>
    obtain ⟨n,ho⟩:=ht
    exact .lst ⟨n,ho⟩ (fun z=>z.elim hx fun e=>hL _ _ n (e▸ho) rfl) hl ih
theorem I.c4a{X:Addr→Prop}{s s₂:Shared}{h':Heap}{tk:Nat}{D:Addr}(i:I F X ρ s)(i₂:I F X ρ s₂)(x:Ext F.C.G s s₂)(hD:s.heap.get? D= .none)(hs:Heap.SameBut D s₂.heap h'):
    I F X ρ {s₂ with heap:=h',toks:=tk} ∧Ext F.C.G s {s₂ with heap:=h',toks:=tk} :=by
  have nG:¬F.C.G D:=fun g=>by obtain ⟨o,ho⟩:=i.d8 _ (i.sub _ g);exact n9 hD ho
  have xe:Ext F.C.G s {s₂ with heap:=h',toks:=tk} :=⟨x.gens,x.os,x.drawn,fun b o hb e=>(hs.2 b fun q=>g7 q hD e).trans (x.le b o hb e)⟩
  exact ⟨i.ext ⟨xe,F.C.stable _ _ i₂.inv fun b o g e=>(hs.2 b fun q=>nG (q▸g)).trans e,fun a g=>(by obtain ⟨o,ho⟩:=i₂.d8 a (i₂.sub a g);exact ⟨o,(hs.2 a fun q=>nG (q▸g)).trans ho⟩)⟩,xe⟩
theorem b9q.c8y{key value:Expr}{pos:Pos}(h:Ev F ρ key fun k=>Ev F ρ value fun d=>∃i,k= .int i∧P (.dct (ik [(i,d)]))):b9q F ρ (.Dict [some key] [value] pos) P:=fun X s i Q E q=>by
  refine wpAny_Dict_pairs (knd:=intKind F.C.prog F.C.w) (pairs:=[(eval key F.env,do let x ← eval value F.env;standAt pos;pure x)]) rfl (by simp) (by simp) ?_
  have i₀:=i.grow (s':= {s with heap:=s.heap.push {cls:= .type "dict",data:= .dict #[]}}) (c8 _)
  have x0a:Ext F.C.G s {s with heap:=s.heap.push {cls:= .type "dict",data:= .dict #[]}} :=Ext.heap _ _ (Le.of (c8 _))
  have hD:s.heap.get? s.heap.objs.size= .none:=A8 _
  have nG:¬F.C.G s.heap.objs.size:=fun g=>by obtain ⟨o,ho⟩:=i.d8 _ (i.sub _ g);exact n9 hD ho
  refine evalPairs_cons (h X _ i₀ _ _ fun vk k s₁ p1a i₁ x1a r₁=>wpAny_bind (p1a X s₁ i₁ _ _ fun vd d s₂ ⟨n,hk,p2a⟩ i₂ x₂ r₂=>wpAny_bind (wpAny_standAt (wpAny_pure (evalPairs_nil ?_)))))
  clear p1a;subst hk
  have r₁:=x₂.all i₁ r₁
  obtain ⟨t,rfl⟩:=r₁.int_inv
  have x12:=x1a.trans x₂
  have hem:s₂.heap.DictOf (intKind F.C.prog F.C.w) s.heap.objs.size []:=by
    obtain ⟨o,es,ep,ho,r⟩:=Heap.DictOf.new (knd:=intKind F.C.prog F.C.w) s.heap
    exact ⟨o,es,ep,x12.le _ _ nG ho,r⟩
  refine ⟨[(n,vd)],⟨by simp [intKind,Value.isInt],rfl,trivial⟩,hem,fun h' hm' hs'=>?_⟩
  obtain ⟨i3a,x3a⟩:=i.c4a (tk:=s₂.toks+[(Value.int n t,vd)].length) i₂ (x0a.trans x12) hD hs'
  have hns:∀o vs c,s₂.heap.get? s.heap.objs.size=some o→o.data≠ .seq vs c:=fun o vs c ho hd=>by
    obtain ⟨o',es,ep,ho',_,hd',_⟩:=hem
    exact a7k (odd rfl ho ho' hd hd')
  have hns':∀o vs c,h'.get? s.heap.objs.size=some o→o.data≠ .seq vs c:=fun o vs c ho hd=>by
    obtain ⟨o',es,ep,ho',_,hd',_⟩:=hm'
    exact a7k (odd rfl ho ho' hd hd')
  have rd:Rep X h' vd d:=r₂.turn hs'.2 hns fun a o e z=>by obtain ⟨o',es,ep,ho',_⟩:=hm';exact ⟨o',e▸ho'⟩
  exact q _ _ _ p2a i3a x3a hD (B3.ofInt F.C.a9d hm' (.cons (rd.avoid hns') .nil))
theorem b0i{prog:Program}{w:World}{A:Around}{E:Value→Shared→Prop}{s:Shared}{d:Addr}{kvs:List (Int×Value)}{Q:Value→Shared→Prop}(hh:A.handled=none)(lo:(d==sysModules)=false)
    (hm:s.heap.DictOf (intKind prog w) d kvs) (h64:kvs.length<64)
    (h:∀h' tk D vs ns,(∀b o,s.heap.get? b=some o→h'.get? b=some o)→s.heap.get? D=none→h'.PlainList D vs.toArray→IntsAre vs ns→ns.Perm (kvs.map (·.1))→ns.Pairwise (· ≤ ·)→Q (.ref D) {s with heap:=h',toks:=tk}):
    wpAny (model prog w) A (call (.builtin "sorted") [.ref d]) Q E s:=by
  obtain ⟨ep,hat⟩:=hm.dictAt
  have hn:kvs.length≤sizeLine:=Nat.le_trans (Nat.le_of_lt h64) (by decide)
  refine Calls.call_function_entry kind_sorted plain_sorted entry_sorted (args_sorted1 _) ?_
  unfold Builtin.«sorted»
  refine wpAny_bind (m:=checkCount "sorted" 1 1 _) (wpAny_pure ?_)
  refine wpAny_bind (kdu_collect (A:=A.in1) (kdl_dict (knd:=intKind prog w) (kvs:=kvs) (ep:=ep) lo) hh hat hn fun h' tk acc hk hacc=>?_)
  have hl:acc.toList.length=kvs.length:=by refine b8 (Array.length_toList ..) ?_;exact hacc.1
  refine wpAny_bind (wpAny_newList ?_ (by refine b8 (hl ..) ?_;exact hn))
  have hints:IntsAre acc.toList (kvs.map (·.1)):=by
    have hj:∀(j:Nat) v,acc.toList[j]?=some v→∃k x,kvs[j]?=some (k,x)∧Value.isInt k v=true:=fun j v e=>hacc.2 j v (by refine C5 (Array.getElem?_toList ..) ?_;exact e)
    revert hj hl
    clear hat hm h h64 hacc hn
    generalize acc.toList=us
    intro hl hj
    induction kvs generalizing us with
    |nil=>refine b8 (List.eq_nil_of_length_eq_zero hl ..) ?_;exact .nil
    | cons kv kvs ih=>
      cases us with
      |nil=>simp at hl
      | cons u us=>
        obtain ⟨k,x,e1,e2⟩:=hj 0 u rfl
        simp at e1;subst e1
        obtain ⟨t,rfl⟩:=Value.isInt_shape e2
        exact .cons k t (ih us (by simpa using hl) fun j v e=>hj (j+1) v (by simpa using e))
  have hoL:(h'.push (seqObj "list" acc.toList.toArray 0)).get? h'.objs.size=some (seqObj "list" acc.toList.toArray 0):=Heap.get?_push_size _ rfl
  refine wpAny_bind (wpAny_holding (wpAny_call_entry slot_list_sort ⟨_,hoL,rfl⟩ entry_list_sort (list_sort_tree hoL hints (by refine b8 (hl ..) ?_;exact h64) fun out ns' a1 a2 a3=>⟨_,rfl,?_⟩) (args_list_sort _)))
  refine wpAny_pure ⟨_,rfl,?_⟩
  obtain ⟨e,he⟩:=sortedHeap_at (out:=out) hoL
  have hnone:s.heap.get? h'.objs.size=none:=by
    exact isNone fun o z=>by exact absurd (Heap.lt_size (hk _ _ z)) (Nat.lt_irrefl _)
  refine h _ tk h'.objs.size out.toList ns' (fun b o e'=>?_) hnone ⟨e,by simpa using he⟩ a1 a2 a3
  have hb:=Heap.lt_size (hk b o e')
  refine b8 (sortedHeap_old (Nat.ne_of_lt hb) (by rw [size_push'];exact Nat.lt_succ_of_lt hb) ..) ?_
  exact Heap.get?_push_of_some _ (hk b o e')
theorem ints_rep{X:Addr→Prop}{h:Heap}{vs:List Value}{ns:List Int}(x:IntsAre vs ns):i0 X h vs (ns.map .int):=by
  induction x with
  |nil=>exact .nil
  |cons n t _ ih=>exact .cons (.int _ _) ih
theorem F0.b4d{x:Str}{m:List (Int×PV)}{np xp pos:Pos}{PL:List PV→Prop}(hx:ρ.lookup x=some (.own (.dct (ik m))))(hn:(m.map (·.1)).Nodup)(h64:m.length<64)
    (h:∀ns:List Int,ns.Perm (m.map (·.1))→ns.Pairwise (· ≤ ·)→PL (ns.map .int)) (hk:F.env.kindOf "sorted"=some .globalImplicit) (hd:(x==("__debug__":Str))=false:=by decide):
    F0 F ρ (.Call (.Name "sorted" np) [.Name x xp] [] pos) PL:=fun X s i Q E q=>by
  refine G6 i (F.C.bi "sorted" (.builtin "sorted") (by simp)) hk (by decide) (callWith_builtin1 (Calls.spliced_cons ?_) rfl rfl)
  obtain ⟨ad,w⟩:=i.vars
  obtain ⟨hv,hX,hG,hn',ho⟩:=w.own x _ hx
  refine wpAny_Name (t8 F.hk hv (Calls.spliced_nil ?_)) hd
  obtain ⟨kvs,hm,vv⟩:=B3.int (prog:=F.C.prog) (w:=F.C.w) F.C.a9d hn ho
  have e:=vv.keys
  refine b0i F.hA (b6v (i.c0s w hx)) hm (by have:=congrArg List.length e;simp at this;refine b8 (this ..) ?_;exact h64) fun h' tk D vs ns hk hD pl hi hp hs=>?_
  have ih:=i.grow (s':= {s with heap:=h',toks:=tk}) hk
  exact q D vs _ _ (h ns (e▸hp) hs) ih (Ext.tok _ _ _ (Le.of hk)) hD pl (ints_rep hi)
end
end
section
variable [HH:u7]
noncomputable def a2k(C:Cx)(o:Value)(name:Str)(d:PV):Prop:=∃v,Rep C.G C.g v d∧∀(A:Around) (Q E:Value→Shared→Prop) (s:Shared),Le C.G C.g s.heap→(∀tk,Q v {s with toks:=tk})→wpAny (model C.prog C.w) A (getAttr o name true) Q E s
noncomputable def StrTab(C:Cx)(a:Addr)(f:Str→Option PV):Prop:=¬C.G a∧(a==sysModules)=false∧∃fv:Str→Option Value,C.g.MapOf (PySem.strKind C.prog C.w) a fv∧∀x,match fv x,f x with
  |some v,some d=>Rep C.G C.g v d
  |none,none=>True
  |_,_=>False
section
variable{F:Fm}{ρ:b9}{N:b9→Prop}{R:PV→Prop}{P:PV→Prop}
theorem StrTab.at{C:Cx}{a:Addr}{f:Str→Option PV}(x:StrTab C a f){h:Heap}(le:Le C.G C.g h):∃fv:Str→Option Value,h.MapOf (PySem.strKind C.prog C.w) a fv∧∀x,match fv x,f x with
    |some v,some d=>Rep C.G C.g v d
    |none,none=>True
    |_,_=>False:=by
  obtain ⟨h1,_,fv,⟨o,es,ep,ho,r⟩,h2⟩:=x
  exact ⟨fv,⟨o,es,ep,le a o h1 ho,r⟩,h2⟩
theorem Ev.attr{e:Expr}{name:Str}{pos:Pos}(h:Ev F ρ e fun d=>∃o,d= .z8 o∧∃d',a2k F.C o name d'∧P d')
    (he:eval (.Attribute e name pos) F.env=(do
      let o ← eval e F.env
      standAt pos.atName
      let r ← holding [o] (getAttr o name true)
      letTemporaryGo e o r
      Pure.pure r):=by with_unfolding_all rfl):Ev F ρ (.Attribute e name pos) P:=fun X s i Q E q=>by
  refine Attribute_any_ (h X s i _ _ fun v d s₁ ⟨o,hd,d',⟨u,hu,hat⟩,p⟩ i₁ x1a r₁=>?_) he
  subst hd
  refine b8 (r₁.a1j ..) ?_
  exact hat F.A _ E s₁ i₁.base fun tk=>q u d' {s₁ with toks:=tk} p (i₁.tok tk) (x1a.trans (Ext.tok' _ _)) (i₁.top hu)
theorem b9j{a:Addr}{f:Str→Option PV}{x:Str}{t:Tok}{X:Addr→Prop}{s:Shared}{Q E:Value→Shared→Prop}(i:I F X ρ s)(tab:StrTab F.C a f)(h:Q (.bool (f x).isSome) {s with toks:=s.toks+1}):
    wpAny (model F.C.prog F.C.w) F.A (compareOp .In (.str x t) (.ref a)) Q E s:=by
  obtain ⟨fv,hm,hf⟩:=tab.at i.base
  refine wpAny_in_of (knd:=PySem.strKind F.C.prog F.C.w) (k:=x) (by simp [PySem.strKind,Value.isStrOf]) tab.2.1 hm ?_
  have:=hf x
  have e:(fv x).isSome=(f x).isSome:=by
    revert this;cases fv x <;> cases f x <;> simp
  refine b8 (e ..) ?_;exact h
theorem Tr.b9j{PB:Bool→Prop}{l r:Expr}{pos:Pos}(h:Ev F ρ l fun a=>Ev F ρ r fun b=>∃x d f,a= .str x∧b= .z8 (.ref d)∧StrTab F.C d f∧PB (f x).isSome)(hm:behindInMarks .In r=false:=by with_unfolding_all rfl):
    Tr F ρ (.Compare l [.In] [r] pos) PB:=fun X s i Q E q=>by
  refine wpAny_isTrue_Compare1 (h X s i _ _ fun v a s₁ p i₁ x1a r₁=>p X s₁ i₁ _ _ fun u b s₂ ⟨x,d,f,ha,hb,tab,p2a⟩ i₂ x₂ r₂=>?_) hm
  clear p;subst ha;subst hb
  obtain ⟨t,rfl⟩:=r₁.str_inv
  refine b8 (r₂.a1j ..) ?_
  exact Mine.Internal.b9j i₂ tab (wpAny_truthy_bool (q _ _ p2a (i₂.tok _) ((x1a.trans x₂).trans (Ext.tok' _ _))))
theorem Ev.a5f{value slice:Expr}{pos:Pos}(h:Ev F ρ value fun a=>Ev F ρ slice fun b=>∃d x f,a= .z8 (.ref d)∧b= .str x∧StrTab F.C d f∧G4 (f x) P)
    (hs:∀o i,subscripted slice false o i=operate [o,i] (getItem o i):=by intro _ _;rfl):Ev F ρ (.Subscript value slice pos) P:=fun X s i Q E q=>by
  refine Subscript_ (h X s i _ _ fun v a s₁ p i₁ x1a r₁=>p X s₁ i₁ _ _ fun u b s₂ z1 i₂ x₂ r₂=>?_)
  obtain ⟨d,x,f,ha,hb,tab,y,hy,p2a⟩:=z1
  clear p;subst ha;subst hb
  obtain ⟨t,rfl⟩:=r₂.str_inv
  refine b8 (r₁.a1j ..) ?_
  obtain ⟨fv,hm,hf⟩:=tab.at i₂.base
  have hfx:=hf x
  rw [hy] at hfx
  cases hv:fv x with
  |none=>rw [hv] at hfx;exact hfx.elim
  | some w=>
    rw [hv] at hfx
    refine tail_any hm.typeIs slot_dict_getitem.lookup (wpAny_getItem_of (knd:=PySem.strKind F.C.prog F.C.w) (k:=x) (by simp [PySem.strKind,Value.isStrOf]) hm hv ?_) (hs _ _)
    exact q _ _ _ p2a (i₂.tok _) ((x1a.trans x₂).trans (Ext.tok' _ _)) (i₂.top hfx)
theorem Ev.letter{value slice:Expr}{pos:Pos}(h:Ev F ρ value fun a=>Ev F ρ slice fun b=>∃(x:Str) (n:Nat) (c:Nat),a= .str x∧b= .int n∧n<2 ^ 62∧(seqIndex? n x.length).bind (x.cps[·]?)=some c∧P (.str ⟨#[c]⟩))
    (hs:∀o i,subscripted slice false o i=operate [o,i] (getItem o i):=by intro _ _;rfl):Ev F ρ (.Subscript value slice pos) P:=fun X s i Q E q=>by
  refine Subscript_ (h X s i _ _ fun v a s₁ p i₁ x1a r₁=>p X s₁ i₁ _ _ fun u b s₂ z1 i₂ x₂ r₂=>?_)
  obtain ⟨x,n,c,ha,hb,hn,hc,p2a⟩:=z1
  clear p;subst ha;subst hb
  obtain ⟨t,rfl⟩:=r₁.str_inv
  obtain ⟨t',rfl⟩:=r₂.int_inv
  refine tail_any (typeIs_str _ x t) PyProof.Rows.slot_str_getitem.lookup (getItem_str (by simp;lia) hc ?_) (hs _ _)
  exact q _ _ _ p2a (i₂.tok _) ((x1a.trans x₂).trans (Ext.tok' _ _)) (.str _ _)
end
end
section
noncomputable abbrev K1 (h:Heap) (d:Addr) (es:Array DictEntry) (ep:Nat):Prop:=h.get? d=some {cls:= .type "dict",data:= .dict es ep}
section
variable{prog:Program}{w:World}{A:Around}{E:Value→Shared→Prop}{s:Shared}{d:Addr}{es:Array DictEntry}{ep:Nat}
theorem K1.typeIs(x:K1 s.heap d es ep):s.TypeIs (.ref d) "dict":=⟨_,x,rfl⟩
theorem a7b(hd:(d==sysModules)=false):MeetsIn prog w (Builtin.«dict.__len__» ⟨[.ref d],[]⟩) (fun O R s=>∃es ep,K1 s.heap d es ep∧R (.ok (.ret (.int es.size s.toks))) {s with toks:=s.toks+1}):=
  .of_wp fun A R s ⟨es,ep,ho,h⟩=>by
    show wpAny _ _ (dictSize d>>=_) _ _ s
    unfold dictSize
    refine wpAny_bind (wpAny_bind (wpAny_dictEntries ho rfl (wpAny_pure ?_)))
    show wpAny _ _ (Builtin.Dict.pendingCount d>>=_) _ _ s
    refine wpAny_bind (wpAny_pendingCount_other hd ?_)
    refine wpAny_ret_mkInt ?_
    refine b8 (Nat.add_zero ..) ?_;exact h
theorem c3h{Q:Value→Shared→Prop}(hd:(d==sysModules)=false)(hm:K1 s.heap d es ep)(hfit:(es.size:Int)<2 ^ 63)(h:Q (.int es.size (s.toks+1)) {s with toks:=s.toks+1+1}):wpAny (model prog w) A (call (.builtin "len") [.ref d]) Q E s:=by
  refine Calls.call_function_entry kind_len plain_len entry_len (args_len1 _) ?_
  unfold Builtin.«len»
  refine wpAny_bind (m:=oneArg "len" _) (wpAny_pure ?_)
  refine wpAny_bind (m:=callSpecial? (.ref d) (Str.ofString "__len__")) (wpAny_callSpecial?_slot (name:=Str.ofString "__len__") hm.typeIs PySem.F.slot_dict_len
    (call_meetsIn PySem.F.slot_dict_len hm.typeIs PySem.F.entry_dict_len (PySem.F.args_dict_len_1 _) (a7b hd) ⟨es,ep,hm,?_⟩))
  show wpAny _ _ _ _ _ {s with toks:=s.toks+1}
  refine wpAny_bind (wpAny_holding (wpAny_pure ?_))
  refine wpAny_bind (wpAny_letGo ?_)
  show wpAny _ _ (if ((es.size:Nat):Int)<0 then _ else _) _ _ _
  refine b8 (if_neg (by lia) ..) ?_
  show wpAny _ _ (if ((es.size:Nat):Int)≥2 ^ 63 then _ else _) _ _ _
  refine b8 (if_neg (by lia) ..) ?_
  exact wpAny_bind (wpAny_mkInt (wpAny_pure ⟨_,rfl,h⟩))
theorem b8o{Q:Value→Shared→Prop}(hd:(d==sysModules)=false)(hm:K1 s.heap d es ep)
    (hQ:Q (.ref s.heap.objs.size) {s with heap:=s.heap.push {cls:= .type "dict_keyiterator",data:= .fields #[.ref d,.int 0 0,.int es.size 0,.int ep 0]}}):wpAny (model prog w) A (pyIter (.ref d)) Q E s:=by
  have hT:=hm.typeIs
  refine wpAny_pyIter_slot hT PySem.F.slot_dict_iter (wpAny_call_entry PySem.F.slot_dict_iter hT PySem.F.entry_dict_iter ?_ (PySem.F.args_dict_iter_1 _))
  unfold Builtin.«dict.__iter__»
  refine wpAny_bind ?_
  unfold Builtin.Dict.dictSlotNone
  refine wpAny_bind (wpAny_notOrdered_dict hT ?_)
  show wpAny _ _ (pure (Value.ref d)) _ _ s
  refine wpAny_pure ?_
  show wpAny _ _ (Builtin.Dict.showsAll d>>=_) _ _ s
  unfold Builtin.Dict.showsAll
  refine b8 (if_neg (by rw [hd];exact Bool.false_ne_true) ..) ?_
  refine wpAny_bind (wpAny_pure ?_)
  refine wpAny_bind (wpAny_dictEntries hm rfl ?_)
  refine wpAny_bind (wpAny_dictEpoch hm rfl ?_)
  refine wpAny_bind (wpAny_newObj_type (wpAny_pure ⟨_,rfl,"dict_keyiterator",_,⟨_,Heap.get?_push_size _ rfl,rfl⟩,PySem.F.slot_dict_keyiterator_next.lookup,?_⟩))
  simpa [rawInt] using hQ
theorem b8c{it:Addr}{i:Nat}{x:DictEntry}{Q:Option Value→Shared→Prop}(hit:s.heap.IsKeyIter it d i es.size ep)(hm:K1 s.heap d es ep)(hx:es[i]?=some x)
    (hQ:∀h',h'.IsKeyIter it d (i+1) es.size ep→Heap.SameBut it s.heap h'→Q (some x.key) {s with heap:=h'}):wpAny (model prog w) A (pyNext (.ref it)) Q E s:=by
  obtain ⟨o,ho,hc,hd⟩:=id hit
  unfold pyNext
  refine wpAny_bind (wpAny_attempt (wpAny_callSpecial?_slot (name:=Str.ofString "__next__") hit.typeIs PySem.F.slot_dict_keyiterator_next
    (wpAny_call_entry PySem.F.slot_dict_keyiterator_next hit.typeIs PySem.F.entry_dict_keyiterator_next ?_ (PySem.F.args_dict_keyiterator_next_1 _))))
  refine wpAny_bind (wpAny_pure ?_)
  refine wpAny_bind ?_
  refine wpAny_bind ?_
  first|refine wpAny_bind (wpAny_typeNameOfWhole_keyiter hit.typeIs (wpAny_pure ?_))|refine wpAny_bind (wpAny_typeNameOf_keyiter hit.typeIs (wpAny_pure ?_))
  refine wpAny_bind (wpAny_fieldsOf ho hd ?_)
  have hown:Builtin.Dict_items.ownsTuple "dict_keyiterator"=false:=by decide
  refine b8 (hown ..) (b8 (if_neg Bool.false_ne_true ..) ?_)
  show wpAny _ _ (if (Value.ref d==Value.none)=true then _ else _) _ _ s
  refine b8 (if_neg (show¬((Value.ref d==Value.none)=true) from Bool.false_ne_true) ..) ?_
  refine wpAny_bind (wpAny_pure ?_)
  refine wpAny_bind (wpAny_dictEntries hm rfl ?_)
  refine b8 (if_neg (by simp) ..) ?_
  refine wpAny_bind (wpAny_pure ?_)
  refine wpAny_bind (wpAny_dictEpoch hm rfl ?_)
  refine b8 (if_neg (by simp) ..) ?_
  refine wpAny_pure ?_
  dsimp only
  refine b8 (if_neg (show¬((i:Int)<0) by lia) ..) (b8 (Int.toNat_natCast ..) (b8 (hx ..) ?_))
  refine wpAny_bind ?_
  first|refine wpAny_bind (wpAny_typeNameOfWhole_keyiter hit.typeIs (wpAny_pure ?_))|refine wpAny_bind (wpAny_typeNameOf_keyiter hit.typeIs (wpAny_pure ?_))
  refine wpAny_bind (wpAny_isOneOf_keyiter hit.typeIs ?_)
  show wpAny _ _ (setField (.ref it) 1 (rawInt ((i:Int)+1))>>=_) _ _ s
  refine wpAny_bind (wpAny_setField ho hd (by simp) ?_)
  have hit':(s.heap.update it (Obj.mapFields (·.setIfInBounds 1 (rawInt ((i:Int)+1))))).IsKeyIter it d (i+1) es.size ep:=
    ⟨_,Heap.get?_update_self _ ho (Obj.isFreed_of_fields (Obj.data_mapFields hd _)),(Obj.cls_mapFields ..).trans hc,by refine b8 (Obj.data_mapFields hd ..) ?_;simp [rawInt]⟩
  refine wpAny_bind (wpAny_holding ?_)
  refine wpAny_bind (wpAny_isOneOf_keyiter (s:= {s with heap:=s.heap.update it (Obj.mapFields (·.setIfInBounds 1 (rawInt ((i:Int)+1))))}) hit'.typeIs ?_)
  show wpAny _ _ (pure x.key) _ _ _
  exact wpAny_pure (wpAny_pure ⟨_,rfl,wpAny_pure (hQ _ hit' (Heap.SameBut.update ..))⟩)
theorem b9z{it:Addr}{i:Nat}{Q:Option Value→Shared→Prop}(hh:A.handled=none)(hit:s.heap.IsKeyIter it d i es.size ep)(hm:K1 s.heap d es ep)(hx:es[i]?=none)
    (hQ:∀h',Heap.ExtBut it s.heap h'→Q none {s with heap:=h'}):wpAny (model prog w) A (pyNext (.ref it)) Q E s:=by
  obtain ⟨o,ho,hc,hd⟩:=id hit
  unfold pyNext
  refine wpAny_bind (wpAny_attempt (wpAny_callSpecial?_slot (name:=Str.ofString "__next__") hit.typeIs PySem.F.slot_dict_keyiterator_next
    (wpAny_call_entry PySem.F.slot_dict_keyiterator_next hit.typeIs PySem.F.entry_dict_keyiterator_next ?_ (PySem.F.args_dict_keyiterator_next_1 _))))
  refine wpAny_bind (wpAny_pure ?_)
  refine wpAny_bind ?_
  refine wpAny_bind ?_
  first|refine wpAny_bind (wpAny_typeNameOfWhole_keyiter hit.typeIs (wpAny_pure ?_))|refine wpAny_bind (wpAny_typeNameOf_keyiter hit.typeIs (wpAny_pure ?_))
  refine wpAny_bind (wpAny_fieldsOf ho hd ?_)
  have hown:Builtin.Dict_items.ownsTuple "dict_keyiterator"=false:=by decide
  refine b8 (hown ..) (b8 (if_neg Bool.false_ne_true ..) ?_)
  show wpAny _ _ (if (Value.ref d==Value.none)=true then _ else _) _ _ s
  refine b8 (if_neg (show¬((Value.ref d==Value.none)=true) from Bool.false_ne_true) ..) ?_
  refine wpAny_bind (wpAny_pure ?_)
  refine wpAny_bind (wpAny_dictEntries hm rfl ?_)
  refine b8 (if_neg (by simp) ..) ?_
  refine wpAny_bind (wpAny_pure ?_)
  refine wpAny_bind (wpAny_dictEpoch hm rfl ?_)
  refine b8 (if_neg (by simp) ..) ?_
  refine wpAny_pure ?_
  dsimp only
  refine b8 (if_neg (show¬((i:Int)<0) by lia) ..) (b8 (Int.toNat_natCast ..) (b8 (hx ..) ?_))
  refine wpAny_bind ?_
  first|refine wpAny_bind (wpAny_typeNameOfWhole_keyiter hit.typeIs (wpAny_pure ?_))|refine wpAny_bind (wpAny_typeNameOf_keyiter hit.typeIs (wpAny_pure ?_))
  show wpAny _ _ (setField (.ref it) 0 .none>>=_) _ _ s
  refine wpAny_bind (wpAny_setField ho hd (by simp) ?_)
  show wpAny _ _ (newExc (.type "StopIteration") []>>=_) _ _ _
  refine wpAny_bind ?_
  simp only [newExc,newTuple]
  refine wpAny_bind (wpAny_newObj_type ?_ (by size_fits))
  refine wpAny_bind (m:=firstArgMember _ _) (wpAny_of_eq (a:=Value.none) (by first|rfl|(simp only [firstArgMember];rfl)) ?_)
  refine wpAny_newObj_type ?_ (by size_fits)
  rw [raiseNew]
  refine wpAny_bind (wpAny_handled ?_)
  refine b8 (show A.in1.handled=none from hh ..) ?_
  refine wpAny_bind (wpAny_pure (wpAny_throw ?_))
  refine wpAny_bind (wpAny_isInstance (T:="StopIteration") (b:=true) ⟨_,Heap.get?_push_size _ rfl,rfl⟩ isSubtype_stop ?_)
  exact wpAny_pure (hQ _ (((Heap.SameBut.update ..).extBut.push _).push _))
end
end
section
section
variable{prog:Program}{w:World}{A:Around}{E:Value→Shared→Prop}{s:Shared}{d:Addr}{es:Array DictEntry}{ep:Nat}
theorem b5b(hh:A.handled=none)(I d:Addr)(hne:d≠I):Walks prog w A I [I,d] [I] es.size (fun i v=>∃e,es[i]?=some e∧v=e.key) (fun i h=>h.IsKeyIter I d i es.size ep∧K1 h d es ep) where
  sub:=fun b hb=>by simp at hb;simp [hb]
  frame:=fun O O O st hk=>⟨(by obtain ⟨o,ho,r⟩:=st.1;exact ⟨o,hk I (.head _) _ ho,r⟩),hk d (.tail _ (.head _)) _ st.2⟩
  item:=fun i s Q E hi st hQ=>b8c st.1 st.2 (Array.getElem?_eq_getElem hi) fun h' hit' hs'=>hQ _ h' s.toks ⟨_,Array.getElem?_eq_getElem hi,rfl⟩ ⟨hit',hs'.extBut _ _ hne st.2⟩ fun b o hb e=>hs'.extBut b o (fun h=>hb (by simp [h])) e
  done:=fun s Q E st hQ=>b9z hh st.1 st.2 (by simp) fun h' he'=>hQ h' s.toks fun b o hb e=>he' b o (fun h=>hb (by simp [h])) e
  self:=fun O O O O st hQ=>wpAny_pyIter_keyiter st.1 hQ
theorem c3a(lo:(d==sysModules)=false):KdlSrc prog w "dict" d d es.size (fun i v=>∃e,es[i]?=some e∧v=e.key) (fun h=>K1 h d es ep) where
  type:=fun O hm=>⟨_,hm,rfl⟩
  there:=fun O hm=>⟨Heap.lt_size hm,Heap.lt_size hm⟩
  keep:=fun O O hm hk=>hk d (.inl rfl) _ hm
  notList:=by decide
  notTuple:=by decide
  hint:=fun O O O O hm hq=>kdl_hint_dict ⟨_,hm,rfl⟩ hq
  iter:=fun O s hh hm=>⟨_,_,(fun O O hq=>b8o lo hm hq),b5b hh _ d (Nat.ne_of_lt (Heap.lt_size hm)),⟨⟨_,Heap.get?_push_size _ rfl,rfl,rfl⟩,Heap.get?_push_of_some _ hm⟩⟩
end
variable [HH:u7]
theorem a0l(t:Ty):clean t.pv=true∧G8 t.pv=true∧a0q 6 t.pv=true∧a0q 8 t.pv=true:=by cases t <;> exact ⟨rfl,rfl,rfl,rfl⟩
theorem b4z(t u:Ty):PyData.eqv (toPy t.pv) (toPy u.pv)=decide (t=u):=by
  cases t <;> cases u <;> rfl
theorem c5v{t u:Ty}(h:toPy t.pv=toPy u.pv):t=u:=
  of_decide_eq_true ((b4z t u).symm.trans ((congrArg (PyData.eqv (toPy t.pv)) h).symm.trans ((b4z t t).trans (decide_eq_true rfl))))
theorem c0j(t:Ty):∃l,t.pv= .tup l:=by cases t <;> exact ⟨_,rfl⟩
noncomputable def C7(C:Cx):HeapKind C.prog C.w Ty where
  is:=fun h t a=>∃X,Rep X h (.ref a) t.pv
  hash:=fun t=>C.hsh t.pv
  draws:=fun t=>C.drw t.pv
  room:=fun A=>A.units+66<cLine
  inj:=fun {h a x y} ⟨X,r⟩ ⟨Y,r'⟩=>by
    obtain ⟨as,q⟩:=r.reads (a0l x).1
    obtain ⟨bs,q'⟩:=r'.reads (a0l y).1
    exact c5v (SeqAt.Reads.unique _ _ _ _ _ (a0i _ (a0l x).1) q q')
  keeps:=(fun {h h' k a d o es ep} z1 ho hd hs=>by obtain ⟨X,r⟩:=z1;exact ⟨X,r.step (L:=d) (fun b o O hb e=>(hs.2 b hb).trans e) fun o' vs n ho' hd'=>by exact a7k (odd rfl ho' ho hd' hd)⟩)
  pyHash:=(fun {A E s k a Q} hu z1 h=>by obtain ⟨X,r⟩:=z1;exact C.c4l A E s _ k.pv X Q r (a0l k).2.2.1 (by lia) h)
  eqBool:=fun {A E s x y a b Q} hu ⟨X,r⟩ ⟨Y,r'⟩ h=>by
    obtain ⟨as,q⟩:=r.reads (a0l x).1
    obtain ⟨bs,q'⟩:=r'.reads (a0l y).1
    refine SeqAt.eqBoolOverData C.prog C.w A E s _ _ _ _ as bs Q q q' (a0i _ (a0l x).1) (a0i _ (a0l y).1) ?_ (by refine b8 (b4z ..) ?_;exact h)
    have h1:=b1v (a0l x).2.1
    exact Nat.lt_of_le_of_lt (Nat.add_le_add_left (Nat.le_trans (Nat.min_le_left _ _) h1) _) (by lia)
  quiet:=(fun {A E s k a Q} z1 h=>by obtain ⟨X,r⟩:=z1;exact a8f 8 k.pv _ Q (a0l k).2.2.2 r h)
noncomputable def tk(m:List (Ty×PV)):List (PV×PV):=m.map fun x=>(x.1.pv,x.2)
theorem b5r(k:Ty)(d:PV)(m:List (Ty×PV)):tk ((k,d)::m)=(k.pv,d)::tk m:=rfl
inductive I8(X:Addr→Prop)(h:Heap):List (Ty×Addr×Value)→List (Ty×PV)→Prop
  |nil:I8 X h [] []
  |cons {t:Ty} {a:Addr} {v:Value} {d:PV} {xs:List (Ty×Addr×Value)} {m:List (Ty×PV)} :Rep X h (.ref a) t.pv→Rep X h v d→I8 X h xs m→I8 X h ((t,a,v)::xs) ((t,d)::m)
theorem I8.keys{X:Addr→Prop}{h:Heap}{xs:List (Ty×Addr×Value)}{m:List (Ty×PV)}(x:I8 X h xs m):xs.map (·.1)=m.map (·.1):=by
  induction x with
  |nil=>rfl
  |cons _ _ _ ih=>simp [ih]
theorem I8.mono{X Y:Addr→Prop}{h h':Heap}{xs:List (Ty×Addr×Value)}{m:List (Ty×PV)}(x:I8 X h xs m)(r:∀v d,Rep X h v d→Rep Y h' v d):I8 Y h' xs m:=by
  induction x with
  |nil=>exact .nil
  |cons h1 h2 _ ih=>exact .cons (r _ _ h1) (r _ _ h2) ih
theorem I8.append{X:Addr→Prop}{h:Heap}{xs us:List (Ty×Addr×Value)}{m n:List (Ty×PV)}(x:I8 X h xs m)(y:I8 X h us n):I8 X h (xs++us) (m++n):=by
  induction x with
  |nil=>exact y
  |cons h1 h2 _ ih=>exact .cons h1 h2 ih
theorem I8.at{X:Addr→Prop}{h:Heap}{xs:List (Ty×Addr×Value)}{m:List (Ty×PV)}(x:I8 X h xs m)(k:Ty):match atKey xs k,(m.find? fun x=>decide (x.1=k)).map (·.2) with
    |some p,some d=>Rep X h p.2 d
    |none,none=>True
    |_,_=>False:=by
  induction x with
  |nil=>trivial
  | @cons t a v d xs m h1 h2 _ ih=>
    unfold atKey at ih ⊢
    by_cases hk:t=k
    · simp only [List.find?_cons,hk,decide_true,Option.map_some];exact h2
    · simp only [List.find?_cons,hk,decide_false];exact ih
noncomputable def J0(m:List (Ty×PV))(k:Ty):Option PV:=(m.find? fun x=>decide (x.1=k)).map (·.2)
theorem I8.isSome{X:Addr→Prop}{h:Heap}{xs:List (Ty×Addr×Value)}{m:List (Ty×PV)}(x:I8 X h xs m)(k:Ty):(atKey xs k).isSome=(J0 m k).isSome:=by
  have:=x.at k
  unfold J0
  revert this
  cases atKey xs k <;> cases (m.find? fun x=>decide (x.1=k)).map (·.2) <;> simp
theorem b8n(m:List (Ty×PV))(k:Ty):(J0 m k).isSome=m.any fun x=>decide (x.1=k):=by
  unfold J0
  induction m with
  |nil=>rfl
  | cons x m ih=>
    refine b8 (List.find?_cons ..) (b8 (List.any_cons ..) ?_)
    cases decide (x.1=k)
    · simpa using ih
    · rfl
theorem I8.stored{X:Addr→Prop}{h:Heap}{xs:List (Ty×Addr×Value)}{m:List (Ty×PV)}{k:Ty}{a:Addr}{v:Value}{d:PV}(x:I8 X h xs m)(rk:Rep X h (.ref a) k.pv)(r:Rep X h v d):I8 X h (storedH xs k a v) (putK m k d):=by
  have e:=x.isSome k
  rw [b8n] at e
  unfold storedH putK
  refine b8 (e ..) ?_
  split
  · rename_i hany
    clear hany e
    induction x with
    |nil=>exact .nil
    | @cons t a' v' d' xs m h1 h2 _ ih=>
      simp only [List.map_cons,putAt]
      by_cases hk:t=k
      · simp only [hk,if_true];exact .cons (hk▸h1) r ih
      · simp only [hk,if_false];exact .cons h1 h2 ih
  · exact x.append (.cons rk r .nil)
theorem E6.ty{C:Cx}{X:Addr→Prop}{h:Heap} :∀ {es:List DictEntry} {m:List (Ty×PV)},E6 C.hsh X h es (tk m)→∃xs,es=xs.map (entryOfKey (C7 C))∧I8 X h xs m:=by
  intro LL1
  induction LL1 with
  | nil=>
    intro LL2
    cases LL2 with
    | nil=>
      rintro _
      exact ⟨[],rfl,.nil⟩
    | cons HD m=>
      obtain ⟨k,d⟩:=HD
      rintro x
      rw [b5r] at x;cases x
  | cons e es ih=>
    intro LL3
    cases LL3 with
    | nil=>
      rintro x
      cases x
    | cons HD m=>
      obtain ⟨k,d⟩:=HD
      rintro x
      rw [b5r] at x
      cases x with
      | cons h1 h2 h3 h4=>
        obtain ⟨xs,rfl,v⟩:=ih h4
        obtain ⟨l,hl⟩:=c0j k
        obtain ⟨a,vs,ha,_⟩:=(show Rep X h e.key (.tup l) from hl▸h2).n8
        obtain ⟨eh,ek,ev⟩:=e
        simp only at h1 h2 h3 ha
        subst ha h1
        exact ⟨(k,a,ev)::xs,rfl,.cons h2 h3 v⟩
theorem E6.c8n{C:Cx}{X:Addr→Prop}{h:Heap}{xs:List (Ty×Addr×Value)}{m:List (Ty×PV)}(v:I8 X h xs m):E6 C.hsh X h (xs.map (entryOfKey (C7 C))) (tk m):=by
  induction v with
  |nil=>exact .nil
  |cons h1 h2 _ ih=>exact .cons rfl h1 h2 ih
theorem I8.is{C:Cx}{X:Addr→Prop}{h:Heap}{xs:List (Ty×Addr×Value)}{m:List (Ty×PV)}(v:I8 X h xs m):∀x∈xs,(C7 C).is h x.1 x.2.1:=by
  induction v with
  |nil=>intro x hx;simp at hx
  | cons h1 h2 _ ih=>
    intro x hx
    rcases List.mem_cons.mp hx with rfl|hx
    · exact ⟨X,h1⟩
    · exact ih x hx
theorem B3.ty{C:Cx}{X:Addr→Prop}{h:Heap}{a:Addr}{m:List (Ty×PV)}(hn:(m.map (·.1)).Nodup)(x:B3 C.hsh X h a (tk m)):∃xs,h.DictOfH (C7 C) a xs∧I8 X h xs m∧∃es ep,K1 h a es ep∧es.toList=xs.map (entryOfKey (C7 C)):=by
  obtain ⟨es,ep,h1,h2⟩:=B3.iff.mp x
  obtain ⟨xs,e,v⟩:=E6.ty h2
  exact ⟨xs,⟨_,es,ep,h1,⟨rfl,rfl,rfl⟩,rfl,e,v.is,by refine b8 (v.keys ..) ?_;exact hn⟩,v,es,ep,h1,e⟩
theorem B3.c8n{C:Cx}{X:Addr→Prop}{h:Heap}{a:Addr}{xs:List (Ty×Addr×Value)}{m:List (Ty×PV)}(x:h.DictOfH (C7 C) a xs)(v:I8 X h xs m):B3 C.hsh X h a (tk m):=by
  obtain ⟨⟨c,dd,dt,sl⟩,es,ep,ho,⟨h1,h2,h3⟩,hd,he,_,_⟩:=x
  simp only at h1 h2 h3 hd
  subst h1 h2 h3 hd
  exact B3.iff.mpr ⟨es,ep,ho,he▸E6.c8n v⟩
theorem I8.len{X:Addr→Prop}{h:Heap}{xs:List (Ty×Addr×Value)}{m:List (Ty×PV)}(x:I8 X h xs m):xs.length=m.length:=by have:=congrArg List.length x.keys;simpa using this
section
variable{F:Fm}{ρ:b9}{N:b9→Prop}{R:PV→Prop}{P:PV→Prop}
theorem Rep.b6u{X:Addr→Prop}{h:Heap}{v:Value}{t:Ty}(r:Rep X h v t.pv):∃a,v= .ref a:=by
  obtain ⟨l,hl⟩:=c0j t
  rw [hl] at r
  obtain ⟨a,_,e,_⟩:=r.n8
  exact ⟨a,e⟩
theorem b0q(F:Fm):(C7 F.C).room F.A.in1:=by
  have:=F.hu
  show F.A.in1.units+66<cLine
  simp only [Around.in1_units];lia
theorem c0f{X:Addr→Prop}{s:Shared}{x:Str}{m:List (Ty×PV)}{t:Ty}{d:PV}{a:Addr}{v:Value}{ad:Str→Addr}(j:JX F X ρ s)(w:x8 F X ρ s.heap ad)(hx:ρ.lookup x=some (.own (.dct (tk m))))(hn:(m.map (·.1)).Nodup)(hz:m.length≤sizeLine)
    (rk:Rep X s.heap (.ref a) t.pv) (rv:Rep X s.heap v d) {Q:Unit→Shared→Prop} {E:Value→Shared→Prop} (q:∀s',JX F X ((x,.own (.dct (tk (putK m t d))))::ρ) s'→m7 F X X s s'→(∀v d,Rep X s.heap v d→Rep X s'.heap v d)→Q () s'):
    wpAny (model F.C.prog F.C.w) F.A (setItem (.ref (ad x)) (.ref a) v) Q E s:=by
  obtain ⟨hv,hX,hG,hn',ho⟩:=w.own x _ hx
  obtain ⟨xs,hm,vv,_⟩:=B3.ty hn ho
  refine wpAny_setItem_heap (knd:=C7 F.C) (k:=t) (b0q F) ⟨X,rk⟩ hm (fun h' hm' hs'=>?_) (by refine b8 (vv.len ..) ?_;exact hz)
  have le:Le X s.heap h':=fun b o hb e=>(hs'.2 b fun z=>hb (z▸hX)).trans e
  obtain ⟨j3,k₃⟩:=j.a5g (h':=h') (tk:=s.toks+(C7 F.C).draws t) w hx hs' (l':= .dct (tk (putK m t d))) fun le=>B3.c8n hm' ((vv.mono fun v d r=>r.le le).stored (rk.le le) (rv.le le))
  exact q _ j3 k₃ fun v d r=>r.le le
theorem Ex.c8z{x:Str}{m:List (Ty×PV)}{value key:Expr}{np tp pos:Pos}(hx:ρ.lookup x=some (.own (.dct (tk m))))(hn:(m.map (·.1)).Nodup)(hz:m.length≤sizeLine)
    (h:Ev F ρ value fun d=>Ev F ρ key fun k=>∃t:Ty,k=t.pv∧N ((x,.own (.dct (tk (putK m t d))))::ρ)) (hd:(x==("__debug__":Str))=false:=by decide)
    (hs:swapsWith value (some (.Subscript (.Name x np) key tp)) pos.line F.env=pure false:=by rfl):Ex F ρ (.Assign [.Subscript (.Name x np) key tp] value pos) N R:=fun X s j Q E n r=>by
  refine wpAny_Assign_Subscript (h X s j.1 _ _ fun v d s₁ p1a i₁ x1a r₁=>?_) hs
  obtain ⟨ad,w⟩:=i₁.vars
  refine wpAny_Name (t8 F.hk (w.own x _ hx).1 ?_) hd
  refine p1a X s₁ i₁ _ _ fun u k s₂ z1 i₂ x₂ r₂=>?_
  obtain ⟨t,hk,p2a⟩:=z1
  subst hk
  obtain ⟨a,rfl⟩:=Rep.b6u r₂
  obtain ⟨ad2,w2a⟩:=i₂.vars
  refine C5 (x8.move w i₁ x₂ w2a hx ..) ?_
  have j2a:=j.step i₂ (x1a.trans x₂)
  have k₂:=m7.x7 j.1 (x1a.trans x₂)
  exact c0f j2a w2a hx hn hz r₂ (x₂.all i₁ r₁) fun s' j3 k₃ O=>n _ _ X p2a j3 (fun O h=>h) (k₂.trans k₃ (j.alive j2a (fun O h=>h) k₂))
theorem b9q.c5w{pos:Pos}(h:P (.dct [])):b9q F ρ (.Dict [] [] pos) P:=fun X s i Q E q=>by
  refine wpAny_Dict_empty ?_
  exact q _ _ _ h (i.grow (s':= {s with heap:=s.heap.push {cls:= .type "dict",data:= .dict #[]}}) (c8 _)) (Ext.heap _ _ (Le.of (c8 _))) (A8 _) (B3.iff.mpr ⟨#[],0,Heap.get?_push_size _ rfl,.nil⟩)
theorem ownDict{X:Addr→Prop}{s:Shared}{x:Str}{m:List (Ty×PV)}(i:I F X ρ s)(hx:ρ.lookup x=some (.own (.dct (tk m))))(hn:(m.map (·.1)).Nodup):∃b xs,j9 s.heap F.env x (.ref b)∧(b==sysModules)=false∧s.heap.DictOfH (C7 F.C) b xs∧I8 X s.heap xs m∧∃es ep,K1 s.heap b es ep∧es.toList=xs.map (entryOfKey (C7 F.C)):=by
  obtain ⟨ad,w⟩:=i.vars
  obtain ⟨hv,hX,hG,hn',ho⟩:=w.own x _ hx
  obtain ⟨xs,hm,vv,r⟩:=B3.ty hn ho
  exact ⟨_,xs,hv,b6v (i.c0s w hx),hm,vv,r⟩
theorem Tr.a9s{PB:Bool→Prop}{l:Expr}{x:Str}{m:List (Ty×PV)}{np pos:Pos}(hx:ρ.lookup x=some (.own (.dct (tk m))))(hn:(m.map (·.1)).Nodup)(h:Ev F ρ l fun a=>∃t:Ty,a=t.pv∧PB (!(J0 m t).isSome))(hd:(x==("__debug__":Str))=false:=by decide)
    (hm:behindInMarks .NotIn (.Name x np)=false:=by with_unfolding_all rfl):Tr F ρ (.Compare l [.NotIn] [.Name x np] pos) PB:=fun X s i Q E q=>by
  refine wpAny_isTrue_Compare1 (h X s i _ _ fun v a s₁ ⟨t,ha,p⟩ i₁ x1a r₁=>?_) hm
  subst ha
  obtain ⟨a,rfl⟩:=Rep.b6u r₁
  obtain ⟨b,xs,hv,lo,hD,vv,_⟩:=ownDict i₁ hx hn
  refine wpAny_Name (t8 F.hk hv ?_) hd
  refine wpAny_notIn_heap (knd:=C7 F.C) (k:=t) (b0q F) ⟨X,r₁⟩ lo hD (wpAny_truthy_bool ?_)
  refine b8 (vv.isSome ..) ?_
  exact q _ _ p (i₁.tok _) (x1a.trans (Ext.tok' _ _))
theorem Ev.d1b{l:Expr}{x:Str}{m:List (Ty×PV)}{np pos:Pos}(hx:ρ.lookup x=some (.own (.dct (tk m))))(hn:(m.map (·.1)).Nodup)(h:Ev F ρ l fun a=>∃t:Ty,a=t.pv∧P (.bool (J0 m t).isSome))(hd:(x==("__debug__":Str))=false:=by decide)
    (hm:behindInMarks .In (.Name x np)=false:=by with_unfolding_all rfl):Ev F ρ (.Compare l [.In] [.Name x np] pos) P:=fun X s i Q E q=>by
  refine wpAny_Compare1 (h X s i _ _ fun v a s₁ ⟨t,ha,p⟩ i₁ x1a r₁=>?_) hm
  subst ha
  obtain ⟨a,rfl⟩:=Rep.b6u r₁
  obtain ⟨b,xs,hv,lo,hD,vv,_⟩:=ownDict i₁ hx hn
  refine wpAny_Name (t8 F.hk hv ?_) hd
  refine wpAny_in_heap (knd:=C7 F.C) (k:=t) (b0q F) ⟨X,r₁⟩ lo hD ?_
  refine b8 (vv.isSome ..) ?_
  exact q _ _ _ p (i₁.tok _) (x1a.trans (Ext.tok' _ _)) (.bool _)
theorem Ev.c0e{slice:Expr}{x:Str}{m:List (Ty×PV)}{np pos:Pos}(hx:ρ.lookup x=some (.own (.dct (tk m))))(hn:(m.map (·.1)).Nodup)(h:Ev F ρ slice fun a=>∃t:Ty,a=t.pv∧G4 (J0 m t) P)(hd:(x==("__debug__":Str))=false:=by decide)
    (hs:∀o i,subscripted slice false o i=operate [o,i] (getItem o i):=by intro _ _;rfl):Ev F ρ (.Subscript (.Name x np) slice pos) P:=fun X s i Q E q=>by
  obtain ⟨b,xs,hv,lo,hD,vv,_⟩:=ownDict i hx hn
  clear lo hD;clear right;obtain ⟨ad,w⟩:=i.vars
  have hv':=(w.own x _ hx).1
  have:=j9.same hv hv'
  cases this
  refine Subscript_ (wpAny_Name (t8 F.hk hv' ?_) hd)
  refine h X s i _ _ fun u k s₂ z1 i₂ x₂ r₂=>?_
  obtain ⟨t,hk,y,hy,p2a⟩:=z1
  subst hk
  obtain ⟨a,rfl⟩:=Rep.b6u r₂
  obtain ⟨ad2,w2a⟩:=i₂.vars
  obtain ⟨b,xs,hv,lo,hD,vv,_⟩:=ownDict i₂ hx hn
  have e:=j9.same hv (w2a.own x _ hx).1
  clear hv lo;cases e
  refine C5 (x8.move w i x₂ w2a hx ..) ?_
  have hat:=vv.at t
  unfold J0 at hy
  rw [hy] at hat
  cases ha:atKey xs t with
  |none=>rw [ha] at hat;exact hat.elim
  | some p=>
    rw [ha] at hat
    refine tail_any hD.typeIs slot_dict_getitem.lookup (wpAny_getItem_heap (knd:=C7 F.C) (k:=t) (b0q F) ⟨X,r₂⟩ hD ha ?_) (hs _ _)
    exact q _ _ _ p2a (i₂.tok _) (x₂.trans (Ext.tok' _ _)) hat
theorem Ev.c9p{x:Str}{m:List (Ty×PV)}{np xp pos:Pos}(hx:ρ.lookup x=some (.own (.dct (tk m))))(hn:(m.map (·.1)).Nodup)(hz:m.length≤sizeLine)(h:P (.int m.length))(hk:F.env.kindOf "len"=some .globalImplicit)(hd:(x==("__debug__":Str))=false:=by decide):
    Ev F ρ (.Call (.Name "len" np) [.Name x xp] [] pos) P:=fun X s i Q E q=>by
  refine G6 i (F.C.bi "len" (.builtin "len") (.tail _ (.tail _ (.head _)))) hk (by decide) (callWith_builtin1 (Calls.spliced_cons ?_) rfl rfl)
  obtain ⟨b,xs,hv,lo,hD,vv,es,ep,hR,he⟩:=ownDict i hx hn
  refine wpAny_Name (t8 F.hk hv (Calls.spliced_nil ?_)) hd
  have hl:es.size=m.length:=by rw [← Array.length_toList,he,List.length_map,vv.len]
  refine c3h lo hR (by rw [hl];rw [sizeLine_eq] at hz;lia) ?_
  rw [hl]
  exact q _ _ _ h (i.tok _) (Ext.tok' _ _) (.int _ _)
theorem F0.c7e{x:Str}{m:List (Ty×PV)}{np xp pos:Pos}{PL:List PV→Prop}(hx:ρ.lookup x=some (.own (.dct (tk m))))(hn:(m.map (·.1)).Nodup)(hz:m.length≤sizeLine)(h:PL (m.map fun x=>x.1.pv))(hk:F.env.kindOf "list"=some .globalImplicit)(hd:(x==("__debug__":Str))=false:=by decide):
    F0 F ρ (.Call (.Name "list" np) [.Name x xp] [] pos) PL:=fun X s i Q E q=>by
  refine G6 i (F.C.bi "list" (.type "list") (.head _)) hk (by decide) (callWith_type1 (Calls.spliced_cons ?_) rfl rfl)
  obtain ⟨b,xs,hv,lo,hD,vv,es,ep,hR,he⟩:=ownDict i hx hn
  refine wpAny_Name (t8 F.hk hv (Calls.spliced_nil ?_)) hd
  have hl:es.size=m.length:=by rw [← Array.length_toList,he,List.length_map,vv.len]
  refine kdl_call (c3a lo) F.hA hR (by rw [hl];exact hz) fun h' tk acc c' hk' hD' hacc=>?_
  have hval:i0 X s.heap acc.toList (m.map fun x=>x.1.pv):=by
    refine ⟨by rw [Array.length_toList,hacc.1,hl,List.length_map],fun j v d hv hd=>?_⟩
    obtain ⟨e,h1,rfl⟩:=hacc.2 j v (by rw [← Array.getElem?_toList];exact hv)
    rw [← Array.getElem?_toList,he] at h1
    clear hacc hv hR he hl hD hD' hn hz h hx
    induction vv generalizing j with
    |nil=>exact l8 h1
    | cons r1 r2 _ ih=>
      cases j with
      |zero=>simp at h1 hd;clear ih;subst h1 hd;exact r1
      |succ j=>exact ih j hd h1
  refine q _ acc.toList _ _ h (i.grow (s':= {s with heap:=h',toks:=tk}) hk') (Ext.tok _ _ _ (Le.of hk')) (A8 _) ⟨c',by rw [Array.toArray_toList];exact hD'⟩ (hval.mono (Le.of hk') fun b hb=>hb.elim .inl fun z=> .inr (z▸A8 _))
end
end
section
set_option backward.match.sparseCases true
variable [HH:u7]
section
variable{F:Fm}{ρ:b9}{N:b9→Prop}{R:PV→Prop}{P:PV→Prop}
theorem b7o{x y:Str}{key e₁ e₂:Expr}{np sp yp tp vp:Pos}{k k':Nat} :swappedStores [.Tuple [.Subscript (.Name x np) key sp,.Name y yp] k tp] (.Tuple [e₁,e₂] k' vp) F.env=pure none:=by
  have e:swappedStores [.Tuple [.Subscript (.Name x np) key sp,.Name y yp] k tp] (.Tuple [e₁,e₂] k' vp) F.env=swF (F.env.blockKind != .function) ([e₁,e₂].any fun| .Starred .. =>true|_=>false) ([none,if F.env.kindOf y==some .local&&yp.line==sp.line then some y else none].filterMap id) ([e₁,e₂].all (foldedForSure 8)) ([e₁,e₂].all (constantsAlone 8)):=rfl
  refine e.trans (b1n ?_)
  cases (F.env.kindOf y==some .local&&yp.line==sp.line) <;> rfl
theorem a1r{y:Str}{elt:Expr}{gens:List Comprehension}{sc:Scope}{pos yp:Pos}{l:Nat}(hk:F.env.kindOf y=some .local)(hl:(yp.line==pos.line)=true)(hn:(sc.names.any fun x=>x.1==y&&(x.2== .local||x.2== .cell))=false):
    swapsWith (.ListComp elt gens sc pos) (some (.Name y yp)) l F.env=pure true:=by
  have hb:F.env.blockKind= .function:=by simp [Env.blockKind,F.hk,ScopeKind.isAnnotationScope]
  unfold swapsWith
  simp only [c0c,show (Expr.ListComp elt gens sc pos).pos=pos from rfl,hb,hk,hl,hn,beq_self_eq_true,Bool.and_self,Bool.not_false]
theorem Ex.b7k{x y:Str}{m:List (Ty×PV)}{key e₁ e₂:Expr}{np sp yp tp vp pos:Pos}{k k':Nat}(hx:ρ.lookup x=some (.own (.dct (tk m))))(hn:(m.map (·.1)).Nodup)(hz:m.length≤sizeLine)
    (h:Ev F ρ (.Tuple [e₁,e₂] k' vp) fun d=>∃a b,d= .tup [a,b]∧Ev F ρ key fun q=>∃t:Ty,q=t.pv∧N ((y,.val b)::(x,.own (.dct (tk (putK m t a))))::ρ)) (hy:l5 F y) (hd:(x==("__debug__":Str))=false:=by decide)
    (hs:swapsWithSole [.Tuple [.Subscript (.Name x np) key sp,.Name y yp] k tp] (.Tuple [e₁,e₂] k' vp) pos.line F.env=pure false:=by rfl):Ex F ρ (.Assign [.Tuple [.Subscript (.Name x np) key sp,.Name y yp] k tp] (.Tuple [e₁,e₂] k' vp) pos) N R:=fun X s j Q E nn r=>by
  refine PyProof.Rows.Assign_Tuple (h X s j.1 _ _ fun v d s₁ ⟨a,b,hdd,p⟩ i₁ x1a r₁=>?_) hs b7o
  subst hdd
  obtain ⟨t,vs,rfl,ht,hX,rl⟩:=r₁.n8
  obtain ⟨v1a,vs',rfl,ra,rl'⟩:=rl.cons_inv
  clear rl;obtain ⟨v2a,vs'',rfl,rb,rl''⟩:=rl'.cons_inv
  clear rl';obtain rfl:=rl''.nil_inv
  have j1a:=j.step i₁ x1a
  refine assign_Tuple_tuple (items:=[v1a,v2a].toArray) F.hA ht.isTup rfl rfl fun h' e=>?_
  have kp:∀b o,s₁.heap.get? b=some o→h'.get? b=some o:=fun b o z=>e b o (Nat.ne_of_lt (Heap.lt_size z)) z
  have x₂:Ext F.C.G s₁ {s₁ with heap:=h'} :=Ext.heap _ _ (Le.of kp)
  have i₂:=i₁.grow (s':= {s₁ with heap:=h'}) kp
  have ra2:Rep X h' v1a a:=ra.le (Le.of kp)
  have rb2:Rep X h' v2a b:=rb.le (Le.of kp)
  show wpAny _ _ (assignInOrder [PySem.assign (.Subscript (.Name x np) key sp) F.env,PySem.assign (.Name y yp) F.env] [v1a,v2a]) _ _ _
  refine wpAny_assignInOrder_more ?_
  refine b8 (assign_Subscript ..) ?_
  obtain ⟨ad,w⟩:=i₂.vars
  refine wpAny_bind (wpAny_holding (wpAny_Name (t8 F.hk (w.own x _ hx).1 ?_) hd))
  refine wpAny_bind (wpAny_holding (p X _ i₂ _ _ fun u q s₃ z1 i3a x3a r3a=>?_))
  obtain ⟨ty,hq,p3a⟩:=z1
  subst hq
  obtain ⟨a',rfl⟩:=Rep.b6u r3a
  obtain ⟨ad3,w3a⟩:=i3a.vars
  refine C5 (x8.move w i₂ x3a w3a hx ..) ?_
  refine wpAny_bind (wpAny_standAt (wpAny_bind (wpAny_holding ?_)))
  have x13:=(x1a.trans x₂).trans x3a
  have j3:=j.step i3a x13
  have k₃:=m7.x7 j.1 x13
  have rb3:Rep X s₃.heap v2a b:=x3a.all i₂ rb2
  refine c0f j3 w3a hx hn hz r3a (x3a.all i₂ ra2) fun s₄ j4 k4a keep=>wpAny_release ?_
  refine wpAny_assignInOrder_more (wpAny_assign_Name (k9 j4.1 hy fun h5a tk0a L z=>?_))
  have rb4:C3 F X ((x,.own (.dct (tk (putK m ty a))))::ρ) s₄ v2a (.val b):=keep _ _ rb3
  have j5:=j4.store (tk:=tk0a) rb4 z
  have kk:=k₃.trans k4a (j.alive j3 (fun O h=>h) k₃)
  exact wpAny_assignInOrder_none (nn _ _ X p3a j5 (fun O h=>h) (kk.trans (z.keep (X:=X) (tk:=tk0a)) (j.alive j4 (fun O h=>h) kk)))
noncomputable def EvJ(F:Fm)(ρ:b9)(e:Expr)(P:PV→b9→Prop):Prop:=
  ∀X s,JX F X ρ s→∀(Q:Value→Shared→Prop) (E:Value→Shared→Prop),(∀v d ρ' s',P d ρ'→JX F X ρ' s'→m7 F X X s s'→(∀y u,j9 s.heap F.env y u→j9 s'.heap F.env y u)→Rep X s'.heap v d→Q v s')→wpAny (model F.C.prog F.C.w) F.A (eval e F.env) Q E s
theorem EvJ.pop{x:Str}{l:List PV}{d:PV}{np apos cpos:Pos}{P:PV→b9→Prop}(hx:ρ.lookup x=some (.own (.lst (l++[d]))))(hz:l.length<sizeLine)(h:P d ((x,.own (.lst l))::ρ))(hline:(apos.endLine==cpos.line)=true:=by rfl)
    (hd:(x==("__debug__":Str))=false:=by decide):EvJ F ρ (.Call (.Attribute (.Name x np) "pop" apos) [] [] cpos) P:=fun X s j Q E n=>by
  refine ownCall j.1 hx PySem.F.slot_list_pop PySem.F.type_list_pop rfl hline hd fun ad w=>?_
  obtain ⟨hv,hX,hG,hn,vs,⟨c,hpl⟩,hr⟩:=w.own x _ hx
  obtain ⟨us,v,rfl,r1,r2⟩:∃us v,vs=us++[v]∧i0 X s.heap us l∧Rep X s.heap v d:=by
    have hlen:=hr.1
    rw [List.length_append,List.length_singleton] at hlen
    have hne:vs≠[]:=fun q=>by rw [q] at hlen;simp at hlen
    refine ⟨vs.dropLast,vs.getLast hne,(List.dropLast_concat_getLast hne).symm,?_,?_⟩
    · have:=hr.take (vs.length - 1)
      rw [← List.dropLast_eq_take] at this
      rw [show vs.length - 1=l.length by lia,List.take_left] at this
      exact this
    · refine hr.2 (vs.length - 1) _ d (by rw [List.getLast_eq_getElem,List.getElem?_eq_getElem]) ?_
      rw [show vs.length - 1=l.length by lia];simp
  refine PySem.P.pop_list (y:=v) hpl (by simp) ?_ (by rw [List.size_toArray,List.length_append,r1.1];exact hz)
  obtain ⟨j2a,k₂⟩:=j.a5g (h':=s.heap.update (ad x) (Obj.mapSeq fun xs=>xs.eraseIdxIfInBounds ((us++[v]).toArray.size - 1))) (tk:=s.toks) w hx (Heap.SameBut.update ..) (l':= .lst l) fun le=>⟨us,⟨c+1,by
    rw [Heap.get?_update_self _ hpl rfl]
    show some ({cls:= .type "list",dict:=none,data:= .seq ((us++[v]).toArray.eraseIdxIfInBounds ((us++[v]).toArray.size - 1)) (if ((us++[v]).toArray.eraseIdxIfInBounds ((us++[v]).toArray.size - 1)).size==(us++[v]).toArray.size then c else c+1),slots:= #[]} :Obj)=_
    rw [a6m];simp⟩,r1.le le⟩
  have le:Le X s.heap (s.heap.update (ad x) (Obj.mapSeq fun xs=>xs.eraseIdxIfInBounds ((us++[v]).toArray.size - 1))):=fun b o hb q=>(Heap.SameBut.update ..).2 b (fun z=>hb (z▸hX))|>.trans q
  exact n v d _ _ h j2a k₂ (fun y u z=>z.le le j.1.u9 j.1.s8) (r2.le le)
theorem EvJ.call{x:Str}{T:List PV→(PV→Prop)→Prop}{e:Expr}{np pos:Pos}{P:PV→b9→Prop}(k:Nat)(c:d7 F.C k x T)(hk:k≤F.k)(h:EvJ F ρ e fun d ρ'=>T [d] fun y=>P y ρ')(hx:F.env.kindOf x=some .globalImplicit)
    (he:starEach [e] F.env=[(false,eval e F.env)]:=by rfl) (hd:(x==("__debug__":Str))=false:=by decide):EvJ F ρ (.Call (.Name x np) [e] [] pos) P:=fun X s j Q E q=>by
  obtain ⟨a,o,fd,h1,h2,h3,h4,h5⟩:=c
  have hd':=F.hd
  have hu':=F.hu
  refine wpAny_Call_NameR (a6v j.1 h1 hx hd ?_)
  refine callWith_def h4 ?_ he
  refine b8 (he ..) ?_
  refine Calls.spliced_cons (h X s j _ _ fun v d ρ' s₁ p j1a k₁ vk r₁=>Calls.spliced_nil ⟨j1a.1.base a o h2 h3,?_⟩)
  refine h5 F.A X s₁ [v] [d] _ j1a.1.toSt F.hA (by exact Nat.lt_of_le_of_lt (Nat.add_le_add_left (by assumption) _) (by assumption)) (by lia) (.cons r₁ .nil) p _ _ fun v d s' p' af r'=>?_
  exact q v d ρ' s' p' (j1a.step (j1a.1.ext af) af.ext) (k₁.trans (m7.x7 j1a.1 af.ext) (j.alive j1a (fun O h=>h) k₁)) (fun y u z=>(vk y u z).le (af.ext.le.weak j1a.1.sub) j1a.1.u9 j1a.1.s8) r'
theorem Ex.c1j{x:Str}{e:Expr}{l₀:List PV}{np apos pos spos:Pos}(hx:ρ.lookup x=some (.own (.lst l₀)))(h:EvJ F ρ e fun d ρ'=>∃l k,ρ'.lookup x=some (.own (.lst l))∧(d= .lst k∨d= .tup k)∧l.length+k.length≤sizeLine∧N ((x,.own (.lst (l++k)))::ρ'))
    (hs:starEach [e] F.env=[(false,eval e F.env)]:=by rfl) (hline:(apos.endLine==pos.line)=true:=by rfl) (hd:(x==("__debug__":Str))=false:=by decide) (hi:interactive F.env=false:=by exact a1w):
    Ex F ρ (.Expr (.Call (.Attribute (.Name x np) "extend" apos) [e] [] pos) spos) N R:=fun X s j Q E n r=>by
  refine wpAny_Expr_any (ownCall j.1 hx PySem.F.slot_list_extend PySem.F.type_list_extend (by rw [hs];rfl) hline hd fun ad w=>?_) hi rfl
  rw [hs]
  have key:∀v d ρ' s₁,(∃l k,ρ'.lookup x=some (.own (.lst l))∧(d= .lst k∨d= .tup k)∧l.length+k.length≤sizeLine∧N ((x,.own (.lst (l++k)))::ρ'))→JX F X ρ' s₁→m7 F X X s s₁→(∀y u,j9 s.heap F.env y u→j9 s₁.heap F.env y u)→Rep X s₁.heap v d→
      s₁.TypeIs (.ref (ad x)) "list"∧argsOk "list.extend" ⟨[.ref (ad x),v],[]⟩∧∃S,Meets (Builtin.«list.extend» ⟨[.ref (ad x),v],[]⟩) S∧S F.A (wants (fun O s'=>Q .next s') E) s₁:=fun v d ρ' s₁ ⟨l,k,hx',hdk,hz,p⟩ j1a k₁ vk r₁=>by
    obtain ⟨ad1,w1a⟩:=j1a.1.vars
    obtain ⟨hv,hX,hG,hn,vs,⟨c,hpl⟩,hr⟩:=w1a.own x _ hx'
    have e₁:ad1 x=ad x:=by
      have:=j9.same hv (vk x _ (w.own x _ hx).1)
      exact Value.ref.inj this
    rw [← e₁]
    refine ⟨⟨_,hpl,rfl⟩,PySem.F.args_list_extend_2 _ _,?_⟩
    have fin:∀us:List Value,i0 X s₁.heap us k→Q .next {s₁ with heap:=s₁.heap.update (ad1 x) (Obj.mapSeq fun xs=>xs++us.toArray)} :=fun us ru=>by
      obtain ⟨j2a,k₂⟩:=j1a.a5g (h':=s₁.heap.update (ad1 x) (Obj.mapSeq fun xs=>xs++us.toArray)) (tk:=s₁.toks) w1a hx' (Heap.SameBut.update ..) (l':= .lst (l++k)) fun le=>⟨vs++us,⟨_,by
        rw [Heap.get?_update_self _ hpl (by rw [mapSeq_app];rfl),mapSeq_app,show vs.toArray++us.toArray=(vs++us).toArray by simp]⟩,(hr.append ru).le le⟩
      exact n _ _ X p j2a (fun O h=>h) (k₁.trans k₂ (j.alive j1a (fun O h=>h) k₁))
    have door:∀us:List Value,i0 X s₁.heap us k→vs.toArray.size+us.toArray.size≤sizeLine:=fun us ru=>by rw [List.size_toArray,List.size_toArray,hr.1,ru.1];exact hz
    rcases hdk with rfl|rfl
    · obtain ⟨b,us,rfl,⟨c2,hb⟩,_,ru⟩:=r₁.lst_inv
      exact ⟨_,AutoSeq1.list_extend_list_list_0 (ad1 x) vs.toArray c b us.toArray c2 (extend_door (door us ru)) (Nat.le_trans (Nat.le_add_right _ _) (door us ru)) (Nat.le_succ_of_le (door us ru)),hpl,hb,fin us ru⟩
    · obtain ⟨b,us,rfl,⟨c2,hb⟩,_,ru⟩:=r₁.n8
      exact ⟨_,AutoSeq1.list_extend_list_tuple_0 (ad1 x) vs.toArray c b us.toArray c2 (extend_door (door us ru)) (Nat.le_trans (Nat.le_add_right _ _) (door us ru)) (Nat.le_succ_of_le (door us ru)),hpl,hb,fin us ru⟩
  exact seqMethod1_meets PySem.F.slot_list_extend PySem.F.entry_list_extend (h X s j _ _ fun v d ρ' s₁ p j1a k₁ vk r₁=>key v d ρ' s₁ p j1a k₁ vk r₁)
end
end
section
variable [HH:u7]
noncomputable def SrcAt(src:Addr)(h:Heap):Prop:=∃a b ta tb,h.IsList src #[.int a ta,.int b tb]∧0≤b∧b<2147483647
structure a8x(C:Cx)(src:Addr):Prop where
  d8:C.G src
  at_:∀h,C.inv h→SrcAt src h
  turn:∀h h',C.inv h→SrcAt src h'→(∀b o,C.G b→b≠src→h.get? b=some o→h'.get? b=some o)→C.inv h'
section
variable{F:Fm}{ρ:b9}{N:b9→Prop}{R:PV→Prop}{P:PV→Prop}
theorem Ev.c7x{value:Expr}{src:Addr}(ok:a8x F.C src){k:Nat}{cp pos:Pos}(h:Ev F ρ value fun d=>d= .z8 (.ref src)∧∀a:Int,P (.int a)):Ev F ρ (.Subscript value (.Constant (.int 0) k cp) pos) P:=fun X s i Q E q=>by
  refine Subscript_ (h X s i _ _ fun v d s₁ ⟨hd,p⟩ i₁ x1a r₁=>wpAny_Constant_int ?_)
  subst hd
  refine b8 (r₁.a1j ..) ?_
  obtain ⟨a,b,ta,tb,hl,_⟩:=ok.at_ _ i₁.inv
  exact tail_any (s:= {s₁ with toks:=s₁.toks+1}) hl.typeIs slot_list_getitem.lookup (wpAny_getItem_list (s:= {s₁ with toks:=s₁.toks+1}) hl (by decide) (by decide) (by rfl) (q _ _ _ (p a) (i₁.tok _) (x1a.trans (Ext.tok' _ _)) (.int _ _))) rfl
theorem Ev.c9f{value:Expr}{src:Addr}(ok:a8x F.C src){k:Nat}{cp pos:Pos}(h:Ev F ρ value fun d=>d= .z8 (.ref src)∧∀b:Int,0≤b→b<2147483647→P (.int b)):Ev F ρ (.Subscript value (.Constant (.int 1) k cp) pos) P:=fun X s i Q E q=>by
  refine Subscript_ (h X s i _ _ fun v d s₁ ⟨hd,p⟩ i₁ x1a r₁=>wpAny_Constant_int ?_)
  subst hd
  refine b8 (r₁.a1j ..) ?_
  obtain ⟨a,b,ta,tb,hl,h0,h1⟩:=ok.at_ _ i₁.inv
  exact tail_any (s:= {s₁ with toks:=s₁.toks+1}) hl.typeIs slot_list_getitem.lookup (wpAny_getItem_list (s:= {s₁ with toks:=s₁.toks+1}) hl (by decide) (by decide) (by rfl) (q _ _ _ (p b h0 h1) (i₁.tok _) (x1a.trans (Ext.tok' _ _)) (.int _ _))) rfl
theorem JX.src{X:Addr→Prop}{s:Shared}{h':Heap}{tk:Nat}{src:Addr}(ok:a8x F.C src)(j:JX F X ρ s)(hs:Heap.SameBut src s.heap h')(ha:SrcAt src h'):JX F X ρ {s with heap:=h',toks:=tk} ∧m7 F X X s {s with heap:=h',toks:=tk} :=by
  have af:After F.C s {s with heap:=h',toks:=tk} :=⟨Ext.tok s h' tk fun b o hb e=>(hs.2 b fun q=>hb (q▸ok.d8)).trans e,
    ok.turn _ _ j.1.inv ha fun b o O hb e=>(hs.2 b hb).trans e,fun a g=>by
      by_cases q:a=src
      · obtain ⟨a,b,ta,tb,⟨o,ho,_⟩,_⟩:=ha;exact ⟨o,q▸ho⟩
      · obtain ⟨o,ho⟩:=j.1.d8 a (j.1.sub a g);exact ⟨o,(hs.2 a q).trans ho⟩⟩
  exact ⟨j.step (j.1.ext af) af.ext,m7.x7 j.1 af.ext⟩
theorem Ex.c2o{value:Expr}{x:Str}{src:Addr}(ok:a8x F.C src){k:Nat}{np cp tp pos:Pos}(hx:ρ.lookup x=some (.val (.z8 (.ref src))))(h:Ev F ρ value fun d=>∃a:Int,d= .int a∧N ρ)(hd:(x==("__debug__":Str))=false:=by decide)
    (hs:swapsWith value (some (.Subscript (.Name x np) (.Constant (.int 0) k cp) tp)) pos.line F.env=pure false:=by rfl):Ex F ρ (.Assign [.Subscript (.Name x np) (.Constant (.int 0) k cp) tp] value pos) N R:=fun X s j Q E n r=>by
  refine wpAny_Assign_Subscript (h X s j.1 _ _ fun v d s₁ ⟨a,hda,p1a⟩ i₁ x1a r₁=>?_) hs
  subst hda
  obtain ⟨ta,rfl⟩:=r₁.int_inv
  obtain ⟨ad,w⟩:=i₁.vars
  obtain ⟨u,hv,ru⟩:=w.val x _ hx
  rw [ru.a1j] at hv
  refine wpAny_Name (t8 F.hk hv (wpAny_Constant_int ?_)) hd
  obtain ⟨a',b,ta',tb,hl,h0,h1⟩:=ok.at_ _ i₁.inv
  refine wpAny_setItem_list (s:= {s₁ with toks:=s₁.toks+1}) hl (by decide) (by decide) (by show (0:Int)<2;decide) fun h' hl' hs'=>?_
  have j1a:=j.step i₁ x1a
  have k₁:=m7.x7 j.1 x1a
  obtain ⟨j2a,k₂⟩:=j1a.src (tk:=s₁.toks+1) ok hs' ⟨a,b,ta,tb,hl',h0,h1⟩
  exact n _ _ X p1a j2a (fun O h=>h) (k₁.trans k₂ (j.alive j1a (fun O h=>h) k₁))
theorem Ex.c1m{value:Expr}{x:Str}{src:Addr}(ok:a8x F.C src){k:Nat}{np cp tp pos:Pos}(hx:ρ.lookup x=some (.val (.z8 (.ref src))))(h:Ev F ρ value fun d=>∃b:Int,d= .int b∧0≤b∧b<2147483647∧N ρ)(hd:(x==("__debug__":Str))=false:=by decide)
    (hs:swapsWith value (some (.Subscript (.Name x np) (.Constant (.int 1) k cp) tp)) pos.line F.env=pure false:=by rfl):Ex F ρ (.Assign [.Subscript (.Name x np) (.Constant (.int 1) k cp) tp] value pos) N R:=fun X s j Q E n r=>by
  refine wpAny_Assign_Subscript (h X s j.1 _ _ fun v d s₁ ⟨b,hda,h0,h1,p1a⟩ i₁ x1a r₁=>?_) hs
  subst hda
  obtain ⟨ta,rfl⟩:=r₁.int_inv
  obtain ⟨ad,w⟩:=i₁.vars
  obtain ⟨u,hv,ru⟩:=w.val x _ hx
  rw [ru.a1j] at hv
  refine wpAny_Name (t8 F.hk hv (wpAny_Constant_int ?_)) hd
  obtain ⟨a',b',ta',tb,hl,_⟩:=ok.at_ _ i₁.inv
  refine wpAny_setItem_list (s:= {s₁ with toks:=s₁.toks+1}) hl (by decide) (by decide) (by show (1:Int)<2;decide) fun h' hl' hs'=>?_
  have j1a:=j.step i₁ x1a
  have k₁:=m7.x7 j.1 x1a
  obtain ⟨j2a,k₂⟩:=j1a.src (tk:=s₁.toks+1) ok hs' ⟨a',b,ta',ta,hl',h0,h1⟩
  exact n _ _ X p1a j2a (fun O h=>h) (k₁.trans k₂ (j.alive j1a (fun O h=>h) k₁))
end
end
section
open PySem.Calls
open Builtin Builtin.ObjectAttr
section
variable{prog:Program}{w:World}{M:Model}{A:Around}{E:Value→Shared→Prop}{h:Heap}{g:Array GenState}{d:Drawn}{t:Nat}{os:OsState}{s:Shared}{x C:Addr}{K:Frag}{v:Value}{name:Str}{fI:Addr}{fd:FuncData}{mg mb:Str→Option Value}{env:Env}
theorem b2n{tr:Sem Value}{Q:Flow→Shared→Prop}(hh:A.handled=none)
    (hs:wpAny M A tr (fun v s₁=>∃e,v= .ref e∧K.In s₁.heap∧(∃mA,M1 s₁.heap e C mA)∧E (.ref e) s₁) E s) (P:c6v K C fI fd):wpAny M A (raiseStmt env (some tr) none) Q E s:=by
  unfold raiseStmt
  refine wpAny_bind (wpAny_mono hs (fun v s₁ h₁=>?_) fun O O x=>x)
  obtain ⟨e,rfl,X,⟨mA,I⟩,hE⟩:=h₁
  obtain ⟨nm,q,N,bs,bm,sn,sub,col,dd,k0,k1,k2,k3,k5,hCK,_⟩:=P.obj
  have hC:=X _ _ hCK
  obtain ⟨cd,hc,e1,e2,e3,e4,pass,e5,e6,e7,e8,_⟩:=P.mro
  have L0:=I.type (M:=M)
  have L1:Looks M s₁.heap (isSubtype (.ref C) (.type "BaseException")) true:=looks_mroIn X (by unfold mroIn;rw [hc,Option.bind_some,if_neg (by rw [e4];decide),e8])
  obtain ⟨o,vs,a0,hx,hcl,hdt,hv1,hv0,hsz6,hdd⟩:=I
  clear X hdd;obtain ⟨hp,g,d,tk,os⟩:=s₁
  repeat (first|with_reducible refine L0.at ?_|with_reducible refine L1.at ?_|with_reducible refine wpAny_loadPart_at hC ?_|(with_reducible refine wpAny_loadPart_at hx ?_;rw [hcl])|wp_step)
  rw [hdt]
  refine wpAny_pure ?_
  rw [hv1]
  refine wpAny_pure ?_
  rw [if_neg (by decide)]
  exact wpAny_pure (wpAny_raiseNew_none hh hE)
theorem b7j{np cp cpos pos:Pos}{msg:Str}{k:Nat}{Q:Flow→Shared→Prop}(P:c6v K C fI fd)(X:K.In h)(hg:h.Ns mainGlobals mg)(hb:h.Ns builtinsNs mb)(hm:mg "Exception"=none)(hmb:mb "Exception"=some (.type "Exception"))(hlim:h.NoLimit)(hroom:A.depth+2<recursionLimit)(hh:A.handled=none)
    (hk:env.scope.kind= .function) (K6:env.globals=mainGlobals) (hx:env.kindOf "PatternFault"=some .globalImplicit) (hmC:mg "PatternFault"=some (.ref C))
    (hq:∀x h' tk mA,(∀b o,h.get? b=some o→h'.get? b=some o)→h.get? x=none→M1 h' x C mA→E (.ref x) ⟨h',g,d,tk,os⟩):
    wpAny (model prog w) A (exec (.Raise (some (.Call (.Name "PatternFault" np) [.Constant (.str msg) k cp] [] cpos)) none pos) env) Q E ⟨h,g,d,t,os⟩:=by
  obtain ⟨nm,q,N,bs,bm,sn,sub,col,dd,k0,k1,k2,k3,k5,hCK,_⟩:=P.obj
  refine b8 (show exec (.Raise (some (.Call (.Name "PatternFault" np) [.Constant (.str msg) k cp] [] cpos)) none pos) env=(do standAt pos;raiseStmt env (some (do let v ← eval (.Call (.Name "PatternFault" np) [.Constant (.str msg) k cp] [] cpos) env;standAt pos;pure v)) none) from rfl ..) ?_
  refine wpAny_bind (wpAny_standAt (b2n (C:=C) (K:=K) hh (wpAny_bind (wpAny_mono (Q:=fun v s₁=>∃e,v= .ref e∧K.In s₁.heap∧(∃mA,M1 s₁.heap e C mA)∧E (.ref e) s₁) (wpAny_Call_ofName (wpAny_mono (Name_function_global hk hx (loadGlobal_global (mg:=mg) (v:= .ref C) (Q:=fun f s₁=>f= .ref C∧s₁=⟨h,g,d,t,os⟩) (by refine b8 (K6 ..) ?_;exact hg) hmC ⟨rfl,rfl⟩) (by decide)) (fun f s₁ h₁=>?_) fun O O x=>x)) (fun v s₃ h₃=>wpAny_bind (wpAny_standAt (wpAny_pure h₃))) fun O O x=>x)) P))
  obtain ⟨rfl,rfl⟩:=h₁
  have hC:=X _ _ hCK
  unfold callWith
  refine wpAny_bind (wpAny_holding (evalArgs_plain (spliced_cons (wpAny_Constant_str (k:=k) (pos:=cp) (spliced_nil (wpAny_bind (wpAny_standAt ?_)))))))
  refine wpAny_bind (wpAny_keeperOf_exc hC ?_)
  refine wpAny_bind (wpAny_call (b1z P X hg hb hm hmb hlim hroom fun x h' tk mA hk' hn I=>wpAny_bind (wpAny_holding (wpAny_point (wpAny_pure ⟨x,rfl,X.keeps hk',⟨mA,I⟩,hq x h' tk mA hk' hn I⟩)))))
end
end
section
open PySem.Calls
variable [HH:u7]
set_option genCtorIdx false in
structure Rk where
  K:Frag
  pf:Addr
  fI:Addr
  fd:FuncData
  P:c6v K pf fI fd
  Fr:Addr→Prop
structure I4(C:Cx)(R:Rk):Prop where
  X:∀a o,R.K.lookup a=some o→¬C.G a∧C.g.get? a=some o
  mE:C.mg "Exception"=none
  bE:C.mb "Exception"=some (.type "Exception")
  mP:C.mg "PatternFault"=some (.ref R.pf)
  frm:∀h,C.inv h→∀a,R.Fr a→C.G a∧∃m,h.Ns a m
  slots:∀h h',C.inv h→(∀b o,C.G b→¬R.Fr b→h.get? b=some o→h'.get? b=some o)→h.UpToSlots h'→C.inv h'
noncomputable def m9(fs:List Env):List Addr:=fs.filterMap (·.frame)
section
variable{C:Cx}
noncomputable def b9p(C:Cx)(R:Rk)(X:Addr→Prop)(fs:List Env)(h:Heap):Prop:=∀env∈fs,env.scope.kind≠ .module∧∃L,env.frame=some L∧(R.Fr L∨(¬X L∧¬C.G L∧∃m,h.Ns L m))
structure N2(C:Cx)(R:Rk)(l:List Env)(fl:Value)(s:Shared)(ex:List Addr)(e:Addr)(s':Shared):Prop where
  gens:s'.gens=s.gens
  os:s'.os=s.os
  drawn:s'.drawn=s.drawn
  inv:C.inv s'.heap
  d8:∀a,C.G a→∃o,s'.heap.get? a=some o
  fly:∃base a0,base.StaysIn s'.heap∧base.get? e=none∧s'.heap.FunFrames base l∧s'.heap.TracedAtW base e (.ref R.pf) a0 fl∧
    (∀b o,s.heap.get? b=some o→¬C.G b→b∉ex→base.get? b=some o)∧(∀b o,C.G b→¬R.Fr b→s'.heap.get? b=some o→base.get? b=some o)
noncomputable abbrev Flew (C:Cx) (R:Rk) (fs:List Env) (s:Shared) (e:Addr) (s':Shared):Prop:=N2 C R fs .none s (m9 fs) e s'
noncomputable def c3f(C:Cx)(R:Rk)(k:Nat)(f:Addr)(T:List PV→Prop):Prop:=
  ∀ (A:Around) X s vs ds fs,St C X s→A.handled=none→A.depth+k<recursionLimit→A.units+8*k+100<cLine→A.frames=some fs→b9p C R X fs s.heap→i0 X s.heap vs ds→T ds→
    ∀(Q:Value→Shared→Prop) (E:Value→Shared→Prop),(∀e s',Flew C R fs s e s'→E (.ref e) s')→wpAny (model C.prog C.w) A (call (.ref f) vs []) Q E s
inductive E2(C:Cx)(R:Rk)(k:Nat)(x:Str)(T:List PV→Prop):Prop
  |mk (a:Addr) (o:Obj) (fd:FuncData) (h1:C.mg x=some (.ref a)) (h2:¬C.G a) (h3:C.g.get? a=some o) (h4:o.data= .func fd) (h5:c3f C R k a T)
end
section
variable{F:Fm}
structure Rf(F:Fm)(R:Rk)(fs:List Env):Prop where
  W:I4 F.C R
  frames:F.A.frames=some (F.env::fs)
  frame:F.env.frame=some F.env.locals
  ok:b9p F.C R F.X₀ fs F.s₀.heap
  room:F.A.depth+2<recursionLimit
noncomputable abbrev a4b (F:Fm) (R:Rk) (fs:List Env) (e:Addr) (s':Shared):Prop:=∃fl,(fl= .none∨fl=rawInt F.env.locals)∧N2 F.C R (F.env::fs) fl F.s₀ (m9 fs) e s'
noncomputable def a4p(F:Fm)(R:Rk)(fs:List Env)(e:Addr)(s':Shared):Prop:=
  ∀(Q:Unit→Shared→Prop) (E:Value→Shared→Prop),(∀s'',Flew F.C R fs F.s₀ e s''→Q () s'')→wpAny (model F.C.prog F.C.w) F.A (leaving F.env (.ref e)) Q E s'
variable{R:Rk}{fs:List Env}{e:Addr}{s':Shared}
theorem b5t{C:Cx}{R:Rk}{base h h':Heap}(t:∀b o,C.G b→¬R.Fr b→h.get? b=some o→base.get? b=some o)(k:base.StaysIn h'):∀b o,C.G b→¬R.Fr b→h.get? b=some o→h'.get? b=some o:=fun b o g n e=>k b o (t b o g n e)
theorem a9y{C:Cx}{R:Rk}{base h h':Heap}(d8:∀b,C.G b→∃o,h.get? b=some o)(t:∀b o,C.G b→¬R.Fr b→h.get? b=some o→base.get? b=some o)(k:base.StaysIn h'):∀b o,C.G b→¬R.Fr b→h'.get? b=some o→base.get? b=some o:=fun b o g n e=>by
  obtain ⟨o',ho'⟩:=d8 b g
  have h1:=t b o' g n ho'
  have:=k b o' h1
  rw [e] at this;clear ho';cases this;exact h1
theorem b4n{C:Cx}{R:Rk}(W:I4 C R){base h h':Heap}(d8:∀b,C.G b→∃o,h.get? b=some o)(t:∀b o,C.G b→¬R.Fr b→h.get? b=some o→base.get? b=some o)(k:base.StaysIn h')(iv:C.inv h'):∀b,C.G b→∃o,h'.get? b=some o:=fun b g=>by
  by_cases q:R.Fr b
  · obtain ⟨_,m,hm⟩:=W.frm h' iv b q;exact Heap.Ns.ex hm
  · obtain ⟨o,ho⟩:=d8 b g;exact ⟨o,k b o (t b o g q ho)⟩
theorem a7p(f:Rf F R fs)(r:a4b F R fs e s'):a4p F R fs e s':=fun Q E q=>by
  obtain ⟨fl,hfl,y⟩:=r
  obtain ⟨base,a0,k,hn,fr,tr,cov,tab⟩:=y.fly
  have fin:∀h',Heap.FlyingW base fs e (.ref R.pf) a0 h'→s'.heap.UpToSlots h'→Q () {s' with heap:=h'} :=fun h' z sm=>by
    have iv:=f.W.slots _ _ y.inv (b5t tab z.1) sm
    exact q _ ⟨y.gens,y.os,y.drawn,iv,b4n f.W y.d8 tab z.1 iv,base,a0,z.1,hn,z.2.2.1,z.2.2.2,cov,a9y y.d8 tab z.1⟩
  clear y;rcases hfl with rfl|rfl
  · exact wpAny_leaves_onW f.frames f.frame ⟨k,hn,fr,tr⟩ fin
  · unfold leaving
    refine wpAny_bind (wpAny_noteFrame_againW f.frame tr (wpAny_landsW ⟨k,hn,fr,tr⟩ fun h' z sm=>?_))
    exact fin h' ⟨z.1,z.2.1,z.2.2.1.2.2,z.2.2.2⟩ sm
theorem frames_at{C:Cx}{R:Rk}(W:I4 C R){X:Addr→Prop}{base h₀ h:Heap} :∀ {fs:List Env},b9p C R X fs h₀→Le C.G h₀ h→C.inv h→(∀L∈m9 fs,base.get? L=none)→h.FunFrames base fs:=by
  intro LL
  induction LL with
  | nil=>
    rintro _ _ _ _
    exact trivial
  | cons env fs ih=>
    rintro o le iv hb
    obtain ⟨h1,L,h2,h3⟩:=o env (.head _)
    have hL:L∈m9 (env::fs):=by unfold m9;refine b8 (List.filterMap_cons ..) (b8 (h2 ..) ?_);exact .head _
    refine ⟨h1,?_,ih (fun e he=>o e (.tail _ he)) le iv fun L' hL'=>hb L' (by unfold m9;refine b8 (List.filterMap_cons ..) (b8 (h2 ..) ?_);exact .tail _ hL')⟩
    obtain ⟨m,oo,es,ep,e1,e2,_⟩:∃m,h.Ns L m:=by
      rcases h3 with h3|⟨_,g,m,hm⟩
      · exact (W.frm h iv L h3).2
      · exact ⟨m,hm.at' fun o e=>le _ o g e⟩
    exact ⟨L,oo,h2,hb L hL,e1,fun vs q=>by rw [e2] at q;cases q⟩
theorem b3g{C:Cx}{R:Rk}{X:Addr→Prop}{h₀:Heap}{b:Addr} :∀ {fs:List Env},b9p C R X fs h₀→C.G b→¬R.Fr b→b∉m9 fs:=by
  intro LL
  induction LL with
  | nil=>
    rintro _ _ _ h
    cases h
  | cons env fs ih=>
    rintro o g n h
    obtain ⟨h1,L,h2,h3⟩:=o env (.head _)
    unfold m9 at h
    rw [List.filterMap_cons,h2] at h
    clear h2;rcases List.mem_cons.mp h with rfl|h
    · rcases h3 with h3|⟨_,g',_⟩
      · exact n h3
      · exact g' g
    · exact ih (fun e he=>o e (.tail _ he)) g n h
theorem b2q{X:Addr→Prop}{ρ:b9}{s:Shared}{mA:Str→Option Value}(f:Rf F R fs)(j:JX F X ρ s)(hk:∀b o,s.heap.get? b=some o→s'.heap.get? b=some o)(hn:s.heap.get? e=none)(I:M1 s'.heap e R.pf mA)(hg:s'.gens=s.gens)(ho:s'.os=s.os)(hd:s'.drawn=s.drawn):a4p F R fs e s':=fun Q E q=>by
  obtain ⟨m,hm⟩:=j.1.ns
  have hL:F.s₀.heap.get? F.env.locals=none:=F.hL
  have le:=j.4.le
  generalize hbase:hideAll s.heap (F.env.locals::m9 fs)=base
  have bs:∀b o,base.get? b=some o→s.heap.get? b=some o:=fun b o z=>of_hideAll _ (hbase▸z)
  have bn:∀b,b∈F.env.locals::m9 fs→base.get? b=none:=fun b hb=>hbase▸hideAll_none _ hb
  have bg:∀b o,s.heap.get? b=some o→b∉F.env.locals::m9 fs→base.get? b=some o:=fun b o z hb=>hbase▸hideAll_get _ z hb
  have iv':F.C.inv s'.heap:=F.C.stable _ _ j.1.inv fun b o O z=>hk b o z
  have fr:s'.heap.FunFrames base (F.env::fs):=by
    refine ⟨by refine b8 (F.hk ..) ?_;decide,?_,frames_at f.W f.ok (le.trans (Le.of hk)) iv' fun L hL=>bn L (.tail _ hL)⟩
    obtain ⟨oo,es,ep,e1,e2,_⟩:=hm
    exact ⟨_,oo,f.frame,bn _ (.head _),hk _ _ e1,fun vs q=>by rw [e2] at q;cases q⟩
  have gt:∀b,F.C.G b→¬R.Fr b→b∉F.env.locals::m9 fs:=fun b g n h=>by
    rcases List.mem_cons.mp h with rfl|h
    · exact j.1.u9 (j.1.sub _ g)
    · exact b3g f.ok g n h
  have d8:∀b,F.C.G b→∃o,s.heap.get? b=some o:=fun b g=>j.1.d8 b (j.1.sub b g)
  obtain ⟨oe,vs,a0,z1,z2,z3,z4,z5,_⟩:=I
  refine wpAny_leaving_firstW f.frames fr f.frame z1 (fun b o z=>hk b o (bs b o z)) (by
    exact isNone fun o z=>by rw [bs e o z] at hn;cases hn) z3 z4 z5 fun h' hl=>?_
  obtain ⟨k1,⟨_,_,k2⟩,k3,k4⟩:=hl
  rw [z2] at k3
  have tb:∀b o,F.C.G b→¬R.Fr b→s.heap.get? b=some o→base.get? b=some o:=fun b o g n z=>bg b o z (gt b g n)
  have iv'':F.C.inv h':=f.W.slots _ _ iv' (fun b o g n z=>by
    obtain ⟨o',ho'⟩:=d8 b g
    have:=hk b o' ho'
    rw [z] at this;cases this
    exact k1 b _ (tb b _ g n ho')) k4
  exact q _ ⟨hg.trans j.4.gens,ho.trans j.4.os,hd.trans j.4.drawn,iv'',b4n f.W d8 tb k1 iv'',base,a0,k1,(by
    exact isNone fun o z=>by rw [bs e o z] at hn;cases hn),k2,k3,fun b o z g n=>bg b o (le b o g z) fun hb=>by
      rcases List.mem_cons.mp hb with rfl|hb
      · exact n9 hL z
      · exact n hb,a9y d8 tb k1⟩
end
end
section
open PySem.Calls
variable [HH:u7]
theorem c3f.of_body{C:Cx}{R:Rk}(W:I4 C R){k:Nat}{a:Addr}{o:Obj}{fd:FuncData}{body:List Stmt}{names:List Str}{T:List PV→Prop}
    (fn:c7h C a o fd body names) (hk2:2≤k)
    (hlen:∀ds,T ds→ds.length=names.length)
    (h:∀F:Fm,F.C=C→F.k=k→Of F fd.scope→∀fs,Rf F R fs→∀ds,T ds→∀X s',JX F X (binds names ds) s'→∀(Q:Flow→Shared→Prop) (E:Value→Shared→Prop),(∀e s'',a4p F R fs e s''→E (.ref e) s'')→wpAny (model F.C.prog F.C.w) F.A (execs body F.env) Q E s'):c3f C R (k+1) a T:=by
  intro A X s vs ds fs st hh hd hu hfr hok r t Q E q
  refine wpAny_call (enter (k:=k) fn st hh hd hu r (hlen ds t) fun F q1 q2 q3 q4 q5 q6 q7 q8 O s' j=>?_)
  clear fn st;subst q1
  have f:Rf F R fs:=⟨W,by refine b8 (q5 ..) ?_;exact Around.frames_deeper hfr,q8,by refine b8 (q6 ..) (b8 (q7 ..) ?_);exact hok,by have:=F.hd;lia⟩
  refine h F rfl q2 q3 fs f ds t X s' j _ _ fun e s'' le=>le _ _ fun s₃ y=>?_
  rw [q6] at y
  exact q e s₃ y
end
section
variable [HH:u7]
set_option genCtorIdx false in
inductive Stop where
  |go (p:Prop)
  |no
noncomputable def Stop.den:Stop→Prop
  | .go p=>p
  | .no=>False
theorem Stop.on{q:Stop}{p:Prop}(h:q= .go p)(x:p):q.den:=by subst h;exact x
noncomputable def D7(b:Bool)(x y:Stop):Stop:=match b with
  |true=>x
  |false=>y
noncomputable def u5{α:Type}(o:Option α)(k:α→Stop):Stop:=match o with
  |some y=>k y
  |none=> .no
noncomputable def H8(n m:Nat)(k:Stop):Stop:=D7 (Nat.ble n m) k .no
theorem D7.br{b:Bool}{x y:Stop}{p q:Prop}(h:(D7 b x y).den)(hx:x.den→p)(hy:y.den→q):Br b p q:=by
  cases b
  · exact Br.f rfl (hy h)
  · exact Br.t rfl (hx h)
theorem D7.inv{b:Bool}{x y:Stop}{p:Prop}(h:(D7 b x y).den)(hx:b=true→x.den→p)(hy:y.den→p):p:=by
  cases b
  · exact hy h
  · exact hx rfl h
theorem u5.inv{α:Type}{o:Option α}{k:α→Stop}(h:(u5 o k).den):∃y,o=some y∧(k y).den:=by
  cases o
  · exact h.elim
  · exact ⟨_,rfl,h⟩
theorem H8.inv{n m:Nat}{k:Stop}(h:(H8 n m k).den):n≤m∧k.den:=by
  unfold H8 at h
  cases e:Nat.ble n m <;> rw [e] at h
  · exact h.elim
  · exact ⟨Nat.le_of_ble_eq_true e,h⟩
theorem Stop.both{q x y:Stop}{b:Bool}(e:q=D7 b x y)(h:b=true→x.den)(k:b=false→y.den):q.den:=by
  subst e
  cases b
  · exact k rfl
  · exact h rfl
theorem Stop.opt{α:Type}{q:Stop}{o:Option α}{k:α→Stop}{y:α}(e:q=u5 o k)(h:o=some y)(x:(k y).den):q.den:=by subst e;subst h;exact x
theorem Stop.le{q k:Stop}{n m:Nat}(e:q=H8 n m k)(h:n≤m)(x:k.den):q.den:=by
  subst e
  unfold H8
  refine b8 (Nat.ble_eq_true_of_le h ..) ?_
  exact x
theorem u5.to{α:Type}{o:Option α}{k:α→Stop}{P:α→Prop}(h:(u5 o k).den)(f:∀y,(k y).den→P y):G4 o P:=(u5.inv h).imp fun y x=>⟨x.1,f y x.2⟩
theorem u5.as{α:Type}{o:Option α}{k:α→Stop}{P:α→Prop}(h:(u5 o k).den)(f:∀y,o=some y→(k y).den→P y):∃y,P y:=(u5.inv h).imp fun y x=>f y x.1 x.2
noncomputable def G0:PV→Option (List PV)
  | .lst l=>some l
  | .tup l=>some l
  |_=>none
noncomputable def c0a:PV→Option (List PV)
  | .lst l=>some l
  |_=>none
noncomputable def b9c:PV→Option (List PV)
  | .tup l=>some l
  |_=>none
noncomputable def intOf:PV→Option Int
  | .int i=>some i
  |_=>none
noncomputable def c8l(l:List PV):Option (PV×PV):=match l with
  |[]=>none
  | a ::l=>(match l with
    |[]=>none
    | b::l=>(match l with
      |[]=>some (a,b)
      |_::_=>none))
noncomputable def pairOf:PV→Option (PV×PV)
  | .tup l=>c8l l
  |_=>none
noncomputable def boolOf:PV→Option Bool
  | .bool b=>some b
  |_=>none
theorem G0.inv{d:PV}{l:List PV}(h:G0 d=some l):d= .lst l∨d= .tup l:=by
  cases d <;> first|(cases h;done)|(cases h;exact .inl rfl)|(cases h;exact .inr rfl)
theorem c0a.inv{d:PV}{l:List PV}(h:c0a d=some l):d= .lst l:=by
  cases d <;> cases h;rfl
theorem b9c.inv{d:PV}{l:List PV}(h:b9c d=some l):d= .tup l:=by
  cases d <;> cases h;rfl
theorem intOf.inv{d:PV}{i:Int}(h:intOf d=some i):d= .int i:=by
  cases d <;> cases h;rfl
theorem pairOf.inv{d:PV}{p:PV×PV}(h:pairOf d=some p):d= .tup [p.1,p.2]:=by
  cases d with
  | tup l=>cases l with
    |nil=>exact l8 h
    | cons a l=>cases l with
      |nil=>exact l8 h
      | cons b l=>cases l with
        |nil=>exact Option.some.inj h▸rfl
        |cons c l=>exact l8 h
  |_=>exact l8 h
noncomputable def K7(C:Cx)(x:Str)(d:PV):Prop:=∃v,Gv C x v d
set_option genCtorIdx false in
structure Kx(F:Fm) where
  kd:Str→Option NameKind
  fn:Str→Option (List PV→(PV→Prop)→Prop)
  c5q:∀x k,kd x=some k→F.env.kindOf x=some k
  b8f:∀x,(kd x=some .local∨kd x=some .cell)→l5 F x
  c4x:∀x T,fn x=some T→d7 F.C F.k x T
  c4w:interactive F.env=false
  gv:Str→Option PV
  c4h:∀x d,gv x=some d→K7 F.C x d
noncomputable def c2s:Option NameKind→Bool
  |some .globalImplicit=>true
  |_=>false
theorem c2s.inv{o:Option NameKind}(h:c2s o=true):o=some .globalImplicit:=by
  cases o with
  |none=>cases h
  |some k=>cases k <;> first|(cases h;done)|rfl
noncomputable def l7(x:Str):Bool:=!(x==("__debug__":Str))
theorem l7.inv{x:Str}(h:l7 x=true):(x==("__debug__":Str))=false:=(Bool.not_eq_true' _).mp h
section
variable{F:Fm}{ρ:b9}
theorem F7.mono{e:Expr}{P P':PV→Prop}(h:F7 F ρ e P)(k:∀d,P d→P' d):F7 F ρ e P':=fun X s i Q E q=>h X s i Q E fun v d s' p=>q v d s' (k d p)
theorem E7.mono{e:List Expr}{P P':List PV→Prop}(h:E7 F ρ e P)(k:∀d,P d→P' d):E7 F ρ e P':=fun X s pos i Q E q=>h X s pos i Q E fun v d s' p=>q v d s' (k d p)
theorem Tr.a5t{e:Expr}{P P':Bool→Prop}(h:Tr F ρ e P)(k:∀b,P b→P' b):Tr F ρ e P':=fun X s i Q E q=>h X s i Q E fun b s' p=>q b s' (k b p)
theorem v8.mono{o:Option Expr}{P P':Option Int→Prop}(h:v8 F ρ o P)(k:∀b,P b→P' b):v8 F ρ o P':=by
  cases o with
  |none=>exact k _ h
  |some e=>exact Ev.mono h (fun d z1=>by obtain ⟨i,e,p⟩:=z1;exact ⟨i,e,k _ p⟩)
end
noncomputable def b3t:Option Int→Option Int→Option Int→List PV→Option (List PV)
  |some i,none,none,l=>if decide (0<i)&&Nat.ble i.toNat l.length then some (l.drop i.toNat) else none
  |none,none,some i,l=>if i== -1 then some l.reverse else none
  |_,_,_,_=>none
set_option tactic.hygienic true in
theorem b3t.inv{a b c:Option Int}{l l':List PV}(h:b3t a b c l=some l'):b2r a b c l l':=by
  cases a <;> cases b <;> cases c
  case some.none.none i=>
    obtain ⟨e,h⟩:=a2q h
    obtain ⟨e1,e2⟩:=Bool.and_eq_true_iff.mp e
    clear e;cases h
    obtain ⟨n,rfl⟩:∃n:Nat,i= .ofNat (n+1):=⟨i.toNat - 1,by have:=of_decide_eq_true e1;show i=((i.toNat - 1+1:Nat):Int);omega⟩
    exact .drop _ _ (Nat.le_of_ble_eq_true e2)
  case none.none.some i=>
    obtain ⟨e,h⟩:=a2q h
    cases h
    refine b8 (eq_of_beq e ..) ?_;exact .rev _
  all_goals exact l8 h
noncomputable def d0q(a b:PV)(K:PV→Stop)(z:Stop):Stop:=match a with
  | .int a=>match b with
    | .int b=>K (.int (a+b))
    |_=>z
  | .tup a=>match b with
    | .tup b=>H8 (a.length+b.length) sizeLine (K (.tup (a++b)))
    |_=>z
  | .lst a=>match b with
    | .lst b=>H8 (a.length+b.length) sizeLine (K (.lst (a++b)))
    |_=>z
  |_=>z
noncomputable def d1l(a b:PV)(K:PV→Stop)(z:Stop):Stop:=match a with
  | .int a=>match b with
    | .int b=>K (.int (a - b))
    |_=>z
  |_=>z
noncomputable def c7n(op:Operator)(a b:PV)(K:PV→Stop)(z:Stop):Stop:=match op with
  | .Add=>d0q a b K z
  | .Sub=>d1l a b K z
  |_=>z
theorem c7n.inv{op:Operator}{a b:PV}{K:PV→Stop}{z:Stop}{P:Prop}(h:(c7n op a b K z).den)(f:∀y,I5 op a b y→(K y).den→P)(g:z.den→P):P:=by
  cases op <;> first|exact g h|skip
  · cases a <;> first|exact g h|skip
    all_goals cases b <;> first|exact g h|skip
    · exact f _ (.d0c _ _) h
    · exact f _ (.c9z _ _ (H8.inv h).1) (H8.inv h).2
    · exact f _ (.c7w _ _ (H8.inv h).1) (H8.inv h).2
  · cases a <;> first|exact g h|skip
    cases b <;> first|exact g h|skip
    exact f _ (.d0b _ _) h
end
section
variable [HH:u7]
noncomputable def a9a(e:Expr):Prop:=∀es env,starEach (e::es) env=(false,eval e env)::starEach es env
noncomputable def a4v:(e:Expr)→Option (PLift (a9a e)):=
  J1 (fun O=>none) (fun O O=>some ⟨fun O O=>rfl⟩) (fun O O O=>some ⟨fun O O=>rfl⟩) (fun O O O=>some ⟨fun O O=>rfl⟩) (fun O O O=>some ⟨fun O O=>rfl⟩) (fun O O=>some ⟨fun O O=>rfl⟩) (fun O O O=>some ⟨fun O O=>rfl⟩) (fun O O O O=>none) (fun O O O O=>some ⟨fun O O=>rfl⟩) (fun O O O O=>some ⟨fun O O=>rfl⟩) (fun O O O=>some ⟨fun O O=>rfl⟩) (fun O O O O=>some ⟨fun O O=>rfl⟩) (fun O O O O=>some ⟨fun O O=>rfl⟩) (fun O O O=>some ⟨fun O O=>rfl⟩) (fun O O O O=>some ⟨fun O O=>rfl⟩) (fun O O O=>none)
noncomputable def c6j(e:Expr):Prop:=∀t n env,swapsWith e t n env=pure false
noncomputable def c8q:(e:Expr)→Option (PLift (c6j e)):=
  J1 (fun O=>none) (fun O O=>some ⟨fun O O O=>rfl⟩) (fun O O O=>some ⟨fun O O O=>rfl⟩) (fun O O O=>some ⟨fun O O O=>rfl⟩) (fun O O O=>some ⟨fun O O O=>rfl⟩) (fun O O=>some ⟨fun O O O=>rfl⟩) (fun O O O=>some ⟨fun O O O=>rfl⟩) (fun O O O O=>none) (fun O O O O=>some ⟨fun O O O=>rfl⟩) (fun O O O O=>some ⟨fun O O O=>rfl⟩) (fun O O O=>some ⟨fun O O O=>rfl⟩) (fun O O O O=>some ⟨fun O O O=>rfl⟩) (fun O O O O=>some ⟨fun O O O=>rfl⟩) (fun O O O=>some ⟨fun O O O=>rfl⟩) (fun O O O O=>none) (fun O O O=>none)
set_option genCtorIdx false in
inductive EV:Expr→Type where
  |name (x:Str) (p:Pos) (h:l7 x=true):EV (.Name x p)
  |int (i u p):EV (.Constant (.int i) u p)
  |str (i u p):EV (.Constant (.str i) u p)
  |non (u p):EV (.Constant .none u p)
  |bol (i u p):EV (.Constant (.bool i) u p)
  |neg (i u p p'):EV (.UnaryOp .USub (.Constant (.int i) u p) p')
  |tup (es u p):EV (.Tuple es u p)
  |lst (es p):EV (.List es p)
  |sli (v lo hi st sp p):EV (.Subscript v (.Slice lo hi st sp) p)
  |itm (v s p) (h:∀o i,subscripted s false o i=operate [o,i] (getItem o i)):EV (.Subscript v s p)
  |cmp (l op r p) (h:behindInMarks op r=false):EV (.Compare l [op] [r] p)
  |K4 (l op op' r r' p) (h:lastMarks [op,op'] [r,r']=false):EV (.Compare l [op,op'] [r,r'] p)
  |ife (c a b p):EV (.IfExp c a b p)
  |and (a b p):EV (.BoolOp .And [a,b] p)
  |or (a b p):EV (.BoolOp .Or [a,b] p)
  |bin (l op r p):EV (.BinOp l op r p)
  |call (g np e es p) (h:l7 g=true) (h':a9a e):EV (.Call (.Name g np) (e::es) [] p)
  |any (e):EV e
noncomputable def c0t:Expr→Bool:=b1k (fun O=>false) fun O O O=>true
noncomputable def c9g(v s:Expr)(p:Pos):EV (.Subscript v s p):=
  J1 (m:=fun s=>EV (.Subscript v s p)) (fun O=> .any _) (fun O O=> .itm _ _ _ fun O O=>rfl) (fun c O O=>match c with
    | .int _=> .itm _ _ _ fun O O=>rfl
    |_=> .any _) (fun O O O=> .any _) (fun O O O=> .any _) (fun O O=> .any _) (fun O O O=> .any _) (fun O O O O=> .sli _ _ _ _ _ _) (fun O O O O=> .any _) (fun O O O O=> .any _) (fun O O O=> .any _) (fun O O O O=> .itm _ _ _ fun O O=>rfl) (fun O O O O=> .itm _ _ _ fun O O=>rfl) (fun O O O=> .any _) (fun O O O O=> .any _) (fun O O O=> .any _) s
noncomputable def view:(e:Expr)→EV e:=
  J1 (fun O=> .any _) (fun x p=>match h:l7 x with
    |true=> .name x p h
    |false=> .any _) (fun c u p=>match c with
    | .int i=> .int i u p
    | .str i=> .str i u p
    | .none=> .non u p
    | .bool i=> .bol i u p
    |_=> .any _) (fun o a p'=>match o with
    | .USub=>c1n (m:=fun a=>EV (.UnaryOp .USub a p')) (fun O=> .any _) (fun c u p=>match c with
      | .int i=> .neg i u p p'
      |_=> .any _) a
    |_=> .any _) (fun es u p=> .tup es u p) (fun es p=> .lst es p) (fun v s p=>c9g v s p) (fun O O O O=> .any _) (fun l ops rs p=>match ops,rs with
    | [op],[r]=>match h:behindInMarks op r with
      |false=> .cmp l op r p h
      |true=> .any _
    | [op,op'],[r,r']=>match h:lastMarks [op,op'] [r,r'] with
      |false=> .K4 l op op' r r' p h
      |true=> .any _
    |_,_=> .any _) (fun c a b p=> .ife c a b p) (fun o l p=>match o,l with
    | .And,[a,b]=> .and a b p
    | .Or,[a,b]=> .or a b p
    |_,_=> .any _) (fun l op r p=> .bin l op r p) (fun f as ks p=>match as,ks with
    | e::es,[]=>E4 (m:=fun f=>EV (.Call f (e::es) [] p)) (fun O=> .any _) (fun g np=>match h:l7 g,a4v e with
      |true,some h'=> .call g np e es p h h'.down
      |_,_=> .any _) f
    |_,_=> .any _) (fun O O O=> .any _) (fun O O O O=> .any _) (fun O O O=> .any _)
set_option genCtorIdx false in
inductive TV:Expr→Type where
  |cmp (l op r p) (h:behindInMarks op r=false):TV (.Compare l [op] [r] p)
  |K4 (l op op' r r' p) (h:lastMarks [op,op'] [r,r']=false):TV (.Compare l [op,op'] [r,r'] p)
  |not (e p):TV (.UnaryOp .Not e p)
  |and (a b p):TV (.BoolOp .And [a,b] p)
  |or (a b p):TV (.BoolOp .Or [a,b] p)
  |val (e) (h:∀env whole,isTrue e env whole=(do let v ← whole;standAt e.pos;holding [v] (truthy v))):TV e
  |any (e):TV e
noncomputable def c9c:(e:Expr)→TV e:=
  J1 (fun O=> .any _) (fun O O=> .val _ fun O O=>rfl) (fun O O O=> .any _) (fun o e p=>match o with
    | .Not=> .not e p
    |_=> .any _) (fun O O O=> .any _) (fun O O=> .any _) (fun O O O=> .any _) (fun O O O O=> .any _) (fun l ops rs p=>match ops,rs with
    | [op],[r]=>match c0t r,h:behindInMarks op r with
      |false,false=> .cmp l op r p h
      |_,_=> .any _
    | [op,op'],[r,r']=>match h:lastMarks [op,op'] [r,r'] with
      |false=> .K4 l op op' r r' p h
      |true=> .any _
    |_,_=> .any _) (fun O O O O=> .any _) (fun o l p=>match o,l with
    | .And,[a,b]=> .and a b p
    | .Or,[a,b]=> .or a b p
    |_,_=> .any _) (fun O O O O=> .any _) (fun O O O O=> .val _ fun O O=>rfl) (fun O O O=> .val _ fun O O=>rfl) (fun O O O O=> .any _) (fun O O O=> .any _)
set_option genCtorIdx false in
inductive SV:Stmt→Type where
  |iff (c b o p):SV (.If c b o p)
  |c9j (x p p') (h:l7 x=true):SV (.Return (some (.Name x p)) p')
  |ret (e p'):SV (.Return (some e) p')
  |pop (x xp y np ap cp p') (h:l7 y=true) (h':(ap.endLine==cp.line)=true):SV (.Assign [.Name x xp] (.Call (.Attribute (.Name y np) "pop" ap) [] [] cp) p')
  |new (x xp lp p'):SV (.Assign [.Name x xp] (.List [] lp) p')
  |asg (x xp e p') (h:c6j e):SV (.Assign [.Name x xp] e p')
  |N1 (x xp y yp k tp e p') (h:∀t n env,swapsWithSole [t] e n env=pure false) (h':∀env,swappedStores [.Tuple [.Name x xp,.Name y yp] k tp] e env=pure none):SV (.Assign [.Tuple [.Name x xp,.Name y yp] k tp] e p')
  |app (y np ap e cp p') (h:a9a e) (h1:l7 y=true) (h2:(ap.endLine==cp.line)=true):SV (.Expr (.Call (.Attribute (.Name y np) "append" ap) [e] [] cp) p')
  |ext (y np ap e cp p') (h:a9a e) (h1:l7 y=true) (h2:(ap.endLine==cp.line)=true):SV (.Expr (.Call (.Attribute (.Name y np) "extend" ap) [e] [] cp) p')
  |exp (g np args cp p'):SV (.Expr (.Call (.Name g np) args [] cp) p')
  |lop (st):SV st
  |any (st):SV st
noncomputable def calm:Expr→Bool:=a8c (fun O=>true) fun O as O O=>match as with
  |[a]=>a8c (fun O=>true) (fun f O O O=>!c0t f) a
  |_=>true
noncomputable def c8r(y:Str)(np:Pos)(g:Str)(ap:Pos)(e:Expr)(cp p':Pos):SV (.Expr (.Call (.Attribute (.Name y np) g ap) [e] [] cp) p'):=match a4v e,h1:l7 y,h2:ap.endLine==cp.line with
  | some h,true,true=>match decEq g "append" with
    | .isTrue q=>q▸ .app y np ap e cp p' h.down h1 h2
    | .isFalse _=>match decEq g "extend",calm e with
      | .isTrue q,true=>q▸ .ext y np ap e cp p' h.down h1 h2
      |_,_=> .any _
  |_,_,_=> .any _
noncomputable def c8i(x:Str)(xp:Pos)(y:Str)(np:Pos)(g:Str)(ap cp p':Pos):SV (.Assign [.Name x xp] (.Call (.Attribute (.Name y np) g ap) [] [] cp) p'):=match h1:l7 y,h2:ap.endLine==cp.line,decEq g "pop" with
  |true,true,.isTrue q=>q▸ .pop x xp y np ap cp p' h1 h2
  |_,_,_=> .any _
noncomputable def D4(x:Str)(xp p':Pos)(e:Expr):SV (.Assign [.Name x xp] e p'):=match c8q e with
  |some h=> .asg x xp e p' h.down
  |none=> .any _
noncomputable def c9w:(st:Stmt)→SV st:=
  c7q (fun O=> .any _) (fun O O O O O O O O O O=> .any _) (fun O O O O O O O O O O O=> .any _) (fun c b o p=> .iff c b o p) (fun e p'=>match e with
    | some e=>E4 (m:=fun e=>SV (.Return (some e) p')) (fun e=> .ret e p') (fun x p=>match h:l7 x with
      |true=> .c9j x p p' h
      |false=> .any _) e
    |none=> .any _) (fun ts e p'=>match ts with
    | [t]=>J1 (m:=fun t=>SV (.Assign [t] e p')) (fun O=> .any _) (fun x xp=>J1 (m:=fun e=>SV (.Assign [.Name x xp] e p')) (D4 x xp p') (fun O O=>D4 x xp p' _) (fun O O O=>D4 x xp p' _) (fun O O O=>D4 x xp p' _) (fun O O O=>D4 x xp p' _) (fun l lp=>match l with
        |[]=> .new x xp lp p'
        |_=>D4 x xp p' _) (fun O O O=>D4 x xp p' _) (fun O O O O=>D4 x xp p' _) (fun O O O O=>D4 x xp p' _) (fun O O O O=>D4 x xp p' _) (fun O O O=>D4 x xp p' _) (fun O O O O=>D4 x xp p' _) (fun f as ks cp=>match as,ks with
        |[],[]=>b1k (m:=fun f=>SV (.Assign [.Name x xp] (.Call f [] [] cp) p')) (fun O=>D4 x xp p' _) (fun v g ap=>E4 (m:=fun v=>SV (.Assign [.Name x xp] (.Call (.Attribute v g ap) [] [] cp) p')) (fun O=>D4 x xp p' _) (fun y np=>c8i x xp y np g ap cp p') v) f
        |_,_=>D4 x xp p' _) (fun O O O=>D4 x xp p' _) (fun O O O O=>D4 x xp p' _) (fun O O O=>D4 x xp p' _) e) (fun O O O=> .any _) (fun O O O=> .any _) (fun l k tp=>match l with
      |[a,b]=>E4 (m:=fun a=>SV (.Assign [.Tuple [a,b] k tp] e p')) (fun O=> .any _) (fun x xp=>E4 (m:=fun b=>SV (.Assign [.Tuple [.Name x xp,b] k tp] e p')) (fun O=> .any _) (fun y yp=>a8c (m:=fun e=>SV (.Assign [.Tuple [.Name x xp,.Name y yp] k tp] e p')) (fun O=> .any _) (fun O O O O=> .N1 x xp y yp k tp _ p' (fun O O O=>rfl) fun O=>rfl) e) b) a
      |_=> .any _) (fun O O=> .any _) (fun O O O=> .any _) (fun O O O O=> .any _) (fun O O O O=> .any _) (fun O O O O=> .any _) (fun O O O=> .any _) (fun O O O O=> .any _) (fun O O O O=> .any _) (fun O O O=> .any _) (fun O O O O=> .any _) (fun O O O=> .any _) t
    |_=> .any _) (fun e p'=>a8c (m:=fun e=>SV (.Expr e p')) (fun O=> .any _) (fun f as ks cp=>match ks with
    | []=>J1 (m:=fun f=>SV (.Expr (.Call f as [] cp) p')) (fun O=> .any _) (fun g np=> .exp g np as cp p') (fun O O O=> .any _) (fun O O O=> .any _) (fun O O O=> .any _) (fun O O=> .any _) (fun O O O=> .any _) (fun O O O O=> .any _) (fun O O O O=> .any _) (fun O O O O=> .any _) (fun O O O=> .any _) (fun O O O O=> .any _) (fun O O O O=> .any _) (fun v g ap=>match as with
      |[e]=>E4 (m:=fun v=>SV (.Expr (.Call (.Attribute v g ap) [e] [] cp) p')) (fun O=> .any _) (fun y np=>c8r y np g ap e cp p') v
      |_=> .any _) (fun O O O O=> .any _) (fun O O O=> .any _) f
    |_=> .any _) e) (fun O O O O=> .lop _) (fun O O O O O=> .lop _)
end
section
set_option backward.match.sparseCases true
variable [HH:u7]
abbrev F8:=List PV→(PV→Prop)→Prop
set_option genCtorIdx false in
inductive Mk where
  |tup
  |lst
  |call (T:F8)
inductive Sq where
  |tup
  |lst
  |len
noncomputable def Sq.of:Sq→List PV→PV
  | .tup,l=> .tup l
  | .lst,l=> .lst l
  | .len,l=> .int l.length
set_option genCtorIdx false in
inductive Kt where
  |ret
  |c7p (k:PV→Stop)
  |asg (x:Str) (bs:List (List Stmt))
  |N1 (x y:Str) (bs:List (List Stmt))
  |drop (bs:List (List Stmt))
  |app (y:Str) (L:List PV) (bs:List (List Stmt))
  |ext (y:Str) (L:List PV) (bs:List (List Stmt))
  |iff (b o:List Stmt) (bs:List (List Stmt))
  |arg (m:Mk) (acc:List PV) (es:List Expr) (K:Kt)
  |sl (q:Bool) (lo hi st:Option Expr) (K:Kt)
  |slp (q:Bool) (l:List PV) (r:List (Option Expr)) (done:List (Option Int)) (K:Kt)
  |it1 (s:Expr) (K:Kt)
  |it2 (v:PV) (K:Kt)
  |cm1 (op:CmpOp) (r:Expr) (K:Kt)
  |cm2 (op:CmpOp) (a:PV) (K:Kt)
  |cc1 (op:CmpOp) (r:Expr) (op':CmpOp) (r':Expr) (K:Kt)
  |cc2 (op:CmpOp) (a:PV) (op':CmpOp) (r':Expr) (K:Kt)
  |ife (a b:Expr) (K:Kt)
  |and (b:Expr) (K:Kt)
  |or (b:Expr) (K:Kt)
  |c7s (b:Expr) (K:Kt)
  |tor (b:Expr) (K:Kt)
  |not (K:Kt)
  |tru (K:Kt)
  |bn1 (op:Operator) (r:Expr) (K:Kt)
  |bn2 (op:Operator) (a:PV) (K:Kt)
  |seq (f:Sq) (K:Kt)
  |mx1 (e:Expr) (K:Kt)
  |mx2 (a:PV) (K:Kt)
set_option genCtorIdx false in
inductive M5 where
  |e (ρ:b9) (x:Expr) (K:Kt)
  |b (ρ:b9) (x:Expr) (K:Kt)
  |as (ρ:b9) (m:Mk) (acc:List PV) (es:List Expr) (K:Kt)
  |ps (ρ:b9) (q:Bool) (l:List PV) (r:List (Option Expr)) (done:List (Option Int)) (K:Kt)
  |t (ρ:b9) (x:Expr) (K:Kt)
  |xs (ρ:b9) (ss:List Stmt) (bs:List (List Stmt))
  |blk (ρ:b9) (bs:List (List Stmt))
  |ap (ρ:b9) (K:Kt) (d:PV)
noncomputable def L8(d:PV)(Q:Bool→Prop):Prop:=∃t,d= .bool t∧Q t
noncomputable def bS(d:PV)(k:Bool→Stop):Stop:=u5 (boolOf d) k
theorem bS.to{d:PV}{k:Bool→Stop}{Q:Bool→Prop}(h:(bS d k).den)(f:∀t,(k t).den→Q t):L8 d Q:=u5.as h fun t e h=>⟨(by cases d <;> cases e;rfl),f t h⟩
section
variable(F:Fm)(N:b9→Prop)(R:PV→Prop)
noncomputable def bl:List (List Stmt)→b9→Prop
  |[],r=>N r
  |ss::bs,r=>A0 F r ss (bl bs) R
noncomputable def up(T:F8)(ds:List PV)(P:PV→Prop):Prop:=∃P':PV→Prop,(∀d,P' d→P d)∧T ds P'
noncomputable def fin(P:PV→Prop):Mk→List PV→Prop
  | .tup,ds=>ds.length≤64∧P (.tup ds)
  | .lst,ds=>ds.length≤64∧P (.lst ds)
  | .call T,ds=>up T ds P
noncomputable def tri{α:Sort _}(d:α)(f:Option Int→Option Int→Option Int→α)(l:List (Option Int)):α:=match l with
  |[]=>d
  | c ::l=>(match l with
    |[]=>d
    | b ::l=>(match l with
      |[]=>d
      | a::l=>(match l with
        |[]=>f a b c
        |_::_=>d)))
noncomputable def slc(P:PV→Prop)(q:Bool)(l:List PV):List (Option Int)→Prop:=tri False fun a b c=>match q with
    |true=>l.length≤sizeLine∧G4 (b0b a b c l) fun l'=>P (.lst l')
    |false=>l.length≤sizeLine∧G4 (b3t a b c l) fun l'=>P (.tup l')
noncomputable def parts(ρ:b9)(Q:List (Option Int)→Prop):List (Option Expr)→List (Option Int)→Prop
  |[],done=>Q done
  |o::r,done=>v8 F ρ o fun a=>parts ρ Q r (a::done)
noncomputable def sOf(q:Bool)(d:PV):Option (List PV):=match q with
  |true=>c0a d
  |false=>b9c d
noncomputable def Kt.sem(ρ:b9):Kt→PV→Prop
  | .ret,d=>R d
  | .c7p k,d=>(k d).den
  | .asg x bs,d=>bl F N R bs ((x,.val d)::ρ)
  | .N1 x y bs,d=>∃a b,d= .tup [a,b]∧bl F N R bs ((y,.val b)::(x,.val a)::ρ)
  | .drop bs,_=>bl F N R bs ρ
  | .app y L bs,d=>bl F N R bs ((y,.own (.lst (L++[d])))::ρ)
  | .ext y L bs,d=>∃k,(d= .lst k∨d= .tup k)∧L.length+k.length≤sizeLine∧bl F N R bs ((y,.own (.lst (L++k)))::ρ)
  | .iff b o bs,d=>L8 d fun t=>Br t (A0 F ρ b (bl F N R bs) R) (A0 F ρ o (bl F N R bs) R)
  | .arg m acc es K,d=>E7 F ρ es fun ds=>fin (K.sem ρ) m ((d::acc).reverseAux ds)
  | .sl q lo hi st K,d=>∃l,sOf q d=some l∧parts F ρ (slc (K.sem ρ) q l) [lo,hi,st] []
  | .slp q l r done K,d=>∃i,d= .int i∧parts F ρ (slc (K.sem ρ) q l) r (some i::done)
  | .it1 s K,v=>Ev F ρ s fun i=>G4 (item? v i) (K.sem ρ)
  | .it2 v K,i=>G4 (item? v i) (K.sem ρ)
  | .cm1 op r K,a=>F7 F ρ r fun b=>G4 (E8 op a b) fun c=>K.sem ρ (.bool c)
  | .cm2 op a K,b=>G4 (E8 op a b) fun c=>K.sem ρ (.bool c)
  | .cc1 op r op' r' K,a=>F7 F ρ r fun b=>G4 (E8 op a b) fun c=>Br c (F7 F ρ r' fun b'=>G4 (E8 op' b b') fun c'=>K.sem ρ (.bool c')) (K.sem ρ (.bool false))
  | .cc2 op a op' r' K,b=>G4 (E8 op a b) fun c=>Br c (F7 F ρ r' fun b'=>G4 (E8 op' b b') fun c'=>K.sem ρ (.bool c')) (K.sem ρ (.bool false))
  | .ife a b K,d=>L8 d fun t=>Br t (Ev F ρ a (K.sem ρ)) (Ev F ρ b (K.sem ρ))
  | .and b K,d=>G4 (truth? d) fun t=>Br t (Ev F ρ b (K.sem ρ)) (K.sem ρ d)
  | .or b K,d=>G4 (truth? d) fun t=>Br t (K.sem ρ d) (Ev F ρ b (K.sem ρ))
  | .c7s b K,d=>L8 d fun t=>Br t (Tr F ρ b fun c=>K.sem ρ (.bool c)) (K.sem ρ (.bool false))
  | .tor b K,d=>L8 d fun t=>Br t (K.sem ρ (.bool true)) (Tr F ρ b fun c=>K.sem ρ (.bool c))
  | .not K,d=>L8 d fun t=>K.sem ρ (.bool !t)
  | .tru K,d=>G4 (truth? d) fun t=>K.sem ρ (.bool t)
  | .bn1 op r K,a=>Ev F ρ r fun b=>∃y,I5 op a b y∧K.sem ρ y
  | .bn2 op a K,b=>∃y,I5 op a b y∧K.sem ρ y
  | .seq f K,d=>∃l,(d= .lst l∨d= .tup l)∧l.length≤sizeLine∧K.sem ρ (f.of l)
  | .mx1 e K,d=>Ev F ρ e fun d'=>∃a b,d= .int a∧d'= .int b∧K.sem ρ (.int (if b>a then b else a))
  | .mx2 d K,d'=>∃a b,d= .int a∧d'= .int b∧K.sem ρ (.int (if b>a then b else a))
noncomputable def M5.J:M5→Prop
  | .e ρ x K=>Ev F ρ x (K.sem F N R ρ)
  | .b ρ x K=>F7 F ρ x (K.sem F N R ρ)
  | .as ρ m acc es K=>E7 F ρ es fun ds=>fin (K.sem F N R ρ) m (acc.reverseAux ds)
  | .ps ρ q l r done K=>parts F ρ (slc (K.sem F N R ρ) q l) r done
  | .t ρ x K=>Tr F ρ x fun c=>K.sem F N R ρ (.bool c)
  | .xs ρ ss bs=>A0 F ρ ss (bl F N R bs) R
  | .blk ρ bs=>bl F N R bs ρ
  | .ap ρ K d=>K.sem F N R ρ d
end
noncomputable def cont(rec:M5→Stop)(ρ:b9)(K:Kt)(d:PV):Prop:=(rec (.ap ρ K d)).den
noncomputable def c8s(rec:M5→Stop)(ss:List Stmt)(bs:List (List Stmt))(r:b9):Prop:=(rec (.xs r ss bs)).den
noncomputable def c8w(rec:M5→Stop)(bs:List (List Stmt))(r:b9):Prop:=(rec (.blk r bs)).den
noncomputable def toA(rec:M5→Stop)(ρ:b9)(K:Kt)(d:PV):Stop:=rec (.ap ρ K d)
noncomputable def c5e:Option Ent→Bool
  |some (.own (.dct _))=>true
  |_=>false
noncomputable def c2j(ρ:b9):Expr→Bool:=E4 (fun O=>false) fun x O=>c5e (ρ.lookup x)
noncomputable def c9i:Option Ent→Bool
  |some (.own (.dct _))=>false
  |some _=>true
  |none=>false
noncomputable def c7u(ρ:b9)(e:Expr):Bool:=b1k (E4 (fun O=>true) fun x O=>!(x==("source":Str))&&c9i (ρ.lookup x)) (fun O O O=>false) e
noncomputable def valOf:Option Ent→Option PV
  |some (.val d)=>some d
  |_=>none
noncomputable def J3:Option Ent→Option (List PV)
  |some (.own (.lst l))=>some l
  |_=>none
theorem valOf.inv{o:Option Ent}{d:PV}(h:valOf o=some d):o=some (.val d):=by
  cases o with
  |none=>cases h
  |some e=>cases e <;> cases h;rfl
theorem J3.inv{o:Option Ent}{l:List PV}(h:J3 o=some l):o=some (.own (.lst l)):=by
  cases o with
  |none=>exact l8 h
  | some e=>cases e with
    |val d=>exact l8 h
    |own d=>cases d <;> first|exact l8 h|exact Option.some.inj h▸rfl
noncomputable def c7b:Option Ent→Bool
  |some (.val (.lst _))=>true
  |some (.own (.lst _))=>true
  |_=>false
noncomputable def c1h(ρ:b9)(e:Expr):Bool:=a8c (E4 (fun O=>false) fun x O=>c7b (ρ.lookup x)) (fun f O O O=>E4 (fun O=>false) (fun g O=>g=="list") f) e
noncomputable def D9:List PV→Option (List PV×PV)
  |[]=>none
  |[a]=>some ([],a)
  | a::l=>match D9 l with
    |some (k,d)=>some (a::k,d)
    |none=>none
theorem D9.inv:∀ {l k:List PV} {d:PV},D9 l=some (k,d)→l=k++[d]
  |[a],_,_,h=>by cases h;rfl
  | a ::b::l,k,d,h=>by
    have h:(match D9 (b::l) with|some (k,d)=>some (a::k,d)|none=>none)=some (k,d):=h
    cases e:D9 (b::l) with
    |none=>rw [e] at h;cases h
    | some p=>
      rw [e] at h;cases h
      refine b8 (D9.inv e ..) ?_;rfl
theorem a2n:∀(l:List PV) (d:PV),D9 (l++[d])=some (l,d)
  |[],_=>rfl
  |[_],_=>rfl
  | a::b::l,d=>by
    show (match D9 ((b::l)++[d]) with|some (k,d)=>some (a::k,d)|none=>none)=_
    exact b8 (a2n (b::l) d ..) rfl
noncomputable def bi? (g:Str):Option Sq:=if g="tuple" then some .tup else if g="list" then some .lst else if g="len" then some .len else none
section
variable{F:Fm}(κ:Kx F)(N:b9→Prop)(R:PV→Prop)(rec:M5→Stop)
noncomputable def c5p(ρ:b9):Kt→PV→Stop
  | .ret,d=> .go (R d)
  | .c7p k,d=>k d
  | .asg x bs,d=>rec (.blk ((x,.val d)::ρ) bs)
  | .N1 x y bs,d=>u5 (pairOf d) fun p=>rec (.blk ((y,.val p.2)::(x,.val p.1)::ρ) bs)
  | .drop bs,_=>rec (.blk ρ bs)
  | .app y L bs,d=>rec (.blk ((y,.own (.lst (L++[d])))::ρ) bs)
  | .ext y L bs,d=>u5 (G0 d) fun k=>H8 (L.length+k.length) sizeLine (rec (.blk ((y,.own (.lst (L++k)))::ρ) bs))
  | .iff b o bs,d=>bS d fun t=>D7 t (rec (.xs ρ b bs)) (rec (.xs ρ o bs))
  | .arg m acc es K,d=>rec (.as ρ m (d::acc) es K)
  | .sl q lo hi st K,d=>u5 (sOf q d) fun l=>rec (.ps ρ q l [lo,hi,st] [] K)
  | .slp q l r done K,d=>u5 (intOf d) fun i=>rec (.ps ρ q l r (some i::done) K)
  | .it1 s K,v=>rec (.e ρ s (.it2 v K))
  | .it2 v K,i=>u5 (item? v i) (toA rec ρ K)
  | .cm1 op r K,a=>rec (.b ρ r (.cm2 op a K))
  | .cm2 op a K,b=>u5 (E8 op a b) fun c=>rec (.ap ρ K (.bool c))
  | .cc1 op r op' r' K,a=>rec (.b ρ r (.cc2 op a op' r' K))
  | .cc2 op a op' r' K,b=>u5 (E8 op a b) fun c=>D7 c (rec (.b ρ r' (.cm2 op' b K))) (rec (.ap ρ K (.bool false)))
  | .ife a b K,d=>bS d fun t=>D7 t (rec (.e ρ a K)) (rec (.e ρ b K))
  | .and b K,d=>u5 (truth? d) fun t=>D7 t (rec (.e ρ b K)) (rec (.ap ρ K d))
  | .or b K,d=>u5 (truth? d) fun t=>D7 t (rec (.ap ρ K d)) (rec (.e ρ b K))
  | .c7s b K,d=>bS d fun t=>D7 t (rec (.t ρ b K)) (rec (.ap ρ K (.bool false)))
  | .tor b K,d=>bS d fun t=>D7 t (rec (.ap ρ K (.bool true))) (rec (.t ρ b K))
  | .not K,d=>bS d fun t=>rec (.ap ρ K (.bool !t))
  | .tru K,d=>u5 (truth? d) fun t=>rec (.ap ρ K (.bool t))
  | .bn1 op r K,a=>rec (.e ρ r (.bn2 op a K))
  | .bn2 op a K,b=>c7n op a b (toA rec ρ K) (.go (∃y,I5 op a b y∧cont rec ρ K y))
  | .seq f K,d=>u5 (G0 d) fun l=>H8 l.length sizeLine (rec (.ap ρ K (f.of l)))
  | .mx1 e K,d=>rec (.e ρ e (.mx2 d K))
  | .mx2 d K,d'=>u5 (intOf d) fun a=>u5 (intOf d') fun b=>rec (.ap ρ K (.int (if b>a then b else a)))
noncomputable def c4v(ρ:b9)(K:Kt): {x:Expr} →EV x→Stop
  | _,.name x p h=>match valOf (ρ.lookup x) with
    |some d=>rec (.ap ρ K d)
    | none=>D7 (c2s (κ.kd x)) (match κ.gv x with
      |some d=>rec (.ap ρ K d)
      |none=> .go (Ev F ρ (.Name x p) (cont rec ρ K))) (.go (Ev F ρ (.Name x p) (cont rec ρ K)))
  |_,.int i u p=>rec (.ap ρ K (.int i))
  |_,.str i u p=>rec (.ap ρ K (.str i))
  |_,.non u p=>rec (.ap ρ K .none)
  |_,.bol i u p=>rec (.ap ρ K (.bool i))
  |_,.neg i u p p'=>rec (.ap ρ K (.int (-i)))
  |_,.tup es u p=>rec (.as ρ .tup [] es K)
  |_,.lst es p=>rec (.as ρ .lst [] es K)
  |_,.sli v lo hi st sp p=>rec (.b ρ v (.sl (c1h ρ v) lo hi st K))
  |_,.itm v s p h=>D7 (c7u ρ v) (rec (.b ρ v (.it1 s K))) (.go (Ev F ρ (.Subscript v s p) (cont rec ρ K)))
  |_,.cmp l op r p h=>D7 (c2j ρ r) (.go (Ev F ρ (.Compare l [op] [r] p) (cont rec ρ K))) (rec (.b ρ l (.cm1 op r K)))
  |_,.K4 l op op' r r' p h=>rec (.b ρ l (.cc1 op r op' r' K))
  |_,.ife c a b p=>rec (.t ρ c (.ife a b K))
  |_,.and a b p=>rec (.e ρ a (.and b K))
  |_,.or a b p=>rec (.e ρ a (.or b K))
  |_,.bin l op r p=>rec (.e ρ l (.bn1 op r K))
  | _,.call g np e es p h h'=>D7 (c2s (κ.kd g)) (match κ.fn g with
    |some T=>rec (.as ρ (.call T) [] (e::es) K)
    | none=>match es with
      | []=>match bi? g with
        |some q=>D7 (c2j ρ e) (.go (Ev F ρ (.Call (.Name g np) [e] [] p) (cont rec ρ K))) (rec (.b ρ e (.seq q K)))
        |none=> .go (Ev F ρ (.Call (.Name g np) [e] [] p) (cont rec ρ K))
      | e'::es=>match es with
        | []=>match decEq g "max" with
          | .isTrue _=>match a4v e' with
            |some _=>rec (.e ρ e (.mx1 e' K))
            |none=> .no
          | .isFalse _=> .go (Ev F ρ (.Call (.Name g np) [e,e'] [] p) (cont rec ρ K))
        |e''::es=> .go (Ev F ρ (.Call (.Name g np) (e::e'::e''::es) [] p) (cont rec ρ K))) (.go (Ev F ρ (.Call (.Name g np) (e::es) [] p) (cont rec ρ K)))
  |_,.any e=> .go (Ev F ρ e (cont rec ρ K))
noncomputable def stepT(ρ:b9)(K:Kt): {x:Expr} →TV x→Stop
  |_,.cmp l op r p h=>D7 (c2j ρ r) (.go (Tr F ρ (.Compare l [op] [r] p) fun c=>cont rec ρ K (.bool c))) (rec (.b ρ l (.cm1 op r K)))
  |_,.K4 l op op' r r' p h=>rec (.b ρ l (.cc1 op r op' r' K))
  |_,.not e p=>rec (.t ρ e (.not K))
  |_,.and a b p=>rec (.t ρ a (.c7s b K))
  |_,.or a b p=>rec (.t ρ a (.tor b K))
  |_,.val e h=>rec (.e ρ e (.tru K))
  |_,.any e=> .go (Tr F ρ e fun c=>cont rec ρ K (.bool c))
noncomputable def c6c(ρ:b9)(ss:List Stmt)(bs:List (List Stmt)): {st:Stmt} →SV st→Stop
  |_,.iff c b o p=>rec (.t ρ c (.iff b o (ss::bs)))
  | _,.c9j x p p' h=>match J3 (ρ.lookup x) with
    |some l=> .go (R (.lst l))
    |none=>rec (.e ρ (.Name x p) .ret)
  |_,.ret e p'=>rec (.e ρ e .ret)
  |_,.pop x xp y np ap cp p' h h'=>D7 (H9 (κ.kd x)) (u5 (J3 (ρ.lookup y)) fun L=>u5 (D9 L) fun z=>H8 (z.1.length+1) sizeLine (rec (.xs ((x,.val z.2)::(y,.own (.lst z.1))::ρ) ss bs))) .no
  |_,.new x xp lp p'=>D7 (H9 (κ.kd x)) (rec (.xs ((x,.own (.lst []))::ρ) ss bs)) .no
  |_,.asg x xp e p' h=>D7 (H9 (κ.kd x)) (rec (.e ρ e (.asg x (ss::bs)))) .no
  |_,.N1 x xp y yp k tp e p' h h'=>D7 (H9 (κ.kd x)) (D7 (H9 (κ.kd y)) (rec (.e ρ e (.N1 x y (ss::bs)))) .no) .no
  |_,.app y np ap e cp p' h h1 h2=>u5 (J3 (ρ.lookup y)) fun L=>H8 L.length sizeLine (rec (.e ρ e (.app y L (ss::bs))))
  |_,.ext y np ap e cp p' h h1 h2=>u5 (J3 (ρ.lookup y)) fun L=>rec (.e ρ e (.ext y L (ss::bs)))
  |_,.exp g np args cp p'=>rec (.e ρ (.Call (.Name g np) args [] cp) (.drop (ss::bs)))
  |st,.lop _=> .go (A0 F ρ (st::ss) (c8w rec bs) R)
  |st,.any _=> .go (Ex F ρ st (c8s rec ss bs) R)
noncomputable def c7a(ρ:b9)(q:Bool)(l:List PV)(K:Kt):List (Option Int)→Stop:=tri .no fun a b c=>match q with
    |true=>H8 l.length sizeLine (u5 (b0b a b c l) fun l'=>rec (.ap ρ K (.lst l')))
    |false=>H8 l.length sizeLine (u5 (b3t a b c l) fun l'=>rec (.ap ρ K (.tup l')))
noncomputable def step:M5→Stop
  | .e ρ x K=>c4v κ rec ρ K (view x)
  | .b ρ x K=>match x with
    | .Name x p=>match ρ.lookup x with
      |some (.own d)=>D7 (l7 x) (rec (.ap ρ K d)) .no
      |_=>rec (.e ρ (.Name x p) K)
    |x=>rec (.e ρ x K)
  | .as ρ m acc es K=>match es with
    | []=>match m with
      | .tup=>H8 (acc.reverseAux []).length 64 (rec (.ap ρ K (.tup (acc.reverseAux []))))
      | .lst=>H8 (acc.reverseAux []).length 64 (rec (.ap ρ K (.lst (acc.reverseAux []))))
      | .call T=> .go (T (acc.reverseAux []) (cont rec ρ K))
    | e::es=>match a4v e with
      |some _=>rec (.e ρ e (.arg m acc es K))
      |none=> .no
  | .ps ρ q l r done K=>match r with
    |[]=>c7a rec ρ q l K done
    |none::r=>rec (.ps ρ q l r (none::done) K)
    |some e::r=>rec (.e ρ e (.slp q l r done K))
  | .t ρ x K=>stepT (F:=F) rec ρ K (c9c x)
  | .xs ρ ss bs=>match ss with
    |[]=>rec (.blk ρ bs)
    |st::ss=>c6c κ R rec ρ ss bs (c9w st)
  | .blk ρ bs=>match bs with
    |[]=> .go (N ρ)
    |ss::bs=>rec (.xs ρ ss bs)
  | .ap ρ K d=>c5p R rec ρ K d
noncomputable def run:Nat→M5→Stop
  |0,f=> .go (f.J F N R)
  |n+1,f=>step κ N R (run n) f
end
end
section
set_option backward.match.sparseCases true
variable [HH:u7]
theorem d7.up{C:Cx}{k:Nat}{x:Str}{T:F8}(c:d7 C k x T):d7 C k x (Mine.Internal.up T):=by
  obtain ⟨a,o,fd,h1,h2,h3,h4,h5⟩:=c
  exact ⟨a,o,fd,h1,h2,h3,h4,fun A X s vs ds P st hh hd hu r t Q E q=>t.elim fun P' t=>h5 A X s vs ds P' st hh hd hu r t.2 Q E fun v d s' p=>q v d s' (t.1 d p)⟩
theorem G0.to{d:PV}{k:List PV→Stop}{P:List PV→Prop}(h:(u5 (G0 d) k).den)(f:∀l,(k l).den→P l):∃l,(d= .lst l∨d= .tup l)∧P l:=u5.as h fun y e x=>⟨G0.inv e,f y x⟩
theorem L8.of{t:Bool}{Q:Bool→Prop}(h:L8 (.bool t) Q):Q t:=h.elim fun O h=>by cases h.1;exact h.2
theorem intOf.to{d:PV}{k:Int→Stop}{P:Int→Prop}(h:(u5 (intOf d) k).den)(f:∀l,(k l).den→P l):∃i,d= .int i∧P i:=u5.as h fun y e x=>⟨intOf.inv e,f y x⟩
theorem b0l(lo hi st:Option Expr)(p:Pos):∃ops:Value→Value→List Value,∀o i,subscripted (.Slice lo hi st p) false o i=operate (ops o i) (getItem o i):=by
  cases lo <;> cases hi <;> cases st <;> exact ⟨_,fun O O=>rfl⟩
section
variable{F:Fm}(κ:Kx F)(N:b9→Prop)(R:PV→Prop){rec:M5→Stop}(ih:∀f,(rec f).den→f.J F N R)
include ih
set_option tactic.hygienic true in
theorem d0r{ρ:b9}(K:Kt)(d:PV)(h:(c5p R rec ρ K d).den):K.sem F N R ρ d:=by
  cases K
  case ret=>exact h
  case c7p=>exact h
  case asg=>exact ih _ h
  case N1=>exact (u5.inv h).elim fun p h=>⟨p.1,p.2,pairOf.inv h.1,ih _ h.2⟩
  case drop=>exact ih _ h
  case app=>exact ih _ h
  case ext=>exact G0.to h fun k h=>⟨(H8.inv h).1,ih _ (H8.inv h).2⟩
  case iff=>exact bS.to h fun t h=>D7.br h (ih _) (ih _)
  case arg=>exact ih _ h
  case sl=>exact u5.as h fun l e h=>⟨e,ih _ h⟩
  case slp=>exact intOf.to h fun i h=>ih _ h
  case it1=>exact ih _ h
  case it2=>exact u5.to h fun y h=>ih (.ap ρ _ y) h
  case cm1=>exact ih _ h
  case cm2=>exact u5.to h fun y h=>ih _ h
  case cc1=>exact ih _ h
  case cc2=>exact u5.to h fun y h=>D7.br h (ih _) (ih _)
  case ife=>exact bS.to h fun t h=>D7.br h (ih _) (ih _)
  case and=>exact u5.to h fun y h=>D7.br h (ih _) (ih _)
  case or=>exact u5.to h fun y h=>D7.br h (ih _) (ih _)
  case c7s=>exact bS.to h fun t h=>D7.br h (ih _) (ih _)
  case tor=>exact bS.to h fun t h=>D7.br h (ih _) (ih _)
  case not=>exact bS.to h fun t h=>ih _ h
  case tru=>exact u5.to h fun y h=>ih _ h
  case bn1=>exact ih _ h
  case bn2 op a K=>exact c7n.inv h (fun y hb h=>⟨y,hb,ih (.ap ρ K y) h⟩) fun h=>Exists.imp (fun y h=>⟨h.1,ih (.ap ρ K y) h.2⟩) h
  case seq=>exact G0.to h fun k h=>⟨(H8.inv h).1,ih _ (H8.inv h).2⟩
  case mx1=>exact ih _ h
  case mx2=>exact (u5.inv h).elim fun a h=>(u5.inv h.2).elim fun b h'=>⟨a,b,intOf.inv h.1,intOf.inv h'.1,ih _ h'.2⟩
theorem d1e{ρ:b9}{g:Str}{np p:Pos}{e:Expr}{q:Sq}{K:Kt}(hq:bi? g=some q)(hg:F.env.kindOf g=some .globalImplicit)(h':a9a e)(h:(rec (.b ρ e (.seq q K))).den):Ev F ρ (.Call (.Name g np) [e] [] p) (K.sem F N R ρ):=by
  have h:F7 F ρ e fun d=>∃l,(d= .lst l∨d= .tup l)∧l.length≤sizeLine∧K.sem F N R ρ (q.of l):=ih _ h
  unfold bi? at hq
  split at hq
  · rename_i e;subst e;cases hq;exact Ev.tupleOf h hg (h' _ _)
  split at hq
  · rename_i e;subst e;cases hq;exact Ev.M8 (F0.listOf h hg (h' _ _))
  split at hq
  · rename_i e;subst e;cases hq;exact Ev.len h hg (h' _ _)
  · cases hq
set_option tactic.hygienic true in
theorem d1i{ρ:b9}(K:Kt){x:Expr}(v:EV x)(h:(c4v κ rec ρ K v).den):Ev F ρ x (K.sem F N R ρ):=by
  have stay:∀ {e},Ev F ρ e (cont rec ρ K)→Ev F ρ e (K.sem F N R ρ):=fun h=>Ev.mono h fun d h=>ih _ h
  cases v
  case name x p hd=>
    have h:(match valOf (ρ.lookup x) with|some d=>rec (.ap ρ K d)|none=>D7 (c2s (κ.kd x)) (match κ.gv x with|some d=>rec (.ap ρ K d)|none=> .go (Ev F ρ (.Name x p) (cont rec ρ K))) (.go (Ev F ρ (.Name x p) (cont rec ρ K)))).den:=h
    cases e:valOf (ρ.lookup x) <;> rw [e] at h
    · refine D7.inv h (fun hk h=>?_) stay
      cases e:κ.gv x <;> rw [e] at h
      · exact stay h
      · exact (κ.c4h _ _ e).elim fun v g=>Ev.b9g g (ih _ h) (κ.c5q _ _ (c2s.inv hk)) (l7.inv hd)
    · exact Ev.name (valOf.inv e) (ih _ h) (l7.inv hd)
  case int=>exact Ev.d0h (ih _ h)
  case str=>exact Ev.d0e (ih _ h)
  case non=>exact Ev.c7y (ih _ h)
  case bol=>exact Ev.b1y (ih _ h)
  case neg=>exact Ev.minusOne (ih _ h)
  case tup=>exact Ev.tuple ((ih _ h:E7 F ρ _ _).mono fun ds h=>⟨E1 (Nat.le_trans h.1 (by decide)),h.2⟩)
  case lst=>exact Ev.list ((ih _ h:E7 F ρ _ _).mono fun ds h=>⟨E1 (Nat.le_trans h.1 (by decide)),h.2⟩)
  case sli v lo hi st sp p=>
    have h:(rec (.b ρ v (.sl (c1h ρ v) lo hi st K))).den:=h
    cases e:c1h ρ v <;> rw [e] at h
    · exact Ev.c6h ((ih _ h:F7 F ρ v _).mono (fun d z1=>by obtain ⟨l,h1,h2⟩:=z1;exact v8.mono h2 fun a h=>v8.mono h fun b h=>v8.mono h fun c h=>⟨l,h.2.imp fun l' h'=>⟨b9c.inv h1,h.1,b3t.inv h'.1,h'.2⟩⟩)) (b0l _ _ _ _)
    · exact Ev.M8 (F0.slice ((ih _ h:F7 F ρ v _).mono (fun d z1=>by obtain ⟨l,h1,h2⟩:=z1;exact v8.mono h2 fun a h=>v8.mono h fun b h=>v8.mono h fun c h=>⟨l,h.2.imp fun l' h'=>⟨c0a.inv h1,h.1,h'.1,h'.2⟩⟩)) (b0l _ _ _ _))
  case itm v s p hs=>exact D7.inv h (fun O h=>Ev.item (ih _ h) hs) stay
  case cmp l op r p hm=>exact D7.inv h (fun O h=>stay h) fun h=>Ev.cmp (ih _ h) hm
  case K4 l op op' r r' p hm=>exact Ev.K4 (ih _ h) hm
  case ife=>exact Ev.c9a (Tr.a5t (ih _ h) fun t h=>L8.of h)
  case and=>exact Ev.c9k (ih _ h)
  case or=>exact Ev.or2 (ih _ h)
  case bin=>exact Ev.bin (ih _ h)
  case call g np e es p hd h'=>
    refine D7.inv h (fun hk w=>?_) stay
    clear h
    have h:=w
    clear w
    have hg:=κ.c5q _ _ (c2s.inv hk)
    cases hT:κ.fn g <;> rw [hT] at h
    · cases es with
      | nil=>
        cases hq:bi? g <;> simp only [hq] at h
        · exact stay h
        · exact D7.inv h (fun O h=>stay h) fun h=>d1e N R ih hq hg h' h
      | cons e' es=>
        cases es with
        | nil =>
          cases hm:decEq g "max" <;> simp only [hm] at h
          · exact stay h
          · rename_i q
            cases hp:a4v e' <;> simp only [hp] at h
            · exact h.elim
            · rename_i pe
              subst q
              exact Ev.max2 (ih _ h) hg ((h' _ _).trans (congrArg _ (pe.down _ _))) (pe.down _ _)
        |cons=>exact stay h
    · exact Ev.call F.k (κ.c4x _ _ hT).up (Nat.le_refl _) (ih _ h) hg (h' _ _) (l7.inv hd)
  case any=>exact stay h
set_option tactic.hygienic true in
theorem d1m{ρ:b9}(K:Kt){x:Expr}(v:TV x)(h:(stepT (F:=F) rec ρ K v).den):Tr F ρ x fun c=>K.sem F N R ρ (.bool c):=by
  cases v
  case cmp l op r p hm=>exact D7.inv h (fun O h=>Tr.a5t h fun c h=>ih _ h) fun h=>Tr.cmp (ih _ h) hm
  case K4 l op op' r r' p hm=>exact Tr.K4 (ih _ h) hm
  case not=>exact Tr.not ((ih _ h:Tr F ρ _ _).a5t fun t h=>L8.of h)
  case and=>exact Tr.c9k ((ih _ h:Tr F ρ _ _).a5t fun t h=>L8.of h)
  case or=>exact Tr.or2 ((ih _ h:Tr F ρ _ _).a5t fun t h=>L8.of h)
  case val hv=>exact Tr.val (ih _ h) (hv _)
  case any=>exact Tr.a5t h fun c h=>ih _ h
set_option tactic.hygienic true in
theorem d0u{ρ:b9}{ss:List Stmt}{bs:List (List Stmt)}{st:Stmt}(v:SV st)(h:(c6c κ R rec ρ ss bs v).den):A0 F ρ (st::ss) (bl F N R bs) R:=by
  have no:∀ {p:Prop},Stop.no.den→p:=fun h=>h.elim
  cases v
  case iff=>exact A0.cons (Ex.iff ((ih _ h:Tr F ρ _ _).a5t fun t h=>L8.of h))
  case c9j x p p' hd=>
    have h:(match J3 (ρ.lookup x) with|some l=>Stop.go (R (.lst l))|none=>rec (.e ρ (.Name x p) .ret)).den:=h
    cases e:J3 (ρ.lookup x) <;> rw [e] at h
    · exact A0.cons (Ex.ret (ih _ h))
    · exact A0.cons (Ex.c5j (J3.inv e) h (l7.inv hd))
  case ret=>exact A0.cons (Ex.ret (ih _ h))
  case pop x xp y np ap cp p' h1 h2=>
    refine D7.inv h (fun hk h=>?_) no
    obtain ⟨L,hL,h⟩:=u5.inv h
    obtain ⟨z,hz,h⟩:=u5.inv h
    exact A0.cons (Ex.b3o (by exact b8 (J3.inv hL ..) (b8 (D9.inv hz ..) rfl)) (H8.inv h).1 (ih _ (H8.inv h).2) (κ.b8f _ (H9.inv hk)) h2 (l7.inv h1))
  case new=>exact D7.inv h (fun hk h=>A0.cons (Ex.b0k (I9.own (F0.display (E7.nil ⟨Nat.zero_le _,ih _ h⟩))) (κ.b8f _ (H9.inv hk)) rfl)) no
  case asg he=>exact D7.inv h (fun hk h=>A0.cons (Ex.assign (ih _ h) (κ.b8f _ (H9.inv hk)) (he _ _ _))) no
  case N1 h1 h2=>exact D7.inv h (fun hk h=>D7.inv h (fun hk' h=>A0.cons (Ex.c3y (ih _ h) (κ.b8f _ (H9.inv hk)) (κ.b8f _ (H9.inv hk')) (h1 _ _ _) (h2 _))) no) no
  case app he h1 h2=>exact (u5.inv h).elim fun L h=>A0.cons (Ex.append (J3.inv h.1) (H8.inv h.2).1 (ih _ (H8.inv h.2).2) (he _ _) h2 (l7.inv h1) κ.c4w)
  case ext he h1 h2=>exact (u5.inv h).elim fun L h=>A0.cons (Ex.extend (J3.inv h.1) (ih _ h.2) (he _ _) h2 (l7.inv h1) κ.c4w)
  case exp=>exact A0.cons (Ex.expr (ih _ h))
  case lop=>exact A0.mono h fun r h=>ih _ h
  case any=>exact A0.cons (Ex.mono h fun r h=>ih _ h)
set_option tactic.hygienic true in
theorem stepOk(f:M5)(h:(step κ N R rec f).den):f.J F N R:=by
  cases f
  case e=>exact d1i κ N R ih _ _ h
  case b ρ x K=>
    have of:∀ {x},(rec (.e ρ x K)).den→F7 F ρ x (K.sem F N R ρ):=fun h=>F7.of (ih _ h)
    cases x <;> first|exact of h|skip
    rename_i x p
    have h:(match ρ.lookup x with|some (.own d)=>D7 (l7 x) (rec (.ap ρ K d)) .no|_=>rec (.e ρ (.Name x p) K)).den:=h
    cases e:ρ.lookup x with
    |none=>rw [e] at h;exact of h
    | some v=>
      rw [e] at h
      cases v
      · exact of h
      · exact D7.inv h (fun hd h=>F7.own e (ih _ h) (l7.inv hd)) fun h=>h.elim
  case as ρ m acc es K=>
    cases es with
    | nil=>
      cases m
      · exact E7.nil (H8.inv h|>.imp id (ih _))
      · exact E7.nil (H8.inv h|>.imp id (ih _))
      · exact E7.nil ⟨_,fun d h=>ih (.ap ρ K d) h,h⟩
    | cons e es=>
      have h:(match a4v e with|some _=>rec (.e ρ e (.arg m acc es K))|none=> .no).den:=h
      cases hp:a4v e <;> rw [hp] at h
      · exact h.elim
      · rename_i pe
        exact E7.cons (ih _ h) (pe.down _ _)
  case ps ρ q l r done K=>
    cases r with
    | nil =>
      have h:(c7a rec ρ q l K done).den:=h
      show slc _ q l done
      cases done with
      |nil=>exact False.elim h
      | cons c done=>cases done with
        |nil=>exact False.elim h
        | cons b done=>cases done with
          |nil=>exact False.elim h
          | cons a done=>cases done with
            | nil=>
              cases q
              · exact ⟨(H8.inv h).1,u5.to (H8.inv h).2 fun l' h=>ih _ h⟩
              · exact ⟨(H8.inv h).1,u5.to (H8.inv h).2 fun l' h=>ih _ h⟩
            |cons x done=>exact False.elim h
    | cons o r=>
      cases o
      · exact ih (.ps ρ q l r (none::done) K) h
      · exact ih (.e ρ _ (.slp q l r done K)) h
  case t=>exact d1m N R ih _ _ h
  case xs ρ ss bs=>
    cases ss with
    |nil=>exact A0.nil (ih _ h)
    |cons st ss=>exact d0u κ N R ih _ h
  case blk ρ bs=>
    cases bs with
    |nil=>exact h
    |cons ss bs=>exact ih (.xs ρ ss bs) h
  case ap=>exact d0r N R ih _ _ h
omit ih in
theorem a7o:∀(n:Nat) (f:M5),(run κ N R n f).den→f.J F N R:=by
  intro LL1
  induction LL1 with
  | zero=>
    rintro _ h
    exact h
  | succ n ih=>
    rintro f h
    exact stepOk κ N R (ih) f h
end
theorem A0.wp{F:Fm}(κ:Kx F){N:b9→Prop}{R:PV→Prop}{ρ:b9}{ss:List Stmt}(h:(run κ N R 3000 (.xs ρ ss [])).den):A0 F ρ ss N R:=a7o κ N R 3000 _ h
theorem Ev.wp{F:Fm}(κ:Kx F){R:PV→Prop}{ρ:b9}{e:Expr}(h:(run κ (fun O=>True) R 3000 (.e ρ e .ret)).den):Ev F ρ e R:=a7o κ _ R 3000 _ h
theorem Tr.wp{F:Fm}(κ:Kx F){ρ:b9}{e:Expr}{P:Bool→Prop}(h:(run κ (fun O=>True) (fun d=>L8 d P) 3000 (.t ρ e .ret)).den):Tr F ρ e P:=Tr.a5t (a7o κ _ _ 3000 _ h:Tr F ρ e _) fun t h=>L8.of h
end
section
variable [HH:u7]
noncomputable def C9(F:Fm):List (Str×F8)→Prop
  |[]=>True
  |p::r=>d7 F.C F.k p.1 p.2∧C9 F r
theorem C9.mem{F:Fm}{l:List (Str×F8)}(h:C9 F l){p:Str×F8}(hp:p∈l):d7 F.C F.k p.1 p.2:=by
  induction l with
  |nil=>cases hp
  | cons q r ih=>
    rcases List.mem_cons.mp hp with e|e
    · refine b8 (e ..) ?_;exact h.1
    · exact ih h.2 e
noncomputable def Of.kx{F:Fm}{sc:Scope}(o:Of F sc)(l:List (Str×F8))(h:C9 F l):Kx F where
  kd:=fun x=>sc.names.lookup x
  fn:=fun x=>l.lookup x
  c5q:=fun x k h=>o.kind h
  b8f:=fun x h=>h.elim (fun h=>o.loc h) fun h=>o.I7 h
  c4x:=fun x T e=>h.mem (mem_of_lookup e)
  c4w:=a1w
  gv:=fun O=>none
  c4h:=fun O O h=>nomatch h
noncomputable def a7v(C:Cx):List (Str×PV)→Prop
  |[]=>True
  |p::r=>K7 C p.1 p.2∧a7v C r
theorem a7v.mem{C:Cx}{l:List (Str×PV)}(h:a7v C l){p:Str×PV}(hp:p∈l):K7 C p.1 p.2:=by
  induction l with
  |nil=>cases hp
  | cons q r ih=>
    rcases List.mem_cons.mp hp with e|e
    · refine b8 (e ..) ?_;exact h.1
    · exact ih h.2 e
noncomputable def Kx.with{F:Fm}(κ:Kx F)(g:List (Str×PV))(h:a7v F.C g):Kx F:= {κ with gv:=fun x=>g.lookup x,c4h:=fun x d e=>h.mem (mem_of_lookup e)}
noncomputable def a6k:Option NameKind→Option NameKind
  |some .globalImplicit=>some .globalImplicit
  |_=>none
theorem a6k.inv{o:Option NameKind}{k:NameKind}(h:a6k o=some k):o=some k∧k= .globalImplicit:=by
  cases o with
  |none=>cases h
  |some c=>cases c <;> first|(cases h;done)|(cases h;exact ⟨rfl,rfl⟩)
noncomputable def Kx.comp{F:Fm}(κ:Kx F){sc:Scope}(d:m5 F sc):Kx d.fm where
  kd:=fun x=>a6k (sc.names.lookup x)
  fn:=κ.fn
  c5q:=fun x k h=>d.kind (by refine b8 ((a6k.inv h).2 ..) ?_;decide) (a6k.inv h).1
  b8f:=fun x h=>by rcases h with h|h <;> exact nomatch (a6k.inv h).2
  c4x:=κ.c4x
  c4w:=a1w
  gv:=κ.gv
  c4h:=κ.c4h
noncomputable def J2(ρ0 ρ:b9):Prop:=ρ0.map (fun p=>ρ.lookup p.1)=ρ0.map fun p=>some p.2
theorem J2.le{ρ0 ρ:b9}(h:J2 ρ0 ρ){y:Str}{n:Ent}(e:ρ0.lookup y=some n):ρ.lookup y=some n:=by
  induction ρ0 with
  |nil=>cases e
  | cons p r ih=>
    have h:=List.cons.inj h
    by_cases hx:y=p.1
    · clear ih;subst hx;rw [lookup_cons_self] at e;cases e;exact h.1
    · rw [c5 _ _ hx] at e;exact ih h.2 e
theorem J2.cons{p:Str×Ent}{r ρ:b9}(h:ρ.lookup p.1=some p.2)(k:J2 r ρ):J2 (p::r) ρ:=by unfold J2 at *;rw [List.map_cons,List.map_cons,h,k]
noncomputable def turn{σ:Type}(ρ0:σ→b9)(Inv:σ→Prop)(r:b9):Prop:=∃s',Inv s'∧J2 (ρ0 s') r
noncomputable def c3s(x y:Stop):Kt:= .c7p fun d=>bS d fun b=>D7 b x y
section
variable{F:Fm}(κ:Kx F){ρ:b9}{N:b9→Prop}{R:PV→Prop}
theorem Tr.less{e:Expr}{P:Bool→Prop}{ρ':b9}(h:Tr F ρ' e P)(c:∀y n,ρ'.lookup y=some n→ρ.lookup y=some n):Tr F ρ e P:=fun X s i Q E q=>h X s (i.less c) Q E fun b s' p i' x=>q b s' p (i.ext (i'.after x)) x
theorem A0.a7x{σ:Type}{test:Expr}{body rest:List Stmt}{p:Pos}(ρ0:σ→b9)(Inv:Nat→σ→Prop)(n:Nat)(s₀:σ)(h0:Inv n s₀)(hc:J2 (ρ0 s₀) ρ)
    (h:∀n s,Inv n s→∃m,n=m+1∧(run κ N R 3000 (.t (ρ0 s) test (c3s (run κ (turn ρ0 (Inv m)) R 3000 (.xs (ρ0 s) body [])) (run κ N R 3000 (.xs (ρ0 s) rest []))))).den):A0 F ρ (.While test body [] p::rest) N R:=by
  refine A0.cons (Ex.c9o n ?_)
  have key:∀n ρ,(∃s,Inv n s∧J2 (ρ0 s) ρ)→Wh F test body (fun r=>A0 F r rest N R) R n ρ:=by
    intro n
    induction n with
    |zero=>rintro ρ ⟨s,i,_⟩;obtain ⟨m,e,_⟩:=h _ _ i;cases e
    | succ n ih=>
      rintro ρ ⟨s,i,c⟩
      obtain ⟨m,e,w⟩:=h _ _ i
      cases e
      refine Tr.less (Tr.a5t (a7o κ N R 3000 _ w:Tr F _ _ _) fun b hb=>D7.br (L8.of (bS.to hb fun O h=>h)) (fun x=>?_) fun x=>?_) fun y n e=>c.le e
      · exact A0.less ((a7o κ _ R 3000 _ x:A0 F (ρ0 s) body _ _).mono fun r h'=>ih r h') fun y n e=>c.le e
      · exact A0.less (a7o κ N R 3000 _ x) fun y n e=>c.le e
  exact key n ρ ⟨s₀,h0,hc⟩
noncomputable def isSeq(l:List PV)(d:PV):Prop:=G0 d=some l
theorem A0.b9k{σ α:Type}{x:Str}{it:Expr}{body rest:List Stmt}{xp p:Pos}(enc:α→PV)(ρ0:σ→b9)(Inv:List α→σ→Prop)(l:List α)(s₀:σ)(h0:Inv l s₀)(hc:J2 (ρ0 s₀) ρ)(hx:H9 (κ.kd x)=true)
    (hi:(run κ (fun O=>True) (isSeq (l.map enc)) 3000 (.e ρ it .ret)).den)
    (step:∀a rest s,Inv (a::rest) s→(run κ (turn ρ0 (Inv rest)) R 3000 (.xs ((x,.val (enc a))::ρ0 s) body [])).den)
    (fin:∀s,Inv [] s→(run κ N R 3000 (.xs (ρ0 s) rest [])).den) (hs:∀x,foldedSetIterable it F.env x=pure x:=by intro _;rfl):A0 F ρ (.For (.Name x xp) it body [] p::rest) N R:=by
  refine A0.cons (Ex.for (Ev.mono (Ev.wp κ hi) fun d hd=>⟨_,G0.inv hd,?_⟩) (κ.b8f _ (H9.inv hx)) hs)
  refine Fo.list enc (fun l ρ=>∃s,Inv l s∧J2 (ρ0 s) ρ) (fun a rest' ρ ⟨s,i,c⟩=>?_) ((fun ρ z1=>by obtain ⟨s,i,c⟩:=z1;exact A0.less (A0.wp κ (fin s i)) fun y n e=>c.le e)) l ρ ⟨s₀,h0,hc⟩
  refine A0.less (A0.wp κ (step a rest' s i)) fun y n e=>?_
  by_cases hy:y=x
  · clear hx step;subst hy;rw [lookup_cons_self] at e ⊢;exact e
  · rw [c5 _ _ hy] at e ⊢;exact c.le e
theorem I6.wp{α:Type}{it:Expr}{enc:α→PV}{l:List α}(h:(run κ (fun O=>True) (isSeq (l.map enc)) 3000 (.e ρ it .ret)).den):I6 F ρ it fun k=>k=l.map enc:=I6.seq (Ev.mono (Ev.wp κ h) fun d hd=>⟨_,G0.inv hd,rfl⟩)
theorem I6.mono{it:Expr}{P P':List PV→Prop}(h:I6 F ρ it P)(k:∀l,P l→P' l):I6 F ρ it P':=fun X s i Q E q=>h X s i Q E fun a b c d e f p=>q a b c d e f (k _ p)
theorem Ev.b9n{P:PV→Prop}{α:Type}{x:Str}{elt it:Expr}{sc:Scope}{pos xp:Pos}(ρc:b9)(c:c6 F sc ρ ρc)(enc:α→PV)(l:List α)(f:α→PV)(hi:I6 F ρ it fun k=>k=l.map enc)(hz:l.length≤sizeLine)
    (step:∀d:m5 F sc,∀a∈l,(run (κ.comp d) (fun O=>True) (fun r=>r=f a) 3000 (.e ((x,.val (enc a))::ρc) elt .ret)).den) (h:P (.lst (l.map f))) (hx:sc.names.lookup x=some .local:=by rfl)
    (hcell:∀y∈sc.names,y.2≠ .cell:=by decide) (hkind:sc.kind= .function:=by rfl) (hnames:∀y∈sc.names,y.2= .local→sc.names.lookup y.1=some .local:=by decide) (hs:∀x,foldedSetIterable it F.env x=pure x:=by intro _;rfl):Ev F ρ (.ListComp elt [⟨.Name x xp,it,[],0⟩] sc pos) P:=by
  refine Ev.M8 (F0.comp c (I6.mono hi fun k e=>⟨by refine b8 (e ..) (b8 (List.length_map ..) ?_);exact hz,fun d=>?_⟩) hx hcell hkind hnames hs)
  subst e
  refine Co.list enc (fun a=>some (f a)) l [] (fun a ha K K' hK=>A9.nil (Br.t rfl (Ev.mono (Ev.wp (κ.comp d) (step d a ha)) fun r (e:r=f a)=>e▸hK))) ?_
  refine b8 (List.nil_append ..) (b8 (List.filterMap_eq_map' ..) ?_)
  exact h
theorem Ev.c0u{P:PV→Prop}{α:Type}{x:Str}{elt it t:Expr}{sc:Scope}{pos xp:Pos}(ρc:b9)(c:c6 F sc ρ ρc)(enc:α→PV)(l:List α)(g:α→Option PV)(hi:I6 F ρ it fun k=>k=l.map enc)(hz:l.length≤sizeLine)
    (step:∀d:m5 F sc,∀a∈l,(run (κ.comp d) (fun O=>True) (fun O=>True) 3000 (.t ((x,.val (enc a))::ρc) t (c3s (run (κ.comp d) (fun O=>True) (fun r=>g a=some r) 3000 (.e ((x,.val (enc a))::ρc) elt .ret)) (.go (g a=none))))).den) (h:P (.lst (l.filterMap g))) (hx:sc.names.lookup x=some .local:=by rfl)
    (hcell:∀y∈sc.names,y.2≠ .cell:=by decide) (hkind:sc.kind= .function:=by rfl) (hnames:∀y∈sc.names,y.2= .local→sc.names.lookup y.1=some .local:=by decide) (hs:∀x,foldedSetIterable it F.env x=pure x:=by intro _;rfl):Ev F ρ (.ListComp elt [⟨.Name x xp,it,[t],0⟩] sc pos) P:=by
  refine Ev.M8 (F0.comp c (I6.mono hi fun k e=>⟨by refine b8 (e ..) (b8 (List.length_map ..) ?_);exact hz,fun d=>?_⟩) hx hcell hkind hnames hs)
  subst e
  refine Co.list enc g l [] (fun a ha K K' hK=>A9.one (Tr.a5t (a7o (κ.comp d) _ _ 3000 _ (step d a ha):Tr _ _ _ _) fun b hb=>D7.br (L8.of (bS.to hb fun O h=>h)) (fun q=>Ev.mono (Ev.wp (κ.comp d) q) fun r (e:g a=some r)=>?_) fun (q:g a=none)=>?_)) ?_
  · rw [e] at hK;exact hK
  · rw [q] at hK;exact hK
  · refine b8 (List.nil_append ..) ?_;exact h
theorem Ev.F4{P:PV→Prop}{α:Type}{x:Str}{elt it:Expr}{sc:Scope}{pos xp:Pos}(ρc:b9)(c:c6 F sc ρ ρc)(enc:α→PV)(l:List α)(f:α→PV)(hi:(run κ (fun O=>True) (isSeq (l.map enc)) 3000 (.e ρ it .ret)).den)(hz:l.length≤sizeLine)
    (step:∀d:m5 F sc,∀a∈l,(run (κ.comp d) (fun O=>True) (fun r=>r=f a) 3000 (.e ((x,.val (enc a))::ρc) elt .ret)).den) (h:P (.lst (l.map f))) (hx:sc.names.lookup x=some .local:=by rfl)
    (hcell:∀y∈sc.names,y.2≠ .cell:=by decide) (hkind:sc.kind= .function:=by rfl) (hnames:∀y∈sc.names,y.2= .local→sc.names.lookup y.1=some .local:=by decide) (hs:∀x,foldedSetIterable it F.env x=pure x:=by intro _;rfl):Ev F ρ (.ListComp elt [⟨.Name x xp,it,[],0⟩] sc pos) P:=
  Ev.b9n κ ρc c enc l f (I6.wp κ hi) hz step h hx hcell hkind hnames hs
theorem Ev.c2i{P:PV→Prop}{α:Type}{x:Str}{elt it t:Expr}{sc:Scope}{pos xp:Pos}(ρc:b9)(c:c6 F sc ρ ρc)(enc:α→PV)(l:List α)(g:α→Option PV)(hi:(run κ (fun O=>True) (isSeq (l.map enc)) 3000 (.e ρ it .ret)).den)(hz:l.length≤sizeLine)
    (step:∀d:m5 F sc,∀a∈l,(run (κ.comp d) (fun O=>True) (fun O=>True) 3000 (.t ((x,.val (enc a))::ρc) t (c3s (run (κ.comp d) (fun O=>True) (fun r=>g a=some r) 3000 (.e ((x,.val (enc a))::ρc) elt .ret)) (.go (g a=none))))).den) (h:P (.lst (l.filterMap g))) (hx:sc.names.lookup x=some .local:=by rfl)
    (hcell:∀y∈sc.names,y.2≠ .cell:=by decide) (hkind:sc.kind= .function:=by rfl) (hnames:∀y∈sc.names,y.2= .local→sc.names.lookup y.1=some .local:=by decide) (hs:∀x,foldedSetIterable it F.env x=pure x:=by intro _;rfl):Ev F ρ (.ListComp elt [⟨.Name x xp,it,[t],0⟩] sc pos) P:=
  Ev.c0u κ ρc c enc l g (I6.wp κ hi) hz step h hx hcell hkind hnames hs
end
end
section
variable [HH:u7]
noncomputable def c3q(C:Cx)(k:Nat):List (Str×F8)→Prop
  |[]=>True
  |p::r=>d7 C k p.1 p.2∧c3q C k r
theorem c3q.all{C:Cx}{k:Nat}{F:Fm}(hC:F.C=C)(hk:F.k=k){l:List (Str×F8)}(h:c3q C k l):C9 F l:=by
  subst hC;subst hk
  induction l with
  |nil=>trivial
  |cons p r ih=>exact ⟨h.1,ih h.2⟩
theorem d7.ex{C:Cx}{k:Nat}{g:Str}{st:Stmt}{names:List Str}{T:List PV→(PV→Prop)→Prop}(l:List (Str×F8))(hl:c3q C k l)(fn:∃a,FnAt C g a st)(hp:Plain st names∨a6o st names)(hb:a5s st names=true)(hlen:∀ds P,T ds P→ds.length=names.length)
    (h:∀F:Fm,F.C=C→F.k=k→∀(o:Of F (r7 st)) (hl:C9 F l),∀ds P,T ds P→A0 F (binds names ds) (B4 st) (fun O=>P .none) P):d7 C (k+1) g T:=by
  obtain ⟨a,fn⟩:=fn
  obtain ⟨o,fd,h1,f,e,_⟩:=fn.in_ hp hb
  exact d7.c5s h1 f hlen fun F e1 e2 o O ds P t=>h F e1 e2 (e▸o) (hl.all e1 e2) ds P t
noncomputable def atEnd(P:PV→Prop)(_:b9):Prop:=P .none
theorem d7.wp{C:Cx}{k:Nat}{g:Str}{st:Stmt}{names:List Str}{T:List PV→(PV→Prop)→Prop}(l:List (Str×F8))(hl:c3q C k l)(fn:∃a,FnAt C g a st)(hp:Plain st names)(hb:a5s st names=true)(hlen:∀ds P,T ds P→ds.length=names.length)
    (h:∀F:Fm,F.C=C→F.k=k→∀(o:Of F (r7 st)) (hl:C9 F l),∀ds P,T ds P→(run (o.kx l hl) (atEnd P) P 3000 (.xs (binds names ds) (B4 st) [])).den):d7 C (k+1) g T:=
  d7.ex l hl fn (.inl hp) hb hlen fun F e1 e2 o hl ds P t=>A0.wp (o.kx l hl) (h F e1 e2 o hl ds P t)
theorem d7.wpG{C:Cx}{k:Nat}{g:Str}{st:Stmt}{names:List Str}{T:List PV→(PV→Prop)→Prop}(l:List (Str×F8))(hl:c3q C k l)(gs:List (Str×PV))(hg:a7v C gs)(fn:∃a,FnAt C g a st)(hp:Plain st names)(hb:a5s st names=true)(hlen:∀ds P,T ds P→ds.length=names.length)
    (h:∀F:Fm,F.C=C→F.k=k→∀(o:Of F (r7 st)) (hl:C9 F l) (hg:a7v F.C gs),∀ds P,T ds P→(run ((o.kx l hl).with gs hg) (atEnd P) P 3000 (.xs (binds names ds) (B4 st) [])).den):d7 C (k+1) g T:=
  d7.ex l hl fn (.inl hp) hb hlen fun F e1 e2 o hl ds P t=>A0.wp ((o.kx l hl).with gs (e1▸hg)) (h F e1 e2 o hl (e1▸hg) ds P t)
noncomputable def c7.head:c7→Str
  | .i7 _=>"wild"
  | .cb _=>"const"
  | .ci _=>"const"
  | .rg _ _=>"range"
  | .pr _ _=>"fields"
  | .v0=>"variant"
  | .v1 _=>"variant"
  | .df _=>"deref"
  | .b0 _ _=>"bind"
  | .bp _ _ _=>"bind"
  | .or _ _ _=>"or"
theorem a6s(p:c7):item? p.pv (.int (.ofNat 0))=some (.str p.head):=by cases p <;> rfl
abbrev Row:=List c7
noncomputable def m6(r:Row):PV:= .tup (r.map c7.pv)
noncomputable def A5(rs:List Row):PV:= .lst (rs.map m6)
noncomputable def g8:Row→Bool
  | .i7 _::_=>true
  |_=>false
theorem a4z(p:c7)(tl:Row):(p.head==("wild":Str))=g8 (p::tl):=by cases p <;> rfl
theorem o8{α:Type}(f:α→PV){l:List α}(h:l.length≤4096):(l.map f).length≤sizeLine:=by refine b8 (List.length_map ..) ?_;exact E1 h
theorem H7{F:Fm}{sc:Scope}{ρ:b9}(h:((sc.names.all fun x=>!(x.2== .free))&&decide (sc.names.map (·.1)).Nodup)=true):c6 F sc ρ []:=by
  simp only [Bool.and_eq_true,List.all_eq_true,decide_eq_true_eq,Bool.not_eq_true',beq_eq_false_iff_ne] at h
  exact c6.none h.2 fun x hx=>h.1 x hx
noncomputable def restOf(rows:List Row):List Row:=rows.filterMap fun r=>if g8 r then some r.tail else none
inductive c2l(ds:List PV)(P:PV→Prop):Prop
  |mk (p:c7) (e:ds=[p.pv]) (k:P p.bare.pv)
noncomputable def c6p(ds:List PV)(P:PV→Prop):Prop:=(∃i,ds=[(c7.ci i).pv]∧P (.tup [.int i,.int i]))∨∃lo hi,ds=[(c7.rg lo hi).pv]∧P (.tup [.int lo,.int hi])
inductive F9(ds:List PV)(P:PV→Prop):Prop
  |mk (rows:List Row) (e:ds=[A5 rows]) (h1:rows.length≤4096) (h2:∀r∈rows,r≠[]∧r.length≤4096) (k:P (A5 (restOf rows)))
inductive b7h(ds:List PV)(P:PV→Prop):Prop
  |mk (rows:List Row) (e:ds=[A5 rows]) (h1:rows.length≤4096) (h2:∀r∈rows,r≠[]∧r.length≤4096) (k:P (.bool (rows.all g8)))
inductive G2(ds:List PV)(P:PV→Prop):Prop
  |mk (n:Int) (e:ds=[.int n]) (h1:1≤n) (k:P .none)
theorem b6l{C:Cx}(fn:∃a,FnAt C "bounds_of" a (i9 24))(k:Nat):d7 C (k+1) "bounds_of" c6p:=by
  refine d7.wp (names:=["pattern"]) [] trivial fn (plain1 rfl fun O O O O=>rfl) rfl (fun ds P h=>by rcases h with ⟨i,e,_⟩|⟨i,j,e,_⟩ <;> refine b8 (e ..) ?_ <;> rfl) fun F O O o hl ds P h=>?_
  rcases h with ⟨i,rfl,hP⟩|⟨lo,hi,rfl,hP⟩
  · exact Stop.on rfl hP
  · exact Stop.on rfl hP
theorem c3k{C:Cx}(fn:∃a,FnAt C "want_columns" a (i9 33))(k:Nat):d7 C (k+1) "want_columns" G2:=by
  refine d7.wp (names:=["many"]) [] trivial fn (plain1 rfl fun O O O O=>rfl) rfl (fun ds P h=>by obtain ⟨p,e,_⟩:=h;refine b8 (e ..) ?_;rfl) fun F O O o hl ds P h=>?_
  obtain ⟨n,rfl,hn,hP⟩:=h
  exact Stop.both rfl (fun h=>absurd (of_decide_eq_true h) (Int.not_lt.mpr hn)) fun O=>Stop.on rfl hP
theorem c1d{C:Cx}(fn:∃a,FnAt C "rest_of" a (i9 31))(k:Nat):d7 C (k+1) "rest_of" F9:=by
  refine d7.wp (names:=["rows"]) [] trivial fn (plain1 rfl fun O O O O=>rfl) rfl (fun ds P h=>by obtain ⟨p,e,_⟩:=h;refine b8 (e ..) ?_;rfl) fun F O O o hl ds P h=>?_
  obtain ⟨rows,rfl,hn,hr,hP⟩:=h
  refine Stop.on rfl (Ev.c2i (o.kx [] hl) [] (H7 rfl) m6 rows (fun r=>if g8 r then some (m6 r.tail) else none) (Stop.on rfl rfl) (E1 hn) (fun d r hm=>?_) ?_)
  · obtain ⟨h1,h2⟩:=hr r hm
    clear hm;cases r with
    |nil=>exact absurd rfl h1
    | cons p r=>
      refine Stop.opt rfl (a6s p) (Stop.both rfl (fun h=>?_) fun h=>?_) <;> rw [a4z p r] at h
      · exact Stop.le rfl (o8 _ h2) (Stop.le rfl (o8 _ (Nat.le_of_succ_le h2)) (Stop.on rfl (if_pos h)))
      · exact Stop.on rfl (if_neg (Bool.not_eq_true _▸h))
  · have:rows.filterMap (fun r=>if g8 r then some (m6 r.tail) else none)=(restOf rows).map m6:=by
      unfold restOf;refine b8 (List.map_filterMap ..) ?_;congr 1;funext r;split <;> rfl
    refine b8 (this ..) ?_;exact Stop.on rfl hP
theorem a8i(p:c7):E8 .Is p.pv .none=some false:=by cases p <;> rfl
set_option tactic.hygienic true in
theorem c3d{C:Cx}(fn:∃a,FnAt C "bare" a (i9 22))(k:Nat):d7 C (k+1) "bare" c2l:=by
  refine d7.wp (names:=["pattern"]) [] trivial fn (plain1 rfl fun O O O O=>rfl) rfl (fun ds P h=>by obtain ⟨p,e,_⟩:=h;refine b8 (e ..) ?_;rfl) fun F O O o hl ds P h=>?_
  obtain ⟨p,rfl,hP⟩:=h
  obtain ⟨n,hn⟩:∃n,sizeOf p<n:=⟨_,Nat.lt_succ_self _⟩
  refine Stop.on rfl (A0.a7x (o.kx [] hl) (fun p:c7=>[("pattern",.val p.pv)]) (fun n q=>sizeOf q<n∧P q.bare.pv) n p ⟨hn,hP⟩ rfl fun n q h=>?_)
  obtain ⟨hn,hq⟩:=h
  cases n with
  |zero=>exact absurd hn (Nat.not_lt_zero _)
  |succ n=>
  refine ⟨n,rfl,?_⟩
  cases q
  case bp t m q=>exact Stop.opt rfl (a8i q) (Stop.on rfl ⟨q,⟨by simp at hn;lia,hq⟩,rfl⟩)
  all_goals exact Stop.on rfl hq
inductive j7 where
  |rg (lo hi:Int)
  |cb (b:Bool)
  |va (i:Int)
  |fields
  |A7
  |other
noncomputable def j7.pv:j7→PV
  | .rg lo hi=> .tup [.str "range",.int lo,.int hi]
  | .cb b=> .tup [.str "bool",.bool b]
  | .va i=> .tup [.str "variant",.int i]
  | .fields=> .tup [.str "fields"]
  | .A7=> .tup [.str "deref"]
  | .other=> .tup [.str "other"]
inductive Taken:c7→j7→Nat→Option Row→Prop
  |i7 (t:Ty) (c:j7) (n:Nat):Taken (.i7 t) c n (some (List.replicate n (.i7 t)))
  |ci (i lo hi:Int) (n:Nat):Taken (.ci i) (.rg lo hi) n (if i≤lo∧hi≤i then some [] else none)
  |rg (a b lo hi:Int) (n:Nat):Taken (.rg a b) (.rg lo hi) n (if a≤lo∧hi≤b then some [] else none)
  |cb (b c:Bool) (n:Nat):Taken (.cb b) (.cb c) n (if b=c then some [] else none)
  |v0 (i:Int) (n:Nat):Taken .v0 (.va i) n (if i=0 then some [] else none)
  |v1 (p:c7) (i:Int) (n:Nat):Taken (.v1 p) (.va i) n (if i=1 then some [p] else none)
  |pr (p q:c7) (n:Nat):Taken (.pr p q) .fields n (some [p,q])
  |df (p:c7) (n:Nat):Taken (.df p) .A7 n (some [p])
noncomputable def c5d:(p:c7)→(c:j7)→(n:Nat)→Option {r:Option Row//Taken p c n r}
  | .i7 t,c,n=>some ⟨_,.i7 t c n⟩
  | .ci i,.rg lo hi,n=>some ⟨_,.ci i lo hi n⟩
  | .rg a b,.rg lo hi,n=>some ⟨_,.rg a b lo hi n⟩
  | .cb b,.cb c,n=>some ⟨_,.cb b c n⟩
  | .v0,.va i,n=>some ⟨_,.v0 i n⟩
  | .v1 p,.va i,n=>some ⟨_,.v1 p i n⟩
  | .pr p q,.fields,n=>some ⟨_,.pr p q n⟩
  | .df p,.A7,n=>some ⟨_,.df p n⟩
  |_,_,_=>none
noncomputable def C2 (p:c7)(c:j7)(n:Nat):Option (Option Row):=(c5d p c n).map (·.1)
theorem a8d{p:c7}{c:j7}{n:Nat}{r:Option Row}(h:C2 p c n=some r):Taken p c n r:=by
  obtain ⟨x,_,e⟩:=Option.map_eq_some_iff.mp h
  exact e▸x.2
noncomputable def a2y:Option Row→PV
  |none=> .none
  |some r=>m6 r
theorem a2y.ite{c:Prop}[Decidable c]{r:Row}{P:PV→Prop}(h:P (a2y (if c then some r else none))):(c→P (m6 r))∧(¬c→P .none):=
  ⟨fun x=>by rw [if_pos x] at h;exact h,fun x=>by rw [if_neg x] at h;exact h⟩
inductive b6w(ds:List PV)(P:PV→Prop):Prop
  |mk (p:c7) (c:j7) (n:Nat) (r:Option Row) (e:ds=[p.pv,c.pv,.int n]) (h1:n≤4096) (h2:C2 p c n=some r) (k:P (a2y r))
theorem b7f{C:Cx}(fn:∃a,FnAt C "taken" a (i9 29))(k:Nat)(hB:d7 C k "bounds_of" c6p):d7 C (k+1) "taken" b6w:=by
  refine d7.wp (names:=["pattern","constructor","many"]) [("bounds_of",c6p)] ⟨hB,trivial⟩ fn (a2l rfl fun O O O O O O=>rfl) rfl (fun ds P h=>by obtain ⟨p,_,_,_,e,_⟩:=h;refine b8 (e ..) ?_;rfl) fun F O O o hl ds P h=>?_
  obtain ⟨p,c,n,r,rfl,hn,hr,hP⟩:=h
  have k:=a8d hr
  clear hr;revert hn hP;cases k with
  |i7 t=>intro hn hP;exact Stop.on rfl ⟨_,I5.d0a _ _ (Int.natCast_nonneg n) (by lia),Stop.le rfl (by refine b8 (List.length_replicate ..) ?_;exact E1 hn) (Stop.on rfl (by refine b8 (Int.toNat_natCast ..) (C5 (List.map_replicate (f:=c7.pv) ..) ?_);exact hP))⟩
  | ci i lo hi=>
    intro hn hP
    obtain ⟨h1,h2⟩:=a2y.ite hP
    exact Stop.on rfl (.inl ⟨i,rfl,Stop.both rfl (fun h=>Stop.both rfl (fun h'=>Stop.on rfl (h1 ⟨of_decide_eq_true h,of_decide_eq_true h'⟩)) fun h'=>Stop.on rfl (h2 fun z=>of_decide_eq_false h' z.2)) fun h=>Stop.on rfl (h2 fun z=>of_decide_eq_false h z.1)⟩)
  | rg a b lo hi=>
    intro hn hP
    obtain ⟨h1,h2⟩:=a2y.ite hP
    exact Stop.on rfl (.inr ⟨a,b,rfl,Stop.both rfl (fun h=>Stop.both rfl (fun h'=>Stop.on rfl (h1 ⟨of_decide_eq_true h,of_decide_eq_true h'⟩)) fun h'=>Stop.on rfl (h2 fun z=>of_decide_eq_false h' z.2)) fun h=>Stop.on rfl (h2 fun z=>of_decide_eq_false h z.1)⟩)
  | cb b c=>
    intro hn hP
    obtain ⟨h1,h2⟩:=a2y.ite hP
    cases b <;> cases c <;> first|exact Stop.on rfl (h1 rfl)|exact Stop.on rfl (h2 nofun)
  | v0 i=>
    intro hn hP
    obtain ⟨h1,h2⟩:=a2y.ite hP
    exact Stop.both rfl (fun h=>Stop.on rfl (h1 (eq_of_beq h).symm)) fun h=>Stop.on rfl (h2 fun z=>by subst z;cases h)
  | v1 p i=>
    intro hn hP
    obtain ⟨h1,h2⟩:=a2y.ite hP
    exact Stop.both rfl (fun h=>Stop.on rfl (h1 (eq_of_beq h).symm)) fun h=>Stop.on rfl (h2 fun z=>by subst z;cases h)
  |pr p q=>intro hn hP;exact Stop.on rfl hP
  |df p=>intro hn hP;exact Stop.on rfl hP
noncomputable def narrow(rows:List Row)(c:j7)(n:Nat):List Row:=rows.filterMap fun row=>match row with
  | p::rest=>match C2 p c n with
    |some (some r)=>some (r++rest)
    |_=>none
  |[]=>none
theorem a0t{p:c7}{tl:Row}{rows:List Row}{c:j7}{n:Nat}(e:C2 p c n=some none):narrow ((p::tl)::rows) c n=narrow rows c n:=by
  unfold narrow;refine b8 (List.filterMap_cons ..) ?_;simp only [e]
theorem a0r{p:c7}{tl l:Row}{rows:List Row}{c:j7}{n:Nat}(e:C2 p c n=some (some l)):narrow ((p::tl)::rows) c n=(l++tl)::narrow rows c n:=by
  unfold narrow;refine b8 (List.filterMap_cons ..) ?_;simp only [e]
noncomputable def Cov(c:j7)(n:Nat)(row:Row):Prop:=∃p rest r,row=p::rest∧rest.length≤1000∧C2 p c n=some r
theorem b1b{c:Prop}[Decidable c]{α:Type}{a r:α}(h:(if c then some a else none)=some r):c∧r=a:=by
  by_cases x:c
  · rw [if_pos x] at h;exact ⟨x,(Option.some.inj h).symm⟩
  · rw [if_neg x] at h;exact nomatch h
theorem b4s{p:c7}{c:j7}{n:Nat}{r:Option Row}(h:C2 p c n=some r)(r':Row)(e:r=some r'):r'.length≤n+2:=by
  have k:∀ {l:Row},r'=l→l.length≤n+2→r'.length≤n+2:=fun e h=>e▸h
  have z:([]:Row).length≤n+2:=Nat.zero_le _
  cases a8d h with
  |i7=>exact k (Option.some.inj e).symm (by refine b8 (List.length_replicate ..) ?_;exact Nat.le_add_right _ _)
  |pr=>exact k (Option.some.inj e).symm (Nat.le_add_left 2 n)
  |df=>exact k (Option.some.inj e).symm (Nat.le_add_left 1 (n+1))
  |v1=>exact k (b1b e).2 (Nat.le_add_left 1 (n+1))
  |_=>exact k (b1b e).2 z
theorem optNone:∀r:Option Row,E8 .IsNot (a2y r) .none=some r.isSome
  |none=>rfl
  |some _=>rfl
inductive B9(ds:List PV)(P:PV→Prop):Prop
  |mk (rows:List Row) (c:j7) (n:Nat) (e:ds=[A5 rows,c.pv,.int n]) (h1:rows.length≤1000) (h2:n≤1000) (h3:∀row∈rows,Cov c n row) (k:P (A5 (narrow rows c n)))
theorem b3i{a:Nat}{p:c7}{tl:Row}(h:a+tl.length≤4096):a+(List.drop (0+1) ((p::tl).map c7.pv)).length≤sizeLine:=by
  show a+(tl.map c7.pv).length≤_
  refine b8 (List.length_map ..) ?_;exact E1 h
theorem b4u(a b:Row):PV.tup (a.map c7.pv++b.map c7.pv)=m6 (a++b):=by rw [m6,List.map_append]
theorem a7z(a:List Row)(b:Row):(a.map m6++[m6 b]:List PV)=(a++[b]).map m6:=by refine b8 (List.map_append ..) ?_;rfl
theorem a9h{C:Cx}(fn:∃a,FnAt C "narrowed" a (i9 30))(k:Nat)(hB:d7 C k "taken" b6w):d7 C (k+1) "narrowed" B9:=by
  refine d7.wp (names:=["rows","constructor","many"]) [("taken",b6w)] ⟨hB,trivial⟩ fn (a2l rfl fun O O O O O O=>rfl) rfl (fun ds P h=>by obtain ⟨p,_,_,e,_⟩:=h;refine b8 (e ..) ?_;rfl) fun F O O o hl ds P h=>?_
  obtain ⟨rows,c,n,rfl,hn,hn',hr,hP⟩:=h
  refine Stop.on rfl (A0.b9k (o.kx _ hl) m6 (fun out:List Row=>[("found",.own (.lst (out.map m6))),("constructor",.val c.pv),("many",.val (.int n))])
    (fun rest out=>out++narrow rest c n=narrow rows c n∧(∀row∈rest,Cov c n row)∧out.length+rest.length≤1000) rows [] ⟨rfl,hr,by simpa using hn⟩ rfl rfl (Stop.on rfl rfl) (fun row rest out h=>?_) fun out h=>?_)
  · obtain ⟨h1,h2,h3⟩:=h
    obtain ⟨p,tl,r,rfl,hl,ht⟩:=h2 row List.mem_cons_self
    have h2':∀row∈rest,Cov c n row:=fun row h=>h2 row (List.mem_cons_of_mem _ h)
    refine Stop.on rfl ⟨p,c,n,r,rfl,Nat.le_trans hn' (by decide),ht,Stop.opt rfl (optNone r) ?_⟩
    have h4:narrow ((p::tl)::rest) c n=match r with|some r=>(r++tl)::narrow rest c n|none=>narrow rest c n:=by
      cases r with
      |none=>exact a0t ht
      |some l=>exact a0r ht
    rw [h4] at h1
    rw [List.length_cons] at h3
    clear h4;cases r with
    |none=>exact Stop.on rfl ⟨out,⟨h1,h2',by exact Nat.le_of_lt (by assumption)⟩,rfl⟩
    | some r=>
      have hlen:=b4s ht r rfl
      refine Stop.le rfl (o8 _ (by lia)) (Stop.le rfl (o8 _ (show (p::tl).length≤_ by refine b8 (List.length_cons ..) ?_;exact Nat.lt_of_le_of_lt (by assumption) (Nat.le_of_ble_eq_true rfl))) (Stop.le rfl (o8 _ (by exact Nat.le_trans (by assumption) (Nat.le_of_ble_eq_true rfl))) (Stop.le rfl (b3i (by refine b8 (List.length_map ..) ?_;lia)) ?_)))
      exact Stop.on rfl ⟨out++[r++tl],⟨by refine b8 (List.append_assoc ..) ?_;exact h1,h2',by refine b8 (List.length_append ..) ?_;simp;lia⟩,by dsimp only;refine C5 (a7z ..) (C5 (b4u ..) ?_);rfl⟩
  · obtain ⟨h1,_,_⟩:=h
    have e:narrow rows c n=out:=by refine C5 (h1 ..) ?_;exact List.append_nil _
    rw [e] at hP
    exact Stop.on rfl hP
noncomputable def c7.A6:c7→List c7
  | .b0 t _=>[.i7 t]
  | .bp _ _ p=>p.A6
  | .or _ p q=>p.A6++q.A6
  | .i7 t=>[.i7 t]
  | .cb b=>[.cb b]
  | .ci i=>[.ci i]
  | .rg lo hi=>[.rg lo hi]
  | .pr p q=>[.pr p q]
  | .v0=>[.v0]
  | .v1 p=>[.v1 p]
  | .df p=>[.df p]
noncomputable def openRow:Row→List Row
  |p::rest=>p.A6.map (· ::rest)
  |[]=>[]
noncomputable def opened(rows:List Row):List Row:=rows.flatMap openRow
theorem b3c(p:c7):(∃t a b,p.bare= .or t a b∧p.A6=a.A6++b.A6)∨(p.bare.head==("or":Str))=false∧p.A6=[p.bare]:=by
  induction p with
  |bp t n p ih=>exact ih
  |or t a b _ _=>exact .inl ⟨t,a,b,rfl,rfl⟩
  |_=>exact .inr ⟨rfl,rfl⟩
theorem b5k(p:c7):sizeOf p.bare≤sizeOf p:=by
  induction p with
  |bp t n p ih=>exact Nat.le_trans ih (by exact Nat.le_add_left _ _)
  |b0 t n=>exact Nat.le_add_right _ _
  |_=>exact Nat.le_refl _
theorem a9c(p:c7):1≤p.A6.length:=by
  induction p with
  |bp t n p ih=>exact ih
  |or t a b ih _=>show 1≤(a.A6++b.A6).length;refine b8 (List.length_append ..) ?_;lia
  |_=>exact Nat.le_refl _
theorem a4m(p:c7)(tl:Row)(rows:List Row):(opened ((p::tl)::rows)).length=p.A6.length+(opened rows).length:=by
  rw [opened,List.flatMap_cons,List.length_append,openRow,List.length_map];rfl
theorem a3h:∀rows:List Row,(∀r∈rows,r≠[])→rows.length≤(opened rows).length
  |[],_=>Nat.le_refl _
  |[]::_,h=>absurd rfl (h _ List.mem_cons_self)
  | (p::tl)::rows,h=>by
    have ih:=a3h rows fun r h'=>h r (List.mem_cons_of_mem _ h')
    have:=a9c p
    refine b8 (a4m ..) (b8 (List.length_cons ..) ?_)
    lia
noncomputable def a1v:Row→Nat
  |p::_=>sizeOf p
  |[]=>0
theorem c3z(p:Row)(todo:List Row):D9 ((p::todo).reverse.map m6)=some (todo.reverse.map m6,m6 p):=by
  refine b8 (List.reverse_cons ..) (b8 (List.map_append ..) ?_)
  exact a2n _ _
theorem c5l(p:Row)(todo:List Row):((p::todo).reverse.map m6).isEmpty=false:=by
  refine b8 (List.reverse_cons ..) (b8 (List.map_append ..) ?_)
  cases todo.reverse <;> rfl
inductive a1h(ds:List PV)(P:PV→Prop):Prop
  |mk (rows:List Row) (e:ds=[A5 rows]) (h1:(opened rows).length≤1000) (h2:∀row∈rows,row≠[]∧row.length≤1000) (k:P (A5 (opened rows)))
theorem b4a{C:Cx}(fn:∃a,FnAt C "opened" a (i9 23))(k:Nat)(hB:d7 C k "bare" c2l):d7 C (k+1) "opened" a1h:=by
  refine d7.wp (names:=["rows"]) [("bare",c2l)] ⟨hB,trivial⟩ fn (plain1 rfl fun O O O O=>rfl) rfl (fun ds P h=>by obtain ⟨p,e,_⟩:=h;refine b8 (e ..) ?_;rfl) fun F O O o hl ds P h=>?_
  obtain ⟨rows,rfl,hn,hr,hP⟩:=h
  have hn':=a3h rows fun r h=>(hr r h).1
  have hz:(rows.map m6).length≤sizeLine:=o8 _ (by lia)
  refine Stop.on rfl (Ex.assign2 (I9.own (F0.display (E7.nil ⟨Nat.zero_le _,I9.own (F0.slice (F7.of (Ev.wp (o.kx _ hl) (Stop.le rfl hz (Stop.on rfl (v8.none (v8.none (v8.some (Ev.minusOne ⟨_,rfl,_,_,rfl,hz,rfl,fun O=>rfl,fun O=>rfl,?_⟩)))))))) ⟨_,fun O O=>rfl⟩)⟩))) (o.loc rfl) (o.loc rfl) (by decide) (hw:= .inl (a1x (o.kind rfl) (o.kind rfl) (by decide) rfl rfl rfl rfl)))
  refine C5 (List.map_reverse ..) ?_
  obtain ⟨n,hm⟩:∃n,(rows.map a1v).sum<n:=⟨_,Nat.lt_succ_self _⟩
  refine Stop.on rfl (A0.a7x (o.kx _ hl) (fun s:List Row×List Row=>[("left",.own (.lst (s.2.reverse.map m6))),("found",.own (.lst (s.1.map m6)))])
    (fun n s=>s.1++opened s.2=opened rows∧(∀row∈s.2,row≠[]∧row.length≤1000)∧(s.2.map a1v).sum<n) n ([],rows) ⟨rfl,hr,hm⟩ rfl fun n s h=>?_)
  obtain ⟨out,todo⟩:=s
  obtain ⟨h1,h2,h3⟩:=h
  cases n with
  |zero=>exact absurd h3 (Nat.not_lt_zero _)
  |succ n=>
  refine ⟨n,rfl,?_⟩
  cases todo with
  | nil=>
    have e:opened rows=out:=by refine C5 (h1 ..) ?_;exact List.append_nil _
    rw [e] at hP
    exact Stop.on rfl hP
  |cons row todo=>
  cases row with
  |nil=>exact absurd rfl (h2 _ List.mem_cons_self).1
  |cons p tl=>
  have hw:=(h2 _ List.mem_cons_self).2
  have h2':∀row∈todo,row≠[]∧row.length≤1000:=fun r h=>h2 r (List.mem_cons_of_mem _ h)
  have hlen:=a3h todo fun r h=>(h2' r h).1
  have hout:out.length+(p.A6.length+(opened todo).length)≤1000:=by refine C5 (a4m p tl ..) (C5 (List.length_append ..) (b8 (h1 ..) ?_));exact hn
  rw [List.length_cons] at hw
  have hsz:=b5k p
  have hsum:sizeOf p+(todo.map a1v).sum<n+1:=by simpa [a1v] using h3
  have hpos:=a9c p
  have ht:(todo.reverse.map m6).length+1≤sizeLine:=by refine b8 (List.length_map ..) (b8 (List.length_reverse ..) ?_);exact E1 (by lia)
  refine Stop.both rfl (fun O=>?_) fun h=>absurd h (by refine b8 (c5l ..) ?_;nofun)
  refine Stop.opt rfl (c3z _ _) (Stop.le rfl ht (Stop.on rfl ⟨p,rfl,?_⟩))
  clear h2 h3;rcases b3c p with ⟨t,a,b,e1,e2⟩|⟨e1,e2⟩
  · rw [e1] at hsz ⊢
    refine Stop.on rfl (Ev.F4 (o.kx _ hl) [("row",.val (m6 (p::tl)))] (c6.of ["row"] ⟨⟨rfl,rfl,rfl,o.cap rfl⟩,trivial⟩ (by decide) (by decide)) c7.pv [b,a] (fun q=>m6 (q::tl)) (Stop.on rfl rfl) (E1 (Nat.le_of_ble_eq_true rfl)) (fun d q hq=>?_)
      (Stop.le rfl (by refine b8 (List.length_map ..) (b8 (List.length_map ..) (b8 (List.length_reverse ..) ?_));exact E1 (by show _+2≤_;lia)) (Stop.on rfl ⟨(out,(a::tl)::(b::tl)::todo),⟨?_,fun r hr=>?_,?_⟩,J2.cons ?_ rfl⟩)))
    · exact Stop.le rfl (o8 _ (show (p::tl).length≤_ by refine b8 (List.length_cons ..) ?_;exact Nat.le_trans (by assumption) (Nat.le_of_ble_eq_true rfl))) (Stop.le rfl (o8 _ (by lia)) (Stop.le rfl (b3i (by show 1+_≤_;lia)) (Stop.on rfl rfl)))
    · refine C5 (h1 ..) ?_;simp [opened,openRow,e2]
    · rcases List.mem_cons.mp hr with e|hr
      · clear hr;subst e;exact ⟨nofun,by refine b8 (List.length_cons ..) ?_;assumption⟩
      · rcases List.mem_cons.mp hr with e|hr
        · clear hr;subst e;exact ⟨nofun,by refine b8 (List.length_cons ..) ?_;assumption⟩
        · exact h2' r hr
    · simp [a1v] at hsz ⊢;lia
    · show some (Ent.own (.lst _))=_
      simp
  · refine Stop.opt rfl (a6s _) (Stop.both rfl (fun h=>absurd (e1.symm.trans h) nofun) fun O=>?_)
    have ho:out.length≤4096:=by lia
    refine Stop.le rfl (o8 _ ho) (Stop.le rfl (o8 _ (show (p::tl).length≤_ by refine b8 (List.length_cons ..) ?_;exact Nat.le_trans (by assumption) (Nat.le_of_ble_eq_true rfl))) (Stop.le rfl (o8 _ (show tl.length≤_ by lia)) (Stop.le rfl (b3i (by show 1+_≤_;lia)) (Stop.on rfl ⟨(out++[p.bare::tl],todo),⟨?_,h2',?_⟩,J2.cons rfl (J2.cons ?_ rfl)⟩))))
    · refine C5 (h1 ..) ?_;simp [opened,openRow,e2]
    · have:1≤sizeOf p:=by cases p <;> simp <;> lia
      show (todo.map a1v).sum<n
      lia
    · exact congrArg (fun l=>some (Ent.own (PV.lst l))) (a7z out (p.bare::tl))
inductive a1e:Ty→j7→List c7→c7→Prop
  |v0:a1e .enum (.va 0) [] .v0
  |v1 (p:c7):a1e .enum (.va 1) [p] (.v1 p)
  |pr (p q:c7):a1e .pair .fields [p,q] (.pr p q)
  |df (p:c7):a1e .led .A7 [p] (.df p)
  |cb (b:Bool):a1e .bool (.cb b) [] (.cb b)
  |i7 (t:Ty):a1e t .other [] (.i7 t)
  |rg (lo hi:Int):a1e .byte (.rg lo hi) [] (if lo=hi then .ci lo else .rg lo hi)
noncomputable def b7m:(t:Ty)→(c:j7)→(l:List c7)→Option {r:c7//a1e t c l r}
  | .enum,.va i,[]=>if h:i=0 then some ⟨.v0,h▸ .v0⟩ else none
  | .enum,.va i,[p]=>if h:i=1 then some ⟨.v1 p,h▸ .v1 p⟩ else none
  | .pair,.fields,[p,q]=>some ⟨_,.pr p q⟩
  | .led,.A7,[p]=>some ⟨_,.df p⟩
  | .bool,.cb b,[]=>some ⟨_,.cb b⟩
  |t,.other,[]=>some ⟨_,.i7 t⟩
  | .byte,.rg lo hi,[]=>some ⟨_,.rg lo hi⟩
  |_,_,_=>none
noncomputable def a1n (t:Ty)(c:j7)(l:List c7):Option c7:=(b7m t c l).map (·.1)
theorem a4l{t:Ty}{c:j7}{l:List c7}{r:c7}(h:a1n t c l=some r):a1e t c l r:=by
  obtain ⟨x,_,e⟩:=Option.map_eq_some_iff.mp h
  exact e▸x.2
inductive a2z(ds:List PV)(P:PV→Prop):Prop
  |mk (t:Ty) (c:j7) (ps:List c7) (r:c7) (e:ds=[t.pv,c.pv,.lst (ps.map c7.pv)]) (h1:a1n t c ps=some r) (k:P r.pv)
theorem b3e{C:Cx}(fn:∃a,FnAt C "rebuilt_usefulness" a (i9 36))(k:Nat):d7 C (k+1) "rebuilt_usefulness" a2z:=by
  refine d7.wp (names:=["t","constructor","parts"]) [] trivial fn (a2l rfl fun O O O O O O=>rfl) rfl (fun ds P h=>by obtain ⟨p,_,_,_,e,_⟩:=h;refine b8 (e ..) ?_;rfl) fun F O O o hl ds P h=>?_
  obtain ⟨t,c,ps,r,rfl,hr,hP⟩:=h
  have k:=a4l hr
  clear hr;revert hP;cases k with
  | rg lo hi=>
    intro hP
    refine Stop.both rfl (fun h=>?_) fun h=>?_
    · rw [if_pos (eq_of_beq h)] at hP;exact Stop.on rfl hP
    · rw [if_neg (fun z=>by clear hP;subst z;simp at h)] at hP;exact Stop.on rfl hP
  |_=>intro hP;exact Stop.on rfl hP
noncomputable def A1{α β:Type}(R:α→β→Prop):List α→List β→Prop
  |[],[]=>True
  |a::as,b::bs=>R a b∧A1 R as bs
  |_,_=>False
inductive c4z{α β:Type}(R:α→β→Prop)(as:List α)(P:β→Prop):List β→Prop
  |mk (b:β) (bs:List β) (h:P b) (t:A1 R as bs):c4z R as P (b::bs)
section
variable{α β:Type}{R:α→β→Prop}
theorem A1.inv{a:α}{as:List α} :∀ {l:List β},A1 R (a::as) l→c4z R as (R a) l:=by
  intro LL
  induction LL with
  | nil=>
    rintro h
    exact h.elim
  | cons b bs ih=>
    rintro h
    exact ⟨b,bs,h.1,h.2⟩
theorem A1.nil_inv:∀ {l:List β},A1 R [] l→l=[]:=by
  intro LL
  induction LL with
  | nil=>
    rintro _
    exact rfl
  | cons _ _ ih=>
    rintro h
    exact h.elim
theorem A1.len:∀ {as:List α} {l:List β},A1 R as l→l.length=as.length
  |[],_,h=>congrArg List.length h.nil_inv
  |_::_,_,h=>h.inv.rec fun O O O t=>congrArg Nat.succ t.len
theorem A1.app{as':List α}{l':List β}(k:A1 R as' l'):∀ {as:List α} {l:List β},A1 R as l→A1 R (as++as') (l++l'):=by
  intro LL
  induction LL with
  | nil=>
    rintro _ h
    exact h.nil_inv▸k
  | cons _ _ ih=>
    rintro _ h
    exact h.inv.rec fun O O h t=>⟨h,ih t⟩
theorem A1.split{as':List α} :∀ {as:List α} {l:List β},A1 R (as++as') l→A1 R as (l.take as.length)∧A1 R as' (l.drop as.length):=by
  intro LL
  induction LL with
  | nil=>
    rintro _ h
    exact ⟨trivial,h⟩
  | cons _ _ ih=>
    rintro _ h
    exact h.inv.rec fun O O h t=>⟨⟨h,(ih t).1⟩,(ih t).2⟩
inductive c4m(R:α→β→Prop)(as as':List α):List β→Prop
  |mk (l l':List β) (h:A1 R as l) (h':A1 R as' l'):c4m R as as' (l++l')
theorem A1.c1c{as as':List α}{l:List β}(h:A1 R (as++as') l):c4m R as as' l:=List.take_append_drop as.length l▸⟨_,_,h.split.1,h.split.2⟩
theorem A1.imp{R':α→β→Prop}(k:∀a b,R a b→R' a b):∀ {as:List α} {l:List β},A1 R as l→A1 R' as l:=by
  intro LL
  induction LL with
  | nil=>
    rintro _ h
    exact h.nil_inv▸trivial
  | cons _ _ ih=>
    rintro _ h
    exact h.inv.rec fun O O h t=>⟨k _ _ h,ih t⟩
end
noncomputable def Ea{α:Type}(P:α→Prop):List α→Prop
  |[]=>True
  |a::l=>P a∧Ea P l
theorem Ea.all{α:Type}{P:α→Prop} :∀ {l:List α},Ea P l→∀x∈l,P x:=by
  intro LL1
  induction LL1 with
  | nil=>
    nofun
  | cons _ _ ih=>
    rintro h x m
    exact (List.mem_cons.mp m).elim (fun e=>e▸h.1) (ih h.2 x)
noncomputable def B8:Ty→c7→Prop
  |_,.i7 _=>True
  |_,.b0 _ _=>True
  |t,.bp _ _ p=>B8 t p
  |t,.or _ p q=>B8 t p∧B8 t q
  |t,.cb _=>t= .bool
  |t,.ci i=>t= .byte∧0≤i∧i≤255
  |t,.rg lo hi=>t= .byte∧0≤lo∧lo≤hi∧hi≤255
  |t,.pr p q=>t= .pair∧B8 .bool p∧B8 .bool q
  |t,.v0=>t= .enum
  |t,.v1 p=>t= .enum∧B8 .bool p
  |t,.df p=>t= .led∧B8 .bool p
noncomputable def Pl:Ty→c7→Prop
  |_,.b0 _ _=>False
  |_,.bp _ _ _=>False
  |_,.or _ _ _=>False
  |t,p=>B8 t p
theorem Pl.ty{t:Ty}{p:c7}(h:Pl t p):B8 t p:=by cases p <;> first|exact h|exact h.elim
noncomputable abbrev r9:List Ty→Row→Prop:=A1 B8
noncomputable def D5(t:Ty)(ts:List Ty):Row→Prop
  |p::tl=>Pl t p∧r9 ts tl
  |[]=>False
inductive c5b(t:Ty)(ts:List Ty):Row→Prop
  |mk (p:c7) (tl:Row) (h:Pl t p) (h1:r9 ts tl):c5b t ts (p::tl)
theorem D5.inv{t:Ty}{ts:List Ty} :∀ {r:Row},D5 t ts r→c5b t ts r:=by
  intro LL1
  induction LL1 with
  | nil=>
    nofun
  | cons _ _ ih=>
    rintro h
    exact ⟨_,_,h.1,h.2⟩
theorem D5.row{t:Ty}{ts:List Ty} :∀ {r:Row},D5 t ts r→r9 (t::ts) r:=by
  intro LL1
  induction LL1 with
  | nil=>
    nofun
  | cons _ _ ih=>
    rintro h
    exact ⟨h.1.ty,h.2⟩
noncomputable def v7:c7→Nat
  | .i7 _=>1
  | .cb _=>1
  | .ci _=>1
  | .rg _ _=>1
  | .v0=>1
  | .b0 _ _=>1
  | .bp _ _ p=>v7 p
  | .or _ p q=>v7 p+v7 q
  | .pr p q=>v7 p*v7 q
  | .v1 p=>v7 p
  | .df p=>v7 p
noncomputable def g9:Row→Nat
  |[]=>1
  |p::ps=>v7 p*g9 ps
noncomputable def l6(rows:List Row):Nat:=(rows.map g9).sum
theorem a0c:∀p:c7,1≤v7 p
  | .i7 _| .cb _| .ci _| .rg _ _| .v0| .b0 _ _=>Nat.le_refl _
  | .bp _ _ p=>a0c p
  | .or _ p q=>Nat.le_trans (a0c p) (Nat.le_add_right _ _)
  | .pr p q=>Nat.mul_pos (a0c p) (a0c q)
  | .v1 p=>a0c p
  | .df p=>a0c p
theorem a3e:∀r:Row,1≤g9 r:=by
  intro LL
  induction LL with
  | nil=>
    exact Nat.le_refl _
  | cons p ps ih=>
    exact Nat.mul_pos (a0c p) (ih)
theorem a0g:∀rows:List Row,rows.length≤l6 rows:=by
  intro LL
  induction LL with
  | nil=>
    exact Nat.le_refl _
  | cons r rows ih=>
    exact Nat.le_trans (Nat.le_of_eq (Nat.add_comm _ 1)) (Nat.add_le_add (a3e r) (ih))
theorem a0u:∀p:c7,(p.A6.map v7).sum=v7 p
  | .i7 _| .cb _| .ci _| .rg _ _| .v0| .b0 _ _| .pr _ _| .v1 _| .df _=>rfl
  | .bp _ _ p=>a0u p
  | .or _ p q=>by
    show ((p.A6++q.A6).map v7).sum=_
    refine b8 (List.map_append ..) (b8 (List.sum_append ..) (b8 (a0u p ..) (b8 (a0u q ..) ?_)));rfl
theorem c2h(f:c7→Nat)(k:Nat):∀l:List c7,(l.map fun p=>f p*k).sum=(l.map f).sum*k:=by
  intro LL
  induction LL with
  | nil=>
    exact (Nat.zero_mul k).symm
  | cons p l ih=>
    show f p*k+(l.map fun p=>f p*k).sum=_;refine b8 (ih ..) (C5 (Nat.add_mul ..) ?_);rfl
theorem a0o:∀rows:List Row,(∀r∈rows,r≠[])→l6 (opened rows)=l6 rows
  |[],_=>rfl
  |[]::rows,h=>absurd rfl (h _ List.mem_cons_self)
  | (p::tl)::rows,h=>by
    have ih:((opened rows).map g9).sum=_:=a0o rows fun r h'=>h r (List.mem_cons_of_mem _ h')
    show ((p.A6.map (· ::tl)++opened rows).map g9).sum=v7 p*g9 tl+l6 rows
    refine b8 (List.map_append ..) (b8 (List.sum_append ..) (b8 (ih ..) (b8 (List.map_map ..) (C5 (a0u p ..) (C5 (c2h ..) ?_)))))
    rfl
theorem a4i{t:Ty} :∀p:c7,B8 t p→∀q∈p.A6,Pl t q
  | .i7 _,ht,q,h| .cb _,ht,q,h| .ci _,ht,q,h| .rg _ _,ht,q,h| .v0,ht,q,h| .pr _ _,ht,q,h| .v1 _,ht,q,h| .df _,ht,q,h=>List.mem_singleton.mp h▸ht
  | .b0 _ _,_,q,h=>List.mem_singleton.mp h▸trivial
  | .bp _ _ p,ht,q,h=>a4i p ht q h
  | .or _ a b,ht,q,h=>(List.mem_append.mp h).elim (a4i a ht.1 q) (a4i b ht.2 q)
end
section
variable [HH:u7]
noncomputable def inner(_:Ty):j7→List Ty
  | .fields=>[.bool,.bool]
  | .va i=>if i=1 then [.bool] else []
  | .A7=>[.bool]
  | .cb _=>[]
  | .rg _ _=>[]
  | .other=>[]
noncomputable def J5:Ty→j7→Prop
  |t,.cb _=>t= .bool
  |t,.rg _ _=>t= .byte
  |t,.fields=>t= .pair
  |t,.va i=>t= .enum∧(i=0∨i=1)
  |t,.A7=>t= .led
  |_,.other=>False
theorem J6{t u:Ty}{P:Prop}(h:t=u)(e:decide (t=u)=false):P:=absurd h (of_decide_eq_false e)
inductive PC:c7→j7→Prop
  |i7 (u:Ty) (c:j7):PC (.i7 u) c
  |cb (b c:Bool):PC (.cb b) (.cb c)
  |ci (i lo hi:Int):PC (.ci i) (.rg lo hi)
  |rg (a b lo hi:Int):PC (.rg a b) (.rg lo hi)
  |pr (p q:c7):PC (.pr p q) .fields
  |v00:PC .v0 (.va 0)
  |v01:PC .v0 (.va 1)
  |v10 (p:c7):PC (.v1 p) (.va 0)
  |v11 (p:c7):PC (.v1 p) (.va 1)
  |df (p:c7):PC (.df p) .A7
inductive c3m:Ty→j7→Prop
  |cb (b:Bool):c3m .bool (.cb b)
  |rg (lo hi:Int):c3m .byte (.rg lo hi)
  |fields:c3m .pair .fields
  |M6:c3m .enum (.va 0)
  |M4:c3m .enum (.va 1)
  |A7:c3m .led .A7
theorem J5.inv{t:Ty}{c:j7}(h:J5 t c):c3m t c:=by
  cases c
  case cb=>exact h▸ .cb _
  case rg=>exact h▸ .rg _ _
  case fields=>exact h▸ .fields
  case va=>exact h.1▸h.2.elim (fun z=>z▸ .M6) fun z=>z▸ .M4
  case A7=>exact h▸ .A7
  case other=>exact h.elim
theorem c6r{t:Ty}{p:c7}{c:j7}(h:Pl t p)(hc:J5 t c):PC p c:=by
  cases hc.inv <;> cases p
  case' cb.cb=>exact .cb _ _
  case' rg.ci=>exact .ci _ _ _
  case' rg.rg=>exact .rg _ _ _ _
  case' fields.pr=>exact .pr _ _
  case' M6.v0=>exact .v00
  case' M4.v0=>exact .v01
  case' M6.v1=>exact .v10 _
  case' M4.v1=>exact .v11 _
  case' A7.df=>exact .df _
  all_goals first|exact .i7 _ _|exact h.elim|exact J6 h rfl|exact J6 h.1 rfl
inductive b6y(t:Ty)(c:j7)(p:c7):Prop
  |none (e:C2 p c (inner t c).length=some none)
  |some (l:Row) (e:C2 p c (inner t c).length=some (some l)) (h:r9 (inner t c) l) (h1:g9 l≤v7 p)
theorem a5n(t:Ty):∀n,g9 (List.replicate n (.i7 t))=1:=by
  intro LL1
  induction LL1 with
  | zero=>
    exact rfl
  | succ n ih=>
    exact (Nat.one_mul _).trans (ih)
theorem b2f(t:Ty):∀ts:List Ty,r9 ts (List.replicate ts.length (.i7 t)):=by
  intro LL
  induction LL with
  | nil=>
    exact trivial
  | cons _ ts ih=>
    exact ⟨trivial,ih⟩
theorem a6x{t:Ty}{c:j7}{p:c7}{a:Prop}[Decidable a](e:C2 p c (inner t c).length=some (if a then some [] else none))(i:inner t c=[])(h:v7 p=1):b6y t c p:=by
  by_cases z:a
  · rw [if_pos z] at e;exact .some [] e (i▸trivial) (Nat.le_of_eq h.symm)
  · rw [if_neg z] at e;exact .none e
set_option tactic.hygienic true in
theorem a1l{t:Ty}{c:j7}{p:c7}(hc:J5 t c)(h:Pl t p):b6y t c p:=by
  cases c6r h hc
  case i7 u=>exact .some _ rfl (b2f u _) (Nat.le_of_eq (a5n u _))
  case cb b c=>exact a6x (a:=b=c) rfl rfl rfl
  case ci i lo hi=>exact a6x (a:=i≤lo∧hi≤i) rfl rfl rfl
  case rg a b lo hi=>exact a6x (a:=a≤lo∧hi≤b) rfl rfl rfl
  case pr=>exact .some _ rfl ⟨h.2.1,h.2.2,trivial⟩ (Nat.le_of_eq (congrArg _ (Nat.mul_one _)))
  case v00=>exact .some _ rfl trivial (Nat.le_refl _)
  case v01=>exact .none rfl
  case v10=>exact .none rfl
  case v11=>exact .some _ rfl ⟨h.2,trivial⟩ (Nat.le_of_eq (Nat.mul_one _))
  case df=>exact .some _ rfl ⟨h.2,trivial⟩ (Nat.le_of_eq (Nat.mul_one _))
theorem a7f:∀r q:Row,g9 (r++q)=g9 r*g9 q:=by
  intro LL
  induction LL with
  | nil=>
    rintro q
    exact (Nat.one_mul _).symm
  | cons p r ih=>
    rintro q
    show v7 p*g9 (r++q)=_;refine b8 (ih q ..) (C5 (Nat.mul_assoc ..) ?_);rfl
structure b8b(t:Ty)(ts:List Ty)(c:j7)(rows:List Row):Prop where
  h:∀r∈narrow rows c (inner t c).length,r9 (inner t c++ts) r
  h1:l6 (narrow rows c (inner t c).length)≤l6 rows
theorem a0f{t:Ty}{ts:List Ty}{c:j7}(hc:J5 t c):∀ {rows:List Row},(∀r∈rows,D5 t ts r)→b8b t ts c rows
  |[],_=>⟨nofun,Nat.le_refl _⟩
  | row::rows,h=>by
    obtain ⟨i1,i2⟩:=a0f hc (rows:=rows) fun r h'=>h r (List.mem_cons_of_mem _ h')
    obtain ⟨p,tl,hp,ht⟩:=(h row List.mem_cons_self).inv
    cases a1l hc hp with
    |none e=>exact ⟨fun r m=>i1 r (a0t e▸m),by refine b8 (a0t e ..) ?_;exact Nat.le_trans i2 (Nat.le_add_left _ _)⟩
    | some l e q1 q2=>
      refine ⟨fun r m=>?_,by refine b8 (a0r e ..) ?_;exact Nat.add_le_add (by refine b8 (a7f ..) ?_;exact Nat.mul_le_mul_right _ q2) i2⟩
      rw [a0r e] at m
      rcases List.mem_cons.mp m with rfl|m
      · exact A1.app ht q1
      · exact i1 r m
theorem b6b{t:Ty}{ts:List Ty}{c:j7}(hc:J5 t c)(hts:ts.length≤1000){row:Row}(h:D5 t ts row):Cov c (inner t c).length row:=by
  obtain ⟨p,tl,hp,ht⟩:=h.inv
  have k:tl.length≤1000:=ht.len▸hts
  cases a1l hc hp with
  |none e=>exact ⟨p,tl,_,rfl,k,e⟩
  |some l e=>exact ⟨p,tl,_,rfl,k,e⟩
theorem a0e{t:Ty}{ts:List Ty}{rows:List Row}(h:∀r∈rows,r9 (t::ts) r):∀r∈opened rows,D5 t ts r:=by
  intro r hr
  obtain ⟨row,h1,h2⟩:=List.mem_flatMap.mp hr
  clear hr;obtain ⟨p,tl,hp,ht⟩:=(h row h1).inv
  obtain ⟨q,hq,rfl⟩:=List.mem_map.mp (show r∈p.A6.map (· ::tl) from h2)
  exact ⟨a4i p hp q hq,ht⟩
theorem a7h:∀ {l:List Nat} {n:Nat},n∈l→n≤l.sum:=by
  intro LL1
  induction LL1 with
  | nil=>
    nofun
  | cons a l ih=>
    rintro n h
    exact (List.mem_cons.mp h).elim (fun e=>e▸Nat.le_add_right _ _) fun h=>Nat.le_trans (ih h) (Nat.le_add_left _ _)
theorem b3h{rows:List Row}{r:Row}(h:r∈rows):g9 r≤l6 rows:=a7h (List.mem_map_of_mem h)
theorem a1y{r:Row}{rows:List Row}(h:g8 r=true):restOf (r::rows)=r.tail::restOf rows:=by unfold restOf;rw [List.filterMap_cons,if_pos h]
theorem a7r{r:Row}{rows:List Row}(h:g8 r=false):restOf (r::rows)=restOf rows:=by unfold restOf;rw [List.filterMap_cons,if_neg (by rw [h];nofun)]
structure c5c(ts:List Ty)(rows:List Row):Prop where
  h:∀r∈restOf rows,r9 ts r
  h1:l6 (restOf rows)≤l6 rows
theorem a1c{t:Ty}{ts:List Ty} :∀ {rows:List Row},(∀r∈rows,r9 (t::ts) r)→c5c ts rows
  |[],_=>⟨nofun,Nat.le_refl _⟩
  | row::rows,h=>by
    obtain ⟨i1,i2⟩:=a1c (rows:=rows) fun r h'=>h r (List.mem_cons_of_mem _ h')
    obtain ⟨p,tl,_,ht⟩:=(h row List.mem_cons_self).inv
    clear h;cases hw:g8 (p::tl) with
    |false=>exact ⟨fun r m=>i1 r (a7r hw▸m),by refine b8 (a7r hw ..) ?_;exact Nat.le_trans i2 (Nat.le_add_left _ _)⟩
    | true=>
      refine ⟨fun r m=>?_,by refine b8 (a1y hw ..) ?_;exact Nat.add_le_add (Nat.le_mul_of_pos_left _ (a0c p)) i2⟩
      rw [a1y hw] at m
      rcases List.mem_cons.mp m with rfl|m
      · exact ht
      · exact i1 r m
noncomputable def L7:Ty→Nat
  | .pair=>3
  | .enum=>2
  | .led=>2
  | .bool=>1
  | .byte=>1
  | .none=>1
  | .never=>1
noncomputable def B7(ts:List Ty):Nat:=(ts.map L7).sum
theorem a2g{t:Ty}{c:j7}(h:J5 t c):B7 (inner t c)<L7 t:=by cases h.inv <;> exact Nat.le_of_ble_eq_true rfl
noncomputable def heads(rows:List Row):List c7:=rows.filterMap List.head?
noncomputable def a0x(ct:Ty→List c7→List j7)(rec:List Ty→List Row→Row→Bool)(t:Ty)(ts:List Ty)(rows:List Row)(one:Row):Bool:=
  (ct t (heads rows++heads [one])).any fun c=>match narrow [one] c (inner t c).length with
    |[]=>false
    |r::_=>rec (inner t c++ts) (narrow rows c (inner t c).length) r
noncomputable def z0(ct:Ty→List c7→List j7):Nat→List Ty→List Row→Row→Bool
  |0,_,_,_=>false
  |_+1,[],rows,_=>rows.isEmpty
  | n +1,t::ts,rows,row=>(openRow row).any fun one=>
      if (opened rows++[one]).all g8 then z0 ct n ts (restOf (opened rows)) one.tail else a0x ct (z0 ct n) t ts (opened rows) one
structure WF(ts:List Ty)(rows:List Row)(row:Row):Prop where
  G9:∀r∈rows,r9 ts r
  d0v:r9 ts row
  few:l6 rows+g9 row≤200
  byte:Ty.byte∈ts→l6 rows+g9 row≤30
  cols:B7 ts≤100
theorem a0k:∀ts:List Ty,ts.length≤B7 ts:=by
  intro LL
  induction LL with
  | nil=>
    exact Nat.le_refl _
  | cons t ts ih=>
    have:=ih
    have h:1≤L7 t:=by cases t <;> exact Nat.le_of_ble_eq_true rfl
    simp only [B7,List.map_cons,List.sum_cons,List.length_cons] at *;lia
theorem a0v(ts us:List Ty):B7 (ts++us)=B7 ts+B7 us:=by simp [B7]
theorem a0m(t:Ty)(ts:List Ty):B7 (t::ts)=L7 t+B7 ts:=by rfl
theorem b1l(i:Int){P:List Ty→Prop}(h:P [.bool])(h1:P []):P (if i=1 then [.bool] else []):=by
  by_cases e:i=1
  · refine b8 (if_pos e ..) ?_;exact h
  · refine b8 (if_neg e ..) ?_;exact h1
set_option tactic.hygienic true in
theorem a6a{t:Ty}{c:j7} :¬Ty.byte∈inner t c:=by
  cases c
  case va i=>exact b1l i (P:=fun l=>¬Ty.byte∈l) nofun nofun
  all_goals exact nofun
set_option tactic.hygienic true in
theorem a7w(t:Ty)(c:j7):(inner t c).length≤2:=by
  cases c
  case va i=>exact b1l i (P:=fun l=>l.length≤2) (by decide) (by decide)
  all_goals exact Nat.le_of_ble_eq_true rfl
inductive F1(W:PV)(ct:Ty→List c7→List j7)(ds:List PV)(P:PV→Prop):Prop
  |mk (t:Ty) (hs:List c7) (e:ds=[Ty.pv t,.lst (hs.map c7.pv),W]) (h:∀p∈hs,Pl t p) (h1:t= .byte→hs.length≤30) (h2:hs.length≤1000) (k:P (.lst ((ct t hs).map j7.pv)))
inductive C8(W:PV)(ds:List PV)(P:PV→Prop):Prop
  |mk (t:Ty) (c:j7) (e:ds=[Ty.pv t,j7.pv c,W]) (h:J5 t c) (k:P (.lst ((inner t c).map Ty.pv)))
inductive c4f(W:PV)(ct:Ty→List c7→List j7)(n:Nat)(ds:List PV)(P:PV→Prop):Prop
  |mk (ts:List Ty) (rows:List Row) (row:Row) (many:Int) (e:ds=[A5 rows,m6 row,.lst (ts.map Ty.pv),W,.int many]) (wf:WF ts rows row) (h:B7 ts<n) (h1:(n:Int)≤many+1) (k:P (.bool (z0 ct n ts rows row)))
inductive TBy(W:PV)(ct:Ty→List c7→List j7)(n:Nat)(ds:List PV)(P:PV→Prop):Prop
  | mk (t:Ty) (ts:List Ty) (rows:List Row) (one:Row) (many:Int) (e:ds=[A5 rows,m6 one,.lst ((t::ts).map Ty.pv),W,.int many]) (wf:WF (t::ts) rows one) (h:∀r∈rows,D5 t ts r) (h1:D5 t ts one)
    (h2:L7 t+B7 ts≤n) (h3:(n:Int)≤many+1) (k:P (.bool (a0x ct (z0 ct n) t ts rows one)))
noncomputable def byL(W:PV)(ct:Ty→List c7→List j7)(n:Nat):List (Str×F8):=[("constructors",F1 W ct),("parts_of_usefulness",C8 W),("narrowed",B9),("is_useful",c4f W ct n)]
noncomputable def byV(W:PV)(t:Ty)(ts:List Ty)(rows:List Row)(one:Row)(many:Int):b9:=[("rows",.val (A5 rows)),("row",.val (m6 one)),("types",.val (.lst ((t::ts).map Ty.pv))),("world",.val W),("many",.val (.int many))]
noncomputable def d1q(W:PV)(ct:Ty→List c7→List j7)(n:Nat):List (Str×F8):=[("want_columns",G2),("opened",a1h),("are_wild",b7h),("rest_of",F9),("is_useful",c4f W ct n),("is_useful_by_parts",TBy W ct n)]
noncomputable def d0o(W:PV)(t:Ty)(ts:List Ty)(rows:List Row)(many:Int):b9:=[("rows",.val (A5 rows)),("types",.val (.lst ((t::ts).map Ty.pv))),("world",.val W),("many",.val (.int many))]
theorem d7.wp1{C:Cx}{k:Nat}{g:Str}{st:Stmt}{names:List Str}{T:List PV→(PV→Prop)→Prop}(l:List (Str×F8))(hl:c3q C k l)(fn:∃a,FnAt C g a st)(hp:a6o st names)(hb:a5s st names=true)(hlen:∀ds P,T ds P→ds.length=names.length)
    (h:∀F:Fm,F.C=C→F.k=k→∀(o:Of F (r7 st)) (hl:C9 F l),∀ds P,T ds P→(run (o.kx l hl) (atEnd P) P 3000 (.xs (binds names ds) (B4 st) [])).den):d7 C (k+1) g T:=
  d7.ex l hl fn (.inr hp) hb hlen fun F e1 e2 o hl ds P t=>A0.wp (o.kx l hl) (h F e1 e2 o hl ds P t)
noncomputable def b3r(r:Row):PV:=(r.head?.map c7.pv).getD .none
theorem a4r:∀ {rows:List Row},(∀r∈rows,r≠[])→rows.map b3r=(heads rows).map c7.pv
  |[],_=>rfl
  |[]::_,h=>absurd rfl (h _ List.mem_cons_self)
  |(p::r)::rows,h=>congrArg (p.pv:: ·) (a4r fun r h'=>h r (List.mem_cons_of_mem _ h'))
theorem b0u{t:Ty}{ts:List Ty}{r:Row}(h:r9 (t::ts) r):r≠[]:=fun e=>(e▸h:r9 (t::ts) [])
theorem a1q{t:Ty}{ts:List Ty}{rows:List Row}(h:∀r∈rows,r9 (t::ts) r):∀r∈rows,r≠[]:=fun r m=>b0u (h r m)
theorem a7g(t:Ty):1≤L7 t:=by cases t <;> exact Nat.le_of_ble_eq_true rfl
theorem a4e{t:Ty}{ts:List Ty}{rows:List Row}(h:∀r∈rows,D5 t ts r):∀p∈heads rows,Pl t p:=fun p hp=>by
  obtain ⟨r,hr,e⟩:=List.mem_filterMap.mp hp
  obtain ⟨a,r,h1,_⟩:=(h r hr).inv
  clear hr;cases Option.some.inj e
  exact h1
theorem a7u(rows:List Row):(heads rows).length≤rows.length:=List.length_filterMap_le _ _
theorem a7i{α β:Type}(f:α→PV)(g:β→PV){l:List α}{k:List β}(h:l.length+k.length≤4096):(l.map f).length+(k.map g).length≤sizeLine:=by refine b8 (List.length_map ..) (b8 (List.length_map ..) ?_);exact E1 h
theorem c7f{C:Cx}{W:PV}{ct:Ty→List c7→List j7}(hct:∀t hs,∀c∈ct t hs,J5 t c)(fn:∃a,FnAt C "is_useful_by_parts" a (i9 35))(k n:Nat)
    (hC:d7 C k "constructors" (F1 W ct)) (hP:d7 C k "parts_of_usefulness" (C8 W)) (hN:d7 C k "narrowed" B9) (hU:d7 C k "is_useful" (c4f W ct n)):d7 C (k+1) "is_useful_by_parts" (TBy W ct n):=by
  refine d7.wp (names:=["rows","row","types","world","many"]) (byL W ct n) ⟨hC,hP,hN,hU,trivial⟩ fn (c0g rfl fun O O O O O O O O=>rfl) rfl (fun ds P h=>h.rec fun O O O O O e O O O O O O=>e▸rfl) fun F O O o hl ds P h=>?_
  obtain ⟨t,ts,rows,one,many,rfl,wf,hr,h1,hm,hmany,hPP⟩:=h
  obtain ⟨p,tl,hp,ht⟩:=h1.inv
  have hlen:=a0g rows
  have hfew:=wf.few
  have hne:=a1q wf.G9
  have hcols:=wf.cols
  have hlts:=a0k ts
  rw [a0m] at hcols
  have hhl:=a7u rows
  refine Stop.on rfl (Ev.F4 (o.kx _ hl) [] (H7 rfl) m6 rows b3r (Stop.on rfl rfl) (E1 (by lia)) (fun d r hm=>?_) ?_)
  · cases r with
    |nil=>exact absurd rfl (hne _ hm)
    |cons q r=>exact Stop.on rfl rfl
  refine b8 (a4r hne ..) ?_
  refine Stop.le rfl (a7i (k:=[p]) _ c7.pv (show _+1≤_ by lia)) (Stop.on rfl ?_)
  have hall:=hct t (heads rows++[p])
  have hbp:a0x ct (z0 ct n) t ts rows (p::tl)=(ct t (heads rows++[p])).any fun c=>match narrow [p::tl] c (inner t c).length with
    |[]=>false
    |r::_=>z0 ct n (inner t c++ts) (narrow rows c (inner t c).length) r:=rfl
  rw [hbp] at hPP
  refine A0.b9k (o.kx _ hl) j7.pv (fun _:Unit=>byV W t ts rows (p::tl) many)
    (fun rest O=>(∀c∈rest,J5 t c)∧P (.bool (rest.any fun c=>match narrow [p::tl] c (inner t c).length with
      |[]=>false
      |r::_=>z0 ct n (inner t c++ts) (narrow rows c (inner t c).length) r))) _ () ⟨hall,hPP⟩ rfl rfl
    (Stop.on rfl ⟨t,heads rows++[p],by refine b8 (List.map_append ..) ?_;rfl,fun q hq=>?_,fun e=>?_,?_,Stop.on rfl rfl⟩) (fun c rest O h=>?_) fun O h=>Stop.on rfl h.2
  · rcases List.mem_append.mp hq with hq|hq
    · exact a4e hr q hq
    · exact List.mem_singleton.mp hq▸hp
  · have:=wf.byte (by refine b8 (e ..) ?_;exact List.mem_cons_self)
    have:=a3e (p::tl)
    refine b8 (List.length_append ..) ?_;show _+1≤_;lia
  · refine b8 (List.length_append ..) ?_;show _+1≤_;lia
  obtain ⟨q1,q7⟩:=h
  have hc:=q1 c List.mem_cons_self
  have q1':∀c∈rest,J5 t c:=fun c h=>q1 c (List.mem_cons_of_mem _ h)
  rw [List.any_cons] at q7
  have hin:=a7w t c
  have hz:((inner t c).map Ty.pv).length≤sizeLine:=o8 _ (by exact Nat.le_trans (by assumption) (Nat.le_of_ble_eq_true rfl))
  refine Stop.on rfl ⟨t,c,rfl,hc,Stop.le rfl hz (Stop.on rfl ⟨[p::tl],c,(inner t c).length,by show [_,_,PV.int _]=_;refine b8 (List.length_map ..) ?_;rfl,Nat.le_of_ble_eq_true rfl,by exact Nat.le_trans (by assumption) (Nat.le_of_ble_eq_true rfl),fun r h=>?_,?_⟩)⟩
  · exact List.mem_singleton.mp h▸b6b hc (by lia) h1
  obtain ⟨nt1,nt2⟩:=a0f (ts:=ts) hc (rows:=[p::tl]) fun r h=>List.mem_singleton.mp h▸h1
  obtain ⟨nr1,nr2⟩:=a0f (ts:=ts) hc (rows:=rows) hr
  cases hn:narrow [p::tl] c (inner t c).length with
  |nil=>rw [hn] at q7;exact Stop.on rfl ⟨(),⟨q1',q7⟩,rfl⟩
  | cons r rs=>
    rw [hn] at q7 nt1 nt2
    have q7:P (.bool (z0 ct n (inner t c++ts) (narrow rows c (inner t c).length) r||_)):=q7
    have h1r:=nt1 r List.mem_cons_self
    have h2r:g9 r≤g9 (p::tl):=Nat.le_trans (Nat.le_add_right _ _) nt2
    have hless:=a2g hc
    have wf':WF (inner t c++ts) (narrow rows c (inner t c).length) r:=⟨nr1,h1r,by lia,fun hb=>by
      rcases List.mem_append.mp hb with hb|hb
      · exact (a6a hb).elim
      · have:=wf.byte (List.mem_cons_of_mem _ hb);lia,by refine b8 (a0v ..) ?_;lia⟩
    refine Stop.le rfl hz (Stop.on rfl ⟨rows,c,(inner t c).length,by show [_,_,PV.int _]=_;exact b8 (List.length_map ..) rfl,by lia,by exact Nat.le_trans (by assumption) (Nat.le_of_ble_eq_true rfl),fun r h=>b6b hc (by lia) (hr r h),?_⟩)
    have hz2:(ts.map Ty.pv).length≤sizeLine:=o8 _ (by lia)
    refine Stop.le rfl (o8 Ty.pv (l:=t::ts) (by show ts.length+1≤_;lia)) (Stop.le rfl hz2 (Stop.le rfl (a7i Ty.pv Ty.pv (by lia)) (Stop.on rfl ⟨inner t c++ts,narrow rows c (inner t c).length,r,many,by refine b8 (List.map_append ..) ?_;rfl,wf',by refine b8 (a0v ..) ?_;lia,hmany,?_⟩)))
    refine Stop.both rfl (fun h=>?_) fun h=>?_
    · rw [h,Bool.true_or] at q7;exact Stop.on rfl q7
    · rw [h,Bool.false_or] at q7;exact Stop.on rfl ⟨(),⟨q1',q7⟩,rfl⟩
theorem b5y{st:Stmt}(h0:∃e,(u6 st).defaults=[e]){a b c d e:Str}(h:∀pm code doc T u v w x y,∃k:Option (Array Value)→Sem (List (Str×Value)),bindArgs (K0 st pm code doc (.ref T) .none) ⟨[u,v,w,x,y],[]⟩=(seqItems? (.ref T)>>=k)∧∀i t,k (some #[Value.int i t])=pure [(a,u),(b,v),(c,w),(d,x),(e,y)]):a6o st [a,b,c,d,e]:=⟨h0,fun pm code doc T vs hl=>by
  obtain ⟨u,r1,rfl,e1⟩:=j8 hl
  clear hl;obtain ⟨v,r2,rfl,e2⟩:=j8 e1
  obtain ⟨w,r3,rfl,e3⟩:=j8 e2
  obtain ⟨x,r4,rfl,e4⟩:=j8 e3
  obtain ⟨y,r5,rfl,e5⟩:=j8 e4
  obtain rfl:=List.eq_nil_of_length_eq_zero e5
  exact h pm code doc T u v w x y⟩
theorem a9m{st:Stmt}(h0:∃e,(u6 st).defaults=[e]){a b c d:Str}(h:∀pm code doc T u v w x,∃k:Option (Array Value)→Sem (List (Str×Value)),bindArgs (K0 st pm code doc (.ref T) .none) ⟨[u,v,w,x],[]⟩=(seqItems? (.ref T)>>=k)∧∀i t,k (some #[Value.int i t])=pure [(a,u),(b,v),(c,w),(d,x)]):a6o st [a,b,c,d]:=⟨h0,fun pm code doc T vs hl=>by
  obtain ⟨u,r1,rfl,e1⟩:=j8 hl
  clear hl;obtain ⟨v,r2,rfl,e2⟩:=j8 e1
  obtain ⟨w,r3,rfl,e3⟩:=j8 e2
  obtain ⟨x,r4,rfl,e4⟩:=j8 e3
  obtain rfl:=List.eq_nil_of_length_eq_zero e4
  exact h pm code doc T u v w x⟩
theorem c6o{C:Cx}{W:PV}{ct:Ty→List c7→List j7}(hct:∀t hs,∀c∈ct t hs,J5 t c)(fn:∃a,FnAt C "is_useful" a (i9 34))(k n:Nat)
    (hW:d7 C k "want_columns" G2) (hO:d7 C k "opened" a1h) (hA:d7 C k "are_wild" b7h) (hR:d7 C k "rest_of" F9) (hU:d7 C k "is_useful" (c4f W ct n)) (hB:d7 C k "is_useful_by_parts" (TBy W ct n)):d7 C (k+1) "is_useful" (c4f W ct (n+1)):=by
  refine d7.wp1 (names:=["rows","row","types","world","many"]) (d1q W ct n) ⟨hW,hO,hA,hR,hU,hB,trivial⟩ fn (b5y ⟨_,rfl⟩ fun O O O O O O O O O=>⟨_,rfl,fun O O=>rfl⟩) rfl (fun ds P h=>h.rec fun O O O O e O O O O=>e▸rfl) fun F O O o hl ds P h=>?_
  obtain ⟨ts,rows,row,many,rfl,wf,hm,hmany,hPP⟩:=h
  have F2:∀r,r9 ts r→r.length≤100:=fun r h=>h.len▸Nat.le_trans (a0k ts) wf.cols
  cases ts with
  | nil=>
    refine Stop.on rfl ?_
    cases rows <;> exact hPP
  | cons t ts=>
    have hne:=a1q wf.G9
    have hlts:=a0k ts
    have htm:=a7g t
    rw [a0m] at hm
    have hcols:=wf.cols
    rw [a0m] at hcols
    have hfew:=wf.few
    have hlv:=a0o rows hne
    have hol:=a0g (opened rows)
    have hone:∀r∈[row],r9 (t::ts) r:=fun r h=>List.mem_singleton.mp h▸wf.d0v
    have hlv1:=a0o [row] (a1q hone)
    have hol1:=a0g (opened [row])
    have e1:l6 [row]=g9 row:=Nat.add_zero _
    have hro:∀ {r},r9 (t::ts) r→r≠[]∧r.length≤1000:=fun {r} h=>⟨b0u h,Nat.le_trans (F2 r h) (by decide)⟩
    refine Stop.on rfl ⟨many,rfl,by lia,Stop.on rfl ⟨rows,rfl,by lia,fun r h=>hro (wf.G9 r h),Stop.on rfl ?_⟩⟩
    have d8:=a0e wf.G9
    obtain ⟨hrt1,hrt2⟩:=a1c (rows:=opened rows) fun r h=>(d8 r h).row
    have hpt:=a0e hone
    have hpl:∀one∈opened [row],g9 one≤g9 row:=fun one h=>by have:=b3h h;lia
    have hr1:opened [row]=openRow row:=List.append_nil _
    rw [show z0 ct (n+1) (t::ts) rows row=(openRow row).any fun one=>if (opened rows++[one]).all g8 then z0 ct n ts (restOf (opened rows)) one.tail else a0x ct (z0 ct n) t ts (opened rows) one from rfl,← hr1] at hPP
    refine A0.b9k (o.kx _ hl) m6 (fun _:Unit=>d0o W t ts (opened rows) many)
      (fun rest O=>(∀one∈rest,D5 t ts one∧g9 one≤g9 row)∧P (.bool (rest.any fun one=>if (opened rows++[one]).all g8 then z0 ct n ts (restOf (opened rows)) one.tail else a0x ct (z0 ct n) t ts (opened rows) one))) (opened [row]) () ⟨fun one h=>⟨hpt one h,hpl one h⟩,hPP⟩ rfl rfl
      (Stop.on rfl ⟨[row],rfl,by lia,fun r h=>hro (hone r h),Stop.on rfl rfl⟩) (fun one rest O h=>?_) fun O h=>Stop.on rfl h.2
    obtain ⟨q1,q7⟩:=h
    obtain ⟨h1,hl'⟩:=q1 one List.mem_cons_self
    have q1':∀one∈rest,D5 t ts one∧g9 one≤g9 row:=fun o h=>q1 o (List.mem_cons_of_mem _ h)
    rw [List.any_cons] at q7
    clear q1;obtain ⟨p,tl,hp,ht⟩:=h1.inv
    have hal:∀r∈opened rows++[p::tl],r9 (t::ts) r:=fun r h=>
      (List.mem_append.mp h).elim (fun h=>(d8 r h).row) fun h=>List.mem_singleton.mp h▸h1.row
    have hl3:g9 tl≤g9 (p::tl):=Nat.le_mul_of_pos_left _ (a0c p)
    have big:∀ {r},r9 (t::ts) r→r≠[]∧r.length≤4096:=fun h=>⟨(hro h).1,Nat.le_trans (hro h).2 (by decide)⟩
    have ho2:(opened rows).length+1≤4096:=by lia
    refine Stop.le rfl (a7i (k:=[p::tl]) m6 m6 ho2) (Stop.on rfl ⟨opened rows++[p::tl],by rw [A5,List.map_append];rfl,by refine b8 (List.length_append ..) ?_;exact ho2,fun r h=>big (hal r h),?_⟩)
    have hzt:((t::ts).map Ty.pv).length≤sizeLine:=o8 Ty.pv (l:=t::ts) (by show ts.length+1≤_;lia)
    refine Stop.both rfl (fun h=>?_) fun h=>?_
    · rw [h,if_pos rfl] at q7
      refine Stop.on rfl ⟨opened rows,rfl,by exact Nat.le_of_lt (by assumption),fun r h=>big (d8 r h).row,Stop.le rfl (o8 c7.pv (l:=p::tl) (Nat.le_trans (F2 _ h1.row) (by decide))) (Stop.le rfl hzt (Stop.on rfl ⟨ts,restOf (opened rows),tl,many - 1,rfl,⟨hrt1,ht,by lia,fun hb=>by have:=wf.byte (List.mem_cons_of_mem _ hb);lia,by exact Nat.le_trans (Nat.le_add_left _ _) (by assumption)⟩,by lia,by lia,?_⟩))⟩
      refine Stop.both rfl (fun h=>?_) fun h=>?_
      · rw [show z0 ct n ts (restOf (opened rows)) (p::tl).tail=true from h,Bool.true_or] at q7;exact Stop.on rfl q7
      · rw [show z0 ct n ts (restOf (opened rows)) (p::tl).tail=false from h,Bool.false_or] at q7;exact Stop.on rfl ⟨(),⟨q1',q7⟩,rfl⟩
    · rw [h,if_neg nofun] at q7
      refine Stop.on rfl ⟨t,ts,opened rows,p::tl,many - 1,rfl,⟨fun r h=>(d8 r h).row,h1.row,by lia,fun hb=>by have:=wf.byte hb;lia,wf.cols⟩,d8,h1,by exact Nat.le_of_lt_succ (by assumption),by lia,?_⟩
      refine Stop.both rfl (fun h=>?_) fun h=>?_
      · rw [h,Bool.true_or] at q7;exact Stop.on rfl q7
      · rw [h,Bool.false_or] at q7;exact Stop.on rfl ⟨(),⟨q1',q7⟩,rfl⟩
noncomputable def A3(hv:Ty→Bool)(rec:List Ty→List Row→Option (List c7))(t:Ty)(ts:List Ty)(rows:List Row):Option (List c7):=
  if hv t then (rec ts (restOf rows)).map (.i7 t:: ·) else none
noncomputable def a0s(ct:Ty→List c7→List j7)(rec:List Ty→List Row→Option (List c7))(t:Ty)(ts:List Ty)(rows:List Row):Option (List c7):=
  (ct t (heads rows)).findSome? fun c=>match rec (inner t c++ts) (narrow rows c (inner t c).length) with
    |none=>none
    |some found=>(a1n t c (found.take (inner t c).length)).map (· ::found.drop (inner t c).length)
noncomputable def leftOut(ct:Ty→List c7→List j7)(hv:Ty→Bool):Nat→List Ty→List Row→Option (List c7)
  |0,_,_=>none
  |_+1,[],rows=>if rows.isEmpty then some [] else none
  |n+1,t::ts,rows=>if (opened rows).all g8 then A3 hv (leftOut ct hv n) t ts (opened rows) else a0s ct (leftOut ct hv n) t ts (opened rows)
noncomputable def a3l:Option (List c7)→PV
  |none=> .none
  |some l=> .lst (l.map c7.pv)
structure WL(ts:List Ty)(rows:List Row):Prop where
  G9:∀r∈rows,r9 ts r
  few:l6 rows≤200
  byte:Ty.byte∈ts→l6 rows≤30
  cols:B7 ts≤100
inductive c0y(W:PV)(hv:Ty→Bool)(ds:List PV)(P:PV→Prop):Prop
  |mk (t:Ty) (e:ds=[t.pv,W]) (k:P (.bool (hv t)))
inductive b2j(W:PV)(ct:Ty→List c7→List j7)(hv:Ty→Bool)(n:Nat)(ds:List PV)(P:PV→Prop):Prop
  |mk (ts:List Ty) (rows:List Row) (many:Int) (e:ds=[A5 rows,.lst (ts.map Ty.pv),W,.int many]) (h1:WL ts rows) (h2:B7 ts<n) (h3:(n:Int)≤many+1) (k:P (a3l (leftOut ct hv n ts rows)))
inductive a7d(W:PV)(ct:Ty→List c7→List j7)(hv:Ty→Bool)(n:Nat)(ds:List PV)(P:PV→Prop):Prop
  |mk (t:Ty) (ts:List Ty) (rows:List Row) (many:Int) (e:ds=[A5 rows,.lst ((t::ts).map Ty.pv),W,.int many]) (h1:WL (t::ts) rows) (h2:B7 ts<n) (h3:(n:Int)≤many+1) (k:P (a3l (A3 hv (leftOut ct hv n) t ts rows)))
noncomputable def c8u(W:PV)(ct:Ty→List c7→List j7)(hv:Ty→Bool)(n:Nat):List (Str×F8):=[("constructors",F1 W ct),("parts_of_usefulness",C8 W),("narrowed",B9),("want_columns",G2),("opened",a1h),("are_wild",b7h),("rebuilt_usefulness",a2z),("left_out",b2j W ct hv n),("left_out_wild",a7d W ct hv n)]
noncomputable def c8o(W:PV)(t:Ty)(ts:List Ty)(rows:List Row)(many:Int):b9:=[("rows",.val (A5 rows)),("t",.val t.pv),("types",.val (.lst ((t::ts).map Ty.pv))),("world",.val W),("many",.val (.int many))]
theorem c8c:∀r:Option (List c7),E8 .Is (a3l r) .none=some r.isNone
  |none=>rfl
  |some _=>rfl
theorem b8j:∀r:Option (List c7),E8 .IsNot (a3l r) .none=some r.isSome
  |none=>rfl
  |some _=>rfl
theorem a5c(ct:Ty→List c7→List j7)(hv:Ty→Bool):∀(n:Nat) (ts:List Ty) (rows:List Row) (l:List c7),leftOut ct hv n ts rows=some l→l.length=ts.length:=by
  intro LL1
  induction LL1 with
  | zero=>
    rintro _ _ _ h
    exact nomatch h
  | succ n ih=>
    intro LL2
    cases LL2 with
    | nil=>
      intro LL3
      cases LL3 with
      | nil=>
        rintro l h
        cases h;rfl
      | cons _ _=>
        nofun
    | cons t ts=>
      rintro rows l h
      have h:(if (opened rows).all g8 then A3 hv (leftOut ct hv n) t ts (opened rows) else a0s ct (leftOut ct hv n) t ts (opened rows))=some l:=h
      by_cases z:(opened rows).all g8=true
      · rw [if_pos z] at h
        obtain ⟨_,h⟩:=a2q h
        obtain ⟨l',h1,rfl⟩:=Option.map_eq_some_iff.mp h
        exact congrArg (· +1) (ih _ _ _ h1)
      · rw [if_neg z] at h
        obtain ⟨c,_,h⟩:=List.exists_of_findSome?_eq_some h
        cases hf:leftOut ct hv n (inner t c++ts) (narrow (opened rows) c (inner t c).length) with
        |none=>rw [hf] at h;exact nomatch h
        | some found=>
          rw [hf] at h
          obtain ⟨r,_,rfl⟩:=Option.map_eq_some_iff.mp h
          show (found.drop _).length+1=ts.length+1
          exact b8 (List.length_drop ..) (b8 (ih _ _ _ hf ..) (b8 (List.length_append ..) (b8 (Nat.add_sub_cancel_left ..) rfl)))
theorem b6e{C:Cx}{W:PV}{ct:Ty→List c7→List j7}(hct:∀t hs,∀c∈ct t hs,J5 t c)(fn:∃a,FnAt C "is_useful" a (i9 34))(fb:∃a,FnAt C "is_useful_by_parts" a (i9 35))(k:Nat)
    (hC:d7 C k "constructors" (F1 W ct)) (hP:d7 C k "parts_of_usefulness" (C8 W)) (hN:d7 C k "narrowed" B9) (hW:d7 C k "want_columns" G2) (hO:d7 C k "opened" a1h) (hA:d7 C k "are_wild" b7h) (hR:d7 C k "rest_of" F9) (n:Nat):
    d7 C (k+2*n+1) "is_useful" (c4f W ct n):=by
  induction n with
  |zero=>exact d7.wp1 (names:=["rows","row","types","world","many"]) [] trivial fn (b5y ⟨_,rfl⟩ fun O O O O O O O O O=>⟨_,rfl,fun O O=>rfl⟩) rfl (fun ds P h=>by obtain ⟨p,_,_,_,e,_⟩:=h;refine b8 (e ..) ?_;rfl) fun F O O o hl ds P h=>by obtain ⟨_,_,_,_,_,_,hm,_⟩:=h;exact absurd hm (Nat.not_lt_zero _)
  | succ n ih=>
    have up:∀ {g T},d7 C k g T→d7 C (k+2*n+1) g T:=fun h=>h.mono (by lia)
    have up2:∀ {g T},d7 C k g T→d7 C (k+2*n+2) g T:=fun h=>h.mono (by lia)
    exact c6o hct fn (k+2*n+2) n (up2 hW) (up2 hO) (up2 hA) (up2 hR) (ih.mono (Nat.le_succ _)) (c7f hct fb (k+2*n+1) n (up hC) (up hP) (up hN) ih)
theorem b2v{C:Cx}{W:PV}{ct:Ty→List c7→List j7}(hct:∀t hs,∀c∈ct t hs,J5 t c)(fn:∃a,FnAt C "is_useful" a (i9 34))(fb:∃a,FnAt C "is_useful_by_parts" a (i9 35))(k:Nat)
    (hC:d7 C k "constructors" (F1 W ct)) (hP:d7 C k "parts_of_usefulness" (C8 W)) (hN:d7 C k "narrowed" B9) (hW:d7 C k "want_columns" G2) (hO:d7 C k "opened" a1h) (hA:d7 C k "are_wild" b7h) (hR:d7 C k "rest_of" F9) (n:Nat):
    d7 C (k+2*n+2) "is_useful_by_parts" (TBy W ct n):=
  have up:∀ {g T},d7 C k g T→d7 C (k+2*n+1) g T:=fun h=>h.mono (by lia)
  c7f hct fb (k+2*n+1) n (up hC) (up hP) (up hN) (b6e hct fn fb k hC hP hN hW hO hA hR n)
theorem b4h{C:Cx}{W:PV}{ct:Ty→List c7→List j7}{hv:Ty→Bool}(fn:∃a,FnAt C "left_out_wild" a (i9 39))(k n:Nat)
    (hH:d7 C k "has_value" (c0y W hv)) (hR:d7 C k "rest_of" F9) (hL:d7 C k "left_out" (b2j W ct hv n)):d7 C (k+1) "left_out_wild" (a7d W ct hv n):=by
  refine d7.wp (names:=["rows","types","world","many"]) [("has_value",c0y W hv),("rest_of",F9),("left_out",b2j W ct hv n)] ⟨hH,hR,hL,trivial⟩ fn (c0l rfl fun O O O O O O O=>rfl) rfl (fun ds P h=>by obtain ⟨p,_,_,_,e,_⟩:=h;refine b8 (e ..) ?_;rfl) fun F O O o hl ds P h=>?_
  obtain ⟨t,ts,rows,many,rfl,wf,hm,hmany,hPP⟩:=h
  have hlen:=a0g rows
  have hfew:=wf.few
  have hcols:=wf.cols
  rw [a0m] at hcols
  have hlts:=a0k ts
  obtain ⟨hrt1,hrt2⟩:=a1c wf.G9
  refine Stop.on rfl ⟨t,rfl,?_⟩
  unfold A3 at hPP
  cases hvt:hv t with
  |false=>rw [hvt] at hPP;exact Stop.on rfl hPP
  | true=>
    rw [hvt,if_pos rfl] at hPP
    refine Stop.on rfl ⟨rows,rfl,by lia,fun r h=>⟨b0u (wf.G9 r h),by refine b8 ((wf.G9 r h).len ..) (b8 (List.length_cons ..) ?_);lia⟩,Stop.le rfl (o8 Ty.pv (l:=t::ts) (by refine b8 (List.length_cons ..) ?_;lia))
      (Stop.on rfl ⟨ts,restOf rows,many,rfl,⟨hrt1,by exact Nat.le_trans (by assumption) (by assumption),fun hb=>by have:=wf.byte (List.mem_cons_of_mem _ hb);exact Nat.le_trans (by assumption) (by assumption),by exact Nat.le_trans (Nat.le_add_left _ _) (by assumption)⟩,hm,hmany,Stop.opt rfl (c8c _) ?_⟩)⟩
    have hl:=a5c ct hv n ts (restOf rows)
    cases hlo:leftOut ct hv n ts (restOf rows) with
    |none=>rw [hlo] at hPP;exact Stop.on rfl hPP
    | some l=>
      have hl:=hl l hlo
      rw [hlo] at hPP
      exact Stop.le rfl (by refine b8 (List.length_map ..) ?_;exact E1 (by show 1+_≤_;lia)) (Stop.on rfl hPP)
theorem a3w{t:Ty}{c:j7}(hc:J5 t c)(l:List c7)(hl:l.length=(inner t c).length):∃r,a1n t c l=some r:=by
  cases hc.inv
  case fields=>obtain ⟨p,r1,rfl,e1⟩:=j8 hl;clear hl;obtain ⟨q,r2,rfl,e2⟩:=j8 e1;obtain rfl:=List.eq_nil_of_length_eq_zero e2;exact ⟨_,rfl⟩
  case M4=>obtain ⟨p,r,rfl,e⟩:=j8 hl;clear hl;obtain rfl:=List.eq_nil_of_length_eq_zero e;exact ⟨_,rfl⟩
  case A7=>obtain ⟨p,r,rfl,e⟩:=j8 hl;clear hl;obtain rfl:=List.eq_nil_of_length_eq_zero e;exact ⟨_,rfl⟩
  all_goals (obtain rfl:=List.eq_nil_of_length_eq_zero hl;exact ⟨_,rfl⟩)
theorem c4d{C:Cx}{W:PV}{ct:Ty→List c7→List j7}{hv:Ty→Bool}(hct:∀t hs,∀c∈ct t hs,J5 t c)(fn:∃a,FnAt C "left_out" a (i9 38))(k n:Nat)
    (hC:d7 C k "constructors" (F1 W ct)) (hP:d7 C k "parts_of_usefulness" (C8 W)) (hN:d7 C k "narrowed" B9) (hWa:d7 C k "want_columns" G2) (hO:d7 C k "opened" a1h) (hA:d7 C k "are_wild" b7h) (hB:d7 C k "rebuilt_usefulness" a2z)
    (hL:d7 C k "left_out" (b2j W ct hv n)) (hW:d7 C k "left_out_wild" (a7d W ct hv n)):d7 C (k+1) "left_out" (b2j W ct hv (n+1)):=by
  refine d7.wp1 (names:=["rows","types","world","many"]) (c8u W ct hv n) ⟨hC,hP,hN,hWa,hO,hA,hB,hL,hW,trivial⟩ fn (a9m ⟨_,rfl⟩ fun O O O O O O O O=>⟨_,rfl,fun O O=>rfl⟩) rfl (fun ds P h=>by obtain ⟨p,_,_,e,_⟩:=h;refine b8 (e ..) ?_;rfl) fun F O O o hl ds P h=>?_
  obtain ⟨ts,rows,many,rfl,wf,hm,hmany,hPP⟩:=h
  cases ts with
  |nil=>cases rows <;> exact Stop.on rfl hPP
  | cons t ts=>
    have hne:=a1q wf.G9
    have hlts:=a0k ts
    have htm:=a7g t
    rw [a0m] at hm
    have hcols:=wf.cols
    rw [a0m] at hcols
    as_aux_lemma=>
    have hfew:=wf.few
    have hro:∀ {r},r9 (t::ts) r→r≠[]∧r.length≤1000:=fun {r} h=>⟨b0u h,by refine b8 (h.len ..) (b8 (List.length_cons ..) ?_);lia⟩
    have hlv:=a0o rows hne
    have hol:=a0g (opened rows)
    have d8:=a0e wf.G9
    refine Stop.on rfl ⟨many,rfl,by lia,Stop.on rfl ⟨rows,rfl,by lia,fun r h=>hro (wf.G9 r h),?_⟩⟩
    have hone:∀r∈opened rows,r≠[]:=fun r h=>(hro (d8 r h).row).1
    refine Stop.on rfl (Ex.assign2 (I9.val (Ev.wp (o.kx _ hl) (Stop.on rfl (I9.val (Ev.F4 (o.kx _ hl) [] (H7 rfl) m6 (opened rows) b3r (Stop.on rfl rfl) (E1 (by lia)) (fun d r hm=>?_) ⟨fun f=>f.elim,fun f=>f.elim,?_⟩))))) (o.loc rfl) (o.loc rfl) (by decide) (hw:= .inl (a1x (o.kind rfl) (o.kind rfl) (by decide) rfl rfl rfl rfl)))
    · cases r with
      |nil=>exact absurd rfl (hone _ hm)
      |cons q r=>exact Stop.on rfl rfl
    refine b8 (a4r hone ..) ?_
    have wl:WL (t::ts) (opened rows):=⟨fun r h=>(d8 r h).row,by lia,fun hb=>by have:=wf.byte hb;lia,wf.cols⟩
    refine Stop.on rfl ⟨opened rows,rfl,by lia,fun r h=>⟨hone r h,Nat.le_trans (hro (d8 r h).row).2 (by decide)⟩,?_⟩
    rw [show leftOut ct hv (n+1) (t::ts) rows=if (opened rows).all g8 then A3 hv (leftOut ct hv n) t ts (opened rows) else a0s ct (leftOut ct hv n) t ts (opened rows) from rfl] at hPP
    refine Stop.both rfl (fun h=>?_) fun h=>?_
    · rw [h,if_pos rfl] at hPP
      exact Stop.on rfl ⟨t,ts,opened rows,many - 1,rfl,wl,by lia,by lia,Stop.on rfl hPP⟩
    rw [h,if_neg nofun] at hPP
    have hall:=hct t (heads (opened rows))
    have hh:=a7u (opened rows)
    refine Stop.on rfl (A0.b9k (o.kx _ hl) j7.pv (fun _:Unit=>c8o W t ts (opened rows) many)
      (fun rest O=>(∀c∈rest,J5 t c)∧P (a3l (rest.findSome? fun c=>match leftOut ct hv n (inner t c++ts) (narrow (opened rows) c (inner t c).length) with
          |none=>none
          |some found=>(a1n t c (found.take (inner t c).length)).map (· ::found.drop (inner t c).length)))) (ct t (heads (opened rows))) () ⟨hall,hPP⟩ rfl rfl
      (Stop.on rfl ⟨t,heads (opened rows),rfl,a4e d8,fun e=>by have:=wf.byte (by refine b8 (e ..) ?_;exact List.mem_cons_self);lia,by lia,Stop.on rfl rfl⟩) (fun c rest O h=>?_) fun O h=>Stop.on rfl h.2)
    obtain ⟨q1,q7⟩:=h
    have hc:=q1 c List.mem_cons_self
    have q1':∀c∈rest,J5 t c:=fun c h=>q1 c (List.mem_cons_of_mem _ h)
    rw [List.findSome?_cons] at q7
    have hin:=a7w t c
    obtain ⟨nr1,nr2⟩:=a0f (ts:=ts) hc (rows:=opened rows) d8
    have hless:=a2g hc
    have hlo:=a5c ct hv n (inner t c++ts) (narrow (opened rows) c (inner t c).length)
    have hz:((inner t c).map Ty.pv).length≤sizeLine:=o8 _ (by exact Nat.le_trans (by assumption) (Nat.le_of_ble_eq_true rfl))
    have hz2:(ts.map Ty.pv).length≤sizeLine:=o8 _ (by lia)
    refine Stop.on rfl ⟨t,c,rfl,hc,Stop.le rfl hz (Stop.on rfl ⟨opened rows,c,(inner t c).length,by show [_,_,PV.int _]=_;exact b8 (List.length_map ..) rfl,by lia,by exact Nat.le_trans (by assumption) (Nat.le_of_ble_eq_true rfl),fun r h=>b6b hc (by lia) (d8 r h),
      Stop.le rfl (o8 Ty.pv (l:=t::ts) (by refine b8 (List.length_cons ..) ?_;lia)) (Stop.le rfl hz2 (Stop.le rfl (a7i Ty.pv Ty.pv (by lia)) (Stop.on rfl ⟨inner t c++ts,narrow (opened rows) c (inner t c).length,many - 1,by refine b8 (List.map_append ..) ?_;rfl,⟨nr1,by lia,fun hb=>?_,by refine b8 (a0v ..) ?_;lia⟩,by refine b8 (a0v ..) ?_;lia,by lia,?_⟩)))⟩)⟩
    · rcases List.mem_append.mp hb with hb|hb
      · exact (a6a hb).elim
      · have:=wf.byte (List.mem_cons_of_mem _ hb);lia
    refine Stop.opt rfl (b8j _) ?_
    cases hl:leftOut ct hv n (inner t c++ts) (narrow (opened rows) c (inner t c).length) with
    |none=>rw [hl] at q7;exact Stop.on rfl ⟨(),⟨q1',q7⟩,rfl⟩
    | some l=>
      have hll:=hlo l hl
      rw [List.length_append] at hll
      obtain ⟨r,hr⟩:=a3w hc (l.take (inner t c).length) (by refine b8 (List.length_take ..) ?_;lia)
      rw [hl] at q7
      dsimp only at q7
      rw [hr] at q7
      have hlz:(l.map c7.pv).length≤sizeLine:=o8 _ (by lia)
      refine Stop.le rfl hz (Stop.le rfl hlz (Stop.on rfl ⟨t,c,l.take (inner t c).length,r,by refine b8 (List.map_take ..) (b8 (List.length_map ..) ?_);rfl,hr,Stop.le rfl hz (Stop.le rfl hlz (Stop.le rfl (by refine b8 (List.length_drop ..) (b8 (List.length_map ..) ?_);exact E1 (by show 1+_≤_;lia)) (Stop.on rfl ?_)))⟩))
      refine b8 (List.length_map ..) (C5 (List.map_drop ..) ?_)
      exact q7
theorem b2h{C:Cx}{W:PV}{ct:Ty→List c7→List j7}{hv:Ty→Bool}(hct:∀t hs,∀c∈ct t hs,J5 t c)(fn:∃a,FnAt C "left_out" a (i9 38))(fw:∃a,FnAt C "left_out_wild" a (i9 39))(k:Nat)
    (hC:d7 C k "constructors" (F1 W ct)) (hP:d7 C k "parts_of_usefulness" (C8 W)) (hN:d7 C k "narrowed" B9) (hWa:d7 C k "want_columns" G2) (hO:d7 C k "opened" a1h) (hA:d7 C k "are_wild" b7h) (hR:d7 C k "rest_of" F9)
    (hB:d7 C k "rebuilt_usefulness" a2z) (hH:d7 C k "has_value" (c0y W hv)) (n:Nat):d7 C (k+2*n+1) "left_out" (b2j W ct hv n):=by
  induction n with
  |zero=>exact d7.wp1 (names:=["rows","types","world","many"]) [] trivial fn (a9m ⟨_,rfl⟩ fun O O O O O O O O=>⟨_,rfl,fun O O=>rfl⟩) rfl (fun ds P h=>by obtain ⟨p,_,_,e,_⟩:=h;refine b8 (e ..) ?_;rfl) fun F O O o hl ds P h=>by obtain ⟨_,_,_,_,_,hm,_⟩:=h;exact absurd hm (Nat.not_lt_zero _)
  | succ n ih=>
    have up:∀ {g T},d7 C k g T→d7 C (k+2*n+1) g T:=fun h=>h.mono (by lia)
    have up2:∀ {g T},d7 C k g T→d7 C (k+2*n+2) g T:=fun h=>h.mono (by lia)
    exact c4d hct fn (k+2*n+2) n (up2 hC) (up2 hP) (up2 hN) (up2 hWa) (up2 hO) (up2 hA) (up2 hB) (ih.mono (Nat.le_succ _)) (b4h fw (k+2*n+1) n (up hH) (up hR) ih)
theorem a9z{C:Cx}{W:PV}{ct:Ty→List c7→List j7}{hv:Ty→Bool}(hct:∀t hs,∀c∈ct t hs,J5 t c)(fn:∃a,FnAt C "left_out" a (i9 38))(fw:∃a,FnAt C "left_out_wild" a (i9 39))(k:Nat)
    (hC:d7 C k "constructors" (F1 W ct)) (hP:d7 C k "parts_of_usefulness" (C8 W)) (hN:d7 C k "narrowed" B9) (hWa:d7 C k "want_columns" G2) (hO:d7 C k "opened" a1h) (hA:d7 C k "are_wild" b7h) (hR:d7 C k "rest_of" F9)
    (hB:d7 C k "rebuilt_usefulness" a2z) (hH:d7 C k "has_value" (c0y W hv)) (n:Nat):d7 C (k+2*n+2) "left_out_wild" (a7d W ct hv n):=
  have up:∀ {g T},d7 C k g T→d7 C (k+2*n+1) g T:=fun h=>h.mono (by lia)
  b4h fw (k+2*n+1) n (up hH) (up hR) (b2h hct fn fw k hC hP hN hWa hO hA hR hB hH n)
noncomputable def u8:PV:= .str "u8"
noncomputable def bits:Str→Option PV:=fun x=>if x="i8"∨x="u8" then some (.int 8) else if x="i16"∨x="u16" then some (.int 16) else if x="i32"∨x="u32" then some (.int 32) else if x="i64"∨x="u64"∨x="usize" then some (.int 64) else none
noncomputable def A2(ks:List Int)(k:Int):List Int:=if k∈ks then ks else ks++[k]
noncomputable def l0(ks:List Int):c7→List Int
  | .ci i=>A2 (A2 ks i) (i+1)
  | .rg a b=>A2 (A2 ks a) (b+1)
  |_=>ks
theorem a3t{ks:List Int}{P:List Int→Prop}(h:P ks)(h1:∀a b,P (A2 (A2 ks a) (b+1)))(p:c7):P (l0 ks p):=by
  cases p <;> first|exact h|exact h1 _ _
noncomputable def cutsOf(hs:List c7):List Int:=(sortI (hs.foldl l0 [0])).filter (fun c=>decide (0≤c)&&decide (c≤255))++[256]
noncomputable def a4j(hs:List c7):List j7:=(List.range ((cutsOf hs).length - 1)).map fun i=> .rg ((cutsOf hs).getD i 0) ((cutsOf hs).getD (i+1) 0 - 1)
noncomputable def b5n(ds:List PV)(P:PV→Prop):Prop:=∃hs:List c7,ds=[.int 0,.int 255,.lst (hs.map c7.pv)]∧(∀p∈hs,Pl .byte p)∧hs.length≤30∧P (.lst ((a4j hs).map j7.pv))
theorem a5u(p:Int→Bool):∀ns:List Int,ns.filterMap (fun c=>if p c then some (PV.int c) else none)=(ns.filter p).map .int:=by
  intro LL
  induction LL with
  | nil=>
    exact rfl
  | cons c ns ih=>
    refine b8 (List.filterMap_cons ..) (b8 (List.filter_cons ..) (b8 (ih ..) ?_))
    cases p c <;> rfl
theorem a8p{cs:List Int}{i:Nat}(h:i<cs.length)(hz:i<2 ^ 63):item? (.lst (cs.map PV.int)) (.int (i:Int))=some (.int (cs.getD i 0)):=by
  show c4k (cs.map PV.int) i=_
  unfold c4k
  refine b8 (if_pos hz ..) (b8 (List.getElem?_map ..) (b8 (List.getD_eq_getElem?_getD ..) (b8 (List.getElem?_eq_getElem h ..) ?_)))
  rfl
theorem a5o{cs:List Int}{i:Nat}(h:i+1<cs.length)(hz:i+1<2 ^ 63):item? (.lst (cs.map PV.int)) (.int ((i:Int)+1))=some (.int (cs.getD (i+1) 0)):=a8p h hz
noncomputable def m8:Ty→List c7→List j7
  | .bool,_=>[.cb false,.cb true]
  | .byte,hs=>a4j hs
  | .pair,_=>[.fields]
  | .led,_=>[.A7]
  | .enum,_=>[.va 0,.va 1]
  | .none,_=>[]
  | .never,_=>[]
theorem a0y(t:Ty)(hs:List c7)(c:j7)(h:c∈m8 t hs):J5 t c:=by
  cases t
  case bool=>exact Ea.all (P:=J5 .bool) (l:=[.cb false,.cb true]) ⟨rfl,rfl,trivial⟩ _ h
  case byte=>obtain ⟨i,_,rfl⟩:=List.mem_map.mp h;rfl
  case pair=>exact Ea.all (P:=J5 .pair) (l:=[.fields]) ⟨rfl,trivial⟩ _ h
  case enum=>exact Ea.all (P:=J5 .enum) (l:=[.va 0,.va 1]) ⟨⟨rfl,.inl rfl⟩,⟨rfl,.inr rfl⟩,trivial⟩ _ h
  case led=>exact Ea.all (P:=J5 .led) (l:=[.A7]) ⟨rfl,trivial⟩ _ h
  all_goals exact b9o h
noncomputable def c0w(ae an:Addr):Str→Option PV:=fun x=>if x="E" then some (.z8 (.ref ae)) else if x="N" then some (.z8 (.ref an)) else none
noncomputable def b0e:PV:= .lst [.tup [.str "A",.str "unit",.lst []],.tup [.str "B",.str "tuple",.lst [.tup [.str "0",Ty.bool.pv]]]]
structure a5h(C:Cx)(W:PV)(ad ae an:Addr):Prop where
  w:∃wd,W= .z8 (.ref wd)∧a2k C (.ref wd) "adts" (.z8 (.ref ad))
  tab:StrTab C ad (c0w ae an)
  c8k:a2k C (.ref ae) "is_enum" (.bool true)
  c8v:a2k C (.ref an) "is_enum" (.bool true)
  d1n:a2k C (.ref ae) "variants" b0e
  d1p:a2k C (.ref an) "variants" (.lst [])
  d1g:a2k C (.ref ae) "params" (.tup [])
  d1c:a2k C (.ref ae) "regions" (.tup [])
noncomputable def M9(v:PV)(ds:List PV)(P:PV→Prop):Prop:=ds=[u8]∧P v
theorem b6d{C:Cx}(fn:∃a,FnAt C "is_signed" a (i9 6))(k:Nat):d7 C (k+1) "is_signed" (M9 (.bool false)):=by
  refine d7.ex (names:=["kind"]) [] trivial fn (.inl (plain1 rfl fun O O O O=>rfl)) rfl (fun ds P h=>by refine b8 (h.1 ..) ?_;rfl) fun F O O o hl ds P h=>?_
  obtain ⟨rfl,hP⟩:=h
  exact A0.cons (Ex.ret (Ev.cmp (F7.of (Ev.letter (Ev.wp (o.kx _ hl) (Stop.on rfl (Ev.d0h ⟨_,0,117,rfl,rfl,by exact Nat.le_add_left _ _,rfl,F7.of (Ev.d0e (G4.mk rfl hP))⟩)))))))
theorem b9e{C:Cx}(fn:∃a,FnAt C "least" a (i9 7))(k:Nat)(hS:d7 C k "is_signed" (M9 (.bool false))):d7 C (k+1) "least" (M9 (.int 0)):=by
  refine d7.wp (names:=["kind"]) [("is_signed",M9 (.bool false))] ⟨hS,trivial⟩ fn (plain1 rfl fun O O O O=>rfl) rfl (fun ds P h=>by refine b8 (h.1 ..) ?_;rfl) fun F O O o hl ds P h=>?_
  obtain ⟨rfl,hP⟩:=h
  exact Stop.on rfl ⟨rfl,Stop.on rfl hP⟩
theorem a9e{C:Cx}(fn:∃a,FnAt C "greatest" a (i9 8))(k:Nat){bt:Addr}(hB:Gv C "BITS" (.ref bt) (.z8 (.ref bt)))(hT:StrTab C bt bits)(hS:d7 C k "is_signed" (M9 (.bool false))):d7 C (k+1) "greatest" (M9 (.int 255)):=by
  refine d7.wp (names:=["kind"]) [("is_signed",M9 (.bool false))] ⟨hS,trivial⟩ fn (plain1 rfl fun O O O O=>rfl) rfl (fun ds P h=>by refine b8 (h.1 ..) ?_;rfl) fun F hC O o hl ds P h=>?_
  clear fn hS;subst hC
  obtain ⟨rfl,hP⟩:=h
  exact Stop.on rfl ⟨rfl,Stop.on rfl (Ev.a5f (Ev.b9g hB (Ev.wp (o.kx _ hl) (Stop.on rfl ⟨bt,"u8",bits,rfl,rfl,hT,G4.mk (y:= .int 8) rfl (Stop.on rfl ⟨_,I5.c9q 2 8 (by decide) (by decide),Stop.on rfl hP⟩)⟩)) (o.kind rfl)))⟩
inductive a6r:c7→Prop
  |i7 (u:Ty):a6r (.i7 u)
  |ci (i:Int) (h:0≤i):a6r (.ci i)
  |rg (a b:Int) (h:0≤a):a6r (.rg a b)
theorem b8t{p:c7}(h:Pl .byte p):a6r p:=by
  cases p
  case i7=>exact .i7 _
  case ci=>exact .ci _ h.2.1
  case rg=>exact .rg _ _ h.2.1
  all_goals first|exact h.elim|exact J6 h rfl|exact J6 h.1 rfl
theorem b4j{C:Cx}(fn:∃a,FnAt C "ranges_of" a (i9 25))(k:Nat)(hB:d7 C k "bounds_of" c6p):d7 C (k+1) "ranges_of" b5n:=by
  refine d7.wp (names:=["low","high","heads"]) [("bounds_of",c6p)] ⟨hB,trivial⟩ fn (a2l rfl fun O O O O O O=>rfl) rfl (fun ds P h=>by obtain ⟨_,e,_⟩:=h;refine b8 (e ..) ?_;rfl) fun F O O o hl ds P h=>?_
  obtain ⟨hs,rfl,hty,hlen,hP⟩:=h
  refine Stop.on rfl (Ex.b0k (I9.ofFr (b9q.c8y (Ev.wp (o.kx _ hl) (Stop.on rfl (Ev.b1y ⟨_,rfl,?_⟩))))) (o.loc rfl))
  refine Stop.on rfl (A0.b9k (o.kx _ hl) c7.pv (fun m:List (Int×PV)=>[("begins",.own (.dct (ik m))),("low",.val (.int 0)),("high",.val (.int 255))])
    (fun rest m=>(m.map (·.1)).Nodup∧hs.foldl l0 [0]=rest.foldl l0 (m.map (·.1))∧m.length+2*rest.length≤61∧∀p∈rest,Pl .byte p) hs [(0,.bool true)] ⟨List.nodup_cons.mpr ⟨nofun,List.nodup_nil⟩,rfl,(by show 1+_≤_;lia),hty⟩ rfl rfl (Stop.on rfl rfl) (fun p rest m h=>?_) fun m h=>?_)
  · obtain ⟨h1,h2,h3,h4⟩:=h
    have hp:=h4 p List.mem_cons_self
    have h4':=fun p h=>h4 p (List.mem_cons_of_mem _ h)
    rw [List.length_cons] at h3
    rw [List.foldl_cons] at h2
    have hz:m.length≤sizeLine:=E1 (by lia)
    have step:∀a b:Int,l0 (m.map (·.1)) p=A2 (A2 (m.map (·.1)) a) b→∀d d',((putK (putK m a d) b d').map (·.1)).Nodup∧hs.foldl l0 [0]=rest.foldl l0 ((putK (putK m a d) b d').map (·.1))∧(putK (putK m a d) b d').length+2*rest.length≤61∧∀p∈rest,Pl .byte p:=fun a b e d d'=>by
      have:=a7j (putK m a d) b d'
      have:=a7j m a d
      exact ⟨a1t _ _ (a1t _ _ h1),by refine b8 (h2 ..) (b8 (e ..) (b8 (a4q ..) (b8 (a4q ..) ?_)));rfl,by lia,h4'⟩
    have hz':∀a d,(putK m a d).length≤sizeLine:=fun a d=>E1 (by have:=a7j m a d;lia)
    clear h4;rcases b8t hp with ⟨t⟩|⟨i,hi⟩|⟨a,b,hi⟩
    · exact Stop.on rfl ⟨m,⟨h1,h2,by lia,h4'⟩,rfl⟩
    · exact Stop.on rfl (.inl ⟨i,rfl,Stop.on rfl (Ex.setInt (m:=m) rfl h1 hz (Ev.b1y (Ev.wp (o.kx _ hl) (Stop.on rfl ⟨i,by exact b8 (if_neg (Int.not_lt.mpr hi) ..) rfl,Stop.on rfl (Ex.setInt (m:=putK m i (.bool true)) rfl (a1t _ _ h1) (hz' _ _) (Ev.b1y (Ev.wp (o.kx _ hl) (Stop.on rfl ⟨i+1,rfl,Stop.on rfl ⟨_,step i (i+1) rfl (.bool true) (.bool true),rfl⟩⟩))))⟩))))⟩)
    · exact Stop.on rfl (.inr ⟨a,b,rfl,Stop.on rfl (Ex.setInt (m:=m) rfl h1 hz (Ev.b1y (Ev.wp (o.kx _ hl) (Stop.on rfl ⟨a,by exact b8 (if_neg (Int.not_lt.mpr hi) ..) rfl,Stop.on rfl (Ex.setInt (m:=putK m a (.bool true)) rfl (a1t _ _ h1) (hz' _ _) (Ev.b1y (Ev.wp (o.kx _ hl) (Stop.on rfl ⟨b+1,rfl,Stop.on rfl ⟨_,step a (b+1) rfl (.bool true) (.bool true),rfl⟩⟩))))⟩))))⟩)
  · obtain ⟨h1,h2,h3,_⟩:=h
    have hm:m.length≤61:=h3
    have hl61:(sortI (hs.foldl l0 [0])).length≤61:=by refine b8 ((sortI_perm _).length_eq ..) (b8 (h2 ..) ?_);show (m.map (·.1)).length≤61;refine b8 (List.length_map ..) ?_;exact hm
    refine Stop.on rfl (Ev.c0u (o.kx _ hl) [("low",.val (.int 0)),("high",.val (.int 255))] (c6.of ["low","high"] ⟨⟨rfl,rfl,rfl,o.cap rfl⟩,⟨rfl,rfl,rfl,o.cap rfl⟩,trivial⟩ (by decide) (by decide)) PV.int (sortI (hs.foldl l0 [0])) (fun c=>if decide ((0:Int)≤c)&&decide (c≤255) then some (.int c) else none)
      (I6.seq (Ev.M8 (F0.b4d (m:=m) rfl h1 (by exact Nat.lt_of_le_of_lt (by assumption) (Nat.le_of_ble_eq_true rfl)) (fun ns hp hs'=>⟨_,.inl rfl,congrArg (List.map PV.int) (by refine b8 (h2 ..) ?_;exact eq_sortI hp hs')⟩) (o.kind rfl)))) (E1 (by exact Nat.le_trans (by assumption) (Nat.le_of_ble_eq_true rfl))) (fun d c O=>?_) ?_)
    · refine Stop.both rfl (fun h=>Stop.both rfl (fun h'=>Stop.on rfl ?_) fun h'=>Stop.on rfl ?_) fun h=>Stop.on rfl ?_
      · show (if (_&&_)=true then _ else _)=_;refine b8 (h ..) (b8 (h' ..) ?_);rfl
      · show (if (_&&_)=true then _ else _)=_;refine b8 (h ..) (b8 (h' ..) ?_);rfl
      · show (if (_&&_)=true then _ else _)=_;refine b8 (h ..) ?_;rfl
    refine b8 (a5u ..) ?_
    have hcl:((sortI (hs.foldl l0 [0])).filter fun c=>decide ((0:Int)≤c)&&decide (c≤255)).length≤61:=Nat.le_trans (List.length_filter_le _ _) hl61
    have hcut':(((sortI (hs.foldl l0 [0])).filter fun c=>decide ((0:Int)≤c)&&decide (c≤255)).map PV.int)++[PV.int (255+1)]=(cutsOf hs).map PV.int:=by rw [cutsOf,List.map_append];rfl
    have hlen2:(cutsOf hs).length≤62:=by rw [cutsOf,List.length_append];exact Nat.succ_le_succ hcl
    have hlen3:1≤(cutsOf hs).length:=by rw [cutsOf,List.length_append];exact Nat.le_add_left _ _
    refine Stop.le rfl (by refine b8 (List.length_map ..) ?_;exact E1 (Nat.le_trans (Nat.succ_le_succ hcl) (by decide))) ?_
    show (toA _ _ _ (PV.lst (List.map PV.int _++[PV.int (255+1)]))).den
    refine b8 (hcut' ..) ?_
    have hP':P (.lst ((List.range ((cutsOf hs).length - 1)).map fun i=>(j7.rg ((cutsOf hs).getD i 0) ((cutsOf hs).getD (i+1) 0 - 1)).pv)):=by
      rw [a4j,List.map_map] at hP;exact hP
    refine Stop.on rfl (Ev.b9n (o.kx _ hl) [("cuts",.val (.lst ((cutsOf hs).map PV.int)))] (c6.of ["cuts"] ⟨⟨rfl,rfl,rfl,o.cap rfl⟩,trivial⟩ (by decide) (by decide)) (fun i:Nat=>PV.int (i:Int)) (List.range ((cutsOf hs).length - 1)) (fun i=>(j7.rg ((cutsOf hs).getD i 0) ((cutsOf hs).getD (i+1) 0 - 1)).pv)
      (I6.range (Ev.wp (o.kx _ hl) (Stop.le rfl (o8 _ (by exact Nat.le_trans (by assumption) (Nat.le_of_ble_eq_true rfl))) (Stop.on rfl ⟨(cutsOf hs).length - 1,by refine b8 (List.length_map ..) ?_;congr 1;lia,E1 (by lia),rfl⟩))) (o.kind rfl)) (by refine b8 (List.length_range ..) ?_;exact E1 (by lia)) (fun d i hi=>?_) (Stop.on rfl hP'))
    have hi':i<(cutsOf hs).length - 1:=List.mem_range.mp hi
    refine Stop.opt rfl (a8p (cs:=cutsOf hs) (i:=i) (by lia) (by lia)) ?_
    refine Stop.opt rfl (a5o (cs:=cutsOf hs) (i:=i) (by lia) (by lia)) ?_
    exact Stop.on rfl rfl
theorem Ev.attrS{F:Fm}(κ:Kx F){ρ:b9}{P:PV→Prop}{o:Value}{name:Str}{e:Expr}{pos:Pos}{d':PV}(hw:a2k F.C o name d')(he:(run κ (fun O=>True) (fun d=>d= .z8 o) 3000 (.e ρ e .ret)).den)(p:P d')
    (hs:eval (.Attribute e name pos) F.env=(do
      let o ← eval e F.env
      standAt pos.atName
      let r ← holding [o] (getAttr o name true)
      letTemporaryGo e o r
      Pure.pure r):=by with_unfolding_all rfl):Ev F ρ (.Attribute e name pos) P:=
  Ev.attr (Ev.mono (Ev.wp κ he) fun d hd=>⟨o,hd,d',hw,p⟩) hs
theorem c1o{C:Cx}{W:PV}{ad ae an:Addr}(w:a5h C W ad ae an)(fn:∃a,FnAt C "constructors" a (i9 26))(k:Nat)
    (hR:d7 C k "ranges_of" b5n) (hL:d7 C k "least" (M9 (.int 0))) (hG:d7 C k "greatest" (M9 (.int 255))):d7 C (k+1) "constructors" (F1 W m8):=by
  refine d7.wp (names:=["t","heads","world"]) [("ranges_of",b5n),("least",M9 (.int 0)),("greatest",M9 (.int 255))] ⟨hR,hL,hG,trivial⟩ fn (a2l rfl fun O O O O O O=>rfl) rfl (fun ds P h=>by obtain ⟨_,_,e,_⟩:=h;refine b8 (e ..) ?_;rfl) fun F hC O o hl ds P h=>?_
  clear fn hR hL hG;subst hC
  obtain ⟨t,hs,rfl,hty,hb,hlen,hP⟩:=h
  obtain ⟨⟨wd,rfl,w1⟩,w2,w3,w4,w5,w6,w7,w8⟩:=w
  cases t
  case byte=>exact Stop.on rfl ⟨rfl,Stop.on rfl ⟨rfl,Stop.on rfl ⟨hs,rfl,hty,hb rfl,Stop.on rfl hP⟩⟩⟩
  case enum=>
    exact Stop.on rfl (Tr.b9j (Ev.wp (o.kx _ hl) (Stop.on rfl (Ev.attrS (o.kx _ hl) w1 (Stop.on rfl rfl) ⟨_,_,_,rfl,rfl,w2,Stop.on rfl (Ev.a5f (Ev.attrS (o.kx _ hl) w1 (Stop.on rfl rfl) (Ev.wp (o.kx _ hl) (Stop.on rfl ⟨_,_,_,rfl,rfl,w2,G4.mk rfl (Stop.on rfl (Ev.attrS (o.kx _ hl) w3 (Stop.on rfl rfl)
      (Stop.on rfl (Ev.b9n (o.kx _ hl) [] (H7 rfl) (fun i:Nat=>PV.int (i:Int)) (List.range 2) (fun i=>(j7.va i).pv) (I6.range (Ev.wp (o.kx _ hl) (Stop.on rfl (Ev.attrS (o.kx _ hl) w5 (Stop.on rfl rfl) (Stop.on rfl ⟨2,rfl,by decide,rfl⟩)))) (o.kind rfl)) (by decide) (fun d i O=>Stop.on rfl rfl) (Stop.on rfl hP)))))⟩))))⟩))))
  case none=>
    exact Stop.on rfl (Tr.b9j (Ev.wp (o.kx _ hl) (Stop.on rfl (Ev.attrS (o.kx _ hl) w1 (Stop.on rfl rfl) ⟨_,_,_,rfl,rfl,w2,Stop.on rfl (Ev.a5f (Ev.attrS (o.kx _ hl) w1 (Stop.on rfl rfl) (Ev.wp (o.kx _ hl) (Stop.on rfl ⟨_,_,_,rfl,rfl,w2,G4.mk rfl (Stop.on rfl (Ev.attrS (o.kx _ hl) w4 (Stop.on rfl rfl)
      (Stop.on rfl (Ev.b9n (o.kx _ hl) [] (H7 rfl) (fun i:Nat=>PV.int (i:Int)) (List.range 0) (fun i=>(j7.va i).pv) (I6.range (Ev.wp (o.kx _ hl) (Stop.on rfl (Ev.attrS (o.kx _ hl) w6 (Stop.on rfl rfl) (Stop.on rfl ⟨0,rfl,by decide,rfl⟩)))) (o.kind rfl)) (by decide) (fun d i O=>Stop.on rfl rfl) (Stop.on rfl hP)))))⟩))))⟩))))
  all_goals exact Stop.on rfl hP
theorem a5x:∀rows:List Row,(rows.filterMap fun r=>if g8 r then none else some (m6 r)).isEmpty=rows.all g8:=by
  intro LL
  induction LL with
  | nil=>
    exact rfl
  | cons r rows ih=>
    refine b8 (List.filterMap_cons ..) (b8 (List.all_cons ..) (C5 (ih ..) ?_))
    cases g8 r <;> rfl
theorem c6b{C:Cx}(fn:∃a,FnAt C "are_wild" a (i9 32))(k:Nat):d7 C (k+1) "are_wild" b7h:=by
  refine d7.wp (names:=["rows"]) [] trivial fn (plain1 rfl fun O O O O=>rfl) rfl (fun ds P h=>by obtain ⟨p,e,_⟩:=h;refine b8 (e ..) ?_;rfl) fun F O O o hl ds P h=>?_
  obtain ⟨rows,rfl,hn,hr,hP⟩:=h
  refine Stop.on rfl (Ev.c2i (o.kx _ hl) [] (H7 rfl) m6 rows (fun r=>if g8 r then none else some (m6 r)) (Stop.on rfl rfl) (E1 hn) (fun d r hm=>?_) (Stop.on rfl ?_))
  · cases r with
    |nil=>exact absurd rfl (hr _ hm).1
    | cons p r=>
      refine Stop.opt rfl (a6s p) (Stop.both rfl (fun h=>Stop.on rfl ?_) fun h=>Stop.on rfl ?_)
      · exact if_neg fun e=>by rw [← a4z p r] at e;rw [show (p.head=="wild")=true from e] at h;cases h
      · exact if_pos (by refine C5 (a4z p r ..) ?_;exact (Bool.not_eq_false' _).mp h)
  · refine b8 (a5x ..) ?_;exact hP
noncomputable def a4t:Ty→List Ty
  | .pair=>[.bool,.bool]
  | .led=>[.bool]
  |_=>[]
inductive TPT(ds:List PV)(P:PV→Prop):Prop
  |mk (t:Ty) (e:ds=[t.pv]) (k:P (.tup ((a4t t).map Ty.pv)))
theorem b5u{C:Cx}(fn:∃a,FnAt C "parts_of_types" a (i9 10))(k:Nat):d7 C (k+1) "parts_of_types" TPT:=by
  refine d7.wp (names:=["told"]) [] trivial fn (plain1 rfl fun O O O O=>rfl) rfl (fun ds P h=>h.rec fun O e O=>e▸rfl) fun F O O o hl ds P h=>?_
  obtain ⟨t,rfl,hP⟩:=h
  cases t <;> exact Stop.on rfl hP
inductive G3(x:PV)(ds:List PV)(P:PV→Prop):Prop
  |mk (e:ds=[Ty.bool.pv,x]) (k:P Ty.bool.pv)
theorem b3y{C:Cx}(fn:∃a,FnAt C "rebuilt_types" a (i9 12))(k:Nat):d7 C (k+1) "rebuilt_types" (G3 (.lst [])):=by
  refine d7.wp (names:=["told","parts"]) [] trivial fn (plain2 rfl fun O O O O O=>rfl) rfl (fun ds P h=>h.rec fun e O=>e▸rfl) fun F O O o hl ds P h=>?_
  obtain ⟨rfl,hP⟩:=h
  exact Stop.on rfl hP
theorem b7l{C:Cx}(fn:∃a,FnAt C "substituted" a (i9 14))(k:Nat)(hP:d7 C k "parts_of_types" TPT)(hR:d7 C k "rebuilt_types" (G3 (.lst []))):d7 C (k+1) "substituted" (G3 .any):=by
  refine d7.wp (names:=["told","table"]) [("parts_of_types",TPT),("rebuilt_types",G3 (.lst []))] ⟨hP,hR,trivial⟩ fn (plain2 rfl fun O O O O O=>rfl) rfl (fun ds P h=>h.rec fun e O=>e▸rfl) fun F O O o hl ds P h=>?_
  obtain ⟨rfl,hPP⟩:=h
  exact Stop.on rfl (Ev.F4 (o.kx _ hl) [("table",.val .any)] (c6.of ["table"] ⟨⟨rfl,rfl,rfl,o.cap rfl⟩,trivial⟩ (by decide) (by decide)) Ty.pv [] Ty.pv (Stop.on rfl ⟨.bool,rfl,Stop.on rfl rfl⟩) (Nat.zero_le _) (fun d a h=>nomatch h) (Stop.on rfl ⟨rfl,Stop.on rfl hPP⟩))
theorem b2y{C:Cx}(fn:∃a,FnAt C "with_regions" a (i9 15))(k:Nat)(hP:d7 C k "parts_of_types" TPT)(hR:d7 C k "rebuilt_types" (G3 (.lst []))):d7 C (k+1) "with_regions" (G3 .any):=by
  refine d7.wp (names:=["told","change"]) [("parts_of_types",TPT),("rebuilt_types",G3 (.lst []))] ⟨hP,hR,trivial⟩ fn (plain2 rfl fun O O O O O=>rfl) rfl (fun ds P h=>h.rec fun e O=>e▸rfl) fun F O O o hl ds P h=>?_
  obtain ⟨rfl,hPP⟩:=h
  exact Stop.on rfl (Ev.F4 (o.kx _ hl) [("change",.val .any)] (c6.of ["change"] ⟨⟨rfl,rfl,rfl,o.cap rfl⟩,trivial⟩ (by decide) (by decide)) Ty.pv [] Ty.pv (Stop.on rfl ⟨.bool,rfl,Stop.on rfl rfl⟩) (Nat.zero_le _) (fun d a h=>nomatch h) (Stop.on rfl ⟨rfl,Stop.on rfl hPP⟩))
noncomputable def c3l:Int→List PV:=fun i=>if i=1 then [.tup [.str "0",Ty.bool.pv]] else []
inductive a3o(W:PV)(ds:List PV)(P:PV→Prop):Prop
  |mk (i:Int) (h:i=0∨i=1) (e:ds=[Ty.enum.pv,.int i,W]) (k:P (.lst (c3l i)))
theorem c2t{C:Cx}{W:PV}{ad ae an:Addr}(w:a5h C W ad ae an)(fn:∃a,FnAt C "field_rows" a (i9 17))(k:Nat):d7 C (k+1) "field_rows" (a3o W):=by
  refine d7.wp (names:=["told","variant","world"]) [] trivial fn (a2l rfl fun O O O O O O=>rfl) rfl (fun ds P h=>h.rec fun O O e O=>e▸rfl) fun F hC O o hl ds P h=>?_
  clear fn;obtain ⟨i,hi,rfl,hP⟩:=h
  subst hC
  obtain ⟨⟨wd,rfl,w1⟩,w2,w3,w4,w5,w6,w7,w8⟩:=w
  rcases hi with rfl|rfl
  all_goals exact Stop.on rfl (Ev.item (F7.of (Ev.attrS (o.kx _ hl) w5 (Stop.on rfl (Ev.a5f (Ev.attrS (o.kx _ hl) w1 (Stop.on rfl rfl) (Ev.wp (o.kx _ hl) (Stop.on rfl ⟨_,_,_,rfl,rfl,w2,G4.mk rfl rfl⟩))))) (Ev.wp (o.kx _ hl) (Stop.on rfl (G4.mk rfl (Stop.on rfl hP)))))))
theorem b5x{C:Cx}{W:PV}{ad ae an:Addr}(w:a5h C W ad ae an)(fn:∃a,FnAt C "fields_of" a (i9 18)){c P:Addr}(tab:b9u C c P)(hcd:∀a o fd,C.mg "fields_of"=some (.ref a)→C.g.get? a=some o→o.data= .func fd→fd.code= .ref c)(k:Nat)
    (hR:d7 C k "field_rows" (a3o W)) (hS:d7 C k "substituted" (G3 .any)) (hW:d7 C k "with_regions" (G3 .any)):d7 C (k+1) "fields_of" (a3o W):=by
  obtain ⟨fa,fn⟩:=fn
  obtain ⟨fo,fd,f1,fi,fe,_⟩:=fn.in_ (.inl (a2l rfl fun O O O O O O=>rfl)) (rfl:a5s (i9 18) ["told","variant","world"]=true)
  refine d7.c5s f1 fi (fun ds P h=>h.rec fun O O e O=>e▸rfl) fun F hC hk o f4 ds P h=>?_
  replace o:Of F (r7 (i9 18)):=fe▸o
  have f2:=fi.ho
  have f3:=fi.hdat
  clear fn fi;obtain ⟨i,hi,rfl,hP⟩:=h
  subst hC
  have hcode:=f4.trans (hcd _ _ _ f1 f2 f3)
  obtain ⟨⟨wd,rfl,w1⟩,w2,w3,w4,w5,w6,w7,w8⟩:=w
  have hl:C9 F [("field_rows",a3o (.z8 (.ref wd))),("substituted",G3 .any),("with_regions",G3 .any)]:=by subst hk;exact ⟨hR,hS,hW,trivial⟩
  refine A0.wp (o.kx _ hl) (Stop.on rfl (Ev.a5f (Ev.attrS (o.kx _ hl) w1 (Stop.on rfl rfl) (Ev.wp (o.kx _ hl) (Stop.on rfl ⟨_,_,_,rfl,rfl,w2,G4.mk rfl (Stop.on rfl ?_)⟩)))))
  refine Ev.b6x (Ev.attrS (o.kx _ hl) w7 (Stop.on rfl rfl) (Ev.wp (o.kx _ hl) (Stop.on rfl ⟨_,_,rfl,rfl,rfl,Stop.on rfl ?_⟩))) (o.kind rfl) (o.kind rfl)
  refine Ev.b6x (Ev.attrS (o.kx _ hl) w8 (Stop.on rfl rfl) (Ev.wp (o.kx _ hl) (Stop.on rfl ⟨_,_,rfl,rfl,rfl,Stop.on rfl ?_⟩))) (o.kind rfl) (o.kind rfl)
  refine Ex.nested tab hcode (fun y hy=>?_) (o.I7 rfl) (Stop.on rfl ?_)
  · have h1:=(show∀x∈[(("region":Str),NameKind.local),("regions",NameKind.free)],x.2=NameKind.free→x.1∈[("regions":Str)] by decide) _ hy rfl
    rw [List.mem_singleton] at h1
    clear hy;subst h1
    obtain ⟨c,e,_⟩:=o.cells "regions" rfl
    exact ⟨c,e⟩
  refine Ev.M8 (F0.b8e (ρc:=[("put_in",.val .any),("types",.val .any)]) (c6.of ["put_in","types"] ⟨⟨rfl,rfl,rfl,o.cap rfl⟩,⟨rfl,rfl,rfl,o.cap rfl⟩,trivial⟩ (by decide) (by decide)) (c3u.seq (Ev.wp (o.kx _ hl) (Stop.on rfl ⟨i,hi,rfl,?_⟩))) rfl rfl)
  rcases hi with rfl|rfl
  · exact ⟨[],.inl rfl,Nat.zero_le _,fun d=>Stop.on rfl hP⟩
  · exact ⟨[(.str "0",Ty.bool.pv)],.inl rfl,by decide,fun d=>A9.nil (Br.t rfl (Ev.wp ((o.kx _ hl).comp d) (Stop.on rfl ⟨rfl,Stop.on rfl ⟨rfl,Stop.on rfl (Stop.on rfl hP)⟩⟩)))⟩
theorem b6r{C:Cx}{W:PV}(fn:∃a,FnAt C "parts_of_usefulness" a (i9 27))(k:Nat)(hF:d7 C k "fields_of" (a3o W)):d7 C (k+1) "parts_of_usefulness" (C8 W):=by
  refine d7.wp (names:=["t","constructor","world"]) [("fields_of",a3o W)] ⟨hF,trivial⟩ fn (a2l rfl fun O O O O O O=>rfl) rfl (fun ds P h=>h.rec fun O O e O O=>e▸rfl) fun F O O o hl ds P h=>?_
  obtain ⟨t,c,rfl,hc,hP⟩:=h
  cases hc.inv
  case M6=>exact Stop.on rfl (Ev.F4 (o.kx _ hl) [] (H7 rfl) (fun _:Unit=>PV.tup [.str "0",Ty.bool.pv]) [] (fun O=>Ty.bool.pv) (Stop.on rfl ⟨0,.inl rfl,rfl,Stop.on rfl rfl⟩) (Nat.zero_le _) (fun d a h=>nomatch h) (Stop.on rfl hP))
  case M4=>exact Stop.on rfl (Ev.F4 (o.kx _ hl) [] (H7 rfl) (fun _:Unit=>PV.tup [.str "0",Ty.bool.pv]) [()] (fun O=>Ty.bool.pv) (Stop.on rfl ⟨1,.inr rfl,rfl,Stop.on rfl rfl⟩) (by decide) (fun d a O=>Stop.on rfl rfl) (Stop.on rfl hP))
  all_goals exact Stop.on rfl hP
inductive c2k(ds:List PV)(P:PV→Prop):Prop
  |mk (t:Ty) (e:ds=[t.pv,.int 300]) (k:P (.bool false))
theorem b3f(t:Ty):B7 (a4t t)+1≤L7 t:=by cases t <;> decide
theorem b5v(t:Ty):(a4t t).length≤2:=by cases t <;> decide
theorem b4r(t:Ty):B7 [t]<5:=by cases t <;> decide
noncomputable def c8a(s:List Ty×Nat):b9:=[("left",.own (.lst (s.1.map Ty.pv))),("many",.val (.int s.2)),("most",.val (.int 300))]
theorem b4b(l:List Ty)(t:Ty):(!((l++[t]).map Ty.pv).isEmpty)=true:=by cases l <;> rfl
theorem b1r(l:List Ty)(t:Ty):(l++[t]).map Ty.pv=l.map Ty.pv++[t.pv]:=List.map_append
theorem c2b{C:Cx}(fn:∃a,FnAt C "has_more_parts" a (i9 16))(k:Nat)(hP:d7 C k "parts_of_types" TPT):d7 C (k+1) "has_more_parts" c2k:=by
  refine d7.wp (names:=["told","most"]) [("parts_of_types",TPT)] ⟨hP,trivial⟩ fn (plain2 rfl fun O O O O O=>rfl) rfl (fun ds P h=>h.rec fun O e O=>e▸rfl) fun F O O o hl ds P h=>?_
  obtain ⟨t,rfl,hPP⟩:=h
  refine Stop.on rfl (Ex.assign2 (I9.own (F0.display (E7.cons (Ev.wp (o.kx _ hl) (Stop.on rfl (E7.nil ⟨E1 (Nat.le_of_ble_eq_true rfl),I9.val (Ev.wp (o.kx _ hl) (Stop.on rfl ⟨fun f=>f.elim,fun O=>rfl,Stop.on rfl ?_⟩))⟩)))))) (o.loc rfl) (o.loc rfl) (by decide) (hw:= .inl (a1x (o.kind rfl) (o.kind rfl) (by decide) rfl rfl rfl rfl)))
  refine A0.a7x (o.kx _ hl) c8a (fun n s=>B7 s.1<n∧s.2+n≤300) 5 ([t],0) ⟨b4r t,Nat.le_of_ble_eq_true rfl⟩ rfl fun n s h=>?_
  obtain ⟨l,c⟩:=s
  obtain ⟨h,hc⟩:=h
  dsimp only at h hc
  cases n with
  |zero=>exact absurd h (Nat.not_lt_zero _)
  |succ n=>
  refine ⟨n,rfl,?_⟩
  rcases List.eq_nil_or_concat l with rfl|⟨l',t',rfl⟩
  · exact Stop.on rfl hPP
  rw [List.concat_eq_append] at h ⊢
  rw [a0v] at h
  have hp:=b3f t'
  have hq:=b5v t'
  have hll:=a0k l'
  have h2:B7 [t']=L7 t':=Nat.add_zero _
  refine Stop.both rfl (fun O=>?_) fun e=>absurd e (by refine b8 (b4b ..) ?_;nofun)
  refine Stop.both rfl (fun e=>absurd (of_decide_eq_true e) (by lia)) fun O=>?_
  refine Stop.on rfl (Ex.c1j (l₀:=l'.map Ty.pv++[t'.pv]) (by exact congrArg (fun x=>some (Ent.own (PV.lst x))) (b1r l' t')) (EvJ.call _ (hl.1) (Nat.le_refl _) (EvJ.pop (l:=l'.map Ty.pv) (d:=t'.pv) (by exact congrArg (fun x=>some (Ent.own (PV.lst x))) (b1r l' t')) (by refine b8 (List.length_map ..) ?_;exact d1d (by lia)) ⟨t',rfl,l'.map Ty.pv,(a4t t').map Ty.pv,rfl,.inr rfl,?_,Stop.on rfl ?_⟩) (o.kind rfl)))
  · refine b8 (List.length_map ..) (b8 (List.length_map ..) ?_);exact E1 (by lia)
  · exact ⟨(l'++a4t t',c+1),⟨by refine b8 (a0v ..) ?_;lia,by lia⟩,J2.cons (by refine C5 (List.map_append ..) ?_;rfl) rfl⟩
inductive a9x(src:Addr)(ds:List PV)(P:PV→Prop):Prop
  |mk (top:Int) (e:ds=[.z8 (.ref src),.int top]) (h1:1≤top) (h2:top≤1000) (k:∀f:Int,0≤f→f<top→P (.int f))
theorem a6d{a:Int}(h0:0≤a)(h1:a<2147483647):Builtin.Int.intBits a≤64:=intBits_le_iff.mpr (by lia)
theorem c3w{C:Cx}{src:Addr}(ok:a8x C src)(fn:∃a,FnAt C "_law_take" a (i9 47))(k:Nat):d7 C (k+1) "_law_take" (a9x src):=by
  refine d7.wp (names:=["source","top"]) [] trivial fn (plain2 rfl fun O O O O O=>rfl) rfl (fun ds P h=>h.rec fun O e O O O=>e▸rfl) fun F hC O o hl ds P h=>?_
  obtain ⟨top,rfl,h1,h2,hP⟩:=h
  subst hC
  have ht:top≠0:=by lia
  have hb:∀a,P (.int (Int.fmod a top)):=fun a=>hP _ (Int.fmod_nonneg_of_pos _ (by assumption)) (Int.fmod_lt_of_pos _ (by assumption))
  refine Stop.on rfl (Ev.c7x ok (Ev.wp (o.kx _ hl) (Stop.on rfl ⟨rfl,fun a=>Stop.both rfl (fun O=>?_) fun O=>?_⟩)))
  · refine Stop.on rfl (Ev.c7x ok (Ev.wp (o.kx _ hl) (Stop.on rfl ⟨rfl,fun a=>Stop.on rfl ⟨_,I5.c2f _ _ ht,Stop.on rfl ?_⟩⟩)))
    exact Ex.c2o ok rfl (Ev.wp (o.kx _ hl) (Stop.on rfl (Ev.c7x ok (Ev.wp (o.kx _ hl) (Stop.on rfl ⟨rfl,fun a'=>Stop.on rfl ⟨_,I5.c7v _ _ ht (by lia),Stop.on rfl ⟨_,rfl,Stop.on rfl (hb _)⟩⟩⟩)))))
  · refine Stop.on rfl (Ex.c1m ok rfl (Ev.wp (o.kx _ hl) (Stop.on rfl (Ev.c9f ok (Ev.wp (o.kx _ hl) (Stop.on rfl ⟨rfl,fun b hb0 hb1=>Stop.on rfl ⟨_,I5.c6u _ _ (IntMulOk.of_left (a6d hb0 hb1)),Stop.on rfl ⟨_,I5.c2f _ _ (by decide),Stop.on rfl ⟨_,rfl,Int.fmod_nonneg_of_pos _ (by decide),Int.fmod_lt_of_pos _ (by decide),Stop.on rfl ?_⟩⟩⟩⟩))))))
    exact Ev.c9f ok (Ev.wp (o.kx _ hl) (Stop.on rfl ⟨rfl,fun b hb0 hb1=>Stop.on rfl (Ev.c9f ok (Ev.wp (o.kx _ hl) (Stop.on rfl ⟨rfl,fun b' O O=>Stop.on rfl ⟨_,I5.c6u _ _ (IntMulOk.of_left (a6d hb0 hb1)),Stop.on rfl ⟨_,I5.c2f _ _ (by decide),Stop.on rfl ⟨_,I5.c7v _ _ (by decide) (by decide),Stop.on rfl ⟨_,I5.c2f _ _ ht,Stop.on rfl (hb _)⟩⟩⟩⟩⟩)))⟩))
inductive b9s(src:Addr)(ds:List PV)(P:PV→Prop):Prop
  |mk (l:List PV) (e:ds=[.z8 (.ref src),.lst l]) (h1:1≤l.length) (h2:l.length≤1000) (k:∀d∈l,P d)
theorem c4r{C:Cx}{src:Addr}(fn:∃a,FnAt C "_law_one" a (i9 48))(k:Nat)(hT:d7 C k "_law_take" (a9x src)):d7 C (k+1) "_law_one" (b9s src):=by
  refine d7.wp (names:=["source","things"]) [("_law_take",a9x src)] ⟨hT,trivial⟩ fn (plain2 rfl fun O O O O O=>rfl) rfl (fun ds P h=>h.rec fun O e O O O=>e▸rfl) fun F O O o hl ds P h=>?_
  obtain ⟨l,rfl,h1,h2,hP⟩:=h
  refine Stop.le rfl (show l.length≤sizeLine from E1 (by exact Nat.le_trans (by assumption) (Nat.le_of_ble_eq_true rfl))) (Stop.on rfl ⟨l.length,rfl,by lia,by lia,fun f h0 hf=>?_⟩)
  obtain ⟨n,rfl⟩:=Int.eq_ofNat_of_zero_le h0
  have hn:n<l.length:=by lia
  refine Stop.opt rfl (y:=l[n]) ?_ (Stop.on rfl (hP _ (List.getElem_mem hn)))
  show c4k l n=_
  unfold c4k
  exact b8 (if_pos (by lia) ..) (b8 (List.getElem?_eq_getElem hn ..) rfl)
inductive Va where
  |b (b:Bool)
  |n (i:Int)
  |pr (a b:Bool)
  |e0
  |e1 (b:Bool)
  |r (b:Bool)
  |u
noncomputable def Va.pv:Va→PV
  | .b x=> .bool x
  | .n i=> .int i
  | .pr x y=> .tup [.bool x,.bool y]
  | .e0=> .tup [.int 0,.tup []]
  | .e1 x=> .tup [.int 1,.tup [.bool x]]
  | .r x=> .tup [.bool x]
  | .u=> .tup []
inductive J9:Ty→Va→Prop
  |b (x:Bool):J9 .bool (.b x)
  |n (i:Int):J9 .byte (.n i)
  |pr (x y:Bool):J9 .pair (.pr x y)
  |e0:J9 .enum .e0
  |e1 (x:Bool):J9 .enum (.e1 x)
  |r (x:Bool):J9 .led (.r x)
  |u:J9 .never .u
noncomputable def Va.onB(f:Bool→Bool):Va→Bool
  | .b x=>f x
  |_=>false
noncomputable def Va.onN(f:Int→Bool):Va→Bool
  | .n x=>f x
  |_=>false
noncomputable def Va.is0:Va→Bool
  | .e0=>true
  |_=>false
noncomputable def Va.on1(f:Bool→Bool):Va→Bool
  | .e1 x=>f x
  |_=>false
noncomputable def Va.onP(f:Bool→Bool→Bool):Va→Bool
  | .pr x y=>f x y
  |_=>false
noncomputable def Va.onR(f:Bool→Bool):Va→Bool
  | .r x=>f x
  |_=>false
noncomputable def comes:c7→Va→Bool
  | .i7 _,_=>true
  | .b0 _ _,_=>true
  | .bp _ _ p,v=>comes p v
  | .or _ p q,v=>comes p v||comes q v
  | .cb b,v=>v.onB (b== ·)
  | .ci i,v=>v.onN (i== ·)
  | .rg lo hi,v=>v.onN fun j=>decide (lo≤j)&&decide (j≤hi)
  | .v0,v=>v.is0
  | .v1 p,v=>v.on1 fun b=>comes p (.b b)
  | .pr p q,v=>v.onP fun a b=>comes p (.b a)&&comes q (.b b)
  | .df p,v=>v.onR fun b=>comes p (.b b)
noncomputable def pd:c7→Nat
  | .bp _ _ p=>pd p+1
  | .or _ p q=>max (pd p) (pd q)+1
  | .pr p q=>max (pd p) (pd q)+1
  | .v1 p=>pd p+1
  | .df p=>pd p+1
  | .i7 _=>1
  | .cb _=>1
  | .ci _=>1
  | .rg _ _=>1
  | .v0=>1
  | .b0 _ _=>1
noncomputable def c9:List c7→List Va→Bool
  |p::ps,v::vs=>comes p v&&c9 ps vs
  |_,_=>true
inductive a3y(n:Nat)(ds:List PV)(P:PV→Prop):Prop
  |mk (t:Ty) (p:c7) (v:Va) (e:ds=[p.pv,v.pv]) (h1:B8 t p) (h2:J9 t v) (h3:pd p≤n) (k:P (.bool (comes p v)))
inductive a9p(n:Nat)(ds:List PV)(P:PV→Prop):Prop
  |mk (ts:List Ty) (ps:List c7) (vs:List Va) (e:ds=[.tup (ps.map c7.pv),.tup (vs.map Va.pv)]) (h1:r9 ts ps) (h2:A1 J9 ts vs) (h3:ts.length≤100) (h4:∀p∈ps,pd p≤n) (k:P (.bool (c9 ps vs)))
theorem b3a(bs:List Bool):G8 (.lst (bs.map PV.bool))=true:=by
  unfold G8
  have h1:∀bs:List Bool,E3 (bs.map PV.bool)=true:=fun bs=>by
    induction bs with
    |nil=>rfl
    |cons b bs ih=>exact ih
  have h2:∀bs:List Bool,PyData.depthAll (toPys (bs.map PV.bool))≤1:=fun bs=>by
    induction bs with
    |nil=>decide
    |cons b bs ih=>exact Nat.max_le.mpr ⟨Nat.le_of_ble_eq_true rfl,ih⟩
  refine b8 (Bool.and_eq_true ..) ?_
  refine ⟨h1 bs,decide_eq_true ?_⟩
  have:=h2 bs
  exact Nat.lt_of_le_of_lt this (Nat.le_of_ble_eq_true rfl)
theorem c6d(x:Bool):∀bs:List Bool,((toPys (bs.map PV.bool)).any fun y=>PyData.eqv y (.bool x))=bs.any (· ==x):=by
  intro LL
  induction LL with
  | nil=>
    exact rfl
  | cons b bs ih=>
    show (PyData.eqv (.bool b) (.bool x)||(toPys (bs.map PV.bool)).any fun y=>PyData.eqv y (.bool x))=(b==x||bs.any (· ==x))
    refine b8 (ih ..) ?_;cases b <;> cases x <;> rfl
theorem a6p(x:Bool)(bs:List Bool):N3 (.bool x) (.lst (bs.map PV.bool))=some (bs.any (· ==x)):=by
  show (if G8 (.bool x)&&G8 (.lst (bs.map PV.bool)) then some ((toPys (bs.map PV.bool)).any fun y=>PyData.eqv y (.bool x)) else none)=_
  refine b8 (b3a ..) (b8 (c6d ..) ?_);rfl
theorem Co2.list{F:Fm}{ρc:b9}{α β:Type}{x y:Str}{ifs:List Expr}{elt:Expr}{PL:List PV→Prop}(ea:α→PV)(eb:β→PV)(g:α→β→PV):∀(l:List α) (m:List β) (out:List PV),
    (∀z∈l.zip m,∀(K:PV→Prop) (K':Prop),K (g z.1 z.2)→A9 F ((y,.val (eb z.2))::(x,.val (ea z.1))::ρc) (fun b=>Br b (Ev F ((y,.val (eb z.2))::(x,.val (ea z.1))::ρc) elt K) K') ifs)→
    PL (out++List.zipWith g l m)→Co2 F ρc x y ifs elt PL ((l.map ea).zip (m.map eb)) out:=by
  intro LL1
  induction LL1 with
  | nil=>
    rintro m out _ h
    exact (List.append_nil out▸h:PL out)
  | cons a l ih=>
    intro LL2
    cases LL2 with
    | nil=>
      rintro out _ h
      exact (List.append_nil out▸h:PL out)
    | cons b m=>
      rintro out hs h
      refine hs (a,b) (.head _) _ _ ?_
      refine ih m _ (fun z hz=>hs z (.tail _ hz)) ?_
      rw [List.append_assoc];exact h
theorem b0f:∀(ps:List c7) (vs:List Va),(!((List.zipWith comes ps vs).any (· ==false)))=c9 ps vs:=by
  intro LL1
  induction LL1 with
  | nil=>
    rintro vs
    cases vs <;> rfl
  | cons p ps ih=>
    intro LL2
    cases LL2 with
    | nil=>
      exact rfl
    | cons v vs=>
      have:=ih vs
      show (!((comes p v==false)||(List.zipWith comes ps vs).any (· ==false)))=(comes p v&&c9 ps vs)
      rw [← this];cases comes p v <;> rfl
inductive c7t(z:c7×Va):Prop
  |mk (t:Ty) (h:B8 t z.1) (h1:J9 t z.2)
theorem b3q:∀ {ts:List Ty} {ps:List c7} {vs:List Va},r9 ts ps→A1 J9 ts vs→∀z∈ps.zip vs,c7t z:=by
  intro LL
  induction LL with
  | nil=>
    rintro _ _ h _ z hz
    cases h.nil_inv;exact nomatch hz
  | cons t ts ih=>
    rintro _ _ h1 h2 z hz
    obtain ⟨p,ps,a,k1⟩:=h1.inv
    obtain ⟨v,vs,b,k2⟩:=h2.inv
    rcases List.mem_cons.mp hz with rfl|hz
    · exact ⟨t,a,b⟩
    · exact ih k1 k2 z hz
theorem c1a{C:Cx}(fn:∃a,FnAt C "_law_all_come" a (i9 58))(k n:Nat)(hC:d7 C k "_law_comes" (a3y n)):d7 C (k+1) "_law_all_come" (a9p n):=by
  refine d7.wp (names:=["patterns","values"]) [("_law_comes",a3y n)] ⟨hC,trivial⟩ fn (plain2 rfl fun O O O O O=>rfl) rfl (fun ds P h=>h.rec fun O O O e O O O O O=>e▸rfl) fun F O O o hl ds P h=>?_
  obtain ⟨ts,ps,vs,rfl,h1,h2,h3,h4,hP⟩:=h
  have hl1:=h1.len
  have hl2:=h2.len
  refine Stop.on rfl (Ev.M8 (F0.b8e (ρc:=[]) (H7 rfl) (c3u.zip (Ev.wp (o.kx _ hl) (Stop.on rfl (Ev.wp (o.kx _ hl) (Stop.on rfl ⟨ps.map c7.pv,vs.map Va.pv,rfl,rfl,by rw [List.length_map,List.length_map,hl1,hl2],by rw [List.length_zip,List.length_map,List.length_map];exact E1 (by lia),fun d=>Co2.list c7.pv Va.pv (fun p v=> .bool (comes p v)) ps vs [] (fun z hz K K' hK=>?_) ?_⟩)))) (o.kind rfl)) rfl rfl))
  · obtain ⟨t,ht,hv⟩:=b3q h1 h2 z hz
    exact A9.nil (Br.t rfl (Ev.wp ((o.kx _ hl).comp d) (Stop.on rfl ⟨t,z.1,z.2,rfl,ht,hv,h4 _ (List.of_mem_zip hz).1,Stop.on rfl hK⟩)))
  · have e:([]:List PV)++List.zipWith (fun p v=>PV.bool (comes p v)) ps vs=(List.zipWith comes ps vs).map PV.bool:=by rw [List.nil_append,List.map_zipWith]
    rw [e]
    refine Stop.opt rfl (y:=!((List.zipWith comes ps vs).any (· ==false))) ?_ (Stop.on rfl (by rw [b0f];exact hP))
    show (N3 _ _).map not=_
    rw [a6p];rfl
theorem c9s{t:Ty}{u:Ty}{q r:c7}(h:B8 t (.or u q r)):∀p∈[q,r],B8 t p:=fun p hp=>
  (List.mem_cons.mp hp).elim (fun e=>e▸h.1) fun hp=>List.mem_singleton.mp hp▸h.2
theorem c0v{n:Nat}{q r:c7}(h:max (pd q) (pd r)+1≤n+1):∀p∈[q,r],pd p≤n:=fun p hp=>
  (List.mem_cons.mp hp).elim (fun e=>e▸(Nat.max_le.mp (Nat.le_of_succ_le_succ h)).1) fun hp=>List.mem_singleton.mp hp▸(Nat.max_le.mp (Nat.le_of_succ_le_succ h)).2
theorem c4p(p:c7):¬pd p≤0:=by cases p <;> exact Nat.not_succ_le_zero _
theorem b9x(u:Ty)(q r:c7)(v:Va):[comes q v,comes r v].any (· ==true)=comes (.or u q r) v:=by show (comes q v==true||(comes r v==true||false))=(comes q v||comes r v);cases comes q v <;> cases comes r v <;> rfl
theorem b4y(q:c7)(v:Va):c9 [q] [v]=comes q v:=Bool.and_true _
theorem a9f(q r:c7)(v w:Va):c9 [q,r] [v,w]=(comes q v&&comes r w):=congrArg _ (Bool.and_true _)
set_option tactic.hygienic true in
theorem b7t{C:Cx}(fn:∃a,FnAt C "_law_comes" a (i9 57))(k n:Nat)(hC:d7 C k "_law_comes" (a3y n))(hA:d7 C k "_law_all_come" (a9p n)):d7 C (k+1) "_law_comes" (a3y (n+1)):=by
  refine d7.wp (names:=["pattern","value"]) [("_law_comes",a3y n),("_law_all_come",a9p n)] ⟨hC,hA,trivial⟩ fn (plain2 rfl fun O O O O O=>rfl) rfl (fun ds P h=>h.rec fun O O O e O O O O=>e▸rfl) fun F O O o hl ds P h=>?_
  obtain ⟨t,p,v,rfl,ht,hv,hd,hP⟩:=h
  cases p
  case i7 u=>exact Stop.on rfl hP
  case b0 u m=>exact Stop.on rfl hP
  case bp u m q=>exact Stop.opt rfl (a8i q) (Stop.on rfl ⟨t,q,v,rfl,ht,hv,Nat.le_of_succ_le_succ hd,Stop.on rfl hP⟩)
  case or u q r=>
    refine Stop.on rfl (Ev.F4 (o.kx _ hl) [("value",.val v.pv)] (c6.of ["value"] ⟨⟨rfl,rfl,rfl,o.cap rfl⟩,trivial⟩ (by decide) (by decide)) c7.pv [q,r] (fun p=> .bool (comes p v)) (Stop.on rfl rfl) (E1 (Nat.le_of_ble_eq_true rfl)) (fun d x hx=>Stop.on rfl ⟨t,x,v,rfl,c9s ht x hx,hv,c0v hd x hx,Stop.on rfl rfl⟩) ?_)
    have e2:(some _:Option Bool)=some ([comes q v,comes r v].any (· ==true)):=a6p true [comes q v,comes r v]
    rw [← b9x u,← Option.some.inj e2] at hP
    exact Stop.on rfl hP
  case cb b=>cases ht;cases hv;exact Stop.on rfl hP
  case ci i=>cases ht.1;cases hv;exact Stop.on rfl hP
  case rg lo hi=>
    cases ht.1
    cases hv with
    | n j=>
      have hP:P (.bool (decide (lo≤j)&&decide (j≤hi))):=hP
      refine Stop.both rfl (fun h=>?_) fun h=>?_
      · rw [h] at hP;exact Stop.on rfl hP
      · rw [h] at hP;exact Stop.on rfl hP
  case pr q r=>
    cases ht.1
    cases hv with
    |pr a b=>exact Stop.on rfl ⟨[.bool,.bool],[q,r],[.b a,.b b],rfl,⟨ht.2.1,ht.2.2,trivial⟩,⟨.b a,.b b,trivial⟩,by decide,c0v hd,Stop.on rfl (by refine b8 (a9f ..) ?_;exact hP)⟩
  case v0=>
    cases ht
    cases hv with
    |e0=>exact Stop.on rfl ⟨[],[],[],rfl,trivial,trivial,by decide,nofun,Stop.on rfl hP⟩
    |e1 x=>exact Stop.on rfl hP
  case v1 q=>
    cases ht.1
    cases hv with
    |e0=>exact Stop.on rfl hP
    |e1 b=>exact Stop.on rfl ⟨[.bool],[q],[.b b],rfl,⟨ht.2,trivial⟩,⟨.b b,trivial⟩,by decide,fun x hx=>List.mem_singleton.mp hx▸Nat.le_of_succ_le_succ hd,Stop.on rfl (by refine b8 (b4y ..) ?_;exact hP)⟩
  case df q=>
    cases ht.1
    cases hv with
    |r b=>exact Stop.on rfl ⟨[.bool],[q],[.b b],rfl,⟨ht.2,trivial⟩,⟨.b b,trivial⟩,by decide,fun x hx=>List.mem_singleton.mp hx▸Nat.le_of_succ_le_succ hd,Stop.on rfl (by refine b8 (b4y ..) ?_;exact hP)⟩
theorem a3z{C:Cx}(fn:∃a,FnAt C "_law_comes" a (i9 57))(fa:∃a,FnAt C "_law_all_come" a (i9 58))(k:Nat):∀n,d7 C (k+2*n+1) "_law_comes" (a3y n):=by
  intro LL1
  induction LL1 with
  | zero=>
    exact d7.wp (names:=["pattern","value"]) [] trivial fn (plain2 rfl fun O O O O O=>rfl) rfl (fun ds P h=>h.rec fun O O O e O O O O=>e▸rfl) fun F O O o hl ds P h=>h.rec fun O p O O O O hd O=>absurd hd (c4p p)
  | succ n ih=>
    exact b7t fn (k+2*n+2) n ((ih).mono (by lia)) ((c1a fa (k+2*n+1) n (ih)).mono (by exact Nat.lt_succ_self _))
theorem b2m{C:Cx}(fn:∃a,FnAt C "_law_comes" a (i9 57))(fa:∃a,FnAt C "_law_all_come" a (i9 58))(k n:Nat):d7 C (k+2*n+2) "_law_all_come" (a9p n):=c1a fa (k+2*n+1) n (a3z fn fa k n)
noncomputable def low:c7→Prop
  | .ci i=>0≤i∧i≤6
  | .rg lo hi=>0≤lo∧lo≤hi∧hi≤6
  | .pr p q=>low p∧low q
  | .v1 p=>low p
  | .df p=>low p
  | .bp _ _ p=>low p
  | .or _ p q=>low p∧low q
  | .i7 _=>True
  | .cb _=>True
  | .v0=>True
  | .b0 _ _=>True
noncomputable def lv:Ty→Nat
  | .pair=>4
  | .enum=>2
  | .led=>2
  | .bool=>1
  | .byte=>1
  | .none=>1
  | .never=>1
noncomputable def l9:Ty→List Va
  | .bool=>[.b false,.b true]
  | .byte=>[.n 0,.n 1,.n 2,.n 3,.n 4,.n 5,.n 6,.n 7]
  | .pair=>[.pr false false,.pr false true,.pr true false,.pr true true]
  | .enum=>[.e0,.e1 false,.e1 true]
  | .led=>[.r false,.r true]
  | .none=>[]
  | .never=>[]
inductive b0d(ds:List PV)(P:PV→Prop):Prop
  |mk (t:Ty) (e:ds=[t.pv]) (k:P (.lst ((l9 t).map Va.pv)))
structure Made(t:Ty)(n m:Nat)(p:c7):Prop where
  ty:B8 t p
  low:low p
  deep:pd p≤n
  lv:v7 p≤m
inductive b6m(src:Addr)(ds:List PV)(P:PV→Prop):Prop
  |mk (e:ds=[.z8 (.ref src)]) (k:∀p,Made .bool 2 2 p→P p.pv)
inductive b0w(src:Addr)(ds:List PV)(P:PV→Prop):Prop
  |mk (t:Ty) (e:ds=[.z8 (.ref src),t.pv]) (k:∀p,Pl t p→Made t 3 (lv t) p→P p.pv)
inductive d0d(src:Addr)(ds:List PV)(P:PV→Prop):Prop
  |mk (t:Ty) (e:ds=[.z8 (.ref src),t.pv]) (k:∀p,Made t 4 (2*lv t) p→P p.pv)
noncomputable def b3j:List c7:=[.i7 .bool,.cb false,.cb true,.b0 .bool 1,.bp .bool 2 (.cb true),.or .bool (.cb false) (.cb true),.or .bool (.cb true) (.i7 .bool)]
theorem b0h:∀p∈b3j,Made .bool 2 2 p:=by
  have k:∀ {p},B8 .bool p→low p→(decide (pd p≤2)&&decide (v7 p≤2))=true→Made .bool 2 2 p:=fun a b c=>⟨a,b,of_decide_eq_true (Bool.and_eq_true_iff.mp c).1,of_decide_eq_true (Bool.and_eq_true_iff.mp c).2⟩
  exact Ea.all (P:=Made .bool 2 2) (l:=b3j) ⟨k trivial trivial rfl,k rfl trivial rfl,k rfl trivial rfl,k trivial trivial rfl,k rfl trivial rfl,k ⟨rfl,rfl⟩ ⟨trivial,trivial⟩ rfl,k ⟨rfl,trivial⟩ ⟨trivial,trivial⟩ rfl,trivial⟩
theorem b8x{C:Cx}{src:Addr}(g1:K7 C "_law_bool" Ty.bool.pv)(fn:∃a,FnAt C "_law_truth" a (i9 59))(k:Nat)(hO:d7 C k "_law_one" (b9s src)):d7 C (k+1) "_law_truth" (b6m src):=by
  refine d7.wpG (names:=["source"]) [("_law_one",b9s src)] ⟨hO,trivial⟩ [("_law_bool",Ty.bool.pv)] ⟨g1,trivial⟩ fn (plain1 rfl fun O O O O=>rfl) rfl (fun ds P h=>h.rec fun e O=>e▸rfl) fun F hC O o hl hg ds P h=>?_
  clear g1 fn hO;obtain ⟨rfl,hP⟩:=h
  subst hC
  refine Stop.on rfl (Ex.assign2 (I9.val (Ev.wp ((o.kx _ hl).with _ hg) (Stop.on rfl (I9.val (Ev.wp ((o.kx _ hl).with _ hg) (Stop.on rfl ⟨fun f=>f.elim,fun f=>f.elim,Stop.on rfl ?_⟩)))))) (o.loc rfl) (o.loc rfl) (by decide) (hw:= .inl (a1x (o.kind rfl) (o.kind rfl) (by decide) rfl rfl rfl rfl)))
  exact ⟨b3j.map c7.pv,rfl,by decide,by decide,fun d hd=>(by
    obtain ⟨p,hp,rfl⟩:=List.mem_map.mp hd
    exact Stop.on rfl (hP p (b0h p hp)))⟩
theorem b7g{t:Ty}{p q:c7}(hp:Made t 3 (lv t) p)(hq:Made t 3 (lv t) q):∀r∈[p,p,.bp t 3 p,.or t p q],Made t 4 (2*lv t) r:=by
  obtain ⟨p1,p2,p3,p4⟩:=hp
  obtain ⟨q1,q2,q3,q4⟩:=hq
  have h1:Made t 4 (2*lv t) p:=⟨p1,p2,Nat.le_succ_of_le p3,Nat.le_trans p4 (Nat.le_mul_of_pos_left _ (by decide))⟩
  exact Ea.all (P:=Made t 4 (2*lv t)) (l:=[p,p,.bp t 3 p,.or t p q]) ⟨h1,h1,⟨p1,p2,Nat.succ_le_succ p3,h1.lv⟩,⟨⟨p1,q1⟩,⟨p2,q2⟩,Nat.succ_le_succ (Nat.max_le.mpr ⟨p3,q3⟩),Nat.le_trans (Nat.add_le_add p4 q4) (Nat.le_of_eq (Nat.two_mul _).symm)⟩,trivial⟩
theorem c4u{C:Cx}{src:Addr}(fn:∃a,FnAt C "_law_any" a (i9 61))(k:Nat)(hO:d7 C k "_law_one" (b9s src))(hP:d7 C k "_law_plain" (b0w src)):d7 C (k+1) "_law_any" (d0d src):=by
  refine d7.wp (names:=["source","told"]) [("_law_one",b9s src),("_law_plain",b0w src)] ⟨hO,hP,trivial⟩ fn (plain2 rfl fun O O O O O=>rfl) rfl (fun ds P h=>h.rec fun O e O=>e▸rfl) fun F O O o hl ds P h=>?_
  obtain ⟨t,rfl,hPP⟩:=h
  refine Stop.on rfl (Ex.assign2 (I9.val (Ev.wp (o.kx _ hl) (Stop.on rfl ⟨t,rfl,fun p O hp=>Stop.on rfl (I9.val (Ev.wp (o.kx _ hl) (Stop.on rfl ⟨t,rfl,fun q O hq=>Stop.on rfl ⟨fun f=>f.elim,fun f=>f.elim,Stop.on rfl ?_⟩⟩)))⟩))) (o.loc rfl) (o.loc rfl) (by decide) (hw:= .inl (a1x (o.kind rfl) (o.kind rfl) (by decide) rfl rfl rfl rfl)))
  exact ⟨[p,p,.bp t 3 p,.or t p q].map c7.pv,rfl,Nat.le_of_ble_eq_true rfl,Nat.le_of_ble_eq_true rfl,fun d hd=>(by
    obtain ⟨r,hr,rfl⟩:=List.mem_map.mp hd
    exact Stop.on rfl (hPP r (b7g hp hq r hr)))⟩
theorem b6o{lo w:Int}(h0:0≤lo)(hlo:lo<7)(hw0:0≤w)(hw:w<7 - lo):Made .byte 3 1 (.ci lo)∧Made .byte 3 1 (.rg lo (lo+w)):=by
  have h6:lo≤6:=Int.le_of_lt_add_one hlo
  have hs:lo+w≤6:=Int.le_of_lt_add_one (Int.add_comm w lo▸Int.add_lt_of_lt_sub_right hw)
  exact ⟨⟨⟨rfl,h0,Int.le_trans h6 (by decide)⟩,⟨h0,h6⟩,Nat.le_of_ble_eq_true rfl,Nat.le_refl 1⟩,
    ⟨⟨rfl,h0,Int.le_add_of_nonneg_right hw0,Int.le_trans hs (by decide)⟩,⟨h0,Int.le_add_of_nonneg_right hw0,hs⟩,Nat.le_of_ble_eq_true rfl,Nat.le_refl 1⟩⟩
theorem a7y{p q:c7}(hp:Made .bool 2 2 p)(hq:Made .bool 2 2 q):Made .pair 3 4 (.pr p q):=
  ⟨⟨rfl,hp.ty,hq.ty⟩,⟨hp.low,hq.low⟩,Nat.succ_le_succ (Nat.max_le.mpr ⟨hp.deep,hq.deep⟩),Nat.mul_le_mul hp.lv hq.lv⟩
theorem b8a{C:Cx}{src:Addr}(g1:K7 C "_law_bool" Ty.bool.pv)(g2:K7 C "_law_byte" Ty.byte.pv)(g3:K7 C "_law_pair" Ty.pair.pv)(g4:K7 C "_law_enum" Ty.enum.pv)(fn:∃a,FnAt C "_law_plain" a (i9 60))(k:Nat)
    (hO:d7 C k "_law_one" (b9s src)) (hT:d7 C k "_law_take" (a9x src)) (hV:d7 C k "_law_values" b0d) (hTr:d7 C k "_law_truth" (b6m src)):d7 C (k+1) "_law_plain" (b0w src):=by
  refine d7.wpG (names:=["source","told"]) [("_law_one",b9s src),("_law_take",a9x src),("_law_values",b0d),("_law_truth",b6m src)] ⟨hO,hT,hV,hTr,trivial⟩
    [("_law_bool",Ty.bool.pv),("_law_byte",Ty.byte.pv),("_law_pair",Ty.pair.pv),("_law_enum",Ty.enum.pv)] ⟨g1,g2,g3,g4,trivial⟩ fn (plain2 rfl fun O O O O O=>rfl) rfl (fun ds P h=>h.rec fun O e O=>e▸rfl) fun F O O o hl hg ds P h=>?_
  obtain ⟨t,rfl,hPP⟩:=h
  have hwild:P (.tup [.str "wild",t.pv]):=hPP (.i7 t) trivial ⟨trivial,trivial,Nat.le_of_ble_eq_true rfl,by clear hPP;cases t <;> exact Nat.le_of_ble_eq_true rfl⟩
  refine Stop.on rfl ⟨4,rfl,by decide,by decide,fun f O O=>Stop.both rfl (fun O=>Stop.on rfl hwild) fun O=>Stop.on rfl ⟨t,rfl,?_⟩⟩
  cases t
  case none=>exact Stop.on rfl hwild
  case never=>exact Stop.on rfl hwild
  case bool=>exact Stop.on rfl ⟨2,rfl,by decide,by decide,fun f O O=>Stop.on rfl (hPP (.cb _) rfl ⟨rfl,trivial,Nat.le_of_ble_eq_true rfl,Nat.le_refl 1⟩)⟩
  case byte=>
    refine Stop.on rfl ⟨7,rfl,by decide,by decide,fun lo h0 hlo=>Stop.on rfl ⟨7 - lo,rfl,by lia,by lia,fun w hw0 hw=>Stop.on rfl ⟨[.ci lo,.rg lo (lo+w)].map c7.pv,rfl,Nat.le_of_ble_eq_true rfl,Nat.le_of_ble_eq_true rfl,fun d hd=>Stop.on rfl ?_⟩⟩⟩
    have m:=b6o h0 hlo hw0 hw
    rcases List.mem_cons.mp hd with rfl|hd
    · exact hPP (.ci lo) m.1.ty m.1
    · refine b8 (List.mem_singleton.mp hd ..) ?_;exact hPP (.rg lo (lo+w)) m.2.ty m.2
  case pair=>exact Stop.on rfl ⟨rfl,fun p hp=>Stop.on rfl ⟨rfl,fun q hq=>Stop.on rfl (hPP (.pr p q) (a7y hp hq).ty (a7y hp hq))⟩⟩
  case enum=>
    refine Stop.on rfl ⟨rfl,fun p hp=>Stop.on rfl ⟨[.v0,.v1 p].map c7.pv,rfl,Nat.le_of_ble_eq_true rfl,Nat.le_of_ble_eq_true rfl,fun d hd=>Stop.on rfl ?_⟩⟩
    rcases List.mem_cons.mp hd with rfl|hd
    · exact hPP .v0 rfl ⟨rfl,trivial,Nat.le_of_ble_eq_true rfl,Nat.le_of_ble_eq_true rfl⟩
    · refine b8 (List.mem_singleton.mp hd ..) ?_;exact hPP (.v1 p) ⟨rfl,hp.ty⟩ ⟨⟨rfl,hp.ty⟩,hp.low,Nat.succ_le_succ hp.deep,hp.lv⟩
  case led=>exact Stop.on rfl ⟨rfl,fun p hp=>Stop.on rfl (hPP (.df p) ⟨rfl,hp.ty⟩ ⟨⟨rfl,hp.ty⟩,hp.low,Nat.succ_le_succ hp.deep,hp.lv⟩)⟩
noncomputable def a3k(u:Ty):List Va:=if l9 u=[] then [.u] else l9 u
noncomputable def G7(rows:List Row)(row:Row)(v w:Va):Bool:=c9 row [v,w]&&!(rows.any fun r=>c9 r [v,w])
noncomputable def b3v(t u:Ty)(rows:List Row)(row:Row):Bool:=(l9 t).any fun v=>(a3k u).any fun w=>G7 rows row v w
structure c9r(t u:Ty)(rows:List Row)(row:Row):Prop where
  u0:u≠ .none
  F2:∀r∈rows,r9 [t,u] r∧∀p∈r,pd p≤4
  b7b:r9 [t,u] row
  hpd:∀p∈row,pd p≤4
  len:rows.length≤100
inductive b4w(ds:List PV)(P:PV→Prop):Prop
  |mk (t u:Ty) (rows:List Row) (row:Row) (e:ds=[A5 rows,m6 row,.lst [t.pv,u.pv]]) (h:c9r t u rows row) (k:P (.bool (b3v t u rows row)))
theorem a1i(t:Ty):∀v∈l9 t,J9 t v:=by
  cases t
  case bool=>exact Ea.all (P:=J9 .bool) (l:=l9 .bool) ⟨.b _,.b _,trivial⟩
  case byte=>exact Ea.all (P:=J9 .byte) (l:=l9 .byte) ⟨.n _,.n _,.n _,.n _,.n _,.n _,.n _,.n _,trivial⟩
  case pair=>exact Ea.all (P:=J9 .pair) (l:=l9 .pair) ⟨.pr _ _,.pr _ _,.pr _ _,.pr _ _,trivial⟩
  case enum=>exact Ea.all (P:=J9 .enum) (l:=l9 .enum) ⟨.e0,.e1 _,.e1 _,trivial⟩
  case led=>exact Ea.all (P:=J9 .led) (l:=l9 .led) ⟨.r _,.r _,trivial⟩
  all_goals exact fun O h=>b9o h
theorem b3s{u:Ty}(h:u≠ .none):∀v∈a3k u,J9 u v:=by
  cases u
  case none=>exact absurd rfl h
  case never=>exact Ea.all (P:=J9 .never) (l:=[.u]) ⟨.u,trivial⟩
  case bool=>exact a1i .bool
  case byte=>exact a1i .byte
  case pair=>exact a1i .pair
  case enum=>exact a1i .enum
  case led=>exact a1i .led
theorem any_bools{α:Type}(l:List α)(f:α→Bool):(l.map f).any (· ==true)=l.any f:=by refine b8 (List.any_map ..) ?_;congr 1;funext r;show (f r==true)=f r;cases f r <;> rfl
theorem a5d{α:Type}(l:List α)(f:α→Bool):E8 .NotIn (.bool true) (.lst (l.map fun r=> .bool (f r)))=some (!(l.any f)):=by
  refine C5 (any_bools ..) (b8 (show (l.map fun r=>PV.bool (f r))=(l.map f).map PV.bool from (List.map_map).symm ..) ?_)
  show (N3 _ _).map not=_
  refine b8 (a6p ..) ?_;rfl
noncomputable def luV(rows:List Row)(row:Row)(t u:Ty):b9:=[("rows",.val (A5 rows)),("row",.val (m6 row)),("types",.val (.lst [t.pv,u.pv]))]
theorem d0j{t u:Ty}{v w:Va}{r:Row}{K:PV→Prop}(hv:J9 t v)(hw:J9 u w)(h1:r9 [t,u] r)(h2:∀p∈r,pd p≤4)(hK:K (.bool (c9 r [v,w]))):a9p 4 [m6 r,.tup [v.pv,w.pv]] K:=
  ⟨[t,u],r,[v,w],rfl,h1,⟨hv,hw,trivial⟩,Nat.le_of_ble_eq_true rfl,h2,hK⟩
theorem b4i{C:Cx}(fn:∃a,FnAt C "_law_is_useful" a (i9 63))(k:Nat)(hV:d7 C k "_law_values" b0d)(hA:d7 C k "_law_all_come" (a9p 4)):d7 C (k+1) "_law_is_useful" b4w:=by
  refine d7.wp (names:=["rows","row","types"]) [("_law_values",b0d),("_law_all_come",a9p 4)] ⟨hV,hA,trivial⟩ fn (a2l rfl fun O O O O O O=>rfl) rfl (fun ds P h=>h.rec fun O O O O e O O=>e▸rfl) fun F O O o hl ds P h=>?_
  obtain ⟨t,u,rows,row,rfl,hin,hP⟩:=h
  refine Stop.on rfl (A0.b9k (o.kx _ hl) Va.pv (fun _:Unit=>luV rows row t u) (fun rest O=>(∀v∈rest,J9 t v)∧P (.bool (rest.any fun v=>(a3k u).any (G7 rows row v)))) (l9 t) () ⟨a1i t,hP⟩ rfl rfl (Stop.on rfl ⟨t,rfl,rfl⟩) (fun v rest O h=>?_) fun O h=>Stop.on rfl h.2)
  clear hP
  obtain ⟨h1,hP⟩:=h
  obtain ⟨hv,h1⟩:=List.forall_mem_cons.mp h1
  rw [List.any_cons] at hP
  refine Stop.on rfl (A0.b9k (o.kx _ hl) Va.pv (fun _:Unit=>("value",.val v.pv)::luV rows row t u) (fun rest2 O=>(∀w∈rest2,J9 u w)∧P (.bool ((rest2.any (G7 rows row v))||(rest.any fun v=>(a3k u).any (G7 rows row v))))) (a3k u) () ⟨b3s hin.u0,hP⟩ rfl rfl ?_ (fun w rest2 O h=>?_) fun O h=>Stop.on rfl ⟨(),⟨h1,h.2⟩,rfl⟩)
  · have h0:=hin.u0
    clear hP h1 hin
    cases u <;> first|exact absurd rfl h0|exact Stop.on rfl ⟨_,rfl,Stop.on rfl ⟨_,rfl,rfl⟩⟩|exact Stop.on rfl ⟨_,rfl,Stop.on rfl rfl⟩
  clear hP
  obtain ⟨h2,hP⟩:=h
  obtain ⟨hw,h2⟩:=List.forall_mem_cons.mp h2
  rw [List.any_cons] at hP
  refine Stop.on rfl (d0j hv hw hin.b7b hin.hpd (Stop.both rfl (fun h=>?_) fun h=>?_))
  · refine Stop.on rfl (Ev.F4 (o.kx _ hl) [("value",.val v.pv),("late",.val w.pv)] (c6.of ["value","late"] ⟨⟨rfl,rfl,rfl,o.cap rfl⟩,⟨⟨rfl,rfl,rfl,o.cap rfl⟩,trivial⟩⟩ (by decide) (by decide)) m6 rows (fun r=> .bool (c9 r [v,w])) (Stop.on rfl rfl) (E1 (Nat.le_trans hin.len (by decide)))
      (fun d r hr=>Stop.on rfl (d0j hv hw (hin.F2 r hr).1 (hin.F2 r hr).2 (Stop.on rfl rfl))) ?_)
    refine Stop.opt rfl (a5d rows _) (Stop.both rfl (fun h'=>?_) fun h'=>?_)
    · rw [show G7 rows row v w=true by unfold G7;refine b8 (h ..) (b8 (h' ..) ?_);rfl] at hP
      exact Stop.on rfl hP
    · rw [show G7 rows row v w=false by unfold G7;refine b8 (h ..) (b8 (h' ..) ?_);rfl] at hP
      exact Stop.on rfl ⟨(),⟨h2,hP⟩,rfl⟩
  · rw [show G7 rows row v w=false by unfold G7;refine b8 (h ..) ?_;rfl] at hP
    exact Stop.on rfl ⟨(),⟨h2,hP⟩,rfl⟩
noncomputable def a3g:List Int→List j7
  |a::b::r=> .rg a (b - 1)::a3g (b::r)
  |_=>[]
theorem a5a:∀cs:List Int,(List.range (cs.length - 1)).map (fun i=>j7.rg (cs.getD i 0) (cs.getD (i+1) 0 - 1))=a3g cs
  |[]=>rfl
  |[_]=>rfl
  | a::b::r=>by
    show _=_::a3g (b::r)
    refine C5 (a5a (b::r) ..) (b8 (show (a::b::r).length - 1=((b::r).length - 1)+1 from rfl ..) (b8 (List.range_succ_eq_map ..) (b8 (List.map_cons ..) (b8 (List.map_map ..) ?_))))
    rfl
inductive RL(cs:List Int):j7→Prop
  |mk (lo hi:Int) (m1:lo∈cs) (m2:lo≤hi) (m3:hi+1∈cs) (m4:∀k∈cs,¬(lo<k∧k≤hi)):RL cs (.rg lo hi)
theorem b4v:∀cs:List Int,cs.Pairwise (· < ·)→∀c∈a3g cs,RL cs c
  |[],_,c,h=>nomatch h
  |[_],_,c,h=>nomatch h
  | a ::b::r,hp,c,h=>by
    obtain ⟨h1,h2⟩:=List.pairwise_cons.mp hp
    clear hp;obtain ⟨h3,h4⟩:=List.pairwise_cons.mp h2
    have hab:=h1 b (.head _)
    rcases List.mem_cons.mp h with rfl|h
    · refine ⟨a,b - 1,.head _,Int.le_sub_one_of_lt hab,by refine b8 (Int.sub_add_cancel ..) ?_;exact .tail _ (.head _),fun k hk ⟨k1,k2⟩=>?_⟩
      have kb:=Int.lt_of_le_sub_one k2
      rcases List.mem_cons.mp hk with rfl|hk
      · exact Int.lt_irrefl _ k1
      · rcases List.mem_cons.mp hk with rfl|hk
        · exact Int.lt_irrefl _ kb
        · exact Int.lt_irrefl _ (Int.lt_trans kb (h3 k hk))
    · obtain ⟨lo,hi,m1,m2,m3,m4⟩:=b4v (b::r) h2 c h
      refine ⟨lo,hi,.tail _ m1,m2,.tail _ m3,fun k hk=>?_⟩
      rcases List.mem_cons.mp hk with rfl|hk
      · exact fun z=>Int.lt_irrefl _ (Int.lt_trans z.1 (h1 lo m1))
      · exact m4 k hk
inductive RLC(l:List j7)(j:Int):Prop
  |mk (lo hi:Int) (m: .rg lo hi∈l) (h1:lo≤j) (h2:j≤hi)
theorem b1w:∀(a:Int) (cs:List Int),(a::cs).Pairwise (· < ·)→∀j,a≤j→(∃z∈a::cs,j<z)→RLC (a3g (a::cs)) j
  |a,[],hp,j,hj,⟨z,hz,hlt⟩=>absurd hlt (List.mem_singleton.mp hz▸Int.not_lt.mpr hj)
  | a,b::r,hp,j,hj,⟨z,hz,hlt⟩=>by
    obtain ⟨h1,h2⟩:=List.pairwise_cons.mp hp
    by_cases hb:j<b
    · exact ⟨a,b - 1,.head _,hj,Int.le_sub_one_of_lt hb⟩
    · obtain ⟨lo,hi,m,h3,h4⟩:=b1w b r h2 j (Int.not_lt.mp hb) ⟨z,(List.mem_cons.mp hz).elim (fun e=>absurd hlt (e▸Int.not_lt.mpr hj)) id,hlt⟩
      exact ⟨lo,hi,.tail _ m,h3,h4⟩
theorem w9{ks:List Int}{k x:Int}(h:x∈ks∨x=k):x∈A2 ks k:=by
  unfold A2
  by_cases hk:k∈ks
  · refine b8 (if_pos hk ..) ?_;exact h.elim id fun e=>e▸hk
  · refine b8 (if_neg hk ..) ?_;exact List.mem_append.mpr (h.imp id List.mem_singleton.mpr)
theorem a1m{ks:List Int}{k x:Int}(h:x∈A2 ks k):x∈ks∨x=k:=by
  unfold A2 at h
  by_cases hk:k∈ks
  · rw [if_pos hk] at h;exact .inl h
  · rw [if_neg hk] at h;exact (List.mem_append.mp h).imp id List.mem_singleton.mp
theorem a3u{ks:List Int}(h:ks.Nodup)(k:Int):(A2 ks k).Nodup:=by
  unfold A2
  by_cases hk:k∈ks
  · refine b8 (if_pos hk ..) ?_;exact h
  · refine b8 (if_neg hk ..) ?_
    exact List.nodup_append.mpr ⟨h,List.nodup_cons.mpr ⟨nofun,List.nodup_nil⟩,fun x hx y hy e=>hk (List.mem_singleton.mp hy▸e▸hx)⟩
theorem a5v{ks:List Int}(h:ks.Nodup)(p:c7):(l0 ks p).Nodup:=a3t h (fun O O=>a3u (a3u h _) _) p
theorem b2w:∀(hs:List c7) (ks:List Int),ks.Nodup→(hs.foldl l0 ks).Nodup:=by
  intro LL
  induction LL with
  | nil=>
    rintro _ h
    exact h
  | cons p hs ih=>
    rintro ks h
    exact ih _ (a5v h p)
theorem a8n{ks:List Int}{p:c7}{x:Int}(h:x∈ks):x∈l0 ks p:=a3t (P:=fun l=>x∈l) h (fun O O=>w9 (.inl (w9 (.inl h)))) p
theorem b1q:∀(hs:List c7) (ks:List Int) {x:Int},x∈ks→x∈hs.foldl l0 ks:=by
  intro LL
  induction LL with
  | nil=>
    rintro _ _ h
    exact h
  | cons p hs ih=>
    rintro ks _ h
    exact ih _ (a8n h)
theorem a6q{ks:List Int}{p:c7}{x:Int}(h:x∈l0 [] p):x∈l0 ks p:=by
  have k:∀ {a b:Int},x∈A2 (A2 [] a) b→x∈A2 (A2 ks a) b:=fun h=>(a1m h).elim (fun h=>(a1m h).elim nofun fun h=>w9 (.inl (w9 (.inr h)))) fun h=>w9 (.inr h)
  cases p
  case ci=>exact k h
  case rg=>exact k h
  all_goals exact nomatch (show x∈[] from h)
theorem b5l:∀(hs:List c7) (ks:List Int) (p:c7),p∈hs→∀x,x∈l0 [] p→x∈hs.foldl l0 ks:=by
  intro LL1
  induction LL1 with
  | nil=>
    nofun
  | cons q hs ih=>
    rintro ks p hp x hx
    exact (List.mem_cons.mp hp).elim (fun e=>b1q hs _ (a6q (e▸hx))) fun hp=>ih _ p hp x hx
theorem b5j{c:Int} :(decide ((0:Int)≤c)&&decide (c≤255))=true↔0≤c∧c≤255:=Bool.and_eq_true_iff.trans (and_congr decide_eq_true_iff decide_eq_true_iff)
theorem a3d{hs:List c7}{k:Int} :k∈cutsOf hs↔(k∈hs.foldl l0 [0]∧0≤k∧k≤255)∨k=256:=
  List.mem_append.trans (or_congr (List.mem_filter.trans (and_congr (sortI_perm _).mem_iff b5j)) List.mem_singleton)
theorem a2c{hs:List c7}{k:Int}(h:k∈cutsOf hs):0≤k∧k≤256:=
  (a3d.mp h).elim (fun z=>⟨z.2.1,Int.le_trans z.2.2 (by decide)⟩) fun e=>by refine b8 (e ..) ?_;exact ⟨by decide,by decide⟩
theorem a1f(hs:List c7):(cutsOf hs).Pairwise (· < ·):=by
  have hlt:(sortI (hs.foldl l0 [0])).Pairwise (· < ·):=
    ((sortI_rises _).and ((sortI_perm _).nodup_iff.mpr (b2w hs [0] (List.nodup_cons.mpr ⟨nofun,List.nodup_nil⟩)))).imp fun z=>Int.lt_iff_le_and_ne.mpr z
  exact List.pairwise_append.mpr ⟨hlt.filter _,List.pairwise_singleton _ _,fun a ha b hb=>List.mem_singleton.mp hb▸Int.lt_of_le_of_lt (b5j.mp (List.mem_filter.mp ha).2).2 (by decide)⟩
theorem b5g(hs:List c7):∃cs,cutsOf hs=0::cs:=by
  have h0:(0:Int)∈cutsOf hs:=a3d.mpr (.inl ⟨b1q hs [0] (.head _),by decide,by decide⟩)
  have hs':=a1f hs
  have hr:=fun k (h:k∈cutsOf hs)=>(a2c h).1
  cases e:cutsOf hs with
  |nil=>rw [e] at h0;exact nomatch h0
  | cons a l=>
    rw [e] at h0 hs' hr
    exact (List.mem_cons.mp h0).elim (fun z=>⟨l,z▸rfl⟩) fun z=>absurd ((List.pairwise_cons.mp hs').1 0 z) (Int.not_lt.mpr (hr a (.head _)))
theorem b3z{a b lo hi j:Int}(jl:lo≤j)(jh:j≤hi)(k1:¬(lo<a∧a≤hi))(k2:¬(lo<b+1∧b+1≤hi)):(a≤j∧j≤b)↔(a≤lo∧hi≤b):=
  ⟨fun z=>⟨Int.not_lt.mp fun h=>k1 ⟨h,Int.le_trans z.1 jh⟩,Int.not_lt.mp fun h=>k2 ⟨Int.lt_add_one_of_le (Int.le_trans jl z.2),h⟩⟩,fun z=>⟨Int.le_trans z.1 jl,Int.le_trans jh z.2⟩⟩
theorem takes{c:Prop}[Decidable c]:c↔(some (if c then some ([]:Row) else none)=some (some [])):=by
  by_cases h:c
  · refine b8 (if_pos h ..) ?_;exact ⟨fun O=>rfl,fun O=>h⟩
  · refine b8 (if_neg h ..) ?_;exact ⟨fun z=>absurd z h,nofun⟩
inductive c5o(hs:List c7):j7→Prop
  |mk (lo hi:Int) (h0:0≤lo) (h1:lo≤hi) (h2:hi≤255) (key:∀p∈hs,∀j,lo≤j→j≤hi→(comes p (.n j)=true↔C2 p (.rg lo hi) 0=some (some []))):c5o hs (.rg lo hi)
theorem a5l(hs:List c7):a4j hs=a3g (cutsOf hs):=a5a _
set_option tactic.hygienic true in
theorem a2m{hs:List c7}(hty:∀p∈hs,Pl .byte p){c:j7}(hc:c∈a4j hs):c5o hs c:=by
  rw [a5l] at hc
  obtain ⟨lo,hi,m1,m2,m3,m4⟩:=b4v _ (a1f hs) c hc
  have h2:hi≤255:=Int.le_of_add_le_add_right (a2c m3).2
  refine ⟨lo,hi,(a2c m1).1,m2,h2,fun p hp j jl jh=>?_⟩
  have ht:=hty p hp
  have key:∀x,x∈l0 [] p→0≤x→¬(lo<x∧x≤hi):=fun x hx x0 z=>m4 x (a3d.mpr (.inl ⟨b5l hs [0] p hp x hx,x0,Int.le_trans z.2 h2⟩)) z
  clear hp;cases p
  case i7 u=>exact ⟨fun O=>rfl,fun O=>rfl⟩
  case ci i=>
    have k:=b3z jl jh (key i (w9 (.inl (w9 (.inr rfl)))) ht.2.1) (key (i+1) (w9 (.inr rfl)) (Int.add_nonneg ht.2.1 (by decide)))
    exact (beq_iff_eq (a:=i)).trans (Iff.trans ⟨fun e=>e▸⟨Int.le_refl _,Int.le_refl _⟩,fun z=>Int.le_antisymm z.1 z.2⟩ (k.trans takes))
  case rg a b=>
    have k:=b3z jl jh (key a (w9 (.inl (w9 (.inr rfl)))) ht.2.1) (key (b+1) (w9 (.inr rfl)) (Int.add_nonneg (Int.le_trans ht.2.1 ht.2.2.1) (by decide)))
    exact Bool.and_eq_true_iff.trans ((and_congr decide_eq_true_iff decide_eq_true_iff).trans (k.trans takes))
  all_goals first|exact ht.elim|exact J6 ht rfl|exact J6 ht.1 rfl
theorem b2g(hs:List c7){j:Int}(j0:0≤j)(j1:j≤255):RLC (a4j hs) j:=by
  refine b8 (a5l ..) ?_
  have h1:=a1f hs
  have h3:(256:Int)∈cutsOf hs:=a3d.mpr (.inr rfl)
  obtain ⟨cs,e⟩:=b5g hs
  rw [e] at h1 h3 ⊢
  exact b1w 0 cs h1 j j0 ⟨256,h3,Int.lt_of_le_of_lt j1 (by decide)⟩
noncomputable def K2:Ty→Va→Prop
  |t,.b _=>t= .bool
  |t,.n i=>t= .byte∧0≤i∧i≤255
  |t,.pr _ _=>t= .pair
  |t,.e0=>t= .enum
  |t,.e1 _=>t= .enum
  |t,.r _=>t= .led
  |t,.u=>t= .none∨t= .never
noncomputable def G1:Ty→Va→Prop
  |_,.u=>False
  |t,v=>K2 t v
noncomputable def full(t:Ty):Prop:=¬(t= .none∨t= .never)
theorem a2s{t:Ty}{v:Va}(h:G1 t v):K2 t v:=by cases v <;> first|exact h|exact h.elim
theorem a8k{t:Ty}{v:Va}(hf:full t)(h:K2 t v):G1 t v:=by cases v <;> first|exact h|exact (hf h).elim
theorem b9y:∀t:Ty,∃v,K2 t v
  | .bool=>⟨.b false,rfl⟩
  | .byte=>⟨.n 0,rfl,by decide,by decide⟩
  | .pair=>⟨.pr false false,rfl⟩
  | .enum=>⟨.e0,rfl⟩
  | .led=>⟨.r false,rfl⟩
  | .none=>⟨.u,.inl rfl⟩
  | .never=>⟨.u,.inr rfl⟩
theorem a4y{v:Va}(h:K2 .bool v):∃b,v= .b b:=by
  cases v <;> first|exact ⟨_,rfl⟩|exact J6 h rfl|exact J6 h.1 rfl|exact h.elim (fun z=>J6 z rfl) fun z=>J6 z rfl
inductive CV:j7→Va→List Va→Prop
  |cb (b:Bool):CV (.cb b) (.b b) []
  |rg (lo hi j:Int) (h1:lo≤j) (h2:j≤hi):CV (.rg lo hi) (.n j) []
  |fields (a b:Bool):CV .fields (.pr a b) [.b a,.b b]
  |M6:CV (.va 0) .e0 []
  |M4 (b:Bool):CV (.va 1) (.e1 b) [.b b]
  |A7 (b:Bool):CV .A7 (.r b) [.b b]
theorem CV.args{t:Ty}{c:j7}{v:Va}{args:List Va}(h:CV c v args):A1 G1 (inner t c) args:=by
  cases h
  case fields=>exact ⟨rfl,rfl,trivial⟩
  case M4=>exact ⟨rfl,trivial⟩
  case A7=>exact ⟨rfl,trivial⟩
  all_goals exact trivial
inductive c8b(t:Ty)(hs:List c7)(v:Va):Prop
  |mk (c:j7) (args:List Va) (h:c∈m8 t hs) (h1:CV c v args)
set_option tactic.hygienic true in
theorem b5z{t:Ty}(hs:List c7){v:Va}(hv:G1 t v):c8b t hs v:=by
  cases v
  case u=>exact hv.elim
  case n j=>
    obtain ⟨rfl,h0,h1⟩:=hv
    obtain ⟨lo,hi,m,h2,h3⟩:=b2g hs h0 h1
    exact ⟨_,_,m,.rg _ _ _ h2 h3⟩
  all_goals obtain rfl:t=_:=hv
  case b b=>exact ⟨.cb b,_,by cases b;exact .head _;exact .tail _ (.head _),.cb b⟩
  case pr=>exact ⟨_,_,.head _,.fields _ _⟩
  case e0=>exact ⟨_,_,.head _,.M6⟩
  case e1=>exact ⟨_,_,.tail _ (.head _),.M4 _⟩
  case r=>exact ⟨_,_,.head _,.A7 _⟩
set_option tactic.hygienic true in
theorem b5h{t:Ty}{hs:List c7}(hty:∀p∈hs,Pl t p){c:j7}(hc:c∈m8 t hs){args:List Va}(ha:A1 K2 (inner t c) args):∃v,G1 t v∧CV c v args:=by
  cases (a0y t hs c hc).inv
  case rg lo hi=>
    cases ha.nil_inv
    cases a2m hty hc with
    |mk _ _ h0 h1 h2 key=>exact ⟨.n lo,⟨rfl,h0,Int.le_trans h1 h2⟩,.rg _ _ _ (Int.le_refl _) h1⟩
  case cb b=>cases ha.nil_inv;exact ⟨.b b,rfl,.cb b⟩
  case M6=>cases ha.nil_inv;exact ⟨.e0,rfl,.M6⟩
  case fields=>
    obtain ⟨x,_,h1,h2⟩:=ha.inv
    clear ha;obtain ⟨y,_,h4,h3⟩:=h2.inv
    cases h3.nil_inv
    obtain ⟨a,rfl⟩:=a4y h1
    obtain ⟨b,rfl⟩:=a4y h4
    exact ⟨.pr a b,rfl,.fields a b⟩
  all_goals
    obtain ⟨x,_,h1,h2⟩:=ha.inv
    cases h2.nil_inv
    obtain ⟨a,rfl⟩:=a4y h1
  case M4=>exact ⟨.e1 a,rfl,.M4 a⟩
  case A7=>exact ⟨.r a,rfl,.A7 a⟩
inductive c6l(t:Ty)(c:j7)(p:c7)(v:Va)(args:List Va):Prop
  |none (e:C2 p c (inner t c).length=some none) (k:comes p v=false)
  |some (l:Row) (e:C2 p c (inner t c).length=some (some l)) (h:r9 (inner t c) l) (k:comes p v=c9 l args)
set_option tactic.hygienic true in
theorem a9w{t:Ty}{hs:List c7}(hty:∀p∈hs,Pl t p){c:j7}(hc:c∈m8 t hs){p:c7}(hp:p∈hs){v:Va}{args:List Va}(hi:CV c v args):c6l t c p v args:=by
  have h:=hty p hp
  have hct:=a0y t hs c hc
  revert hc hct;cases hi
  all_goals intro hc hct
  case rg lo hi j h1 h2=>
    have e:t= .byte:=hct
    subst e
    cases a2m hty hc with
    | mk _ _ _ _ _ key=>
      cases a1l hct h with
      |none e=>exact .none e (Bool.eq_false_iff.mpr fun z=>nomatch ((key p hp j h1 h2).mp z).symm.trans e)
      | some l e q=>
        cases q.nil_inv
        exact .some _ e trivial ((key p hp j h1 h2).mpr e)
  all_goals (have k:=c6r h hct;clear hp hc hty hct;revert h;cases k)
  all_goals intro h
  case cb.i7 u=>exact .some _ rfl trivial rfl
  case cb.cb b c=>cases b <;> cases c <;> first|exact .some _ rfl trivial rfl|exact .none rfl rfl
  case fields.i7 u=>exact .some _ rfl ⟨trivial,trivial,trivial⟩ rfl
  case fields.pr p q=>exact .some _ rfl ⟨h.2.1,h.2.2,trivial⟩ (a9f p q _ _).symm
  case M6.i7 u=>exact .some _ rfl trivial rfl
  case M6.v00=>exact .some _ rfl trivial rfl
  case M6.v10 p=>exact .none rfl rfl
  case M4.i7 u=>exact .some _ rfl ⟨trivial,trivial⟩ rfl
  case M4.v01=>exact .none rfl rfl
  case M4.v11 p=>exact .some _ rfl ⟨h.2,trivial⟩ (Bool.and_true _).symm
  case A7.i7 u=>exact .some _ rfl ⟨trivial,trivial⟩ rfl
  case A7.df p=>exact .some _ rfl ⟨h.2,trivial⟩ (Bool.and_true _).symm
theorem a1u:∀(p:c7) (v:Va),p.A6.any (comes · v)=comes p v
  | .i7 _,v| .cb _,v| .ci _,v| .rg _ _,v| .v0,v| .pr _ _,v| .v1 _,v| .df _,v=>Bool.or_false _
  | .b0 _ _,v=>rfl
  | .bp _ _ p,v=>a1u p v
  | .or _ p q,v=>by show (p.A6++q.A6).any _=_;refine b8 (List.any_append ..) (b8 (a1u p v ..) (b8 (a1u q v ..) ?_));rfl
theorem c3n{α:Type}(f:α→Bool)(b:Bool):∀l:List α,(l.any fun x=>f x&&b)=(l.any f&&b):=by
  intro LL
  induction LL with
  | nil=>
    exact rfl
  | cons x l ih=>
    show ((f x&&b)||_)=((f x||_)&&b);rw [ih,Bool.and_or_distrib_right]
theorem a2p(p:c7)(tl:Row)(v:Va)(vs:List Va):(openRow (p::tl)).any (c9 · (v::vs))=c9 (p::tl) (v::vs):=by
  show ((p.A6.map (· ::tl)).any fun r=>c9 r (v::vs))=(comes p v&&c9 tl vs)
  rw [List.any_map,← a1u p v,← c3n]
  rfl
theorem a2e:∀(rows:List Row),(∀r∈rows,r≠[])→∀(v:Va) (vs:List Va),(opened rows).any (c9 · (v::vs))=rows.any (c9 · (v::vs))
  |[],_,_,_=>rfl
  |[]::rows,h,_,_=>absurd rfl (h _ List.mem_cons_self)
  | (p::tl)::rows,h,v,vs=>by
    show (openRow (p::tl)++opened rows).any _=(_||rows.any _)
    exact b8 (List.any_append ..) (b8 (a2p ..) (b8 (a2e rows (fun r hr=>h r (List.mem_cons_of_mem _ hr)) v vs ..) rfl))
theorem a4n:∀(l:List c7) (args:List Va) (tl:List c7) (vs:List Va),l.length=args.length→c9 (l++tl) (args++vs)=(c9 l args&&c9 tl vs):=by
  intro LL1
  induction LL1 with
  | nil=>
    intro LL2
    cases LL2 with
    | nil=>
      rintro tl vs _
      exact rfl
    | cons _ _=>
      rintro _ _ h
      exact nomatch h
  | cons p l ih=>
    intro LL3
    cases LL3 with
    | nil=>
      rintro _ _ h
      exact nomatch h
    | cons a args=>
      rintro tl vs h
      show (comes p a&&c9 (l++tl) (args++vs))=((comes p a&&c9 l args)&&_)
      rw [ih args tl vs (Nat.succ.inj h),Bool.and_assoc]
theorem b1g{rows:List Row}{r:Row}(h:(r::rows).all g8=true):g8 r=true∧rows.all g8=true:=Bool.and_eq_true_iff.mp h
inductive c5u:Row→Prop
  |mk (u:Ty) (tl:Row):c5u (.i7 u::tl)
theorem b0z{r:Row}(h:g8 r=true):c5u r:=by
  cases r with
  |nil=>exact D8 h
  |cons p tl=>cases p <;> first|exact ⟨_,_⟩|exact D8 h
theorem a2d:∀(rows:List Row),rows.all g8=true→∀(v:Va) (vs:List Va),(restOf rows).any (c9 · vs)=rows.any (c9 · (v::vs)):=by
  intro LL
  induction LL with
  | nil=>
    rintro _ _ _
    exact rfl
  | cons row rows ih=>
    rintro h v vs
    obtain ⟨h1,h2⟩:=b1g h
    refine b8 (a1y h1 ..) ?_
    clear h;cases b0z h1
    show (_||_)=(_||_)
    refine b8 (ih h2 v vs ..) ?_;rfl
theorem a8b{rows:List Row}{p:c7}{tl:Row}(h:(p::tl)∈rows):p∈heads rows:=List.mem_filterMap.mpr ⟨_,h,rfl⟩
theorem a8g(a b:List Row):heads a++heads b=heads (a++b):=by unfold heads;rw [List.filterMap_append]
inductive c6s(t:Ty)(c:j7)(p:c7)(tl:Row)(v:Va)(args vs:List Va):Prop
  |none (e:C2 p c (inner t c).length=some none) (k:c9 (p::tl) (v::vs)=false)
  |some (l:Row) (e:C2 p c (inner t c).length=some (some l)) (k:c9 (p::tl) (v::vs)=c9 (l++tl) (args++vs))
theorem a2f{t:Ty}{hs:List c7}(hty:∀p∈hs,Pl t p){c:j7}(hc:c∈m8 t hs){p:c7}(hp:p∈hs)(tl:Row){v:Va}{args:List Va}(vs:List Va)(hi:CV c v args):c6s t c p tl v args vs:=by
  cases a9w hty hc hp hi with
  |none e k=>exact .none e (by show (_&&_)=_;refine b8 (k ..) ?_;rfl)
  |some l e h k=>exact .some l e (by refine b8 (a4n l args tl vs (h.len.trans (hi.args (t:=t)).len.symm) ..) (C5 (k ..) ?_);rfl)
theorem a0z{t:Ty}{hs:List c7}(hty:∀p∈hs,Pl t p){c:j7}(hc:c∈m8 t hs){v:Va}{args:List Va}(vs:List Va)(hi:CV c v args):
    ∀(rows:List Row),(∀r∈rows,r≠[])→(∀p∈heads rows,p∈hs)→(narrow rows c (inner t c).length).any (c9 · (args++vs))=rows.any (c9 · (v::vs))
  |[],_,_=>rfl
  |[]::rows,h,_=>absurd rfl (h _ List.mem_cons_self)
  | (p::tl)::rows,h,hh=>by
    have ih:=a0z hty hc vs hi rows (fun r hr=>h r (List.mem_cons_of_mem _ hr)) fun q hq=>hh q (List.mem_cons_of_mem _ hq)
    refine b8 (List.any_cons ..) (C5 (ih ..) ?_)
    cases a2f hty hc (hh p (a8b List.mem_cons_self)) tl vs hi with
    |none e k=>refine b8 (a0t e ..) (b8 (k ..) ?_);rfl
    |some l e k=>refine b8 (a0r e ..) (b8 (k ..) ?_);rfl
inductive Sep(ts:List Ty)(rows:List Row)(row:Row):Prop
  |mk (vs:List Va) (h:A1 K2 ts vs) (h1:c9 row vs=true) (h2:rows.any (c9 · vs)=false)
inductive d0p(t:Ty)(ts:List Ty)(rows:List Row)(row:Row):Prop
  |mk (v:Va) (vs:List Va) (h0:G1 t v) (h:A1 K2 ts vs) (h1:c9 row (v::vs)=true) (h2:rows.any (c9 · (v::vs))=false)
inductive d1r(t:Ty)(ts:List Ty)(rows:List Row)(row:Row)(c:j7):Prop
  |mk (v:Va) (args vs:List Va) (hi:CV c v args) (h0:G1 t v) (h:A1 K2 ts vs) (h1:c9 row (v::vs)=true) (h2:rows.any (c9 · (v::vs))=false)
noncomputable def c7l(n:Nat):Prop:=∀(ts:List Ty) (rows:List Row) (row:Row),B7 ts<n→(∀r∈rows,r9 ts r)→r9 ts row→(z0 m8 n ts rows row=true↔Sep ts rows row)
theorem b0v{n:Nat}(ih:c7l n){t:Ty}{ts:List Ty}{rows:List Row}{p:c7}{tl:Row}(hn:L7 t+B7 ts≤n)(hr:∀r∈rows,D5 t ts r)(h1:D5 t ts (p::tl)){hs:List c7}(hty:∀p∈hs,Pl t p)(hp:p∈hs)(hsub:∀q∈heads rows,q∈hs){c:j7}(hc:c∈m8 t hs):
    (match narrow [p::tl] c (inner t c).length with|[]=>false|r::_=>z0 m8 n (inner t c++ts) (narrow rows c (inner t c).length) r)=true↔d1r t ts rows (p::tl) c:=by
  have hct:=a0y t hs c hc
  have hne:=a1q fun r h=>(hr r h).row
  cases a1l hct h1.1 with
  | none e=>
    refine b8 (a0t e ..) ?_
    refine ⟨nofun,fun ⟨v,args,vs,hi,_,_,k,_⟩=>?_⟩
    cases a2f hty hc hp tl vs hi with
    |none _ k'=>exact nomatch k'.symm.trans k
    |some l e' _=>exact nomatch e.symm.trans e'
  | some l e q=>
    refine b8 (a0r e ..) ?_
    refine Iff.trans (ih _ (narrow rows c (inner t c).length) (l++tl) ?_ (a0f hct hr).h (A1.app h1.2 q)) ⟨fun ⟨ws,hw,k1,k2⟩=>?_,fun ⟨v,args,vs,hi,h0,h,k1,k2⟩=>?_⟩
    · refine b8 (a0v ..) ?_;exact Nat.lt_of_lt_of_le (Nat.add_lt_add_right (a2g hct) _) hn
    · obtain ⟨args,vs,ha,hv⟩:=hw.c1c
      obtain ⟨v,h0,hi⟩:=b5h hty hc ha
      refine ⟨v,args,vs,hi,h0,hv,?_,(a0z hty hc vs hi rows hne hsub).symm.trans k2⟩
      cases a2f hty hc hp tl vs hi with
      |none e' _=>exact nomatch e.symm.trans e'
      |some l' e' k=>cases e.symm.trans e';exact k.trans k1
    · refine ⟨args++vs,A1.app h (A1.imp (fun O O=>a2s) hi.args),?_,(a0z hty hc vs hi rows hne hsub).trans k2⟩
      cases a2f hty hc hp tl vs hi with
      |none e' _=>exact nomatch e.symm.trans e'
      |some l' e' k=>cases e.symm.trans e';exact k.symm.trans k1
theorem a5b{n:Nat}(ih:c7l n){t:Ty}{ts:List Ty}{rows:List Row}{one:Row}(hn:L7 t+B7 ts≤n)(hr:∀r∈rows,D5 t ts r)(h1:D5 t ts one):
    a0x m8 (z0 m8 n) t ts rows one=true↔d0p t ts rows one:=by
  obtain ⟨p,tl,hp,ht⟩:=h1.inv
  have hty:=a4e (rows:=rows++[p::tl]) fun r h=>(List.mem_append.mp h).elim (hr r) fun h=>List.mem_singleton.mp h▸h1
  have hm:p∈heads (rows++[p::tl]):=a8b (List.mem_append_right _ List.mem_cons_self)
  have hsub:∀q∈heads rows,q∈heads (rows++[p::tl]):=fun q hq=>a8g rows [p::tl]▸List.mem_append_left _ hq
  unfold a0x
  rw [a8g,List.any_eq_true]
  exact ⟨fun ⟨c,hc,h⟩=>let ⟨v,_,vs,_,a,b,d,e⟩:=(b0v ih hn hr h1 hty hm hsub hc).mp h;⟨v,vs,a,b,d,e⟩,
    fun ⟨v,vs,a,b,d,e⟩=>let ⟨c,args,hc,hi⟩:=b5z (heads (rows++[p::tl])) a;⟨c,hc,(b0v ih hn hr h1 hty hm hsub hc).mpr ⟨v,args,vs,hi,a,b,d,e⟩⟩⟩
theorem c3i{t:Ty}(ht:¬full t){ts:List Ty}{r:Row}(h:D5 t ts r):g8 r=true:=by
  obtain ⟨p,tl,hp,_⟩:=h.inv
  have ne:∀ {u:Ty},t=u→decide (u= .none∨u= .never)=false→g8 (p::tl)=true:=fun e d=>absurd (e▸of_decide_eq_false d) ht
  cases p <;> first|rfl|exact hp.elim|exact ne hp rfl|exact ne hp.1 rfl
theorem c2a{n:Nat}(ih:c7l n){t:Ty}{ts:List Ty}{rs:List Row}{one:Row}(hn:L7 t+B7 ts≤n)(d8:∀r∈rs,D5 t ts r)(ho:D5 t ts one):
    (if (rs++[one]).all g8=true then z0 m8 n ts (restOf rs) one.tail else a0x m8 (z0 m8 n) t ts rs one)=true↔Sep (t::ts) rs one:=by
  by_cases hw:(rs++[one]).all g8=true
  · refine b8 (if_pos hw ..) ?_
    rw [List.all_append,Bool.and_eq_true] at hw
    cases b0z (b1g hw.2).1
    refine Iff.trans (ih ts _ _ (Nat.lt_of_lt_of_le (Nat.lt_add_of_pos_left (a7g t)) hn) (a1c fun r h=>(d8 r h).row).h ho.2) ⟨fun ⟨vs,a,b,c⟩=>?_,fun ⟨ws,a,b,c⟩=>?_⟩
    · obtain ⟨v,hv⟩:=b9y t
      exact ⟨v::vs,⟨hv,a⟩,b,(a2d _ hw.1 v vs).symm.trans c⟩
    · obtain ⟨v,vs,_,a'⟩:=a.inv
      exact ⟨vs,a',b,(a2d _ hw.1 v vs).trans c⟩
  · refine b8 (if_neg hw ..) ?_
    have hf:full t:=fun z=>hw (List.all_eq_true.mpr fun r h=>c3i (fun f=>f z) ((List.mem_append.mp h).elim (d8 r) fun h=>List.mem_singleton.mp h▸ho))
    refine Iff.trans (a5b ih hn d8 ho) ⟨(fun z1=>by obtain ⟨v,vs,a,b,c,d⟩:=z1;exact ⟨v::vs,⟨a2s a,b⟩,c,d⟩),fun ⟨ws,a,b,c⟩=>?_⟩
    obtain ⟨v,vs,h0,a'⟩:=a.inv
    exact ⟨v,vs,a8k hf h0,a',b,c⟩
theorem c3x:∀(rows:List Row) (n:Nat),(∀r∈rows,r9 [] r)→(z0 m8 (n+1) [] rows []=true↔Sep [] rows []):=by
  intro LL
  induction LL with
  | nil=>
    rintro _ _
    exact ⟨fun O=>⟨[],trivial,rfl,rfl⟩,fun O=>rfl⟩
  | cons r rows ih=>
    rintro _ h
    exact ⟨nofun,fun ⟨vs,a,_,c⟩=>by
    cases (h r List.mem_cons_self).nil_inv;cases a.nil_inv
    exact nomatch (show true=false from c)⟩
theorem a6h:∀n,c7l n
  |0=>fun ts rows row h=>absurd h (Nat.not_lt_zero _)
  | n + 1=>fun ts rows row hn hr h1=>by
    cases ts with
    |nil=>cases h1.nil_inv;exact c3x rows n hr
    | cons t ts=>
      obtain ⟨p,tl,hp,ht⟩:=h1.inv
      rw [a0m] at hn
      have hne:=a1q hr
      have each:=fun one (h:one∈openRow (p::tl))=>c2a (a6h n) (Nat.le_of_lt_succ hn) (a0e hr) (a0e (rows:=[p::tl]) (fun r h=>List.mem_singleton.mp h▸h1) one (List.mem_append_left [] h))
      refine Iff.trans List.any_eq_true ⟨fun ⟨one,hone,h⟩=>?_,fun ⟨vs,a,b,c⟩=>?_⟩
      · obtain ⟨ws,a,b,c⟩:=(each one hone).mp h
        obtain ⟨v,vs,h0,a'⟩:=a.inv
        exact ⟨v::vs,⟨h0,a'⟩,a2p p tl v vs▸List.any_eq_true.mpr ⟨one,hone,b⟩,(a2e rows hne v vs).symm.trans c⟩
      · obtain ⟨v,vs,h0,a'⟩:=a.inv
        obtain ⟨one,hone,b⟩:=List.any_eq_true.mp ((a2p p tl v vs).trans b)
        exact ⟨one,hone,(each one hone).mpr ⟨v::vs,⟨h0,a'⟩,b,(a2e rows hne v vs).trans c⟩⟩
noncomputable def F5:Ty→List (List Ty)
  | .bool=>[[],[]]
  | .byte=>[[]]
  | .pair=>[[.bool,.bool]]
  | .led=>[[.bool]]
  | .enum=>[[],[.bool]]
  |_=>[]
noncomputable def b4x(ps:List Ty):PV:= .lst (ps.map Ty.pv)
noncomputable def a5j(t:Ty):List PV:=(F5 t).map b4x
theorem c1f(t:Ty):(m8 t []).map (fun c=>PV.lst ((inner t c).map Ty.pv))=a5j t:=by cases t <;> rfl
noncomputable def c0x:Ty→Str
  | .bool=>"bool"| .byte=>"int"| .pair=>"tuple"| .enum=>"adt"| .led=>"ref"| .none=>"adt"| .never=>"never"
theorem b9t(t:Ty):item? t.pv (.int (Int.ofNat 0))=some (.str (c0x t)):=by cases t <;> rfl
theorem b7v(t:Ty):(c0x t==("array":Str))=false:=by cases t <;> rfl
theorem c0b(t:Ty):((m8 t []).length≤2):=by cases t <;> decide
inductive c2z(W:PV)(ds:List PV)(P:PV→Prop):Prop
  |mk (t:Ty) (e:ds=[t.pv,W]) (k:P (.lst (a5j t)))
theorem c1y{C:Cx}{W:PV}(fn:∃a,FnAt C "ways_to_make" a (i9 40))(k:Nat)(hC:d7 C k "constructors" (F1 W m8))(hP:d7 C k "parts_of_usefulness" (C8 W)):d7 C (k+1) "ways_to_make" (c2z W):=by
  refine d7.wp (names:=["t","world"]) [("constructors",F1 W m8),("parts_of_usefulness",C8 W)] ⟨hC,hP,trivial⟩ fn (plain2 rfl fun O O O O O=>rfl) rfl (fun ds P h=>h.rec fun O e O=>e▸rfl) fun F O O o hl ds P h=>?_
  obtain ⟨t,rfl,hPP⟩:=h
  refine Stop.opt rfl (b9t t) (Stop.both rfl (fun h=>absurd h (by refine b8 (b7v ..) ?_;nofun)) fun O=>?_)
  refine Stop.on rfl (Ev.F4 (o.kx _ hl) [("t",.val t.pv),("world",.val W)] (c6.of ["t","world"] ⟨⟨rfl,rfl,rfl,o.cap rfl⟩,⟨rfl,rfl,rfl,o.cap rfl⟩,trivial⟩ (by decide) (by decide)) j7.pv (m8 t []) (fun c=> .lst ((inner t c).map Ty.pv))
    (Stop.on rfl ⟨t,[],rfl,(fun p hp=>nomatch hp),fun O=>Nat.zero_le _,Nat.zero_le _,Stop.on rfl rfl⟩) (E1 (Nat.le_trans (c0b t) (by decide))) (fun d c hc=>Stop.on rfl ⟨t,c,rfl,a0y _ _ _ hc,Stop.on rfl rfl⟩) (Stop.on rfl ?_))
  refine b8 (c1f ..) ?_
  exact hPP
noncomputable def A4:Ty→Bool
  | .none=>false
  | .never=>false
  |_=>true
noncomputable def push(td:List Ty)(ws:List (List Ty)):List Ty:=ws.foldl (fun td ps=>ps.reverse++td) td
noncomputable def b9d:Nat→List Ty→List Ty→Option (List Ty)
  |0,_,_=>none
  | n+1,ks,td=>match td with
    |[]=>some ks
    |t::td=>if t∈ks then b9d n ks td else if ks.length<20∧td.length<20 then b9d n (ks++[t]) (push td (F5 t)) else none
noncomputable def c9n(ks:List Ty)(t:Ty):Bool:=(F5 t).any fun ps=>ps.all fun p=>decide (p∈ks)
noncomputable def D6(s:List Ty×Bool)(t:Ty):List Ty×Bool:=if t∈s.1 then s else if c9n s.1 t then (s.1++[t],true) else s
noncomputable def c4j:Nat→List Ty→List Ty→Option (List Ty)
  |0,_,_=>none
  | n+1,ks,kn=>match (ks.reverse.foldl D6 (kn,false)).2 with
    |true=>c4j n ks (ks.reverse.foldl D6 (kn,false)).1
    |false=>some (ks.reverse.foldl D6 (kn,false)).1
theorem c2r(t:Ty):∃ks kn,b9d 8 [] [t]=some ks∧c4j 5 ks []=some kn∧decide (t∈kn)=A4 t:=by
  cases t <;> exact ⟨_,_,rfl,rfl,rfl⟩
noncomputable def wk(ks:List Ty):List (Ty×PV):=ks.map fun k=>(k,.lst (a5j k))
noncomputable def kk(ks:List Ty):List (Ty×PV):=ks.map fun k=>(k,.bool true)
theorem a6z(f:Ty→PV)(k:Ty):∀ks:List Ty,J0 (ks.map fun k=>(k,f k)) k=if k∈ks then some (f k) else none:=by
  intro LL
  induction LL with
  | nil=>
    exact rfl
  | cons a ks ih=>
    have ih:=ih
    unfold J0 at ih ⊢
    refine b8 (List.map_cons ..) (b8 (List.find?_cons ..) ?_)
    by_cases h:a=k
    · clear ih;subst h;refine b8 (decide_eq_true rfl ..) (b8 (if_pos List.mem_cons_self ..) ?_);rfl
    · refine b8 (decide_eq_false h ..) ?_
      show (List.find? _ _).map _=_
      refine b8 (ih ..) ?_
      by_cases h':k∈ks
      · exact b8 (if_pos h' ..) (b8 (if_pos (List.mem_cons_of_mem _ h') ..) rfl)
      · exact b8 (if_neg h' ..) (b8 (if_neg fun e=>(List.mem_cons.mp e).elim (fun e=>h e.symm) h' ..) rfl)
theorem keys_map(f:Ty→PV)(ks:List Ty):(ks.map fun k=>(k,f k)).map (·.1)=ks:=by
  refine b8 (List.map_map ..) ?_;exact List.map_id ks
theorem b1f(f:Ty→PV){k:Ty}{ks:List Ty}(h:k∉ks):putK (ks.map fun k=>(k,f k)) k (f k)=(ks++[k]).map fun k=>(k,f k):=by
  unfold putK
  refine b8 (List.map_append ..) ?_
  refine if_neg fun e=>?_
  obtain ⟨x,hx,hd⟩:=List.any_eq_true.mp e
  obtain ⟨a,ha,rfl⟩:=List.mem_map.mp hx
  exact h (of_decide_eq_true hd▸ha)
theorem a3p{ks:List Ty}{t:Ty}(h:ks.Nodup)(h':t∉ks):(ks++[t]).Nodup:=List.nodup_append.mpr ⟨h,List.nodup_cons.mpr ⟨nofun,List.nodup_nil⟩,fun a ha b hb e=>h' (by rw [List.mem_singleton.mp hb] at e;refine C5 (e ..) ?_;exact ha)⟩
theorem a7e(t:Ty):(F5 t).length≤2∧∀ps∈F5 t,ps.length≤2:=by cases t <;> decide
noncomputable def hvL(W:PV):List (Str×F8):=[("ways_to_make",c2z W),("has_more_parts",c2k)]
noncomputable def hvV(W:PV)(t:Ty)(s:List Ty×List Ty):b9:=[("rows",.own (.dct (tk (wk s.1)))),("left",.own (.lst (s.2.reverse.map Ty.pv))),("t",.val t.pv),("world",.val W)]
noncomputable def hwV(W:PV)(t u:Ty)(ks:List Ty)(td:List Ty):b9:=("here",.val u.pv)::hvV W t (ks,td)
noncomputable def hxV(t:Ty)(ks:List Ty)(s:List Ty×Bool):b9:=[("known",.own (.dct (tk (kk s.1)))),("is_more",.val (.bool s.2)),("rows",.own (.dct (tk (wk ks)))),("t",.val t.pv)]
theorem c6n(u:Ty)(td:List Ty):(!((u::td).reverse.map Ty.pv).isEmpty)=true:=by refine b8 (List.reverse_cons ..) ?_;exact b4b _ _
theorem c4b(u:Ty)(td:List Ty):D9 ((u::td).reverse.map Ty.pv)=some (td.reverse.map Ty.pv,u.pv):=by refine b8 (List.reverse_cons ..) (b8 (List.map_append ..) ?_);exact a2n _ _
theorem a2h{ks:List Ty}(h:ks.Nodup):((wk ks).map (·.1)).Nodup:=by rw [wk,keys_map];exact h
theorem a4g{ks:List Ty}(h:ks.Nodup):((kk ks).map (·.1)).Nodup:=by rw [kk,keys_map];exact h
theorem b1u(ks:List Ty):(wk ks).length=ks.length:=List.length_map _
theorem c5h(ks:List Ty):(kk ks).length=ks.length:=List.length_map _
theorem c1q(ks:List Ty):(wk ks).map (fun x=>x.1.pv)=ks.map Ty.pv:=by rw [wk,List.map_map];rfl
theorem c5a(ks:List Ty)(u:Ty):(J0 (wk ks) u).isSome=decide (u∈ks):=by
  rw [wk,a6z];by_cases h:u∈ks
  · refine b8 (if_pos h ..) (b8 (decide_eq_true h ..) ?_);rfl
  · refine b8 (if_neg h ..) (b8 (decide_eq_false h ..) ?_);rfl
theorem b6f(ks:List Ty)(u:Ty):(J0 (kk ks) u).isSome=decide (u∈ks):=by
  rw [kk,a6z];by_cases h:u∈ks
  · refine b8 (if_pos h ..) (b8 (decide_eq_true h ..) ?_);rfl
  · refine b8 (if_neg h ..) (b8 (decide_eq_false h ..) ?_);rfl
theorem b5m{ks:List Ty}{u:Ty}(h:u∈ks):J0 (wk ks) u=some (.lst (a5j u)):=by rw [wk,a6z,if_pos h]
theorem b2c(ps td:List Ty):td.reverse.map Ty.pv++ps.map Ty.pv=(ps.reverse++td).reverse.map Ty.pv:=by rw [List.reverse_append,List.reverse_reverse,List.map_append]
theorem b5o{n:Nat}{ks td KS:List Ty}{u:Ty}(h:b9d (n+1) ks (u::td)=some KS):(u∈ks∧b9d n ks td=some KS)∨(u∉ks∧(ks.length<20∧td.length<20)∧b9d n (ks++[u]) (push td (F5 u))=some KS):=by
  have h:(if u∈ks then b9d n ks td else if ks.length<20∧td.length<20 then b9d n (ks++[u]) (push td (F5 u)) else none)=some KS:=h
  by_cases h1:u∈ks
  · rw [if_pos h1] at h;exact .inl ⟨h1,h⟩
  · rw [if_neg h1] at h
    by_cases h2:ks.length<20∧td.length<20
    · rw [if_pos h2] at h;exact .inr ⟨h1,h2,h⟩
    · exact n9 (if_neg h2) h
theorem b9h(u:Ty)(td:List Ty):(push td (F5 u)).length≤td.length+4:=by
  cases u <;> first|exact Nat.le_add_right td.length 4|exact Nat.le_refl _|exact Nat.add_le_add_left (Nat.le_of_ble_eq_true rfl:1≤4) td.length|exact Nat.add_le_add_left (Nat.le_of_ble_eq_true rfl:2≤4) td.length|exact Nat.add_le_add_left (Nat.le_of_ble_eq_true rfl:3≤4) td.length
theorem b3l{m:Nat}{ks s kn:List Ty}(h:c4j (m+1) ks s=some kn):((ks.reverse.foldl D6 (s,false)).2=true→c4j m ks (ks.reverse.foldl D6 (s,false)).1=some kn)∧((ks.reverse.foldl D6 (s,false)).2=false→(ks.reverse.foldl D6 (s,false)).1=kn):=by
  have h:(match (ks.reverse.foldl D6 (s,false)).2 with|true=>c4j m ks (ks.reverse.foldl D6 (s,false)).1|false=>some (ks.reverse.foldl D6 (s,false)).1)=some kn:=h
  cases e:(ks.reverse.foldl D6 (s,false)).2 <;> rw [e] at h
  · exact ⟨nofun,fun O=>Option.some.inj h⟩
  · exact ⟨fun O=>h,nofun⟩
theorem all_empty(ks:List Ty):∀ps:List Ty,(ps.filterMap fun p=>if p∈ks then none else some p.pv).isEmpty=ps.all fun p=>decide (p∈ks):=by
  intro LL
  induction LL with
  | nil=>
    exact rfl
  | cons p ps ih=>
    refine b8 (List.filterMap_cons ..) (b8 (List.all_cons ..) (C5 (ih ..) ?_))
    by_cases h:p∈ks
    · refine b8 (if_pos h ..) (b8 (decide_eq_true h ..) ?_);rfl
    · refine b8 (if_neg h ..) (b8 (decide_eq_false h ..) ?_);rfl
theorem any_empty(ks:List Ty):∀ws:List (List Ty),(!(ws.filterMap fun ps=>if (ps.all fun p=>decide (p∈ks))=true then some (b4x ps) else none).isEmpty)=ws.any fun ps=>ps.all fun p=>decide (p∈ks):=by
  intro LL
  induction LL with
  | nil=>
    exact rfl
  | cons ps ws ih=>
    refine b8 (List.filterMap_cons ..) (b8 (List.any_cons ..) (C5 (ih ..) ?_))
    cases ps.all fun p=>decide (p∈ks) <;> rfl
theorem b8k{ks:List Ty}{u:Ty}{b:Bool}(h:u∈ks):D6 (ks,b) u=(ks,b):=if_pos h
theorem b6a{ks:List Ty}{u:Ty}{b:Bool}(h:u∉ks)(h':c9n ks u=true):D6 (ks,b) u=(ks++[u],true):=(if_neg h).trans (if_pos h')
theorem b5i{ks:List Ty}{u:Ty}{b:Bool}(h:u∉ks)(h':c9n ks u=false):D6 (ks,b) u=(ks,b):=(if_neg h).trans (if_neg (by refine b8 (h' ..) ?_;nofun))
theorem c9t{C:Cx}{W:PV}{mt:Value}(hM:Gv C "MOST_TYPES" mt (.int 300))(fn:∃a,FnAt C "has_value" a (i9 41))(k:Nat)(hW:d7 C k "ways_to_make" (c2z W))(hMo:d7 C k "has_more_parts" c2k):d7 C (k+1) "has_value" (c0y W A4):=by
  refine d7.wp (names:=["t","world"]) (hvL W) ⟨hW,hMo,trivial⟩ fn (plain2 rfl fun O O O O O=>rfl) rfl (fun ds P h=>h.rec fun O e O=>e▸rfl) fun F hC O o hl ds P h=>?_
  obtain ⟨t,rfl,hPP⟩:=h
  subst hC
  obtain ⟨KS,kn,h1,h2,h3⟩:=c2r t
  rw [← h3] at hPP
  refine Stop.on rfl (Ex.assign2 (I9.ofFr (b9q.c5w (I9.own (F0.display (E7.cons (Ev.wp (o.kx _ hl) (Stop.on rfl (E7.nil ⟨E1 (Nat.le_of_ble_eq_true rfl),fun O=>rfl,fun O=>rfl,Stop.on rfl ?_⟩)))))))) (o.loc rfl) (o.loc rfl) (by decide) (hw:= .inl (a1x (o.kind rfl) (o.kind rfl) (by decide) rfl rfl rfl rfl)))
  refine A0.a7x (o.kx _ hl) (hvV W t) (fun n s=>b9d n s.1 s.2=some KS∧s.1.Nodup∧s.1.length≤20∧s.2.length≤30) 8 ([],[t]) ⟨h1,List.nodup_nil,Nat.zero_le _,Nat.le_of_ble_eq_true rfl⟩ rfl fun n s h=>?_
  obtain ⟨ks,td⟩:=s
  obtain ⟨h,hn,hk,htd⟩:=h
  dsimp only at h hn hk htd
  cases n with
  |zero=>cases h
  |succ n=>
  refine ⟨n,rfl,?_⟩
  cases td with
  | nil =>
    obtain rfl:ks=KS:=Option.some.inj h
    refine Stop.on rfl (Ex.assign2 (I9.ofFr (b9q.c5w (I9.val (Ev.wp (o.kx _ hl) (Stop.on rfl ⟨fun O=>rfl,fun O=>rfl,Stop.on rfl ?_⟩))))) (o.I7 rfl) (o.loc rfl) (by decide) (hw:= .inr (c1i (by refine b8 (o.kind rfl ..) ?_;decide))))
    refine A0.a7x (o.kx _ hl) (hxV t ks) (fun n s=>∃m,n=m+1∧(s.2=true→c4j m ks s.1=some kn)∧(s.2=false→s.1=kn)∧s.1.Nodup∧s.1.length+20*n≤120) 6 ([],true) ⟨5,rfl,fun O=>h2,nofun,List.nodup_nil,Nat.le_of_ble_eq_true rfl⟩ rfl fun n s h=>?_
    obtain ⟨ns,more⟩:=s
    obtain ⟨m,rfl,q1,q2,hn2,hlen⟩:=h
    refine ⟨m,rfl,?_⟩
    cases more with
    | false=>
      obtain rfl:ns=kn:=q2 rfl
      refine Stop.on rfl (Ev.d1b rfl (a4g hn2) (Ev.wp (o.kx _ hl) (Stop.on rfl ⟨t,rfl,?_⟩)))
      refine b8 (b6f ..) ?_
      exact Stop.on rfl hPP
    |true=>
    have hr:=q1 rfl
    cases m with
    |zero=>cases hr
    |succ m=>
    obtain ⟨r1,r2⟩:=b3l hr
    dsimp only at hlen hn2
    refine Stop.on rfl (A0.b9k (o.kx _ hl) Ty.pv (hxV t ks) (fun rest s=>rest.foldl D6 s=ks.reverse.foldl D6 (ns,false)∧s.1.Nodup∧s.1.length+rest.length+20*(m+1)≤120∧∀u∈rest,u∈ks) ks.reverse (ns,false) ⟨rfl,hn2,by refine b8 (List.length_reverse ..) ?_;dsimp only;lia,fun u hu=>List.mem_reverse.mp hu⟩ rfl rfl ?_ (fun u rest s h=>?_) fun s h=>?_)
    · refine Stop.on rfl (Ev.M8 (F0.c7e rfl (a2h hn) (by refine b8 (b1u ..) ?_;exact E1 (by exact Nat.le_trans (by assumption) (Nat.le_of_ble_eq_true rfl))) (Stop.le rfl (by refine b8 (List.length_map ..) (b8 (b1u ..) ?_);exact E1 (by exact Nat.le_trans (by assumption) (Nat.le_of_ble_eq_true rfl))) (Stop.on rfl ?_)) (o.kind rfl)))
      refine b8 (c1q ..) ?_
      exact congrArg some List.map_reverse.symm
    · obtain ⟨ns',b⟩:=s
      obtain ⟨e,n1,n2,hks⟩:=h
      have hu:=hks u List.mem_cons_self
      have hks':=fun v h=>hks v (List.mem_cons_of_mem _ h)
      rw [List.length_cons] at n2
      dsimp only at n1 n2
      rw [List.foldl_cons] at e
      have hw:=a7e u
      have hcn:∀ {F':Fm} {sc:Scope} {ρ':b9},a8j F' sc ρ' [("known",.own (.dct (tk (kk ns'))))]→(sc.names.map (·.1)).Nodup→(∀x∈sc.names,x.2= .free→x.1∈[("known":Str)])→c6 F' sc ρ' [("known",.own (.dct (tk (kk ns'))))]:=fun h h1 h2=>c6.of ["known"] h h1 h2
      refine Stop.on rfl (Ex.a1s (hcn ⟨⟨rfl,rfl,rfl,o.cap rfl⟩,trivial⟩ (by decide) (by decide)) (I6.seq (Ev.c0e rfl (a2h hn) (Ev.wp (o.kx _ hl) (Stop.on rfl ⟨u,rfl,_,b5m hu,_,.inl rfl,E1 (by rw [a5j,List.length_map];lia),fun d=>Co.list b4x (fun ps=>if (ps.all fun p=>decide (p∈ns'))=true then some (b4x ps) else none) (F5 u) [] (fun ps hps K K' hK=>A9.one (Tr.wp ((o.kx _ hl).comp d) (Stop.on rfl ?_))) ?_⟩)))) rfl (o.loc rfl) (a1r (o.kind rfl) rfl rfl))
      · refine Ev.c2i ((o.kx _ hl).comp d) [("known",.own (.dct (tk (kk ns'))))] (hcn ⟨⟨rfl,rfl,rfl,d.cap rfl⟩,trivial⟩ (by decide) (by decide)) Ty.pv ps (fun p=>if p∈ns' then none else some p.pv) (Stop.on rfl rfl) (E1 (by have:=hw.2 ps hps;exact Nat.le_trans (by assumption) (Nat.le_of_ble_eq_true rfl))) (fun d2 p O=>Stop.on rfl (Tr.a9s rfl (a4g n1) (Ev.wp (((o.kx _ hl).comp d).comp d2) (Stop.on rfl ⟨p,rfl,?_⟩)))) (Stop.on rfl ⟨_,rfl,?_⟩)
        · refine b8 (b6f ..) ?_
          by_cases h:p∈ns'
          · refine b8 (decide_eq_true h ..) ?_;exact Stop.on rfl (if_pos h)
          · refine b8 (decide_eq_false h ..) ?_;exact Stop.on rfl (if_neg h)
        · refine b8 (all_empty ..) ?_
          cases e:ps.all fun p=>decide (p∈ns') <;> rw [e] at hK
          · exact Br.f rfl hK
          · exact Br.t rfl (Ev.wp ((o.kx _ hl).comp d) (Stop.on rfl hK))
      · refine Stop.on rfl (Tr.a9s rfl (a4g n1) (Ev.wp (o.kx _ hl) (Stop.on rfl ⟨u,rfl,?_⟩)))
        refine b8 (b6f ..) ?_
        by_cases h:u∈ns'
        · refine b8 (decide_eq_true h ..) ?_
          exact Stop.on rfl ⟨(ns',b),⟨by exact C5 (e ..) (b8 (b8k h ..) rfl),n1,by dsimp only;lia,hks'⟩,rfl⟩
        refine b8 (decide_eq_false h ..) ?_
        refine Stop.both rfl (fun h'=>?_) fun h'=>?_
        · refine Stop.on rfl (Ex.b7k rfl (a4g n1) (by refine b8 (c5h ..) ?_;exact E1 (show ns'.length≤_ by lia)) (Ev.wp (o.kx _ hl) (Stop.on rfl ⟨_,_,rfl,Ev.wp (o.kx _ hl) (Stop.on rfl ⟨u,rfl,?_⟩)⟩)) (o.loc rfl))
          refine b8 (show putK (kk ns') u (.bool true)=kk (ns'++[u]) from b1f (fun O=> .bool true) h ..) ?_
          exact Stop.on rfl ⟨(ns'++[u],true),⟨by exact C5 (e ..) (b8 (b6a h ((any_empty _ _).symm.trans h') ..) rfl),a3p n1 h,by dsimp only;refine b8 (List.length_append ..) ?_;show _+1+_+_≤_;lia,hks'⟩,rfl⟩
        · exact Stop.on rfl ⟨(ns',b),⟨by exact C5 (e ..) (b8 (b5i h ((any_empty _ _).symm.trans h') ..) rfl),n1,by dsimp only;lia,hks'⟩,rfl⟩
    · obtain ⟨e,n1,n2,_⟩:=h
      obtain rfl:s=ks.reverse.foldl D6 (ns,false):=e
      exact Stop.on rfl ⟨_,⟨m,rfl,r1,r2,n1,n2⟩,rfl⟩
  | cons u td=>
    refine Stop.both rfl (fun O=>?_) fun e=>absurd e (by refine b8 (c6n ..) ?_;nofun)
    have ht:=b5o h
    rw [List.length_cons] at htd
    have hz:(td.reverse.map Ty.pv).length+1≤sizeLine:=by refine b8 (List.length_map ..) (b8 (List.length_reverse ..) ?_);exact E1 (by exact Nat.le_trans (by assumption) (Nat.le_of_ble_eq_true rfl))
    refine Stop.opt rfl (c4b u td) (Stop.le rfl hz (Stop.on rfl (Tr.a9s rfl (a2h hn) (Ev.wp (o.kx _ hl) (Stop.on rfl ⟨u,rfl,?_⟩)))))
    refine b8 (c5a ..) ?_
    rcases ht with ⟨h1,h2⟩|⟨h1,⟨hk',ht'⟩,h2⟩
    · refine b8 (decide_eq_true h1 ..) ?_
      exact Stop.on rfl ⟨(ks,td),⟨h2,hn,hk,by dsimp only;exact Nat.le_of_lt (by assumption)⟩,rfl⟩
    · refine b8 (decide_eq_false h1 ..) ?_
      have hz2:(wk ks).length≤sizeLine:=by refine b8 (b1u ..) ?_;exact E1 (by exact Nat.le_trans (by assumption) (Nat.le_of_ble_eq_true rfl))
      refine Stop.on rfl (Ev.c9p rfl (a2h hn) hz2 (Stop.on rfl (Ev.b9g hM (Stop.both rfl (fun e=>?_) fun O=>?_) (o.kind rfl))) (o.kind rfl))
      · exact absurd (eq_of_beq e) (by refine b8 (b1u ..) ?_;dsimp only;lia)
      refine Stop.on rfl (Ev.b9g hM (Stop.on rfl ⟨u,rfl,Stop.on rfl (Ex.c8z rfl (a2h hn) hz2 (Ev.wp (o.kx _ hl) (Stop.on rfl ⟨u,rfl,Stop.on rfl (Ev.wp (o.kx _ hl) (Stop.on rfl ⟨u,rfl,Stop.on rfl ?_⟩))⟩)))⟩) (o.kind rfl))
      refine b8 (show putK (wk ks) u (.lst (a5j u))=wk (ks++[u]) from b1f (fun k=> .lst (a5j k)) h1 ..) ?_
      have hpl:=b9h u td
      refine A0.b9k (o.kx _ hl) b4x (hwV W t u (ks++[u])) (fun rest td'=>push td' rest=push td (F5 u)∧td'.length+2*rest.length≤30∧∀ps∈rest,ps.length≤2) (F5 u) td ⟨rfl,by have:=(a7e u).1;lia,(a7e u).2⟩ rfl rfl
        (Stop.on rfl (Ev.c0e rfl (a2h (a3p hn h1)) (Ev.wp (o.kx _ hl) (Stop.on rfl ⟨u,rfl,_,b5m (List.mem_append_right _ (List.mem_singleton.mpr rfl)),Stop.on rfl rfl⟩)))) (fun ps rest td' h=>?_) fun td' h=>?_
      · obtain ⟨e,h3,h4⟩:=h
        have h5:=h4 ps List.mem_cons_self
        rw [List.length_cons] at h3
        exact Stop.le rfl (by refine b8 (List.length_map ..) (b8 (List.length_map ..) (b8 (List.length_reverse ..) ?_));exact E1 (show td'.length+_≤_ by lia)) (Stop.on rfl ⟨ps.reverse++td',⟨e,by refine b8 (List.length_append ..) (b8 (List.length_reverse ..) ?_);lia,fun p hp=>h4 p (List.mem_cons_of_mem _ hp)⟩,J2.cons rfl (J2.cons rfl (J2.cons (by refine C5 (b2c ..) ?_;rfl) rfl))⟩)
      · obtain ⟨e,_⟩:=h
        obtain rfl:td'=push td (F5 u):=e
        exact Stop.on rfl ⟨(ks++[u],push td (F5 u)),⟨h2,a3p hn h1,by dsimp only;refine b8 (List.length_append ..) ?_;show _+1≤_;assumption,by dsimp only;lia⟩,rfl⟩
theorem a1b:∀(p:c7),low p→∀i:Int,7≤i→comes p (.n i)=comes p (.n 7)
  | .i7 _,_,_,_| .b0 _ _,_,_,_| .cb _,_,_,_| .v0,_,_,_| .v1 _,_,_,_| .pr _ _,_,_,_| .df _,_,_,_=>rfl
  | .bp _ _ p,hl,i,hi=>a1b p hl i hi
  | .or _ p q,hl,i,hi=>by show (_||_)=(_||_);rw [a1b p hl.1 i hi,a1b q hl.2 i hi]
  | .ci k,hl,i,hi=>by
    have ne:∀ {j:Int},7≤j→(k==j)=false:=fun h=>beq_eq_false_iff_ne.mpr fun e=>absurd (Int.le_trans h (e▸hl.2)) (by decide)
    exact (ne hi).trans (ne (Int.le_refl 7)).symm
  | .rg a b,hl,i,hi=>by
    have ne:∀ {j:Int},7≤j→(decide (a≤j)&&decide (j≤b))=false:=fun {j} h=>by rw [decide_eq_false (p:=j≤b) fun e=>absurd (Int.le_trans (Int.le_trans h e) hl.2.2) (by decide),Bool.and_false]
    exact (ne hi).trans (ne (Int.le_refl 7)).symm
noncomputable def c2n:Va→Va
  | .n i=>if 7≤i then .n 7 else .n i
  |v=>v
theorem b6h{P:Va→Prop}{i:Int}(h1:7≤i→P (.n 7))(h2:¬7≤i→P (.n i)):P (c2n (.n i)):=by
  show P (if 7≤i then .n 7 else .n i)
  by_cases h:7≤i
  · refine b8 (if_pos h ..) ?_;exact h1 h
  · refine b8 (if_neg h ..) ?_;exact h2 h
theorem a7s{k:Nat}(h:k<8):Va.n k∈l9 .byte:=(List.mem_map.mpr ⟨k,List.mem_range.mpr h,rfl⟩:Va.n k∈(List.range 8).map fun k:Nat=>Va.n k)
set_option tactic.hygienic true in
theorem a4f{t:Ty}{v:Va}(h:G1 t v):c2n v∈l9 t:=by
  cases v
  case u=>exact h.elim
  case n i=>
    obtain ⟨rfl,h0,_⟩:=h
    refine b6h (fun O=>a7s (k:=7) (by decide)) fun h7=>?_
    obtain ⟨k,rfl⟩:=Int.eq_ofNat_of_zero_le h0
    exact a7s (Nat.lt_succ_of_lt (Int.ofNat_lt.mp (Int.not_le.mp h7)))
  all_goals obtain rfl:t=_:=h
  case b b=>cases b;exact .head _;exact .tail _ (.head _)
  case pr a b=>cases a <;> cases b <;> first|exact .head _|exact .tail _ (.head _)|exact .tail _ (.tail _ (.head _))|exact .tail _ (.tail _ (.tail _ (.head _)))
  case e0=>exact .head _
  case e1 b=>cases b;exact .tail _ (.head _);exact .tail _ (.tail _ (.head _))
  case r b=>cases b;exact .head _;exact .tail _ (.head _)
theorem a2r{t:Ty}{v:Va}(h:v∈l9 t):G1 t v:=by
  cases t
  case bool=>exact Ea.all (P:=G1 .bool) (l:=l9 .bool) ⟨rfl,rfl,trivial⟩ _ h
  case byte=>
    obtain ⟨k,hk,rfl⟩:=List.mem_map.mp (show v∈(List.range 8).map fun k:Nat=>Va.n k from h)
    exact ⟨rfl,Int.natCast_nonneg k,Int.ofNat_le.mpr (Nat.le_trans (Nat.le_of_lt (List.mem_range.mp hk)) (by decide:8≤255))⟩
  case pair=>exact Ea.all (P:=G1 .pair) (l:=l9 .pair) ⟨rfl,rfl,rfl,rfl,trivial⟩ _ h
  case enum=>exact Ea.all (P:=G1 .enum) (l:=l9 .enum) ⟨rfl,rfl,rfl,trivial⟩ _ h
  case led=>exact Ea.all (P:=G1 .led) (l:=l9 .led) ⟨rfl,rfl,trivial⟩ _ h
  all_goals exact b9o h
set_option tactic.hygienic true in
theorem b2s{p:c7}(hl:low p)(v:Va):comes p (c2n v)=comes p v:=by
  cases v
  case n i=>exact b6h (P:=fun w=>comes p w=comes p (.n i)) (fun h=>(a1b p hl i h).symm) fun O=>rfl
  all_goals rfl
theorem b3n{u:Ty}(hf:full u)(hb:u≠ .byte){w:Va}(h:K2 u w):w∈l9 u:=by
  have m:=a4f (a8k hf h)
  cases w
  case n=>exact absurd h.1 hb
  all_goals exact m
theorem a8e{u:Ty}(h1:u≠ .none)(h2:u≠ .byte)(w:Va):w∈a3k u↔K2 u w:=by
  cases u
  case none=>exact absurd rfl h1
  case byte=>exact absurd rfl h2
  case never=>exact ⟨fun h=>List.mem_singleton.mp h▸ .inr rfl,fun h=>by cases w <;> first|exact .head _|exact J6 h rfl|exact J6 h.1 rfl⟩
  all_goals exact ⟨fun h=>a2s (a2r h),b3n (of_decide_eq_false rfl) h2⟩
theorem c5i{n:Nat}{t u:Ty}{rows:List Row}{one:Row}(ht:full t)(hu:u≠ .none)(hu':u≠ .byte)(hn:L7 t+L7 u≤n)(hr:∀r∈rows,D5 t [u] r∧∀p∈r,low p)(h1:D5 t [u] one∧∀p∈one,low p):
    a0x m8 (z0 m8 n) t [u] rows one=b3v t u rows one:=by
  have turn:∀r:Row,D5 t [u] r∧(∀p∈r,low p)→∀v w,c9 r [c2n v,w]=c9 r [v,w]:=fun r hr v w=>by
    obtain ⟨p,tl,_,_⟩:=hr.1.inv
    show (_&&_)=(_&&_)
    exact b8 (b2s (hr.2 p List.mem_cons_self) ..) rfl
  have turns:∀v w,∀l:List Row,(∀r∈l,D5 t [u] r∧∀p∈r,low p)→l.any (c9 · [c2n v,w])=l.any (c9 · [v,w]):=fun v w l=>by
    induction l with
    |nil=>intro _;rfl
    |cons r l ih=>intro h;exact b8 (List.any_cons ..) (b8 (List.any_cons ..) (b8 (ih fun r hr=>h r (List.mem_cons_of_mem _ hr) ..) (b8 (turn r (h r List.mem_cons_self) ..) rfl)))
  refine Bool.eq_iff_iff.mpr (Iff.trans (a5b (a6h n) (t:=t) (ts:=[u]) hn (fun r h=>(hr r h).1) h1.1) ⟨fun ⟨v,vs,a,b,c,d⟩=>?_,fun h=>?_⟩)
  · obtain ⟨w,_,hw,b'⟩:=b.inv
    clear b;cases b'.nil_inv
    refine List.any_eq_true.mpr ⟨c2n v,a4f a,List.any_eq_true.mpr ⟨w,(a8e hu hu' w).mpr hw,?_⟩⟩
    unfold G7
    refine b8 (turn one h1 ..) (b8 (turns v w rows hr ..) (b8 (c ..) (b8 (d ..) ?_)));rfl
  · obtain ⟨v,hv,h⟩:=List.any_eq_true.mp h
    obtain ⟨w,hw,h⟩:=List.any_eq_true.mp h
    obtain ⟨a,b⟩:=Bool.and_eq_true_iff.mp h
    exact ⟨v,[w],a2r hv,⟨(a8e hu hu' w).mp hw,trivial⟩,a,by rw [Bool.not_eq_true'] at b;exact b⟩
noncomputable def pdb:Ty→Nat
  | .pair=>2
  | .enum=>2
  | .led=>2
  | .bool=>1
  | .byte=>1
  | .none=>1
  | .never=>1
noncomputable abbrev c4t:List Ty→List c7→Prop:=A1 fun t p=>pd p≤pdb t
inductive b7x(ts:List Ty)(rows:List Row)(ps:List c7):Prop
  |mk (h1:r9 ts ps) (h2:c4t ts ps) (vs:List Va) (h3:A1 G1 ts vs) (h4:c9 ps vs=true) (h5:∀vs,A1 G1 ts vs→c9 ps vs=true→rows.any (c9 · vs)=false)
noncomputable def E5(ts:List Ty)(rows:List Row):Option (List c7)→Prop
  |none=>∀vs,A1 G1 ts vs→rows.any (c9 · vs)=true
  |some ps=>b7x ts rows ps
theorem c1b{t:Ty}(h:A4 t=true):∃v,G1 t v:=by
  cases t
  case bool=>exact ⟨.b false,rfl⟩
  case byte=>exact ⟨.n 0,rfl,by decide,by decide⟩
  case pair=>exact ⟨.pr false false,rfl⟩
  case enum=>exact ⟨.e0,rfl⟩
  case led=>exact ⟨.r false,rfl⟩
  all_goals exact D8 h
inductive c9u(t:Ty)(c:j7)(l:List c7)(r:c7):Prop
  |mk (ty:B8 t r) (dp:pd r≤pdb t) (k:∀v args,CV c v args→comes r v=c9 l args) (k2:∀v,comes r v=true→∃args,CV c v args)
set_option tactic.hygienic true in
theorem a7a{t:Ty}{hs:List c7}(hty:∀p∈hs,Pl t p){c:j7}(hc:c∈m8 t hs){l:List c7}(hl:r9 (inner t c) l)(hd:c4t (inner t c) l){r:c7}(hr:a1n t c l=some r):c9u t c l r:=by
  have hct:=a0y t hs c hc
  have k:=a4l hr
  clear hr;revert hty hc hl hd hct;cases k
  all_goals intro hty hc hl hd hct
  case i7=>exact hct.elim
  case v0=>exact ⟨rfl,Nat.le_of_ble_eq_true rfl,fun v args h=>by cases h;rfl,fun v h=>by cases v <;> first|exact ⟨_,.M6⟩|exact D8 h⟩
  case v1 p=>exact ⟨⟨rfl,hl.1⟩,Nat.succ_le_succ hd.1,fun v args h=>by cases h;exact (Bool.and_true _).symm,fun v h=>by cases v <;> first|exact ⟨_,.M4 _⟩|exact D8 h⟩
  case pr p q=>exact ⟨⟨rfl,hl.1,hl.2.1⟩,Nat.succ_le_succ (Nat.max_le.mpr ⟨hd.1,hd.2.1⟩),fun v args h=>by cases h;exact (a9f p q _ _).symm,fun v h=>by cases v <;> first|exact ⟨_,.fields _ _⟩|exact D8 h⟩
  case df p=>exact ⟨⟨rfl,hl.1⟩,Nat.succ_le_succ hd.1,fun v args h=>by cases h;exact (Bool.and_true _).symm,fun v h=>by cases v <;> first|exact ⟨_,.A7 _⟩|exact D8 h⟩
  case cb b=>exact ⟨rfl,Nat.le_refl 1,fun v args h=>by cases h;exact beq_self_eq_true b,fun v h=>by cases v <;> first|(cases eq_of_beq h;exact ⟨_,.cb _⟩)|exact D8 h⟩
  case rg lo hi=>
    clear hct hl hd;cases a2m hty hc with
    | mk _ _ h0 h1 h2 _=>
      by_cases e:lo=hi
      · subst e
        refine b8 (if_pos rfl ..) ?_
        exact ⟨⟨rfl,h0,h2⟩,Nat.le_refl 1,fun v args h=>by cases h with|rg _ _ j a b=>exact beq_iff_eq.mpr (Int.le_antisymm a b),fun v h=>by cases v <;> first|(cases eq_of_beq h;exact ⟨_,.rg _ _ _ (Int.le_refl _) (Int.le_refl _)⟩)|exact D8 h⟩
      · refine b8 (if_neg e ..) ?_
        exact ⟨⟨rfl,h0,h1,h2⟩,Nat.le_refl 1,fun v args h=>by cases h with|rg _ _ j a b=>exact Bool.and_eq_true_iff.mpr ⟨decide_eq_true a,decide_eq_true b⟩,fun v h=>by cases v <;> first|exact ⟨_,.rg _ _ _ (of_decide_eq_true (Bool.and_eq_true_iff.mp h).1) (of_decide_eq_true (Bool.and_eq_true_iff.mp h).2)⟩|exact D8 h⟩
noncomputable def c3j(n:Nat):Prop:=∀(ts:List Ty) (rows:List Row),B7 ts<n→(∀r∈rows,r9 ts r)→E5 ts rows (leftOut m8 A4 n ts rows)
theorem c3e{t:Ty}{v:Va}(h:G1 t v):A4 t=true:=by
  cases v <;> first|exact h.elim|exact h▸rfl|exact h.1▸rfl
theorem E5.to{t:Ty}{ts:List Ty}{rs rows:List Row}(e:∀v vs,rs.any (c9 · (v::vs))=rows.any (c9 · (v::vs))):∀ {o:Option (List c7)},E5 (t::ts) rs o→E5 (t::ts) rows o
  |none,h=>fun vs hv=>by obtain ⟨v,vs,h0,a⟩:=hv.inv;exact (e v vs).symm.trans (h _ ⟨h0,a⟩)
  |some ps,⟨k1,k2,vs,k3,k4,k5⟩=>⟨k1,k2,vs,k3,k4,fun vs hv hc=>by obtain ⟨v,vs,h0,a⟩:=hv.inv;exact (e v vs).symm.trans (k5 _ ⟨h0,a⟩ hc)⟩
theorem a4u{n:Nat}(ih:c3j n){t:Ty}{ts:List Ty}{rows:List Row}(hn:B7 ts<n)(hr:∀r∈rows,r9 (t::ts) r)(hw:rows.all g8=true):E5 (t::ts) rows (A3 A4 (leftOut m8 A4 n) t ts rows):=by
  unfold A3
  cases hv:A4 t with
  |false=>exact fun vs h=>by obtain ⟨v,vs,h0,_⟩:=h.inv;exact nomatch (c3e h0).symm.trans hv
  | true=>
    have key:=ih ts (restOf rows) hn (a1c hr).h
    show E5 _ _ ((leftOut m8 A4 n ts (restOf rows)).map _)
    clear hr;cases hl:leftOut m8 A4 n ts (restOf rows) with
    | none=>
      rw [hl] at key
      exact fun vs h=>by obtain ⟨v,vs,_,a⟩:=h.inv;exact (a2d rows hw v vs).symm.trans (key vs a)
    | some ps=>
      rw [hl] at key
      obtain ⟨k1,k2,vs,k3,k4,k5⟩:=key
      obtain ⟨v,hvm⟩:=c1b hv
      exact ⟨⟨trivial,k1⟩,⟨by cases t <;> exact Nat.le_of_ble_eq_true rfl,k2⟩,v::vs,⟨hvm,k3⟩,k4,fun ws h hc=>by obtain ⟨w,ws,_,a⟩:=h.inv;exact (a2d rows hw w ws).symm.trans (k5 ws a hc)⟩
theorem a9b{n:Nat}(ih:c3j n){t:Ty}{ts:List Ty}{rs:List Row}(hn:L7 t+B7 ts≤n)(d8:∀r∈rs,D5 t ts r):E5 (t::ts) rs (a0s m8 (leftOut m8 A4 n) t ts rs):=by
  unfold a0s
  have hty:=a4e d8
  have hne:=a1q fun r h=>(d8 r h).row
  generalize hhs:heads rs=hs at hty
  have hsub:∀q∈heads rs,q∈hs:=fun q h=>hhs▸h
  have sub:∀c∈m8 t hs,E5 (inner t c++ts) (narrow rs c (inner t c).length) (leftOut m8 A4 n (inner t c++ts) (narrow rs c (inner t c).length)):=fun c hc=>
    ih _ _ (by refine b8 (a0v ..) ?_;exact Nat.lt_of_lt_of_le (Nat.add_lt_add_right (a2g (a0y t hs c hc)) _) hn) (a0f (a0y t hs c hc) d8).h
  cases hf:(m8 t hs).findSome? fun c=>match leftOut m8 A4 n (inner t c++ts) (narrow rs c (inner t c).length) with
      |none=>none
      |some found=>(a1n t c (found.take (inner t c).length)).map (· ::found.drop (inner t c).length) with
  | none=>
    rw [List.findSome?_eq_none_iff] at hf
    intro vs hv
    obtain ⟨v,vs,h0,hv'⟩:=hv.inv
    obtain ⟨c,args,hc,hvc⟩:=b5z hs h0
    have h1:=hf c hc
    have h2:=sub c hc
    refine (a0z hty hc vs hvc rs hne hsub).symm.trans ?_
    cases hl:leftOut m8 A4 n (inner t c++ts) (narrow rs c (inner t c).length) with
    |none=>rw [hl] at h2;exact h2 _ (A1.app hv' hvc.args)
    | some l=>
      rw [hl] at h1 h2
      obtain ⟨k1,_⟩:=h2
      obtain ⟨r,hr'⟩:=a3w (a0y t hs c hc) (l.take (inner t c).length) k1.split.1.len
      exact nomatch (congrArg (Option.map _) hr').symm.trans h1
  | some ps=>
    obtain ⟨c,hc,h1⟩:=List.exists_of_findSome?_eq_some hf
    have h2:=sub c hc
    clear hf;cases hl:leftOut m8 A4 n (inner t c++ts) (narrow rs c (inner t c).length) with
    |none=>rw [hl] at h1;exact nomatch h1
    | some l=>
      rw [hl] at h1 h2
      obtain ⟨k1,k2,ws,k3,k4,k5⟩:=h2
      obtain ⟨t1,t2⟩:=k1.split
      obtain ⟨d1,d2⟩:=k2.split
      obtain ⟨r,hr',rfl⟩:=Option.map_eq_some_iff.mp h1
      obtain ⟨r1,r2,r3,r4⟩:=a7a hty hc t1 d1 hr'
      have join:∀ {v args} (vs:List Va),CV c v args→c9 (r::l.drop (inner t c).length) (v::vs)=c9 l (args++vs):=fun {v args} vs h=>by
        refine C5 (congrArg (c9 · (args++vs)) (List.take_append_drop (inner t c).length l) ..) (b8 (a4n _ _ _ _ (t1.len.trans (h.args (t:=t)).len.symm) ..) (C5 (r3 v args h ..) ?_));rfl
      obtain ⟨args,vs,ha,hv⟩:=k3.c1c
      obtain ⟨v,hvm,hvc⟩:=b5h hty hc (A1.imp (fun O O=>a2s) ha)
      refine ⟨⟨r1,t2⟩,⟨r2,d2⟩,v::vs,⟨hvm,hv⟩,(join vs hvc).trans k4,fun xs hx hxc=>?_⟩
      obtain ⟨v,vs,_,hx'⟩:=hx.inv
      obtain ⟨args,hi⟩:=r4 v (Bool.and_eq_true_iff.mp hxc).1
      exact (a0z hty hc vs hi rs hne hsub).symm.trans (k5 _ (A1.app hx' hi.args) ((join vs hi).symm.trans hxc))
theorem b9w(n:Nat):∀(rows:List Row),(∀r∈rows,r9 [] r)→E5 [] rows (leftOut m8 A4 (n+1) [] rows):=by
  intro LL
  induction LL with
  | nil=>
    rintro _
    exact ⟨trivial,trivial,[],trivial,rfl,fun O O O=>rfl⟩
  | cons r rows ih=>
    rintro h
    exact fun vs a=>by cases (h r List.mem_cons_self).nil_inv;cases a.nil_inv;rfl
theorem a3s:∀n,c3j n
  |0=>fun ts rows h=>absurd h (Nat.not_lt_zero _)
  | n + 1=>fun ts rows hn hr=>by
    cases ts with
    |nil=>exact b9w n rows hr
    | cons t ts=>
      rw [a0m] at hn
      have hn:=Nat.le_of_lt_succ hn
      have d8:=a0e hr
      refine E5.to (rs:=opened rows) (fun v vs=>a2e rows (a1q hr) v vs) ?_
      show E5 _ _ (if (opened rows).all g8 then A3 A4 (leftOut m8 A4 n) t ts (opened rows) else a0s m8 (leftOut m8 A4 n) t ts (opened rows))
      by_cases hw:(opened rows).all g8=true
      · refine b8 (if_pos hw ..) ?_
        exact a4u (a3s n) (Nat.lt_of_lt_of_le (Nat.lt_add_of_pos_left (a7g t)) hn) (fun r h=>(d8 r h).row) hw
      · refine b8 (if_neg hw ..) ?_
        exact a9b (a3s n) hn d8
noncomputable def c0p(q:c7):Prop:=∀i:Int,7≤i→i≤255→comes q (.n i)=comes q (.n 7)
theorem a2v:∀(p:c7),low p→∀q∈p.A6,low q
  | .i7 _,ht,q,h| .cb _,ht,q,h| .ci _,ht,q,h| .rg _ _,ht,q,h| .v0,ht,q,h| .pr _ _,ht,q,h| .v1 _,ht,q,h| .df _,ht,q,h=>List.mem_singleton.mp h▸ht
  | .b0 _ _,_,q,h=>List.mem_singleton.mp h▸trivial
  | .bp _ _ p,ht,q,h=>a2v p ht q h
  | .or _ a b,ht,q,h=>(List.mem_append.mp h).elim (a2v a ht.1 q) (a2v b ht.2 q)
theorem b4o{ks:List Int}{a b:Int}(ha:a≤b)(hb:b≤6)(h:∀k∈ks,k≤7):∀k∈A2 (A2 ks a) (b+1),k≤7:=fun k hk=>
  (a1m hk).elim (fun hk=>(a1m hk).elim (h k) fun e=>e▸Int.le_trans (Int.le_trans ha hb) (by decide)) fun e=>e▸Int.add_le_add_right hb 1
set_option tactic.hygienic true in
theorem a9q{ks:List Int}{p:c7}(hl:low p)(h:∀k∈ks,k≤7):∀k∈l0 ks p,k≤7:=by
  cases p
  case ci i=>exact b4o (Int.le_refl i) hl.2 h
  case rg a b=>exact b4o hl.2.1 hl.2.2 h
  all_goals exact h
theorem c1t:∀(hs:List c7) (ks:List Int),(∀p∈hs,low p)→(∀k∈ks,k≤7)→∀k∈hs.foldl l0 ks,k≤7:=by
  intro LL
  induction LL with
  | nil=>
    rintro ks _ h
    exact h
  | cons p hs ih=>
    rintro ks hp h
    exact ih _ (fun q hq=>hp q (List.mem_cons_of_mem _ hq)) (a9q (hp p List.mem_cons_self) h)
theorem b5f{hs:List c7}(hp:∀p∈hs,low p){k:Int}(hk:k∈cutsOf hs):k≤7∨k=256:=
  (a3d.mp hk).imp (fun z=>c1t hs [0] hp (fun k h=>List.mem_singleton.mp h▸by decide) k z.1) id
theorem b4q{rows:List Row}(h:∀r∈rows,∀p∈r,low p):∀p∈heads (opened rows),low p:=fun p hp=>by
  obtain ⟨r,hr',e'⟩:=List.mem_filterMap.mp hp
  obtain ⟨row,h1,h2⟩:=List.mem_flatMap.mp hr'
  clear hr';cases row with
  |nil=>exact nomatch h2
  | cons a tl=>
    obtain ⟨x,hx,rfl⟩:=List.mem_map.mp (show r∈a.A6.map (· ::tl) from h2)
    cases Option.some.inj e'
    exact a2v a (h _ h1 a List.mem_cons_self) _ hx
theorem a7t{hs:List c7}(hp:∀p∈hs,low p){lo hi:Int}(m1:lo∈cutsOf hs)(m2:lo≤hi)(m3:hi+1∈cutsOf hs):c0p (if lo=hi then .ci lo else .rg lo hi):=by
  have h0:=(a2c m1).1
  rcases b5f hp m3 with h|h
  · have h6:hi≤6:=Int.le_of_add_le_add_right (show hi+1≤6+1 from h)
    intro i h7 _
    by_cases e:lo=hi
    · refine b8 (if_pos e ..) ?_;exact a1b (.ci lo) ⟨h0,Int.le_trans m2 h6⟩ i h7
    · refine b8 (if_neg e ..) ?_;exact a1b (.rg lo hi) ⟨h0,m2,h6⟩ i h7
  · clear m3;obtain rfl:hi=255:=by lia
    have hl:lo≤7:=(b5f hp m1).elim id fun e=>absurd (e▸m2) (by decide)
    refine b8 (if_neg fun e=>absurd (e▸hl) (by decide) ..) ?_
    have yes:∀ {i:Int},7≤i→i≤255→comes (.rg lo 255) (.n i)=true:=fun a b=>Bool.and_eq_true_iff.mpr ⟨decide_eq_true (Int.le_trans hl a),decide_eq_true b⟩
    exact fun i h7 hi=>(yes h7 hi).trans (yes (Int.le_refl 7) (by decide)).symm
theorem a9k{n:Nat}{rows:List Row}(hr:∀r∈rows,∀p∈r,low p){q:c7}{l:List c7}(h:leftOut m8 A4 n [.byte] rows=some (q::l)):c0p q:=by
  cases n with
  |zero=>exact nomatch h
  | succ n=>
    have h:(if (opened rows).all g8 then A3 A4 (leftOut m8 A4 n) .byte [] (opened rows) else a0s m8 (leftOut m8 A4 n) .byte [] (opened rows))=some (q::l):=h
    by_cases hw:(opened rows).all g8=true
    · rw [if_pos hw] at h
      obtain ⟨a,_,h⟩:=Option.map_eq_some_iff.mp (show (leftOut m8 A4 n [] (restOf (opened rows))).map (.i7 .byte:: ·)=_ from h)
      cases h
      exact fun i O O=>rfl
    · rw [if_neg hw] at h
      obtain ⟨c,hc,h⟩:=List.exists_of_findSome?_eq_some h
      have hlow:=b4q hr
      have hc:c∈a4j (heads (opened rows)):=hc
      rw [a5l] at hc
      obtain ⟨lo,hi,m1,m2,m3,_⟩:=b4v _ (a1f _) c hc
      cases hl:leftOut m8 A4 n (inner .byte (.rg lo hi)++[]) (narrow (opened rows) (.rg lo hi) (inner .byte (.rg lo hi)).length) with
      |none=>rw [hl] at h;exact nomatch h
      | some found=>
        rw [hl] at h
        exact (List.cons.inj (Option.some.inj (show some ((if lo=hi then c7.ci lo else c7.rg lo hi)::_)=some _ from h))).1▸a7t hlow m1 m2 m3
noncomputable def freeOf(u:Ty)(late:List c7):List Va:=(l9 u).filter fun v=>!(late.any (comes · v))
noncomputable def z9(t:Ty)(late:List c7):List Row:=late.map fun p=>[.i7 t,p]
theorem b0s(t:Ty)(v w:Va):∀late:List c7,(z9 t late).any (c9 · [v,w])=late.any (comes · w):=by
  intro LL
  induction LL with
  | nil=>
    exact rfl
  | cons p late ih=>
    show ((comes p w&&true)||(z9 t late).any _)=_
    rw [Bool.and_true,ih];rfl
theorem b5s(t:Ty):∀late:List c7,restOf (z9 t late)=late.map fun p=>[p]:=by
  intro LL
  induction LL with
  | nil=>
    exact rfl
  | cons p late ih=>
    show restOf ([.i7 t,p]::z9 t late)=_;refine b8 (a1y rfl ..) (b8 (ih ..) ?_);rfl
theorem b0n{u:Ty}{late:List c7}{w:Va} :w∈freeOf u late↔w∈l9 u∧late.any (comes · w)=false:=List.mem_filter.trans (and_congr Iff.rfl (by rw [Bool.not_eq_true']))
inductive c9d(t u:Ty)(free:List Va):Option (List c7)→Prop
  |no (h:l9 t=[]∨free=[]):c9d t u free none
  |yes (q:c7) (h1:l9 t≠[]) (h2:free≠[]) (ty:B8 u q) (dp:pd q≤2) (met:(l9 u).filter (comes q ·)≠[]) (all:∀w∈(l9 u).filter (comes q ·),w∈free):c9d t u free (some [.i7 t,q])
theorem c3c{t:Ty}(h:A4 t=false):l9 t=[]:=by cases t <;> first|rfl|exact c3r h
set_option tactic.hygienic true in
theorem b2t{n:Nat}{t u:Ty}{late:List c7}(hn:B7 [u]<n)(h:∀p∈late,B8 u p∧low p):c9d t u (freeOf u late) (A3 A4 (leftOut m8 A4 n) t [u] (z9 t late)):=by
  have hw:(z9 t late).all g8=true:=List.all_eq_true.mpr fun r hr=>by obtain ⟨p,_,rfl⟩:=List.mem_map.mp hr;rfl
  have key:=a4u (a3s n) (t:=t) (ts:=[u]) hn (fun r hr=>by obtain ⟨p,hp,rfl⟩:=List.mem_map.mp hr;exact ⟨trivial,(h p hp).1,trivial⟩) hw
  unfold A3 at key ⊢
  cases hv:A4 t with
  |false=>exact .no (.inl (c3c hv))
  | true=>
    rw [hv,if_pos rfl] at key
    refine b8 (if_pos rfl ..) ?_
    cases hl:leftOut m8 A4 n [u] (restOf (z9 t late)) with
    | none=>
      rw [hl] at key
      obtain ⟨v,hv⟩:=c1b hv
      refine .no (.inr (List.eq_nil_iff_forall_not_mem.mpr fun w hw=>?_))
      obtain ⟨m,f⟩:=b0n.mp hw
      exact nomatch ((b0s t v w late).trans f).symm.trans (key [v,w] ⟨hv,a2r m,trivial⟩)
    | some l=>
      rw [hl] at key
      obtain ⟨⟨_,k1⟩,⟨_,k2⟩,vs,k3,k4,k5⟩:=key
      obtain ⟨q,_,hq,k6⟩:=k1.inv
      cases k6.nil_inv
      obtain ⟨v,_,h1,k7⟩:=k3.inv
      obtain ⟨w,_,h2,k8⟩:=k7.inv
      cases k8.nil_inv
      have hc:comes q w=true:=(Bool.and_true _).symm.trans k4
      have hs:comes q (c2n w)=true:=by
        cases w
        case n i=>
          obtain ⟨rfl,_,h255⟩:=h2
          exact b6h (P:=fun w=>comes q w=true) (fun h7=>(a9k (fun r hr p hp=>by
            rw [b5s] at hr
            obtain ⟨p',hp',rfl⟩:=List.mem_map.mp hr
            exact List.mem_singleton.mp hp▸(h p' hp').2) hl i h7 h255).symm.trans hc) fun O=>hc
        all_goals exact hc
      have all:∀x∈(l9 u).filter (comes q ·),x∈freeOf u late:=fun x hx=>by
        obtain ⟨m,hx⟩:=List.mem_filter.mp hx
        exact b0n.mpr ⟨m,(b0s t v x late).symm.trans (k5 [v,x] ⟨h1,a2r m,trivial⟩ ((Bool.and_true _).trans hx))⟩
      have hm:=List.mem_filter.mpr ⟨a4f h2,hs⟩
      exact .yes q (List.ne_nil_of_mem (a4f h1)) (List.ne_nil_of_mem (all _ hm)) hq (Nat.le_trans k2.1 (by cases u <;> exact Nat.le_of_ble_eq_true rfl)) (List.ne_nil_of_mem hm) all
theorem Tr.or3{F:Fm}{ρ:b9}{x y z:Expr}{pos:Pos}{P:Bool→Prop}(h:Tr F ρ x fun b=>Br b (P true) (Tr F ρ y fun b=>Br b (P true) (Tr F ρ z P))):Tr F ρ (.BoolOp .Or [x,y,z] pos) P:=fun X s inv Q E q=>by
  refine wpAny_isTrue_BoolOp (wpAny_allTrue_Or_cons (h X s inv _ _ fun b s₁ p i x=>?_))
  cases b with
  |true=>exact q _ _ (p.1 rfl) i x
  | false=>
    refine wpAny_allTrue_Or_cons ((p.2 rfl) X s₁ i _ _ fun b s₂ p2a i₂ x₂=>?_)
    cases b with
    |true=>exact q _ _ (p2a.1 rfl) i₂ (x.trans x₂)
    |false=>exact wpAny_allTrue_Or_cons ((p2a.2 rfl) X s₂ i₂ _ _ fun b s₃ p3a i3a x3a=>by
        cases b with
        |true=>exact q _ _ p3a i3a ((x.trans x₂).trans x3a)
        |false=>exact wpAny_allTrue_Or_nil (q _ _ p3a i3a ((x.trans x₂).trans x3a)))
theorem b9m(vs:List Va):G8 (.lst (vs.map Va.pv))=true:=by
  unfold G8
  have h1:∀vs:List Va,E3 (vs.map Va.pv)=true:=fun vs=>by
    induction vs with
    |nil=>rfl
    |cons b bs ih=>cases b <;> exact ih
  have h2:∀vs:List Va,PyData.depthAll (toPys (vs.map Va.pv))≤3:=fun vs=>by
    induction vs with
    |nil=>exact Nat.zero_le _
    |cons b bs ih=>exact Nat.max_le.mpr ⟨by cases b <;> exact Nat.le_of_ble_eq_true rfl,ih⟩
  refine b8 (Bool.and_eq_true ..) ?_
  exact ⟨h1 vs,decide_eq_true (Nat.le_trans (Nat.succ_le_succ (h2 vs)) (by decide))⟩
theorem c1e(v:Va):G8 v.pv=true:=by cases v <;> rfl
theorem c4n(v:Va):PyData.eqv (toPy v.pv) (toPy v.pv)=true:=by
  cases v with
  |b x=>cases x <;> rfl
  |n i=>exact beq_self_eq_true i
  |pr x y=>cases x <;> cases y <;> rfl
  |e1 x=>cases x <;> rfl
  |r x=>cases x <;> rfl
  |_=>rfl
theorem c5x{v:Va}{vs:List Va}(h:v∈vs):N3 v.pv (.lst (vs.map Va.pv))=some true:=by
  have:(toPys (vs.map Va.pv)).any (fun y=>PyData.eqv y (toPy v.pv))=true:=by
    induction vs with
    |nil=>cases h
    | cons a as ih=>
      show (PyData.eqv (toPy a.pv) (toPy v.pv)||(toPys (as.map Va.pv)).any fun y=>PyData.eqv y (toPy v.pv))=true
      refine Bool.or_eq_true_iff.mpr ?_
      rcases List.mem_cons.mp h with h|h
      · subst h;exact .inl (c4n v)
      · exact .inr (ih h)
  show (if G8 v.pv&&G8 (.lst (vs.map Va.pv)) then some ((toPys (vs.map Va.pv)).any fun y=>PyData.eqv y (toPy v.pv)) else none)=some true
  refine b8 (c1e ..) (b8 (b9m ..) (b8 (this ..) ?_));rfl
theorem b8y{F:Fm}{sc:Scope}{elt:Expr}{gs:List Comprehension}{y:Str}{pos yp:Pos}{line:Nat}(h:F.env.kindOf y=some .cell):swapsWith (.ListComp elt gs sc pos) (some (.Name y yp)) line F.env=pure false:=by
  unfold swapsWith
  simp only [h,show (some NameKind.cell==some NameKind.local)=false from rfl,Bool.and_false,Bool.false_and]
structure b4c(t u:Ty)(late:List c7):Prop where
  hu:u= .bool∨u= .enum∨u= .byte
  h:∀p∈late,B8 u p∧low p∧pd p≤4∧v7 p≤4
  len:late.length≤4
inductive TLR(W:PV)(ds:List PV)(P:PV→Prop):Prop
  |mk (t u:Ty) (late:List c7) (e:ds=[.lst (late.map c7.pv),.lst [t.pv,u.pv],W]) (h:b4c t u late) (k:P (.bool true))
theorem a5q(t:Ty):∀late:List c7,(∀p∈late,v7 p≤4)→l6 (z9 t late)≤4*late.length:=by
  intro LL
  induction LL with
  | nil=>
    rintro _
    exact Nat.le_refl _
  | cons p late ih=>
    rintro h
    have ih:=ih fun p hp=>h p (List.mem_cons_of_mem _ hp)
    show 1*(v7 p*1)+l6 (z9 t late)≤4*(late.length+1)
    refine b8 (Nat.one_mul ..) (b8 (Nat.mul_one ..) (b8 (Nat.mul_add ..) (b8 (Nat.add_comm ..) ?_)))
    exact Nat.add_le_add ih (h p List.mem_cons_self)
theorem b4c.wl{t u:Ty}{late:List c7}(h:b4c t u late):WL (t::[u]) (z9 t late)∧B7 [u]<4∧(∀v∈l9 u,J9 u v)∧((l9 u).map Va.pv).length≤sizeLine:=by
  obtain ⟨hu,h,hlen⟩:=h
  have hle:=a5q t late fun p hp=>(h p hp).2.2.2
  refine ⟨⟨fun r hr=>?_,by lia,fun O=>by lia,?_⟩,by clear h;rcases hu with rfl|rfl|rfl <;> decide,a1i u,?_⟩
  · obtain ⟨p,hp,rfl⟩:=List.mem_map.mp hr
    exact ⟨trivial,(h p hp).1,trivial⟩
  · rcases hu with rfl|rfl|rfl <;> cases t <;> decide
  · refine b8 (List.length_map ..) ?_;clear h;rcases hu with rfl|rfl|rfl <;> exact E1 (by decide)
noncomputable def lrL(W:PV):List (Str×F8):=[("_law_values",b0d),("_law_comes",a3y 4),("left_out_wild",a7d W m8 A4 4)]
theorem a8a(f:Va→Bool)(vs:List Va):vs.filterMap (fun v=>if f v then some v.pv else none)=(vs.filter f).map Va.pv:=by
  induction vs with
  |nil=>rfl
  |cons v vs ih=>refine b8 (List.filterMap_cons ..) (b8 (List.filter_cons ..) ?_);cases f v with|false=>exact ih|true=>exact congrArg (v.pv:: ·) ih
theorem c0o{vs:List Va}(h:vs≠[]):(vs.map Va.pv).isEmpty=false:=by cases vs with|nil=>exact absurd rfl h|cons _ _=>rfl
theorem Stop.full{q x y:Stop}{vs:List Va}(e:q=D7 (vs.map Va.pv).isEmpty x y)(h:vs≠[])(k:y.den):q.den:=Stop.both e (fun z=>by rw [c0o h] at z;cases z) fun O=>k
theorem Stop.c8x{q x y:Stop}{vs:List Va}(e:q=D7 (!(vs.map Va.pv).isEmpty) x y)(h:vs≠[])(k:x.den):q.den:=Stop.both e (fun O=>k) fun z=>by rw [c0o h] at z;cases z
theorem c3b(t:Ty):E8 .NotEq (c7.i7 t).pv (.tup [.str "wild",t.pv])=some false:=by cases t <;> decide
theorem b3x{v:Va}{vs:List Va}(h:v∈vs):E8 .NotIn v.pv (.lst (vs.map Va.pv))=some false:=by show (N3 _ _).map not=_;refine b8 (c5x h ..) ?_;rfl
theorem filter_none(vs:List Va):([]:List PV)++vs.filterMap (fun O=>none)=[]:=by induction vs with|nil=>rfl|cons v vs ih=>exact ih
theorem c4e(t:Ty)(late:List c7):late.map (fun p=>m6 [.i7 t,p])=(z9 t late).map m6:=by unfold z9;refine b8 (List.map_map ..) ?_;rfl
set_option tactic.hygienic true in
theorem a8u{C:Cx}{W:PV}(fn:∃a,FnAt C "_law_left_right" a (i9 64))(k:Nat)(hV:d7 C k "_law_values" b0d)(hA:d7 C k "_law_comes" (a3y 4))(hL:d7 C k "left_out_wild" (a7d W m8 A4 4)):d7 C (k+1) "_law_left_right" (TLR W):=by
  refine d7.wp (names:=["rows","types","world"]) (lrL W) ⟨hV,hA,hL,trivial⟩ fn (a2l rfl fun O O O O O O=>rfl) rfl (fun ds P h=>h.rec fun O O O e O O=>e▸rfl) fun F O O o hl ds P h=>?_
  obtain ⟨t,u,late,rfl,hin,hP⟩:=h
  obtain ⟨hwl,htm,hvt,hvz⟩:=hin.wl (t:=t)
  have hlz:∀ {β:Type} {f:c7→β},(late.map f).length≤sizeLine:=fun {_ _} =>by refine b8 (List.length_map ..) ?_;exact E1 (Nat.le_trans hin.len (by decide))
  have hsp:=b2t (t:=t) htm fun p hp=>⟨(hin.h p hp).1,(hin.h p hp).2.1⟩
  refine Stop.on rfl (Ev.F4 (o.kx _ hl) [("types",.val (.lst [t.pv,u.pv]))] (c6.of ["types"] ⟨⟨rfl,rfl,rfl,o.cap rfl⟩,trivial⟩ (by decide) (by decide)) c7.pv late (fun p=>m6 [.i7 t,p]) (Stop.on rfl rfl) (E1 (Nat.le_trans hin.len (by decide))) (fun d p hp=>Stop.on rfl rfl) ?_)
  refine b8 (c4e ..) ?_
  refine Stop.on rfl ⟨t,[u],z9 t late,330,rfl,hwl,htm,by decide,?_⟩
  refine Stop.on rfl (Ex.assign (Ev.M8 (F0.c9b (x:="value") (ρc:=[("rows",.val (.lst (late.map c7.pv)))]) (c6.of ["rows"] ⟨⟨rfl,rfl,rfl,o.cap rfl⟩,trivial⟩ (by decide) (by decide)) (I6.seq (Ev.wp (o.kx _ hl) (Stop.on rfl ⟨u,rfl,Stop.on rfl ⟨_,.inl rfl,hvz,fun d=>
    Co.list Va.pv (fun v=>if !(late.any (comes · v)) then some v.pv else none) (l9 u) [] (fun v hv K K' hK=>?_) ?_⟩⟩))) rfl)) (o.I7 rfl) (hs:=b8y (o.kind rfl)))
  · refine A9.one (Tr.wp ((o.kx _ hl).comp d) (Stop.on rfl (Ev.F4 ((o.kx _ hl).comp d) (x:="late") [("value",.val v.pv)] (c6.of ["value"] ⟨⟨rfl,rfl,rfl,d.d0t rfl⟩,trivial⟩ (by decide) (by decide)) c7.pv late (fun p=> .bool (comes p v)) (Stop.on rfl rfl) (E1 (Nat.le_trans hin.len (by decide)))
      (fun d p hp=>Stop.on rfl ⟨u,p,v,rfl,(hin.h p hp).1,hvt v hv,(hin.h p hp).2.2.1,Stop.on rfl rfl⟩) (Stop.opt rfl (a5d late _) (Stop.on rfl ⟨_,rfl,?_⟩)))))
    generalize (!(late.any (comes · v)))=b at hK
    cases b with
    |true=>exact Br.t rfl (Ev.wp ((o.kx _ hl).comp d) (Stop.on rfl hK))
    |false=>exact Br.f rfl hK
  refine b8 (List.nil_append ..) (b8 (a8a ..) (b8 (show (l9 u).filter (fun v=>!(late.any (comes · v)))=freeOf u late from rfl ..) ?_))
  generalize freeOf u late=free at hsp
  generalize A3 A4 (leftOut m8 A4 4) t [u] (z9 t late)=res at hsp ⊢
  cases hsp
  case no hsp=>
    by_cases h1:l9 t=[]
    · exact Stop.on rfl ⟨t,rfl,by refine b8 (h1 ..) ?_;exact Stop.on rfl hP⟩
    · obtain rfl:=hsp.resolve_left h1
      exact Stop.on rfl ⟨t,rfl,Stop.full rfl h1 (Stop.on rfl hP)⟩
  case yes q h1 h2 hqt hqd hmet hall=>
  clear hwl htm
  refine Stop.on rfl ⟨t,rfl,Stop.full rfl h1 (Stop.full rfl h2 (Stop.on rfl ?_))⟩
  refine Tr.or3 (Tr.wp (o.kx _ hl) (Stop.on rfl ⟨_,rfl,Br.f rfl (Tr.wp (o.kx _ hl) (Stop.on rfl ⟨_,rfl,Br.f rfl (Tr.wp (o.kx _ hl) (Stop.opt rfl (c3b t) (Stop.on rfl ⟨_,rfl,?_⟩)))⟩))⟩))
  refine Stop.on rfl (Ex.a1s (x:="value") (ρc:=[("found",.val (.lst [(c7.i7 t).pv,q.pv]))]) (c6.of ["found"] ⟨⟨rfl,rfl,rfl,o.cap rfl⟩,trivial⟩ (by decide) (by decide)) (I6.seq (Ev.wp (o.kx _ hl) (Stop.on rfl ⟨u,rfl,Stop.on rfl ⟨_,.inl rfl,hvz,fun d=>
    Co.list Va.pv (fun v=>if comes q v then some v.pv else none) (l9 u) [] (fun v hv K K' hK=>?_) ?_⟩⟩))) rfl (o.loc rfl) (a1r (o.kind rfl) rfl rfl))
  · refine A9.one (Tr.wp ((o.kx _ hl).comp d) (Stop.on rfl ⟨u,q,v,rfl,hqt,hvt v hv,Nat.le_trans hqd (by decide),Stop.on rfl ⟨_,rfl,?_⟩⟩))
    generalize comes q v=b at hK
    cases b with
    |true=>exact Br.t rfl (Ev.wp ((o.kx _ hl).comp d) (Stop.on rfl hK))
    |false=>exact Br.f rfl hK
  refine b8 (List.nil_append ..) (b8 (a8a ..) ?_)
  have hmz:(((l9 u).filter (comes q ·)).map Va.pv).length≤sizeLine:=by
    rw [List.length_map] at hvz ⊢
    exact Nat.le_trans (List.length_filter_le _ _) hvz
  generalize (l9 u).filter (comes q ·)=met at hmet hall hmz
  refine Stop.c8x rfl hmet (Stop.on rfl ?_)
  refine Ev.M8 (F0.comp (x:="value") (ρc:=[("free",.val (.lst (free.map Va.pv)))]) (c6.of ["free"] ⟨⟨rfl,rfl,rfl,o.cap rfl⟩,trivial⟩ (by decide) (by decide)) (I6.seq (Ev.wp (o.kx _ hl) (Stop.on rfl ⟨_,.inl rfl,hmz,fun d=>
    Co.list Va.pv (fun v=>none) met [] (fun v hv K K' hK=>A9.one (Tr.wp ((o.kx _ hl).comp d) (Stop.opt rfl (b3x (hall v hv)) (Stop.on rfl ⟨_,rfl,Br.f rfl hK⟩)))) ?_⟩))) rfl)
  refine b8 (filter_none ..) ?_
  exact Stop.on rfl hP
theorem b5p{C:Cx}(fn:∃a,FnAt C "_law_values" a (i9 56))(k:Nat)(h1:K7 C "_law_bool" Ty.bool.pv)(h2:K7 C "_law_byte" Ty.byte.pv)(h3:K7 C "_law_pair" Ty.pair.pv)(h4:K7 C "_law_enum" Ty.enum.pv)(h5:K7 C "_law_led" Ty.led.pv):d7 C (k+1) "_law_values" b0d:=by
  refine d7.wpG (names:=["told"]) [] trivial [("_law_bool",Ty.bool.pv),("_law_byte",Ty.byte.pv),("_law_pair",Ty.pair.pv),("_law_enum",Ty.enum.pv),("_law_led",Ty.led.pv)] ⟨h1,h2,h3,h4,h5,trivial⟩ fn (plain1 rfl fun O O O O=>rfl) rfl (fun ds P h=>h.rec fun O e O=>e▸rfl) fun F O O o hl hg ds P h=>?_
  obtain ⟨t,rfl,hP⟩:=h
  cases t
  case pair=>
    refine Stop.on rfl (Ev.M8 (F0.c2g (x:="one") (y:="other") (ρc:=[]) (H7 rfl) (I6.seq (Ev.wp ((o.kx _ hl).with _ hg) (Stop.on rfl ⟨_,.inr rfl,c4o _ _,fun d=>?_⟩))) rfl rfl (by decide) (fun O O=>rfl)))
    refine Ev.wp (((o.kx _ hl).with _ hg).comp d) (Stop.on rfl ⟨_,.inr rfl,rfl,E1 (by decide),A9.nil (Br.t rfl (Ev.wp (((o.kx _ hl).with _ hg).comp d) (Stop.on rfl (A9.nil (Br.t rfl (Ev.wp (((o.kx _ hl).with _ hg).comp d) (Stop.on rfl ?_)))))))⟩)
    refine Ev.wp (((o.kx _ hl).with _ hg).comp d) (Stop.on rfl ⟨_,.inr rfl,rfl,E1 (by decide),A9.nil (Br.t rfl (Ev.wp (((o.kx _ hl).with _ hg).comp d) (Stop.on rfl (A9.nil (Br.t rfl (Ev.wp (((o.kx _ hl).with _ hg).comp d) (Stop.on rfl ?_)))))))⟩)
    exact Stop.on rfl hP
  all_goals exact Stop.on rfl hP
theorem Co.inv{F:Fm}{ρc:b9}{x:Str}{elt:Expr}{PL:List PV→Prop}(Inv:List PV→Prop):∀(l:List PV) (out:List PV),(∀d∈l,∀out,Inv out→Ev F ((x,.val d)::ρc) elt fun r=>Inv (out++[r]))→Inv out→
    (∀out',Inv out'→out'.length=out.length+l.length→PL out')→Co F ρc x [] elt PL l out:=by
  intro LL
  induction LL with
  | nil=>
    rintro out _ i h
    exact h out i rfl
  | cons d l ih=>
    rintro out hs i h
    refine A9.nil (Br.t rfl ?_)
    refine Ev.mono (hs d List.mem_cons_self out i) fun r i'=>?_
    exact ih (out++[r]) (fun d hd=>hs d (List.mem_cons_of_mem _ hd)) i' fun out' i'' e=>h out' i'' (by refine b8 (e ..) (b8 (List.length_append ..) (b8 (List.length_cons ..) (b8 (List.length_cons ..) (b8 (List.length_nil ..) ?_))));lia)
noncomputable def Drawn(t u:Ty)(r:Row):Prop:=∃p q,r=[p,q]∧Pl t p∧Made t 3 (lv t) p∧Made u 4 (2*lv u) q
theorem c9m(t:Ty):lv t≤4:=by cases t <;> decide
theorem c6a{u:Ty}(h:u≠ .pair):lv u≤2:=by cases u <;> first|exact absurd rfl h|decide
theorem Drawn.v7{t u:Ty}{r:Row}(h:Drawn t u r)(hu:u≠ .pair):g9 r≤lv t*4:=by
  obtain ⟨p,q,rfl,_,h1,h2⟩:=h
  have a:=h1.lv
  have b:=h2.lv
  have c:=c6a hu
  dsimp only [g9,Nat.mul_one]
  exact Nat.mul_le_mul a (by lia)
theorem a8m{t u:Ty}(hu:u≠ .pair):∀ {rows:List Row},(∀r∈rows,Drawn t u r)→l6 rows≤rows.length*(lv t*4)
  |[],_=>Nat.zero_le _
  | r::rows,h=>by
    have ih:=a8m hu (rows:=rows) fun r hr=>h r (List.mem_cons_of_mem _ hr)
    have h0:=(h r List.mem_cons_self).v7 hu
    simp only [l6,List.map_cons,List.sum_cons,List.length_cons,Nat.add_mul,Nat.one_mul] at ih ⊢
    lia
theorem Drawn.row{t u:Ty}{r:Row}(h:Drawn t u r):D5 t [u] r:=by
  obtain ⟨p,q,rfl,h0,h1,h2⟩:=h
  exact ⟨h0,h2.ty,trivial⟩
theorem Drawn.low{t u:Ty}{r:Row}(h:Drawn t u r):∀p∈r,low p:=by
  obtain ⟨p,q,rfl,h0,h1,h2⟩:=h
  exact Ea.all (l:=[p,q]) ⟨h1.low,h2.low,trivial⟩
theorem Drawn.deep{t u:Ty}{r:Row}(h:Drawn t u r):∀p∈r,pd p≤4:=by
  obtain ⟨p,q,rfl,h0,h1,h2⟩:=h
  exact Ea.all (P:=fun p=>pd p≤4) (l:=[p,q]) ⟨Nat.le_succ_of_le h1.deep,h2.deep,trivial⟩
theorem b7q{t u:Ty}{rows:List Row}{row:Row}(hu:u= .bool∨u= .enum∨u= .never)(hr:∀r∈rows,Drawn t u r)(h1:Drawn t u row)(hl:rows.length≤3):WF [t,u] rows row:=by
  have hp:u≠ .pair:=by clear hr h1;rcases hu with rfl|rfl|rfl <;> nofun
  have a:=a8m hp hr
  have b:=h1.v7 hp
  have c:rows.length*(lv t*4)≤3*(lv t*4):=Nat.mul_le_mul_right _ hl
  have e:=c9m t
  refine ⟨fun r h=>(hr r h).row.row,h1.row.row,by lia,fun hb=>?_,?_⟩
  · have ht:t= .byte:=by
      clear hr h1 hp a b c e;rcases List.mem_cons.mp hb with rfl|hb
      · rfl
      · rcases hu with rfl|rfl|rfl <;> exact nomatch List.mem_singleton.mp hb
    clear hr h1 c e hb;subst ht
    have:lv .byte=1:=rfl
    lia
  · rcases hu with rfl|rfl|rfl <;> cases t <;> decide
noncomputable def c8j(W:PV)(src:Addr):List (Str×F8):=[("_law_one",b9s src),("_law_take",a9x src),("_law_plain",b0w src),("_law_any",d0d src),("is_useful_by_parts",TBy W m8 5),("_law_is_useful",b4w),("_law_left_right",TLR W)]
noncomputable def c9l:List (Str×PV):=[("_law_bool",Ty.bool.pv),("_law_byte",Ty.byte.pv),("_law_pair",Ty.pair.pv),("_law_enum",Ty.enum.pv),("_law_led",Ty.led.pv),("_law_none",Ty.none.pv)]
theorem b1j{src:Addr}(ts:List Ty){P:PV→Prop}(h1:1≤(ts.map Ty.pv).length)(h2:(ts.map Ty.pv).length≤1000)(k:∀t∈ts,P t.pv):b9s src [.z8 (.ref src),.lst (ts.map Ty.pv)] P:=
  ⟨_,rfl,h1,h2,fun d hd=>(List.mem_map.mp hd).elim fun t h=>h.2▸k t h.1⟩
theorem b0m{src:Addr}{n:Nat}{P:PV→Prop}(h1:1≤(n:Int))(h2:(n:Int)≤1000)(k:∀m:Nat,m<n→P (.int m)):a9x src [.z8 (.ref src),.int n] P:=
  ⟨_,rfl,h1,h2,fun f h0 hf=>by obtain ⟨m,rfl⟩:=Int.eq_ofNat_of_zero_le h0;exact k m (Int.ofNat_lt.mp hf)⟩
theorem a8q{α:Type}{enc:α→PV}{I:α→Prop}{out:List PV}{a:α}(h:∃rows:List α,out=rows.map enc∧∀r∈rows,I r)(ha:I a):∃rows:List α,out++[enc a]=rows.map enc∧∀r∈rows,I r:=
  h.elim fun rows ⟨e,h⟩=>⟨rows++[a],by refine b8 (e ..) (b8 (List.map_append ..) ?_);rfl,fun r hr=>(List.mem_append.mp hr).elim (h r) fun hr=>List.mem_singleton.mp hr▸ha⟩
theorem a7m{α:Type}{enc:α→PV}{rows:List α}{n:Nat}(h:(rows.map enc).length=([]:List PV).length+((List.range n).map fun i=>PV.int ((i:Nat):Int)).length):rows.length=n:=by
  rw [List.length_map,List.length_map,List.length_range,List.length_nil,Nat.zero_add] at h;exact h
theorem Stop.not{q x y:Stop}{b:Bool}(e:q=D7 b x y)(h:b=false)(k:y.den):q.den:=Stop.both e (fun z=>by rw [h] at z;cases z) fun O=>k
theorem b2x{F:Fm}{W:PV}{src:Addr}{ρ:b9}(o:Of F (r7 (i9 66)))(h1:ρ.lookup ("source":Str)=some (.val (.z8 (.ref src))))(h2:ρ.lookup ("world":Str)=some (.val W))
    (hg:a7v F.C c9l) (hl:C9 F (c8j W src)):A0 F ρ ((B4 (i9 66)).drop 3) (fun O=>False) (fun d=>d= .bool true):=by
  refine A0.less (ρ':=[("source",.val (.z8 (.ref src))),("world",.val W)]) (A0.wp ((o.kx _ hl).with _ hg) ?_) fun y n e=>J2.le (J2.cons (p:=("source",.val (.z8 (.ref src)))) h1 (J2.cons (p:=("world",.val W)) h2 (show J2 [] ρ from rfl))) e
  refine Stop.on rfl (b1j [.bool,.byte,.pair,.enum,.led] (by decide) (by decide) fun t ht=>?_)
  have ht:full t:=Ea.all (P:=full) (l:=[.bool,.byte,.pair,.enum,.led]) ⟨of_decide_eq_false rfl,of_decide_eq_false rfl,of_decide_eq_false rfl,of_decide_eq_false rfl,of_decide_eq_false rfl,trivial⟩ t ht
  refine Stop.on rfl (b1j [.bool,.enum,.never] (by decide) (by decide) fun u hu=>?_)
  have hu:u= .bool∨u= .enum∨u= .never:=by simpa using hu
  refine Stop.on rfl (Ex.a1s (x:="turn") (ρc:=[("source",.val (.z8 (.ref src))),("first",.val t.pv),("types",.val (.lst [t.pv,u.pv]))]) (c6.of ["source","first","types"] ⟨⟨rfl,rfl,rfl,o.cap rfl⟩,⟨rfl,rfl,rfl,o.cap rfl⟩,⟨rfl,rfl,rfl,o.cap rfl⟩,trivial⟩ (by decide) (by decide))
    (I6.range (Ev.wp ((o.kx _ hl).with _ hg) (Stop.on rfl (b0m (n:=4) (by decide) (by decide) fun n hn=>Stop.on rfl ⟨n,rfl,E1 (Nat.le_trans (Nat.le_of_lt hn) (by decide)),by refine b8 (List.length_map ..) (b8 (List.length_range ..) ?_);exact E1 (Nat.le_trans (Nat.le_of_lt hn) (by decide)),fun d=>
      Co.inv (fun out=>∃rows:List Row,out=rows.map m6∧∀r∈rows,Drawn t u r) _ _ (fun i hi out hI=>Ev.wp (((o.kx _ hl).with _ hg).comp d) (Stop.on rfl ⟨t,rfl,fun p hp1 hp2=>Stop.on rfl ⟨u,rfl,fun q hq=>Stop.on rfl (a8q (a:=[p,q]) hI ⟨p,q,rfl,hp1,hp2,hq⟩)⟩⟩)) ⟨[],rfl,nofun⟩ ?_⟩))) (o.kind rfl)) rfl (o.loc rfl) (a1r (o.kind rfl) rfl rfl))
  rintro _ ⟨rows,rfl,F2⟩ hlen
  have hlen:rows.length≤3:=by refine b8 (a7m hlen ..) ?_;exact Nat.le_of_lt_succ (by assumption)
  as_aux_lemma=>
  refine Stop.on rfl ⟨t,rfl,fun p hp1 hp2=>Stop.on rfl ⟨u,rfl,fun q hq=>?_⟩⟩
  have b7b:Drawn t u [p,q]:=⟨p,q,rfl,hp1,hp2,hq⟩
  have hu0:u≠ .none:=by clear F2 hq b7b;rcases hu with rfl|rfl|rfl <;> nofun
  have hub:u≠ .byte:=by clear F2 hq b7b hu0;rcases hu with rfl|rfl|rfl <;> nofun
  have htu:L7 t+L7 u≤5:=by rcases hu with rfl|rfl|rfl <;> cases t <;> decide
  refine Stop.on rfl ⟨t,[u],rows,[p,q],330,rfl,b7q hu F2 b7b hlen,fun r hr=>(F2 r hr).row,b7b.row,htu,by decide,?_⟩
  refine b8 (c5i ht hu0 hub htu (fun r hr=>⟨(F2 r hr).row,(F2 r hr).low⟩) ⟨b7b.row,b7b.low⟩ ..) ?_
  refine Stop.on rfl ⟨t,u,rows,[p,q],rfl,⟨hu0,fun r hr=>⟨(F2 r hr).row.row,(F2 r hr).deep⟩,b7b.row.row,b7b.deep,Nat.le_trans hlen (by decide)⟩,?_⟩
  generalize b3v t u rows [p,q]=b
  refine Stop.not rfl (by cases b <;> rfl) (Stop.on rfl (b1j [.bool,.enum,.byte] (by decide) (by decide) fun u' hu'=>?_))
  have hu':u'= .bool∨u'= .enum∨u'= .byte:=by simpa using hu'
  refine Stop.on rfl (b1j [t,t,.none,.never] (Nat.le_of_ble_eq_true rfl) (Nat.le_of_ble_eq_true rfl) fun t' O=>?_)
  as_aux_lemma=>
  refine Stop.on rfl (Ex.a1s (x:="turn") (ρc:=[("source",.val (.z8 (.ref src))),("types",.val (.lst [t'.pv,u'.pv]))]) (c6.of ["source","types"] ⟨⟨rfl,rfl,rfl,o.cap rfl⟩,⟨rfl,rfl,rfl,o.cap rfl⟩,trivial⟩ (by decide) (by decide))
    (I6.range (Ev.wp ((o.kx _ hl).with _ hg) (Stop.on rfl (b0m (n:=5) (by decide) (by decide) fun n hn=>Stop.on rfl ⟨n,rfl,E1 (Nat.le_trans (Nat.le_of_lt hn) (by decide)),by refine b8 (List.length_map ..) (b8 (List.length_range ..) ?_);exact E1 (Nat.le_trans (Nat.le_of_lt hn) (by decide)),fun d=>
      Co.inv (fun out=>∃late:List c7,out=late.map c7.pv∧∀p∈late,Made u' 4 (2*lv u') p) _ _ (fun i hi out hI=>Ev.wp (((o.kx _ hl).with _ hg).comp d) (Stop.on rfl ⟨u',rfl,fun p hp=>Stop.on rfl (a8q (a:=p) hI hp)⟩)) ⟨[],rfl,nofun⟩ ?_⟩))) (o.kind rfl)) rfl (o.loc rfl) (a1r (o.kind rfl) rfl rfl))
  rintro _ ⟨late,rfl,hlate⟩ hlen
  have hlen:late.length≤4:=by refine b8 (a7m hlen ..) ?_;exact Nat.le_of_lt_succ (by assumption)
  have h2l:2*lv u'≤4:=by clear hlate;rcases hu' with rfl|rfl|rfl <;> decide
  exact Stop.on rfl ⟨t',u',late,rfl,⟨hu',fun p hp=>⟨(hlate p hp).ty,(hlate p hp).low,(hlate p hp).deep,Nat.le_trans (hlate p hp).lv h2l⟩,hlen⟩,Stop.on rfl rfl⟩
end
section
open PySem.Calls
variable [HH:u7]
section
variable{F:Fm}{R:Rk}{fs:List Env}{ρ:b9}
noncomputable def M3(F:Fm)(R:Rk)(fs:List Env)(ρ:b9)(e:Expr):Prop:=
  ∀X s,JX F X ρ s→∀(Q:Value→Shared→Prop) (E:Value→Shared→Prop),(∀e s',a4b F R fs e s'→E (.ref e) s')→wpAny (model F.C.prog F.C.w) F.A (eval e F.env) Q E s
noncomputable def C0(F:Fm)(R:Rk)(fs:List Env)(ρ:b9)(ss:List Stmt):Prop:=
  ∀X s,JX F X ρ s→∀(Q:Flow→Shared→Prop) (E:Value→Shared→Prop),(∀e s',a4b F R fs e s'→E (.ref e) s')→wpAny (model F.C.prog F.C.w) F.A (execs ss F.env) Q E s
noncomputable def L5(F:Fm)(R:Rk)(fs:List Env)(ρ:b9)(st:Stmt):Prop:=
  ∀X s,JX F X ρ s→∀(Q:Flow→Shared→Prop) (E:Value→Shared→Prop),(∀e s',a4b F R fs e s'→E (.ref e) s')→wpAny (model F.C.prog F.C.w) F.A (exec st F.env) Q E s
theorem b9p.under{X:Addr→Prop}{s:Shared}(f:Rf F R fs)(j:JX F X ρ s):b9p F.C R X (F.env::fs) s.heap:=fun env h=>by
  rcases List.mem_cons.mp h with rfl|h
  · exact ⟨by refine b8 (F.hk ..) ?_;decide,_,f.frame,.inr ⟨j.1.u9,fun g=>j.1.u9 (j.1.sub _ g),j.1.ns⟩⟩
  · obtain ⟨h1,L,h2,h3⟩:=f.ok env h
    refine ⟨h1,L,h2,h3.imp id fun ⟨a,b,m,hm⟩=>⟨fun q=>(j.2 L q).elim a fun z=>?_,b,m,hm.at' fun o e=>j.4.le L o b e⟩⟩
    obtain ⟨o,ho⟩:=Heap.Ns.ex hm
    exact n9 z ho
theorem N2.up{X:Addr→Prop}{s s':Shared}{e:Addr}(f:Rf F R fs)(j:JX F X ρ s)(y:Flew F.C R (F.env::fs) s e s'):a4b F R fs e s':=by
  obtain ⟨base,a0,k,hn,fr,tr,cov,tab⟩:=y.fly
  refine ⟨.none,.inl rfl,y.gens.trans j.4.gens,y.os.trans j.4.os,y.drawn.trans j.4.drawn,y.inv,y.d8,base,a0,k,hn,fr,tr,fun b o z g n=>cov b o (j.4.le b o g z) g fun h=>?_,tab⟩
  have:m9 (F.env::fs)=F.env.locals::m9 fs:=by unfold m9;rw [List.filterMap_cons,f.frame]
  rw [this] at h
  rcases List.mem_cons.mp h with rfl|h
  · exact n9 F.hL z
  · exact n h
theorem M3.call{x:Str}{T:List PV→Prop}{e:Expr}{rest:List Expr}{np pos:Pos}(f:Rf F R fs)(k:Nat)(c:E2 F.C R k x T)(hk:k≤F.k)(h:E7 F ρ (e::rest) T)(hx:F.env.kindOf x=some .globalImplicit)
    (he:starEach (e::rest) F.env=(false,eval e F.env)::starEach rest F.env:=by rfl) (hd:(x==("__debug__":Str))=false:=by decide):M3 F R fs ρ (.Call (.Name x np) (e::rest) [] pos):=fun X s j Q E q=>by
  obtain ⟨a,o,fd,h1,h2,h3,h4,h5⟩:=c
  have hd':=F.hd
  have hu':=F.hu
  refine wpAny_Call_NameR (a6v j.1 h1 hx hd ?_)
  refine callWith_def h4 (h X s pos j.1 _ _ fun vs ds s₁ p i₁ x1a r₁=>⟨i₁.base a o h2 h3,?_⟩) he
  have j1a:=j.step i₁ x1a
  exact h5 F.A X s₁ vs ds (F.env::fs) i₁.toSt F.hA (by exact Nat.lt_of_le_of_lt (Nat.add_le_add_left (by assumption) _) (by assumption)) (by lia) f.frames (b9p.under f j1a) r₁ p _ _ fun e s' y=>q e s' (N2.up f j1a y)
theorem C0.head{st:Stmt}{rest:List Stmt}(h:L5 F R fs ρ st):C0 F R fs ρ (st::rest):=fun X s j Q E q=>wpAny_execs_cons (h X s j _ _ q)
theorem C0.cons{st:Stmt}{rest:List Stmt}(h:Ex F ρ st (fun ρ'=>C0 F R fs ρ' rest) (fun O=>False)):C0 F R fs ρ (st::rest):=fun X s j Q E q=>
  wpAny_execs_cons (h X s j _ _ (fun ρ' s' X' p j' hX k=>p X' s' j' Q E q) fun v d s' p dn=>p.elim)
theorem L5.iff{test:Expr}{body orelse:List Stmt}{pos:Pos}(h:Tr F ρ test fun b=>Br b (C0 F R fs ρ body) (C0 F R fs ρ orelse)):L5 F R fs ρ (.If test body orelse pos):=fun X s j Q E q=>by
  refine wpAny_If (h X s j.1 _ _ fun b s₁ p i₁ x1a=>?_)
  cases b with
  |true=>exact (p.1 rfl) X s₁ (j.step i₁ x1a) Q E q
  |false=>exact (p.2 rfl) X s₁ (j.step i₁ x1a) Q E q
theorem L5.d0n{test:Expr}{body orelse:List Stmt}{pos:Pos}(h:M3 F R fs ρ test)(he:∀whole,isTrue test F.env whole=(do let v ← whole;standAt test.pos;holding [v] (truthy v)):=by intro _;rfl):L5 F R fs ρ (.If test body orelse pos):=fun X s j Q E q=>
  wpAny_If (by refine b8 (he ..) ?_;exact wpAny_bind (h X s j _ _ q))
theorem L5.expr{e:Expr}{pos:Pos}(h:M3 F R fs ρ e)(hs:swapsWith e none pos.line F.env=pure false:=by rfl):L5 F R fs ρ (.Expr e pos):=fun X s j Q E q=>wpAny_Expr_any (h X s j _ _ q) a1w hs
theorem L5.assign{x:Str}{value:Expr}{xp pos:Pos}(h:M3 F R fs ρ value)(hs:swapsWith value (some (.Name x xp)) pos.line F.env=pure false:=by rfl):L5 F R fs ρ (.Assign [.Name x xp] value pos):=fun X s j Q E q=>
  wpAny_Assign_Name (h X s j (fun v s₁=>wpAny _ _ (storeName F.env x v) (fun O=>Q .next) E s₁) _ q) hs
noncomputable def FoR(F:Fm)(R:Rk)(fs:List Env)(x:Str)(body:List Stmt):List PV→b9→Prop
  |[],_=>False
  |d::ds,ρ=>A0 F ((x,.val d)::ρ) body (FoR F R fs x body ds) (fun O=>False)∨C0 F R fs ((x,.val d)::ρ) body
theorem N2.step(W:I4 F.C R){l:List Env}{fl fl':Value}{s s':Shared}{ex:List Addr}{e:Addr}(y:N2 F.C R l fl s ex e s'){base:Heap}{a0:Value}{h':Heap}
    (hn:base.get? e=none) (cov:∀b o,s.heap.get? b=some o→¬F.C.G b→b∉ex→base.get? b=some o) (tab:∀b o,F.C.G b→¬R.Fr b→s'.heap.get? b=some o→base.get? b=some o)
    (k:base.StaysIn h') (fr:h'.FunFrames base l) (tr:h'.TracedAtW base e (.ref R.pf) a0 fl') (sm:s'.heap.UpToSlots h'):N2 F.C R l fl' s ex e {s' with heap:=h'} :=by
  have iv:=W.slots _ _ y.inv (b5t tab k) sm
  exact ⟨y.gens,y.os,y.drawn,iv,b4n W y.d8 tab k iv,base,a0,k,hn,fr,tr,cov,a9y y.d8 tab k⟩
theorem a8w{M:Model}{A:Around}{E:Value→Shared→Prop}{s:Shared}{base:Heap}{l:List Env}{e L:Addr}{cls a0 fl:Value}{Q:Unit→Shared→Prop}
    (hkb:base.StaysIn s.heap) (hl:s.heap.FunFrames base l) (ht:s.heap.TracedAtW base e cls a0 fl)
    (h:∀h',base.StaysIn h'→h'.FunFrames base l→h'.TracedAtW base e cls a0 (rawInt L)→s.heap.UpToSlots h'→Q () {s with heap:=h'}):wpAny M A (setFlight (.ref e) (some L)) Q E s:=by
  obtain ⟨oe,vs,T,oT,ts,he,hcls,hd,h1,hnT,hTe,hT,hdT,h3⟩:=ht
  have hsz3:3<ts.size:=(Array.getElem?_eq_some_iff.mp h3).1
  have other:∀b,b≠T→(s.heap.update T (Obj.mapFields (·.setIfInBounds 3 ((some L:Option Addr).elim Value.none fun f=>rawInt f)))).get? b=s.heap.get? b:=
    fun b hb=>Heap.get?_update_other _ _ (Ne.symm hb)
  have noRecord:∀b o,s.heap.get? b=some o→(∀vs,o.data≠ .fields vs)→b≠T:=fun b o hb hnf q=>by
    rw [q,hT] at hb;injection hb with hb;subst hb;exact hnf ts hdT
  unfold setFlight
  refine wpAny_bind (wpAny_field he hd h1 ?_)
  refine b8 (if_pos (show (Value.ref T !=Value.none)=true from by simp) ..) ?_
  refine wpAny_setField hT hdT hsz3 (h _ (fun b o hbo=>(other b fun q=>g7 q hnT hbo).trans (hkb b o hbo))
    (hl.of_keeps fun b o hb hnf=>⟨o,(other b (noRecord b o hb hnf)).trans hb,rfl⟩) ?_ fun b o hb hnf=>⟨o.slots,(other b (noRecord b o hb hnf)).trans hb⟩)
  exact ⟨oe,vs,T,_,_,(other e (Ne.symm hTe)).trans he,hcls,hd,h1,hnT,hTe,Heap.get?_update_self _ hT (Obj.isFreed_of_fields (Obj.data_mapFields hdT _)),Obj.data_mapFields hdT _,by simp [hsz3]⟩
theorem b2b(f:Rf F R fs){e:Addr}{s':Shared}(r:a4b F R fs e s'){E:Value→Shared→Prop}(q:∀e s',a4b F R fs e s'→E (.ref e) s'):notedBy (model F.C.prog F.C.w) F.A F.env (cameBackBy (model F.C.prog F.C.w) F.A F.env E) (.ref e) s':=by
  obtain ⟨fl,hfl,y⟩:=r
  obtain ⟨base,a0,k,hn,fr,tr,cov,tab⟩:=y.fly
  have back:∀s'',N2 F.C R (F.env::fs) (rawInt F.env.locals) F.s₀ (m9 fs) e s''→cameBackBy (model F.C.prog F.C.w) F.A F.env E (.ref e) s'':=fun s'' z=>by
    obtain ⟨base,a0,k,hn,fr,tr,cov,tab⟩:=z.fly
    obtain ⟨oe,vs,T,oT,ts,he,hcls,hd,h1,_⟩:=id tr
    unfold cameBackBy
    refine wpAny_bind (wpAny_field he hd h1 ?_)
    refine b8 (if_neg (by simp) ..) (b8 (f.frame ..) ?_)
    exact a8w k fr tr fun h' k' fr' tr' sm=>q _ _ ⟨_,.inr rfl,z.step f.W hn cov tab k' fr' tr' sm⟩
  rcases hfl with rfl|rfl
  · exact wpAny_looks_onW f.frames f.frame ⟨k,hn,fr,tr⟩ fun h' hw sm=>back _ (y.step f.W hn cov tab hw.1 hw.2.2.1 hw.2.2.2 sm)
  · exact wpAny_noteFrame_againW f.frame tr (back _ y)
theorem L5.for(f:Rf F R fs){x:Str}{iter:Expr}{body:List Stmt}{xp pos:Pos}(h:Ev F ρ iter fun d=>∃l,(d= .lst l∨d= .tup l)∧FoR F R fs x body l ρ)(hx:l5 F x)
    (hs:∀x,foldedSetIterable iter F.env x=pure x:=by intro _;rfl):L5 F R fs ρ (.For (.Name x xp) iter body [] pos):=fun X s j Q E qq=>
  c0h (Pend:=FoR F R fs x body) h hx hs j (fun O O O p O O O=>p.elim) fun a rest ρ' X' s' p j' Q' next ret=>p.elim (fun p=>p X' s' j' Q' _ next fun O O O p O=>p.elim) fun p=>p X' s' j' Q' _ fun e s' y=>b2b f y qq
end
end
section
variable [HH:u7]
theorem E2.a4k{C:Cx}{R:Rk}(W:I4 C R){k:Nat}{g:Str}{st:Stmt}{names:List Str}{T:List PV→Prop}(fn:∃a,FnAt C g a st)(hp:Plain st names∨a6o st names)(hb:a5s st names=true)(hk2:2≤k)
    (hlen:∀ds,T ds→ds.length=names.length)
    (h:∀F:Fm,F.C=C→F.k=k→Of F (r7 st)→∀fs,Rf F R fs→∀ds,T ds→∀X s',JX F X (binds names ds) s'→∀(Q:Flow→Shared→Prop) (E:Value→Shared→Prop),(∀e s'',a4p F R fs e s''→E (.ref e) s'')→wpAny (model F.C.prog F.C.w) F.A (execs (B4 st) F.env) Q E s'):E2 C R (k+1) g T:=by
  obtain ⟨a,fn⟩:=fn
  obtain ⟨o,fd,h1,f,e,_⟩:=fn.in_ hp hb
  exact ⟨a,o,fd,h1,f.hG,f.ho,f.hdat,c3f.of_body W f hk2 hlen fun F e1 e2 o=>h F e1 e2 (e▸o)⟩
theorem C0.leave{F:Fm}{R:Rk}{fs:List Env}{ρ:b9}{ss:List Stmt}(f:Rf F R fs)(h:C0 F R fs ρ ss){X:Addr→Prop}{s:Shared}(j:JX F X ρ s){Q:Flow→Shared→Prop}{E:Value→Shared→Prop}(q:∀e s'',a4p F R fs e s''→E (.ref e) s''):wpAny (model F.C.prog F.C.w) F.A (execs ss F.env) Q E s:=
  h X s j Q E fun e s' r=>q e s' (a7p f r)
noncomputable def b0r(ds:List PV):Prop:=∃n:Int,ds=[.int n]∧n<1
theorem b9r{C:Cx}{R:Rk}(W:I4 C R)(fn:∃a,FnAt C "want_columns" a (i9 33)):E2 C R 3 "want_columns" b0r:=by
  refine E2.a4k W (k:=2) (names:=["many"]) fn (.inl (plain1 rfl fun O O O O=>rfl)) rfl (by decide) (fun ds ⟨n,e,_⟩=>by refine b8 (e ..) ?_;rfl) ?_
  intro F hC hk o fs f ds ⟨n,e,hn⟩ X s j Q E q
  clear fn;subst hC
  subst e
  show wpAny _ _ (execs (.If _ [.Raise (some (.Call (.Name "PatternFault" _) [.Constant (.str _) _ _] [] _)) none _] [] _::[]) F.env) Q E s
  refine wpAny_execs_cons (wpAny_If ((Tr.wp (ρ:=binds ["many"] [.int n]) (P:=fun b=>b=true) (o.kx [] trivial) (Stop.on rfl ⟨_,rfl,decide_eq_true hn⟩):Tr F _ _ _) X s j.1 _ _ fun b s₁ p i₁ x1a=>?_))
  subst p
  have j1a:=j.step i₁ x1a
  have X1a:R.K.In s₁.heap:=fun a o z=>i₁.base a o (W.X a o z).1 (W.X a o z).2
  have gns:s₁.heap.Ns mainGlobals F.C.mg:=F.C.hg.at' fun o z=>i₁.base _ o F.C.J7.1 z
  have bns:s₁.heap.Ns builtinsNs F.C.mb:=F.C.hb.at' fun o z=>i₁.base _ o F.C.J7.2.1 z
  have lim:s₁.heap.NoLimit:=F.C.hlim.at fun o z=>i₁.base _ o F.C.J7.2.2 z
  clear i₁ x1a;obtain ⟨h₁,g1a,d1a,t1a,o₁⟩:=s₁
  refine wpAny_execs_cons (b7j R.P X1a gns bns W.mE W.bE lim f.room F.hA F.hk F.K6 (o.kind rfl) W.mP fun x h' tk mA hk' hn' I=>?_)
  exact q x _ (b2q (s:=⟨h₁,g1a,d1a,t1a,o₁⟩) f j1a hk' hn' I rfl rfl rfl)
noncomputable def c5y(W:PV)(ds:List PV):Prop:=∃(rows row:PV) (t:PV) (ts:List PV) (n:Int),ds=[rows,row,.lst (t::ts),W,.int n]∧n<1
noncomputable def c0n(W:PV)(ds:List PV):Prop:=∃(rows:PV) (t:PV) (ts:List PV) (n:Int),ds=[rows,.lst (t::ts),W,.int n]∧n<1
noncomputable def d0l(W:PV)(ds:List PV):Prop:=ds=[.lst [],.tup [c7.pv (.cb true),c7.pv (.i7 .bool)],.lst [Ty.pv .bool,Ty.pv .bool],W,.int 0]
noncomputable def c0q(W:PV)(ds:List PV):Prop:=ds=[.lst [],.lst [Ty.pv .bool,Ty.pv .bool],W,.int 0]
theorem E7.wp{F:Fm}(κ:Kx F){ρ:b9}{es:List Expr}{T:List PV→Prop}(h:(run κ (fun O=>True) (fun O=>True) 3000 (.as ρ (.call fun ds O=>T ds) [] es .ret)).den):E7 F ρ es T:=E7.mono (a7o κ _ _ 3000 _ h:E7 F ρ es _) fun ds h=>h.elim fun O h=>h.2
theorem c2c{C:Cx}{R:Rk}{W:PV}(w:I4 C R)(fn:∃a,FnAt C "is_useful" a (i9 34))(hW:E2 C R 3 "want_columns" b0r):E2 C R 4 "is_useful" (c5y W):=by
  refine E2.a4k w (k:=3) (names:=["rows","row","types","world","many"]) fn (.inr (b5y ⟨_,rfl⟩ fun O O O O O O O O O=>⟨_,rfl,fun O O=>rfl⟩)) rfl (by decide) (fun ds ⟨_,_,_,_,_,e,_⟩=>by refine b8 (e ..) ?_;rfl) ?_
  intro F hC hk o fs f ds ⟨rows,row,t,ts,n,e,hn⟩ X s j Q E q
  clear w fn;subst hC
  subst e
  exact C0.leave f (C0.cons (Ex.iff (Tr.wp (o.kx [] trivial) (Stop.on rfl ⟨_,rfl,Br.f rfl (A0.nil (C0.head (L5.expr (M3.call f 3 hW (by exact Nat.le_of_eq (Eq.symm (by assumption))) (E7.wp (o.kx [] trivial) (Stop.on rfl ⟨n,rfl,hn⟩)) (o.kind rfl)))))⟩)))) j q
theorem b8d{C:Cx}{R:Rk}{W:PV}(w:I4 C R)(fn:∃a,FnAt C "left_out" a (i9 38))(hW:E2 C R 3 "want_columns" b0r):E2 C R 4 "left_out" (c0n W):=by
  refine E2.a4k w (k:=3) (names:=["rows","types","world","many"]) fn (.inr (a9m ⟨_,rfl⟩ fun O O O O O O O O=>⟨_,rfl,fun O O=>rfl⟩)) rfl (by decide) (fun ds ⟨_,_,_,_,e,_⟩=>by refine b8 (e ..) ?_;rfl) ?_
  intro F hC hk o fs f ds ⟨rows,t,ts,n,e,hn⟩ X s j Q E q
  clear w fn;subst hC
  subst e
  exact C0.leave f (C0.cons (Ex.iff (Tr.wp (o.kx [] trivial) (Stop.on rfl ⟨_,rfl,Br.f rfl (A0.nil (C0.head (L5.expr (M3.call f 3 hW (by exact Nat.le_of_eq (Eq.symm (by assumption))) (E7.wp (o.kx [] trivial) (Stop.on rfl ⟨n,rfl,hn⟩)) (o.kind rfl)))))⟩)))) j q
theorem b7y{C:Cx}{R:Rk}{W:PV}{hv:Ty→Bool}(w:I4 C R)(k:Nat)(hk4:4≤k)(fn:∃a,FnAt C "left_out_wild" a (i9 39))(hL:E2 C R 4 "left_out" (c0n W))(hH:d7 C k "has_value" (c0y W hv))(hR:d7 C k "rest_of" F9)(hb:hv .bool=true):E2 C R (k+1) "left_out_wild" (c0q W):=by
  refine E2.a4k w (k:=k) (names:=["rows","types","world","many"]) fn (.inl (c0l rfl fun O O O O O O O=>rfl)) rfl (by exact Nat.lt_of_le_of_lt (Nat.le_add_left _ _) (by assumption)) (fun ds e=>by refine b8 (e ..) ?_;rfl) ?_
  intro F hC hk o fs f ds e X s j Q E q
  clear w fn;subst hC
  subst hk
  subst e
  have hl:C9 F [("has_value",c0y W hv),("rest_of",F9)]:=⟨hH,hR,trivial⟩
  refine C0.leave f (C0.cons (Ex.iff (Tr.wp (o.kx _ hl) (Stop.on rfl ⟨.bool,rfl,?_⟩)))) j q
  refine b8 (hb ..) ?_
  exact Stop.on rfl ⟨_,rfl,Br.f rfl (A0.nil (C0.head (L5.assign (M3.call f 4 hL (by assumption) (E7.wp (o.kx _ hl) (Stop.on rfl ⟨[],rfl,Nat.zero_le _,nofun,Stop.on rfl ⟨_,_,[],0,rfl,by decide⟩⟩)) (o.kind rfl)))))⟩
theorem c6y{C:Cx}{R:Rk}{W:PV}(w:I4 C R)(k:Nat)(hk4:4≤k)(fn:∃a,FnAt C "is_useful_by_parts" a (i9 35))(hU:E2 C R 4 "is_useful" (c5y W))
    (hC:d7 C k "constructors" (F1 W m8)) (hP:d7 C k "parts_of_usefulness" (C8 W)) (hN:d7 C k "narrowed" B9):E2 C R (k+1) "is_useful_by_parts" (d0l W):=by
  refine E2.a4k w (k:=k) (names:=["rows","row","types","world","many"]) fn (.inl (c0g rfl fun O O O O O O O O=>rfl)) rfl (by exact Nat.lt_of_le_of_lt (Nat.le_add_left _ _) (by assumption)) (fun ds e=>by refine b8 (e ..) ?_;rfl) ?_
  intro F hC' hk o fs f ds e X s j Q E q
  clear w fn;subst hC'
  subst hk
  subst e
  have hl:C9 F [("constructors",F1 W m8),("parts_of_usefulness",C8 W),("narrowed",B9)]:=⟨hC,hP,hN,trivial⟩
  have row1:∀r∈([[.cb true,.i7 .bool]]:List Row),r=[.cb true,.i7 .bool]:=fun r h=>List.mem_singleton.mp h
  refine C0.leave f (C0.cons (Ex.assign (Ev.wp (o.kx _ hl) (Stop.on rfl (Ev.F4 (o.kx _ hl) [] (H7 rfl) id [] id (Stop.on rfl rfl) (by decide) (fun d a h=>nomatch h) (Stop.on rfl (?_:C0 F R fs _ _))))) (o.loc rfl))) j q
  refine C0.head (L5.for f (Ev.wp (o.kx _ hl) (Stop.on rfl ⟨.bool,[.cb true],rfl,(fun p h=>List.mem_singleton.mp h▸rfl),by decide,by decide,Stop.on rfl ⟨_,.inl rfl,.inl (A0.wp (o.kx _ hl) ?_)⟩⟩)) (o.loc rfl))
  refine Stop.on rfl ⟨.bool,.cb false,rfl,rfl,Stop.on rfl ⟨[[.cb true,.i7 .bool]],.cb false,0,rfl,by decide,by decide,fun r h=>⟨.cb true,[.i7 .bool],none,row1 r h,by decide,rfl⟩,Stop.on rfl (.inr ?_)⟩⟩
  refine C0.cons (Ex.assign (Ev.wp (o.kx _ hl) (Stop.on rfl ⟨.bool,.cb true,rfl,rfl,Stop.on rfl (?_:C0 F R fs _ _)⟩)) (o.loc rfl))
  refine C0.cons (Ex.assign (Ev.wp (o.kx _ hl) (Stop.on rfl ⟨[[.cb true,.i7 .bool]],.cb true,0,rfl,by decide,by decide,fun r h=>⟨.cb true,[.i7 .bool],some [],row1 r h,by decide,rfl⟩,Stop.on rfl (?_:C0 F R fs _ _)⟩)) (o.loc rfl))
  refine C0.head (L5.iff (Tr.wp (o.kx _ hl) (Stop.on rfl ⟨_,rfl,Br.t rfl ?_⟩)))
  refine C0.cons (Ex.assign (Ev.wp (o.kx _ hl) (Stop.on rfl ⟨[],.cb true,0,rfl,by decide,by decide,nofun,Stop.on rfl (?_:C0 F R fs _ _)⟩)) (o.loc rfl))
  exact C0.head (L5.d0n (M3.call f 4 hU (by assumption) (E7.wp (o.kx _ hl) (Stop.on rfl ⟨_,_,_,_,0,rfl,by decide⟩)) (o.kind rfl)))
noncomputable def b1o:List (Nat×Str×Addr×Addr):=[(6,("is_signed":Str),62,61),(7,("least":Str),69,68),(8,("greatest":Str),76,75),(10,("parts_of_types":Str),83,82),(12,("rebuilt_types":Str),90,89),(14,("substituted":Str),95,94),(15,("with_regions":Str),100,99),(16,("has_more_parts":Str),107,106),(17,("field_rows":Str),114,113),(18,("fields_of":Str),119,118),(22,("bare":Str),126,125),(23,("opened":Str),131,130),(24,("bounds_of":Str),138,137),(25,("ranges_of":Str),143,142),(26,("constructors":Str),148,147),(27,("parts_of_usefulness":Str),153,152),(29,("taken":Str),160,159),(30,("narrowed":Str),167,166),(31,("rest_of":Str),172,171),(32,("are_wild":Str),177,176),(33,("want_columns":Str),184,183),(34,("is_useful":Str),192,191),(35,("is_useful_by_parts":Str),197,196),(36,("rebuilt_usefulness":Str),204,203),(38,("left_out":Str),210,209),(39,("left_out_wild":Str),217,216),(40,("ways_to_make":Str),222,221),(41,("has_value":Str),227,226),(46,("_law_pool":Str),286,285),(47,("_law_take":Str),293,292),(48,("_law_one":Str),300,299),(56,("_law_values":Str),326,325),(57,("_law_comes":Str),331,330),(58,("_law_all_come":Str),336,335),(59,("_law_truth":Str),343,342),(60,("_law_plain":Str),350,349),(61,("_law_any":Str),357,356),(62,("_law_heard":Str),364,363),(63,("_law_is_useful":Str),369,368),(64,("_law_left_right":Str),374,373),(65,("_law_told_right":Str),379,378)]
structure Sup(C:Cx)(W:PV):Prop where
  fn:∀(k i:Nat) (g:Str) (a c:Addr),b1o[k]?=some (i,g,a,c)→FnAt C g a (i9 i)
  world:∃ad ae an,a5h C W ad ae an
  tab:b9u C 118 116
  hcd:∀a o fd,C.mg "fields_of"=some (.ref a)→C.g.get? a=some o→o.data= .func fd→fd.code= .ref 118
  bits:∃bt,Gv C "BITS" (.ref bt) (.z8 (.ref bt))∧StrTab C bt bits
  most:∃mt,Gv C "MOST_TYPES" mt (.int 300)
  g1:K7 C "_law_bool" Ty.bool.pv
  g2:K7 C "_law_byte" Ty.byte.pv
  g3:K7 C "_law_pair" Ty.pair.pv
  g4:K7 C "_law_enum" Ty.enum.pv
  g5:K7 C "_law_led" Ty.led.pv
  g6:K7 C "_law_none" Ty.none.pv
structure Kit(C:Cx)(W:PV):Prop where
  by_:∀n,n≤6→d7 C 60 "is_useful_by_parts" (TBy W m8 n)
  i7:∀n,n≤6→d7 C 60 "left_out_wild" (a7d W m8 A4 n)
  want:d7 C 20 "want_columns" G2
  cons:d7 C 20 "constructors" (F1 W m8)
  parts:d7 C 20 "parts_of_usefulness" (C8 W)
  narrow:d7 C 20 "narrowed" B9
  rest:d7 C 20 "rest_of" F9
  has:d7 C 20 "has_value" (c0y W A4)
theorem Sup.f{C:Cx}{W:PV}(u:Sup C W)(k:Nat){i:Nat}{g:Str}{a c:Addr}(h:b1o[k]?=some (i,g,a,c)):∃a,FnAt C g a (i9 i):=⟨a,u.fn k i g a c h⟩
theorem Sup.K5{C:Cx}{W:PV}(u:Sup C W):Kit C W:=by
  obtain ⟨ad,ae,an,w⟩:=u.world
  obtain ⟨bt,b1,b2⟩:=u.bits
  obtain ⟨mt,hM⟩:=u.most
  have bare:=c3d (u.f 10 rfl) 0
  have bounds:=b6l (u.f 12 rfl) 0
  have tak:=b7f (u.f 16 rfl) 1 (bounds.mono (by exact Nat.le_add_left _ _))
  have nar:=a9h (u.f 17 rfl) 2 (tak.mono (by exact Nat.le_add_left _ _))
  have ope:=b4a (u.f 11 rfl) 1 bare
  have rest:=c1d (u.f 18 rfl) 0
  have are:=c6b (u.f 19 rfl) 0
  have want:=c3k (u.f 20 rfl) 0
  have reb:=b3e (u.f 23 rfl) 0
  have sig:=b6d (u.f 0 rfl) 0
  have lea:=b9e (u.f 1 rfl) 1 sig
  have gre:=a9e (u.f 2 rfl) 1 b1 b2 sig
  have ran:=b4j (u.f 13 rfl) 1 bounds
  have con:=c1o w (u.f 14 rfl) 2 ran lea gre
  have pty:=b5u (u.f 3 rfl) 0
  have rty:=b3y (u.f 4 rfl) 0
  have sub:=b7l (u.f 5 rfl) 1 pty rty
  have reg:=b2y (u.f 6 rfl) 1 pty rty
  have row:=c2t w (u.f 8 rfl) 0
  have fie:=b5x w (u.f 9 rfl) u.tab u.hcd 2 (row.mono (by exact Nat.le_add_left _ _)) sub reg
  have par:=b6r (u.f 15 rfl) 3 fie
  have mor:=c2b (u.f 7 rfl) 1 pty
  have way:=c1y (u.f 26 rfl) 4 (con.mono (by exact Nat.le_add_left _ _)) par
  have hv:=c9t hM (u.f 27 rfl) 5 way (mor.mono (by exact Nat.le_add_left _ _))
  refine ⟨fun n hn=>?_,fun n hn=>?_,want.mono (by exact Nat.le_add_left _ _),con.mono (by exact Nat.le_add_left _ _),par.mono (by exact Nat.le_add_left _ _),nar.mono (by exact Nat.le_add_left _ _),rest.mono (by exact Nat.le_add_left _ _),hv.mono (by exact Nat.le_add_left _ _)⟩
  · exact (b2v a0y (u.f 21 rfl) (u.f 22 rfl) 20 (con.mono (by exact Nat.le_add_left _ _)) (par.mono (by exact Nat.le_add_left _ _)) (nar.mono (by exact Nat.le_add_left _ _)) (want.mono (by exact Nat.le_add_left _ _)) (ope.mono (by exact Nat.le_add_left _ _)) (are.mono (by exact Nat.le_add_left _ _)) (rest.mono (by exact Nat.le_add_left _ _)) n).mono (by lia)
  · exact (a9z a0y (u.f 24 rfl) (u.f 25 rfl) 20 (con.mono (by exact Nat.le_add_left _ _)) (par.mono (by exact Nat.le_add_left _ _)) (nar.mono (by exact Nat.le_add_left _ _)) (want.mono (by exact Nat.le_add_left _ _)) (ope.mono (by exact Nat.le_add_left _ _)) (are.mono (by exact Nat.le_add_left _ _)) (rest.mono (by exact Nat.le_add_left _ _)) (reb.mono (by exact Nat.le_add_left _ _)) (hv.mono (by exact Nat.le_add_left _ _)) n).mono (by lia)
structure d0f(C:Cx)(R:Rk)(W:PV):Prop where
  by_:E2 C R 30 "is_useful_by_parts" (d0l W)
  i7:E2 C R 30 "left_out_wild" (c0q W)
  want:E2 C R 3 "want_columns" b0r
theorem E2.mono{C:Cx}{R:Rk}{k k':Nat}{x:Str}{T:List PV→Prop}(c:E2 C R k x T)(h:k≤k'):E2 C R k' x T:=
  (by obtain ⟨a,o,fd,h1,h2,h3,h4,h5⟩:=c;exact ⟨a,o,fd,h1,h2,h3,h4,fun A X s vs ds fs st hh hd hu hfr hok r t Q E q=>h5 A X s vs ds fs st hh (by exact Nat.lt_of_le_of_lt (Nat.add_le_add_left (by assumption) _) (by assumption)) (by lia) hfr hok r t Q E q⟩)
theorem Sup.J8{C:Cx}{W:PV}{R:Rk}(u:Sup C W)(w:I4 C R):d0f C R W:=by
  have k:=u.K5
  have want:=b9r w (u.f 20 rfl)
  have use:=c2c (W:=W) w (u.f 21 rfl) want
  have left:=b8d (W:=W) w (u.f 24 rfl) want
  exact ⟨(c6y w 20 (by exact Nat.le_add_left _ _) (u.f 22 rfl) use k.cons k.parts k.narrow).mono (by exact Nat.le_add_left _ _),(b7y w 20 (by exact Nat.le_add_left _ _) (u.f 25 rfl) left k.has k.rest rfl).mono (by exact Nat.le_add_left _ _),want⟩
end
section
open PySem.Calls
structure Base(w:World)(mg mb:Str→Option Value)(g:Heap):Prop where
  X:(t9 w.params).In g
  ns:g.Ns mainGlobals mg
  bl:g.Ns builtinsNs mb
  bu:∀x:Str,x≠"__name__"→mb x=bootBuiltins x
  lim:g.NoLimit
  mods:∃o,g.get? sysModules=some o
  c1:CodeHd g 378 376
  c2:CodeHd g 118 116
  bm:∃bm ob,mg "__builtins__"=some (.ref bm)∧bm≠builtinsNs∧g.get? bm=some ob∧ob.cls= .type "module"∧ob.dict=some builtinsNs∧ob.data= .plain
theorem Base.mono{w:World}{mg mb:Str→Option Value}{g g':Heap}(x:Base w mg mb g)(k:∀b o,g.get? b=some o→g'.get? b=some o):Base w mg mb g' where
  X:=x.X.keeps k
  ns:=x.ns.keeps k
  bl:=x.bl.keeps k
  bu:=x.bu
  lim:=x.lim.keeps k
  mods:=(by obtain ⟨o,h⟩:=x.mods;exact ⟨o,k _ _ h⟩)
  c1:=x.c1.keeps k
  c2:=x.c2.keeps k
  bm:=(by obtain ⟨bm,ob,h1,h2,h3,r⟩:=x.bm;exact ⟨bm,ob,h1,h2,k _ _ h3,r⟩)
noncomputable def dictOf:Option Obj→Array DictEntry
  | some o=>match o.data with
    | .dict es _=>es
    |_=> #[]
  |none=> #[]
noncomputable def b3k(P:Params):Array DictEntry:=dictOf ((t9 P).lookup 3)
theorem Base.at{w:World}{mg mb:Str→Option Value}{g:Heap}(x:Base w mg mb g)(n:Str):mg n=nsFind (b3k w.params) n:=by
  obtain ⟨o,es,ep,h1,h2,_,h3⟩:=x.ns
  obtain ⟨o',e⟩:=Option.isSome_iff_exists.mp (show ((t9 w.params).lookup 3).isSome=true by kernel_rfl)
  have h4:=(x.X 3 o' e).symm.trans h1
  rw [Option.some.inj h4] at e
  rw [← h3 n,b3k,e]
  show nsFind es n=nsFind (match o.data with| .dict es _=>es|_=> #[]) n
  rw [h2]
set_option genCtorIdx false in
structure i8 where
  pin:List (Addr×Obj)
  frs:List (Addr×(Str→Option Value))
  src:List Addr
noncomputable def i8.G(t:i8):List Addr:=376::116::(t.frs.map (·.1)++t.src)
noncomputable def i8.inv(t:i8)(h:Heap):Prop:=(∃ps,h.get? 376=some (tabObj ps)∧TriplesOk ps.toList)∧(∃ps,h.get? 116=some (tabObj ps)∧TriplesOk ps.toList)∧(∀p∈t.pin,h.get? p.1=some p.2)∧(∀p∈t.frs,h.Ns p.1 p.2)∧∀a∈t.src,SrcAt a h
noncomputable def i8.d8(t:i8)(g:Heap):u7:=⟨fun a=>a∈t.G,g⟩
theorem i8.stable(t:i8)(hp:∀p∈t.pin,p.1∈t.G){h h':Heap}(x:t.inv h)(k:∀b o,b∈t.G→h.get? b=some o→h'.get? b=some o):t.inv h':=by
  obtain ⟨⟨p1,a1,a2⟩,⟨p2,b1,b2⟩,c,d,e⟩:=x
  refine ⟨⟨p1,k _ _ (by simp [i8.G]) a1,a2⟩,⟨p2,k _ _ (by simp [i8.G]) b1,b2⟩,fun p q=>k _ _ (hp p q) (c p q),fun p q=>(d p q).at' fun o z=>k _ o ?_ z,fun a q=>?_⟩
  · simp only [i8.G,List.mem_cons,List.mem_append];exact .inr (.inr (.inl (List.mem_map_of_mem q)))
  · obtain ⟨i,j,ta,tb,hl,r⟩:=e a q
    exact ⟨i,j,ta,tb,hl.at fun o z=>k _ o (by simp only [i8.G,List.mem_cons,List.mem_append];exact .inr (.inr (.inr q))) z,r⟩
noncomputable abbrev prog:Program:=PySem.Challenge.rw_xw0167_01.row.prog
theorem Base.none{w:World}{mg mb:Str→Option Value}{g:Heap}(x:Base w mg mb g){t:i8}(hG:∀a∈t.G,g.get? a=none){a:Addr}{o:Obj}(h:g.get? a=some o):a∉t.G:=fun q=>n9 (hG a q) h
noncomputable def s9{w:World}{mg mb:Str→Option Value}{g:Heap}(x:Base w mg mb g)(t:i8)(hG:∀a∈t.G,g.get? a=none)(hp:∀p∈t.pin,p.1∈t.G): @Cx (t.d8 g):=
  letI:=t.d8 g
  { prog:=prog,w:=w,inv:=t.inv,stable:=fun h h' i k=>t.stable hp i k,hsh:=b1s w,drw:=b4g,a9d:=fun i=>rfl,
    c4l:=fun A E s v d X Q r hd hu h=>a6g 6 d hd A s v X Q r (by lia) h,
    mg:=mg,mb:=mb,hg:=x.ns,hb:=x.bl,hlim:=x.lim,
    bi:=fun y v hy=>by
      simp only [List.mem_cons,Prod.mk.injEq,List.not_mem_nil,or_false] at hy
      rcases hy with ⟨rfl,rfl⟩|⟨rfl,rfl⟩|⟨rfl,rfl⟩|⟨rfl,rfl⟩|⟨rfl,rfl⟩|⟨rfl,rfl⟩|⟨rfl,rfl⟩|⟨rfl,rfl⟩|⟨rfl,rfl⟩ <;> exact ⟨(x.at _).trans (by kernel_rfl),(x.bu _ (by decide)).trans (by kernel_rfl)⟩,
    mods:=x.mods,
    J7:=⟨((by obtain ⟨o,_,_,h,_⟩:=x.ns;exact x.none hG h)),((by obtain ⟨o,_,_,h,_⟩:=x.bl;exact x.none hG h)),(by obtain ⟨_,⟨o,_,_,h,_⟩,_⟩:=x.lim;exact x.none hG h)⟩}
noncomputable def strOf:Option Value→Option Str
  |some (.str s _)=>some s
  |_=>none
noncomputable def b1c(K:Frag)(c:Addr):Option Str:=match K.lookup c with
  | some o=>match o.data with
    | .fields vs=>strOf vs[1]?
    |_=>none
  |none=>none
theorem b7n{i:Nat}{m:Str}{t:Nat}{c:Addr}{dv:Value}{fd:FuncData}(e:(E0 i m t c dv).data= .func fd):fd.code= .ref c:=by cases e;rfl
set_option tactic.hygienic true in
theorem b2l{K:Frag}{c:Addr}{s:Str}(h:b1c K c=some s):∃oc vs tk,K.lookup c=some oc∧oc.data= .fields vs∧vs[1]?=some (.str s tk):=by
  unfold b1c at h
  cases e:K.lookup c with
  |none=>rw [e] at h;cases h
  | some o=>
    rw [e] at h
    dsimp only at h
    cases e2:o.data <;> rw [e2] at h <;> first|(cases h;done)|skip
    rename_i vs
    dsimp only at h
    cases e3:(vs[1]?:Option Value) with
    |none=>rw [e3] at h;cases h
    |some v=>rw [e3] at h;cases v <;> first|(cases h;done)|(cases h;exact ⟨o,vs,_,rfl,e2,e3⟩)
section
variable{w:World}{mg mb:Str→Option Value}{g:Heap}(x:Base w mg mb g)(t:i8)(hG:∀a∈t.G,g.get? a=none)(hp:∀p∈t.pin,p.1∈t.G)
theorem b4l{i:Nat}{n:Str}{a c:Addr}{m:Str}{tk:Nat}{dv:Value}(hm:nsFind (b3k w.params) n=some (.ref a))(ho:(t9 w.params).lookup a=some (E0 i m tk c dv))(hc:b1c (t9 w.params) c=some (a6c (i9 i)))
    (h0:(u6 (i9 i)).defaults=[]→dv= .none) (h1:∀e,(u6 (i9 i)).defaults=[e]→∃T ot it n t i,dv= .ref T∧(t9 w.params).lookup T=some ot∧ot.data= .seq it n∧it= #[Value.int i t]):letI:=t.d8 g;FnAt (s9 x t hG hp) n a (i9 i):=by
  letI:=t.d8 g
  obtain ⟨oc,vs,tk',e1,e2,e3⟩:=b2l hc
  refine ⟨_,.str m tk,.ref c,.none,dv,(x.at n).trans hm,x.none hG (x.X _ _ ho),x.X _ _ ho,rfl,⟨c,oc,vs,tk',x.none hG (x.X _ _ e1),rfl,x.X _ _ e1,e2,e3⟩,h0,fun e q=>?_⟩
  obtain ⟨T,ot,it,n,u,j,h2,h3,h4,rfl⟩:=h1 e q
  exact ⟨T,ot,n,u,j,h2,x.none hG (x.X _ _ h3),x.X _ _ h3,h4⟩
theorem n7{i:Nat}{n:Str}{a c:Addr}{m:Str}{tk:Nat}(hm:nsFind (b3k w.params) n=some (.ref a))(ho:(t9 w.params).lookup a=some (E0 i m tk c .none))(hc:b1c (t9 w.params) c=some (a6c (i9 i)))(hf:(u6 (i9 i)).defaults=[]):letI:=t.d8 g;FnAt (s9 x t hG hp) n a (i9 i):=
  b4l x t hG hp hm ho hc (fun O=>rfl) fun e q=>by rw [hf] at q;cases q
end
end
section
open PySem.Calls
section
variable{w:World}{mg mb:Str→Option Value}{g:Heap}(x:Base w mg mb g)(t:i8)(hG:∀a∈t.G,g.get? a=none)(hp:∀p∈t.pin,p.1∈t.G)
noncomputable def a9t [u7](C:Cx):List (Nat×Str×Addr×Addr)→Prop
  |[]=>True
  |p::r=>FnAt C p.2.1 p.2.2.1 (i9 p.1)∧a9t C r
theorem a9t.get{H:u7}{C:Cx} :∀ {l:List (Nat×Str×Addr×Addr)},a9t C l→∀(k i:Nat) (n:Str) (a c:Addr),l[k]?=some (i,n,a,c)→FnAt C n a (i9 i):=by
  intro LL1
  induction LL1 with
  | nil=>
    nofun
  | cons _ _ ih=>
    intro x
    intro LL2
    cases LL2 with
    | zero=>
      rintro _ _ _ _ h
      cases Option.some.inj h;exact x.1
    | succ k=>
      rintro i n a c h
      exact ih x.2 k i n a c h
theorem a9t.cons{H:u7}{C:Cx}{i:Nat}{n:Str}{a c:Addr}{r:List (Nat×Str×Addr×Addr)}(x:FnAt C n a (i9 i))(y:a9t C r):a9t C ((i,n,a,c)::r):=⟨x,y⟩
theorem b0p:letI:=t.d8 g;∀(k i:Nat) (n:Str) (a c:Addr),b1o[k]?=some (i,n,a,c)→FnAt (s9 x t hG hp) n a (i9 i):=
  letI:=t.d8 g
  (show a9t (s9 x t hG hp) b1o from .cons (n7 x t hG hp (by kernel_rfl) rfl (by kernel_rfl) (by kernel_rfl)) (.cons (n7 x t hG hp (by kernel_rfl) rfl (by kernel_rfl) (by kernel_rfl)) (.cons (n7 x t hG hp (by kernel_rfl) rfl (by kernel_rfl) (by kernel_rfl)) (.cons (n7 x t hG hp (by kernel_rfl) rfl (by kernel_rfl) (by kernel_rfl)) (.cons (n7 x t hG hp (by kernel_rfl) rfl (by kernel_rfl) (by kernel_rfl)) (.cons (n7 x t hG hp (by kernel_rfl) rfl (by kernel_rfl) (by kernel_rfl)) (.cons (n7 x t hG hp (by kernel_rfl) rfl (by kernel_rfl) (by kernel_rfl)) (.cons (n7 x t hG hp (by kernel_rfl) rfl (by kernel_rfl) (by kernel_rfl)) (.cons (n7 x t hG hp (by kernel_rfl) rfl (by kernel_rfl) (by kernel_rfl)) (.cons (n7 x t hG hp (by kernel_rfl) rfl (by kernel_rfl) (by kernel_rfl)) (.cons (n7 x t hG hp (by kernel_rfl) rfl (by kernel_rfl) (by kernel_rfl)) (.cons (n7 x t hG hp (by kernel_rfl) rfl (by kernel_rfl) (by kernel_rfl)) (.cons (n7 x t hG hp (by kernel_rfl) rfl (by kernel_rfl) (by kernel_rfl)) (.cons (n7 x t hG hp (by kernel_rfl) rfl (by kernel_rfl) (by kernel_rfl)) (.cons (n7 x t hG hp (by kernel_rfl) rfl (by kernel_rfl) (by kernel_rfl)) (.cons (n7 x t hG hp (by kernel_rfl) rfl (by kernel_rfl) (by kernel_rfl)) (.cons (n7 x t hG hp (by kernel_rfl) rfl (by kernel_rfl) (by kernel_rfl)) (.cons (n7 x t hG hp (by kernel_rfl) rfl (by kernel_rfl) (by kernel_rfl)) (.cons (n7 x t hG hp (by kernel_rfl) rfl (by kernel_rfl) (by kernel_rfl)) (.cons (n7 x t hG hp (by kernel_rfl) rfl (by kernel_rfl) (by kernel_rfl)) (.cons (n7 x t hG hp (by kernel_rfl) rfl (by kernel_rfl) (by kernel_rfl)) (.cons (b4l x t hG hp rfl rfl rfl (fun q=>nomatch q) fun e q=>⟨_,_,_,_,_,_,rfl,rfl,rfl,rfl⟩) (.cons (n7 x t hG hp (by kernel_rfl) rfl (by kernel_rfl) (by kernel_rfl)) (.cons (n7 x t hG hp (by kernel_rfl) rfl (by kernel_rfl) (by kernel_rfl)) (.cons (b4l x t hG hp rfl rfl rfl (fun q=>nomatch q) fun e q=>⟨_,_,_,_,_,_,rfl,rfl,rfl,rfl⟩) (.cons (n7 x t hG hp (by kernel_rfl) rfl (by kernel_rfl) (by kernel_rfl)) (.cons (n7 x t hG hp (by kernel_rfl) rfl (by kernel_rfl) (by kernel_rfl)) (.cons (n7 x t hG hp (by kernel_rfl) rfl (by kernel_rfl) (by kernel_rfl)) (.cons (n7 x t hG hp (by kernel_rfl) rfl (by kernel_rfl) (by kernel_rfl)) (.cons (n7 x t hG hp (by kernel_rfl) rfl (by kernel_rfl) (by kernel_rfl)) (.cons (n7 x t hG hp (by kernel_rfl) rfl (by kernel_rfl) (by kernel_rfl)) (.cons (n7 x t hG hp (by kernel_rfl) rfl (by kernel_rfl) (by kernel_rfl)) (.cons (n7 x t hG hp (by kernel_rfl) rfl (by kernel_rfl) (by kernel_rfl)) (.cons (n7 x t hG hp (by kernel_rfl) rfl (by kernel_rfl) (by kernel_rfl)) (.cons (n7 x t hG hp (by kernel_rfl) rfl (by kernel_rfl) (by kernel_rfl)) (.cons (n7 x t hG hp (by kernel_rfl) rfl (by kernel_rfl) (by kernel_rfl)) (.cons (n7 x t hG hp (by kernel_rfl) rfl (by kernel_rfl) (by kernel_rfl)) (.cons (n7 x t hG hp (by kernel_rfl) rfl (by kernel_rfl) (by kernel_rfl)) (.cons (n7 x t hG hp (by kernel_rfl) rfl (by kernel_rfl) (by kernel_rfl)) (.cons (n7 x t hG hp (by kernel_rfl) rfl (by kernel_rfl) (by kernel_rfl)) (.cons (n7 x t hG hp (by kernel_rfl) rfl (by kernel_rfl) (by kernel_rfl)) (trivial)))))))))))))))))))))))))))))))))))))))))).get
end
end
section
open PySem.Calls
theorem c5g(P:Params):∃fd,c6v (t9 P) 52 36 fd:=by
  have ex:ExcK (t9 P) 52 36:=⟨⟨_,rfl,rfl,rfl,rfl,rfl,fun self=>by
      show refuseLoop self "__setattr__" (.ref 52:: .ref 39::[.type "Exception",.type "BaseException",.type "object"])=_
      refine b8 (refuseLoop_ref ..) (b8 (refuseLoop_ref ..) ?_);exact PySem.F.store_Exception.passes self,by decide,by decide,by decide,by decide,by decide,by decide⟩,by kernel_rfl,by kernel_rfl,by kernel_rfl,by kernel_rfl,by kernel_rfl⟩
  exact ⟨_,⟨ex,⟨_,_,_,_,_,_,_,_,_,_,_,_,_,_,rfl,by decide,by decide,by decide⟩,by kernel_rfl,by kernel_rfl,⟨_,rfl,rfl⟩,⟨_,_,_,_,rfl,rfl,rfl,rfl⟩,rfl,⟨_,_,_,_,_,rfl,rfl,rfl,fun s x v h=> .of_defaults (k:=_) rfl h rfl rfl rfl⟩,rfl,rfl,rfl⟩⟩
structure i8.Ok(t:i8):Prop where
  d1:∀a∈t.frs.map (·.1)++t.src,a≠376∧a≠116
  d2:∀p∈t.pin,p.1=376
  d3:∀a∈t.src,a∉t.frs.map (·.1)
theorem i8.Ok.hp{t:i8}(k:t.Ok):∀p∈t.pin,p.1∈t.G:=fun p h=>by refine b8 (k.d2 p h ..) ?_;exact .head _
section
variable{w:World}{mg mb:Str→Option Value}{g:Heap}(x:Base w mg mb g){t:i8}(k:t.Ok)(hG:∀a∈t.G,g.get? a=none)
noncomputable def c9y(P:Params)(t:i8):Rk:=⟨t9 P,52,36,(c5g P).choose,(c5g P).choose_spec,fun a=>a∈t.frs.map (·.1)⟩
theorem c8e:letI:=t.d8 g;I4 (s9 x t hG k.hp) (c9y w.params t):=by
  letI:=t.d8 g
  exact {
    X:=fun a o h=>⟨x.none hG (x.X _ _ h),x.X _ _ h⟩
    mE:=(x.at _).trans (by kernel_rfl)
    bE:=(x.bu _ (by decide)).trans (by kernel_rfl)
    mP:=(x.at _).trans (by kernel_rfl)
    frm:=fun h i a q=>by
      obtain ⟨p,hp,rfl⟩:=List.mem_map.mp q
      exact ⟨(by show p.1∈t.G;simp only [i8.G,List.mem_cons,List.mem_append];exact .inr (.inr (.inl (List.mem_map_of_mem hp)))),_,i.2.2.2.1 p hp⟩
    slots:=fun h h' i kk sm=>by
      obtain ⟨⟨p1,a1,a2⟩,⟨p2,b1,b2⟩,c,d,e⟩:=i
      have n1:(376:Addr)∉t.frs.map (·.1):=fun q=>(k.d1 _ (List.mem_append_left _ q)).1 rfl
      have n2:(116:Addr)∉t.frs.map (·.1):=fun q=>(k.d1 _ (List.mem_append_left _ q)).2 rfl
      refine ⟨⟨p1,kk _ _ (.head _) n1 a1,a2⟩,⟨p2,kk _ _ (.tail _ (.head _)) n2 b1,b2⟩,fun p q=>?_,fun p q=>sm.ns (d p q),fun a q=>?_⟩
      · refine kk _ _ (k.hp p q) ?_ (c p q)
        refine b8 (k.d2 p q ..) ?_;exact n1
      · obtain ⟨i,j,ta,tb,hl,r⟩:=e a q
        exact ⟨i,j,ta,tb,hl.at fun o z=>kk _ o (by show a∈t.G;simp only [i8.G,List.mem_cons,List.mem_append];exact .inr (.inr (.inr q))) (k.d3 a q) z,r⟩}
theorem c6f:letI:=t.d8 g;b9u (s9 x t hG k.hp) 118 116:=by
  letI:=t.d8 g
  exact {
    d8:= .tail _ (.head _)
    u9:=by obtain ⟨o,vs,_,_,_,_,_,_,_,e,_⟩:=x.c2;exact x.none hG e
    code:=fun h le=>by
      obtain ⟨o,vs,f,tf,fl,tg,i,tx,tt,e,r⟩:=x.c2
      exact ⟨o,vs,f,tf,fl,tg,i,tx,tt,le _ _ (x.none hG e) e,r⟩
    at_:=fun h i=>i.2.1
    turn:=fun h h' ps i hP ht kk=>by
      obtain ⟨⟨p1,a1,a2⟩,_,c,d,e⟩:=i
      refine ⟨⟨p1,kk _ _ (.head _) (by decide) a1,a2⟩,⟨ps,hP,ht⟩,fun p q=>?_,fun p q=>(d p q).at' fun o z=>kk _ o ?_ ?_ z,fun a q=>?_⟩
      · refine kk _ _ (k.hp p q) ?_ (c p q)
        refine b8 (k.d2 p q ..) ?_;decide
      · show p.1∈t.G;simp only [i8.G,List.mem_cons,List.mem_append];exact .inr (.inr (.inl (List.mem_map_of_mem q)))
      · exact (k.d1 _ (List.mem_append_left _ (List.mem_map_of_mem q))).2
      · obtain ⟨i,j,ta,tb,hl,r⟩:=e a q
        exact ⟨i,j,ta,tb,hl.at fun o z=>kk _ o (by show a∈t.G;simp only [i8.G,List.mem_cons,List.mem_append];exact .inr (.inr (.inr q))) (k.d1 _ (List.mem_append_right _ q)).2 z,r⟩
    bt:=fun h le=>by
      obtain ⟨bm,ob,h1,h2,h3,h4,h5,h6⟩:=x.bm
      have n:=x.none hG h3
      refine ⟨bm,ob,h1,h2,fun q=>?_,fun q=>n (q▸ .tail _ (.head _)),le _ _ n h3,h4,h5,h6⟩
      obtain ⟨o,es,ep,e1,e2,_⟩:=x.ns
      rw [q,e1] at h3;clear e1;cases h3;rw [e2] at h6;cases h6}
end
end
section
open PySem.Calls
theorem findObj_own{K:Frag}{C:Addr}{cd:ClassData}{od:Obj}{name:Str}{v:Value}(hc:clsIn K C=some cd)(hd:cd.hasDict=true)(hn:findIn K (.ref C) name=some none)(hl:lookIn name od=some (some v)):findObj K C (some od) name=some (.value v):=by
  show (clsIn K C).bind _=_
  refine b8 hc ?_
  show (findIn K (.ref C) name).bind _=_
  refine b8 hn ?_
  show (W.ownOf cd (some od) name).bind _=_
  have e:W.ownOf cd (some od) name=some (some v):=(if_pos hd).trans hl
  refine b8 e ?_
  rfl
structure Wld(w:World)(g:Heap)(wd ad ae an:Addr):Prop where
  w1:∃ox od,W.InstAt g wd ox 275 (some od)∧lookIn "adts" od=some (some (.ref ad))
  e1:∃ox od l p r,W.InstAt g ae ox 246 (some od)∧lookIn "is_enum" od=some (some (.bool true))∧lookIn "variants" od=some (some (.ref l))∧lookIn "params" od=some (some (.ref p))∧lookIn "regions" od=some (some (.ref r))∧
    (∀(H:u7),(∀a,H.G a→g.get? a=none)→ @Rep H H.G g (.ref l) b0e∧ @Rep H H.G g (.ref p) (.tup [])∧ @Rep H H.G g (.ref r) (.tup []))
  n1:∃ox od l,W.InstAt g an ox 246 (some od)∧lookIn "is_enum" od=some (some (.bool true))∧lookIn "variants" od=some (some (.ref l))∧(∀(H:u7),(∀a,H.G a→g.get? a=none)→ @Rep H H.G g (.ref l) (.lst []))
  tab:(ad==sysModules)=false∧∃fv:Str→Option Value,g.MapOf (PySem.strKind prog w) ad fv∧∀x,fv x=if x="E" then some (.ref ae) else if x="N" then some (.ref an) else none
theorem a2b{h h':Heap}{x C:Addr}{ox od:Obj}(I:W.InstAt h x ox C (some od))(k:∀b o,h.get? b=some o→h'.get? b=some o):W.InstAt h' x ox C (some od):=by
  obtain ⟨a,b,c,d⟩:=I
  refine ⟨k _ _ a,b,c,?_⟩
  cases e:ox.dict with
  |none=>rw [e] at d;exact d.elim
  |some dx=>rw [e] at d;exact k _ _ d
theorem Wld.mono{w:World}{g g':Heap}{wd ad ae an:Addr}(x:Wld w g wd ad ae an)(k:∀b o,g.get? b=some o→g'.get? b=some o):Wld w g' wd ad ae an:=by
  have rp:∀(H:u7),(∀a,H.G a→g'.get? a=none)→∀v d,@Rep H H.G g v d→ @Rep H H.G g' v d:=fun H O v d r=> @Rep.le H _ _ _ _ _ r (Le.of k)
  have off:∀(H:u7),(∀a,H.G a→g'.get? a=none)→∀a,H.G a→g.get? a=none:=fun H z a q=>by
    exact isNone fun o e=>by have:=k a o e;exact n9 (z a q) this
  obtain ⟨⟨o1,d1,i1,l1⟩,⟨o2,d2,l,p,r,i2,a1,a2,a3,a4,a5⟩,⟨o3,d3,l',i3,b1,b2,b3⟩,c1,fv,⟨o,es,ep,c2,c3⟩,c4⟩:=x
  exact ⟨⟨o1,d1,a2b i1 k,l1⟩,⟨o2,d2,l,p,r,a2b i2 k,a1,a2,a3,a4,fun H z=>(a5 H (off H z)).imp (rp H z _ _) (And.imp (rp H z _ _) (rp H z _ _))⟩,⟨o3,d3,l',a2b i3 k,b1,b2,fun H z=>rp H z _ _ (b3 H (off H z))⟩,c1,fv,⟨o,es,ep,k _ _ c2,c3⟩,c4⟩
section
variable{w:World}{mg mb:Str→Option Value}{g:Heap}(x:Base w mg mb g){t:i8}(k:t.Ok)(hG:∀a∈t.G,g.get? a=none)
include x hG in
theorem a2x{a:Addr}{vs:List Value}{l:List PV}(h:(t9 w.params).lookup a=some {cls:= .type "tuple",data:= .seq vs.toArray})(r:letI:=t.d8 g;i0 (fun a=>a∈t.G) g vs l):letI:=t.d8 g;Rep (fun a=>a∈t.G) g (.ref a) (.tup l):=
  letI:=t.d8 g;Rep.c7m ⟨0,x.X _ _ h⟩ (x.none hG (x.X _ _ h)) r
theorem a2o{a C:Addr}{ox od:Obj}{cd:ClassData}{name:Str}{v:Value}{d:PV}(I:W.InstAt g a ox C (some od))(hc:clsIn (t9 w.params) C=some cd)(hd:cd.hasDict=true)(hn:findIn (t9 w.params) (.ref C) name=some none)(hga:findIn (t9 w.params) (.ref C) "__getattribute__"=some (some (.builtin "object.__getattribute__")))
    (hl:lookIn name od=some (some v)) (hh:handedIn v=true) (r:letI:=t.d8 g;Rep (fun a=>a∈t.G) g v d):letI:=t.d8 g;a2k (s9 x t hG k.hp) (.ref a) name d:=by
  letI:=t.d8 g
  refine ⟨v,r,fun A Q E s le q=>?_⟩
  have kk:∀b o,g.get? b=some o→s.heap.get? b=some o:=fun b o e=>le b o (x.none hG e) e
  exact get_value (x.X.keeps kk) (a2b I kk) hga (findObj_own hc hd hn hl) hh (q _)
theorem b8w{wd ad ae an:Addr}(y:Wld w g wd ad ae an):letI:=t.d8 g;a5h (s9 x t hG k.hp) (.z8 (.ref wd)) ad ae an:=by
  letI:=t.d8 g
  obtain ⟨⟨o1,d1,i1,l1⟩,⟨o2,d2,l,p,r,i2,a1,a2,a3,a4,a5⟩,⟨o3,d3,l',i3,b1,b2,b3⟩,c1,fv,⟨o,es,ep,c2,c3⟩,c4⟩:=y
  have z:=a5 (t.d8 g) hG
  have z':=b3 (t.d8 g) hG
  have ga:findIn (t9 w.params) (.ref 246) "__getattribute__"=some (some (.builtin "object.__getattribute__")):=by kernel_rfl
  exact {
    w:=⟨wd,rfl,a2o x k hG i1 rfl rfl (by kernel_rfl) (by kernel_rfl) l1 rfl (.z8 _ fun a e=> .inr ⟨o,by cases e;exact c2⟩)⟩
    tab :=⟨x.none hG c2,c1,fv,⟨o,es,ep,c2,c3⟩,fun s=>by
      refine b8 (c4 ..) ?_;unfold c0w
      by_cases h1:s="E"
      · refine b8 (if_pos h1 ..) (b8 (if_pos h1 ..) ?_);exact .z8 _ fun a e=> .inr ⟨_,by cases e;exact i2.at_⟩
      · refine b8 (if_neg h1 ..) (b8 (if_neg h1 ..) ?_)
        by_cases h2:s="N"
        · refine b8 (if_pos h2 ..) (b8 (if_pos h2 ..) ?_);exact .z8 _ fun a e=> .inr ⟨_,by cases e;exact i3.at_⟩
        · refine b8 (if_neg h2 ..) (b8 (if_neg h2 ..) ?_);trivial⟩
    c8k:=a2o x k hG i2 rfl rfl (by kernel_rfl) ga a1 rfl (.bool _)
    c8v:=a2o x k hG i3 rfl rfl (by kernel_rfl) ga b1 rfl (.bool _)
    d1n:=a2o x k hG i2 rfl rfl (by kernel_rfl) ga a2 rfl z.1
    d1p:=a2o x k hG i3 rfl rfl (by kernel_rfl) ga b2 rfl z'
    d1g:=a2o x k hG i2 rfl rfl (by kernel_rfl) ga a3 rfl z.2.1
    d1c:=a2o x k hG i2 rfl rfl (by kernel_rfl) ga a4 rfl z.2.2}
noncomputable def a6b:List (Str×Value):=[(("i8":Str),Value.int 8 247),(("i16":Str),Value.int 16 249),(("i32":Str),Value.int 32 251),(("i64":Str),Value.int 64 253),(("u8":Str),Value.int 8 255),(("u16":Str),Value.int 16 257),(("u32":Str),Value.int 32 259),(("u64":Str),Value.int 64 261),(("usize":Str),Value.int 64 263)]
theorem b5q(hX:(t9 w.params).In g):g.DictOf (PySem.strKind prog w) 55 a6b:=by
  refine ⟨_,_,_,hX 55 _ rfl,⟨rfl,rfl,rfl⟩,rfl,fun e he=>?_,?_,by decide⟩
  · simp only [List.mem_toArray,List.mem_cons,List.not_mem_nil,or_false] at he
    rcases he with rfl|rfl|rfl|rfl|rfl|rfl|rfl|rfl|rfl
    · exact ⟨"i8",PySem.strKind_is _ _ _ _,rfl⟩
    · exact ⟨"i16",PySem.strKind_is _ _ _ _,rfl⟩
    · exact ⟨"i32",PySem.strKind_is _ _ _ _,rfl⟩
    · exact ⟨"i64",PySem.strKind_is _ _ _ _,rfl⟩
    · exact ⟨"u8",PySem.strKind_is _ _ _ _,rfl⟩
    · exact ⟨"u16",PySem.strKind_is _ _ _ _,rfl⟩
    · exact ⟨"u32",PySem.strKind_is _ _ _ _,rfl⟩
    · exact ⟨"u64",PySem.strKind_is _ _ _ _,rfl⟩
    · exact ⟨"usize",PySem.strKind_is _ _ _ _,rfl⟩
  · exact .cons (PySem.strKind_is _ _ _ _) rfl (.cons (PySem.strKind_is _ _ _ _) rfl (.cons (PySem.strKind_is _ _ _ _) rfl (.cons (PySem.strKind_is _ _ _ _) rfl (.cons (PySem.strKind_is _ _ _ _) rfl (.cons (PySem.strKind_is _ _ _ _) rfl (.cons (PySem.strKind_is _ _ _ _) rfl (.cons (PySem.strKind_is _ _ _ _) rfl (.cons (PySem.strKind_is _ _ _ _) rfl (.nil)))))))))
theorem b7u [u7](y:Str):match valueAt a6b y,bits y with
  |some v,some d=>∀(X:Addr→Prop) (h:Heap),Rep X h v d
  |none,none=>True
  |_,_=>False:=by
  by_cases h0:y="i8"
  · subst h0;exact fun X h=> .int _ _
  by_cases h1:y="i16"
  · subst h1;exact fun X h=> .int _ _
  by_cases h2:y="i32"
  · clear h0 h1;subst h2;exact fun X h=> .int _ _
  by_cases h3:y="i64"
  · clear h0 h1 h2;subst h3;exact fun X h=> .int _ _
  by_cases h4:y="u8"
  · clear h0 h1 h2 h3;subst h4;exact fun X h=> .int _ _
  by_cases h5:y="u16"
  · clear h0 h1 h2 h3 h4;subst h5;exact fun X h=> .int _ _
  by_cases h6:y="u32"
  · clear h0 h1 h2 h3 h4 h5;subst h6;exact fun X h=> .int _ _
  by_cases h7:y="u64"
  · clear h0 h1 h2 h3 h4 h5 h6;subst h7;exact fun X h=> .int _ _
  by_cases h8:y="usize"
  · clear h0 h1 h2 h3 h4 h5 h6 h7;subst h8;exact fun X h=> .int _ _
  have e1:valueAt a6b y=none:=by
    simp only [valueAt,a6b,List.find?_cons,List.find?_nil,show decide (("i8":Str)=y)=false from decide_eq_false fun q=>h0 q.symm,show decide (("i16":Str)=y)=false from decide_eq_false fun q=>h1 q.symm,show decide (("i32":Str)=y)=false from decide_eq_false fun q=>h2 q.symm,show decide (("i64":Str)=y)=false from decide_eq_false fun q=>h3 q.symm,show decide (("u8":Str)=y)=false from decide_eq_false fun q=>h4 q.symm,show decide (("u16":Str)=y)=false from decide_eq_false fun q=>h5 q.symm,show decide (("u32":Str)=y)=false from decide_eq_false fun q=>h6 q.symm,show decide (("u64":Str)=y)=false from decide_eq_false fun q=>h7 q.symm,show decide (("usize":Str)=y)=false from decide_eq_false fun q=>h8 q.symm,Option.map_none]
  have e2:bits y=none:=by simp only [bits,h0,h1,h2,h3,h4,h5,h6,h7,h8,or_false,if_false]
  refine b8 (e1 ..) (b8 (e2 ..) ?_);trivial
theorem b6k{wd ad ae an:Addr}(y:Wld w g wd ad ae an):letI:=t.d8 g;Sup (s9 x t hG k.hp) (.z8 (.ref wd)):=by
  letI:=t.d8 g
  have e:∀ {a:Addr},(t9 w.params).lookup a=some {cls:= .type "tuple",data:= .seq #[]} →Rep (fun a=>a∈t.G) g (.ref a) (.tup []):=fun h=>a2x x hG (vs:=[]) h .nil
  have b:∀ {a:Addr} {tk:Tok},(t9 w.params).lookup a=some {cls:= .type "tuple",data:= .seq #[.str "bool" tk]} →Rep (fun a=>a∈t.G) g (.ref a) Ty.bool.pv:=fun h=>a2x x hG (vs:=[_]) h (.cons (.str _ _) .nil)
  exact {
    fn:=b0p x t hG k.hp
    world:=⟨ad,ae,an,b8w x k hG y⟩
    tab:=c6f x k hG
    hcd:=fun a o fd h1 h2 h3=>by
      rw [show (s9 x t hG k.hp).mg "fields_of"=some (.ref 119) from (x.at _).trans (by kernel_rfl)] at h1
      cases h1
      have:=x.X 119 _ (show (t9 w.params).lookup 119=some _ from rfl)
      rw [show g.get? 119=some o from h2] at this
      cases this;cases h3;rfl
    bits:=⟨55,⟨(x.at _).trans (by kernel_rfl),.z8 _ fun a e=> .inr ⟨_,by cases e;exact x.X 55 _ rfl⟩⟩,⟨x.none hG (x.X 55 _ rfl),rfl,valueAt a6b,(b5q x.X).mapOf,fun y=>by
      have:=b7u y
      revert this
      cases valueAt a6b y <;> cases bits y <;> intro this <;> first|exact this _ _|exact this⟩⟩
    most:=⟨_,(x.at _).trans (by kernel_rfl:_=some (Value.int 300 355)),.int _ _⟩
    g1:=⟨.ref 301,(x.at _).trans (by kernel_rfl),b rfl⟩
    g2:=⟨.ref 302,(x.at _).trans (by kernel_rfl),a2x x hG (vs:=[_,_]) rfl (.cons (.str _ _) (.cons (.str _ _) .nil))⟩
    g3:=⟨.ref 306,(x.at _).trans (by kernel_rfl),a2x x hG (vs:=[_,_]) rfl (.cons (.str _ _) (.cons (a2x x hG (a:=305) (vs:=[_,_]) rfl (.cons (b rfl) (.cons (b rfl) .nil))) .nil))⟩
    g4:=⟨.ref 309,(x.at _).trans (by kernel_rfl),a2x x hG (vs:=[_,_,_,_]) rfl (.cons (.str _ _) (.cons (.str _ _) (.cons (e rfl) (.cons (e rfl) .nil))))⟩
    g5:=⟨.ref 314,(x.at _).trans (by kernel_rfl),a2x x hG (vs:=[_,_,_,_]) rfl (.cons (.str _ _) (.cons .none (.cons (.bool _) (.cons (b rfl) .nil))))⟩
    g6:=⟨.ref 312,(x.at _).trans (by kernel_rfl),a2x x hG (vs:=[_,_,_,_]) rfl (.cons (.str _ _) (.cons (.str _ _) (.cons (e rfl) (.cons (e rfl) .nil))))⟩}
end
end
section
variable [HH:u7]
theorem b3d{h:Heap}{a:Addr}{m:Str→Option Value}{o:Obj}(n:h.Ns1 a m)(e:h.get? a=some o)(name:Str):lookIn name o=some (m name):=by
  obtain ⟨o',es,ep,e1,e2,e3,_,e4⟩:=n
  rw [e] at e1;cases e1
  have h4:=e4 name
  clear e4;obtain ⟨l⟩:=es
  unfold lookIn
  refine b8 (e2 ..) ?_
  simp only [nsFind,findBy,List.find?_toArray] at h4
  dsimp only
  cases hf:l.find? fun x=>x.key.isStr name with
  |some x=>rw [hf] at h4;refine C5 (h4 ..) ?_;rfl
  | none=>
    rw [hf] at h4
    have hr:(l.any (·.refKey))=false:=List.any_eq_false.mpr fun x hx=>by
      obtain ⟨n,t,hk⟩:=e3 x (by simpa using hx)
      unfold DictEntry.refKey;refine b8 (hk ..) ?_;simp
    refine b8 (show (none:Option Value)=m name from h4 ..) ?_
    simp only [hr,Bool.false_eq_true,if_false]
structure WS(p:Program)(w:World)(h:Heap)(x dx ad:Addr)(kvs:List (Str×Value)):Prop where
  I:∃mA,M0 h x dx 275 mA∧mA "adts"=some (.ref ad)
  D:h.DictOf (PySem.strKind p w) ad kvs
  ne:ad≠x∧ad≠dx
structure AS(h:Heap)(x dx:Addr)(l p r:Value):Prop where
  I:∃mA,M0 h x dx 246 mA∧mA "regions"=some r∧mA "params"=some p∧mA "variants"=some l∧mA "is_enum"=some (.bool true)
theorem M0.keep{h h':Heap}{x dx C:Addr}{mA:Str→Option Value}(I:M0 h x dx C mA)(k:∀b o,(b=x∨b=dx)→h.get? b=some o→h'.get? b=some o):M0 h' x dx C mA:=⟨k _ _ (.inl rfl) I.obj,I.apart,I.ns.at fun o e=>k _ _ (.inr rfl) e⟩
theorem WS.keep{p:Program}{w:World}{h h':Heap}{x dx ad:Addr}{kvs:List (Str×Value)}(s:WS p w h x dx ad kvs)(k:∀b o,(b=x∨b=dx∨b=ad)→h.get? b=some o→h'.get? b=some o):WS p w h' x dx ad kvs:=
  (by obtain ⟨mA,I,e⟩:=s.I;exact ⟨⟨mA,I.keep fun b o z=>k b o (z.imp id .inl),e⟩,s.D.at fun o e=>k _ _ (.inr (.inr rfl)) e,s.ne⟩)
theorem AS.keep{h h':Heap}{x dx:Addr}{l p r:Value}(s:AS h x dx l p r)(k:∀b o,(b=x∨b=dx)→h.get? b=some o→h'.get? b=some o):AS h' x dx l p r:=
  (by obtain ⟨mA,I,e⟩:=s.I;exact ⟨mA,I.keep k,e⟩)
theorem M0.at'{h:Heap}{x dx C:Addr}{mA:Str→Option Value}(I:M0 h x dx C mA):∃od,W.InstAt h x (instObj C dx) C (some od)∧∀y,lookIn y od=some (mA y):=by
  obtain ⟨o,es,ep,e,r⟩:=id I.ns
  exact ⟨o,⟨I.obj,rfl,rfl,e⟩,b3d I.ns e⟩
theorem j9.keep{F:Fm}{X:Addr→Prop}{ρ:b9}{s:Shared}{h':Heap}{x:Str}{v:Value}(i:I F X ρ s)(r:j9 s.heap F.env x v)(k:∀b o,¬X b→s.heap.get? b=some o→h'.get? b=some o):j9 h' F.env x v:=by
  rcases r with ⟨h1,m,h2,h3⟩|⟨h1,c,h2,h3⟩
  · exact .loc h1 m (h2.at' fun o e=>k _ o i.u9 e) h3
  · exact .I7 h1 c h2 ((by obtain ⟨o,e,z⟩:=h3;exact ⟨o,k _ o (i.s8 _ _ h2) e,z⟩))
theorem St.lim{C:Cx}{X:Addr→Prop}{s:Shared}(i:St C X s):s.heap.NoLimit:=by
  obtain ⟨mc,⟨oS,es,ep,h1,h2,h3⟩,h4⟩:=C.hlim
  exact ⟨mc,⟨oS,es,ep,i.base _ _ C.J7.2.2 h1,h2,h3⟩,h4⟩
theorem b5d{F:Fm}{ρ:b9}{X:Addr→Prop}{s:Shared}{wd dx ad:Addr}{kvs:List (Str×Value)}{key:Str}{e5:Expr}{dl:PV}{p1 p2 p3 p4 p5 p6 p7 q1 q2 q3 q4:Pos}{k0 k1 k2 k3 k4:Nat}(hX:∀a o,(t9 F.C.w.params).lookup a=some o→¬F.C.G a∧F.C.g.get? a=some o)(hA:F.C.mg "Adt"=some (.ref 246))(hk:F.env.kindOf "Adt"=some .globalImplicit)
    (hroom:3≤F.k) (j:JX F X ρ s) (vw:j9 s.heap F.env "world" (.ref wd)) (ws:WS F.C.prog F.C.w s.heap wd dx ad kvs) (fr:∀b,(b=wd∨b=dx∨b=ad)→F.s₀.heap.get? b=none∧¬X b∧b≠F.env.locals∧∀y,F.env.cells.lookup y≠some b) (hz:kvs.length≤10) (hpl:(backTo p6 (starEach [.Tuple [] k1 q2,.Tuple [] k2 q3,e5,.Constant (.bool true) k3 q4] F.env)).any (·.1)=false)
    (ev:E7 F ρ [.Constant (.str key) k0 q1,.Tuple [] k1 q2,.Tuple [] k2 q3,e5,.Constant (.bool true) k3 q4] fun ds=>ds=[.str key,.tup [],.tup [],dl,.bool true]) {Q:Flow→Shared→Prop} {E:Value→Shared→Prop}
    (q:∀s' ae dxe l p r,JX F X ρ s'→j9 s'.heap F.env "world" (.ref wd)→WS F.C.prog F.C.w s'.heap wd dx ad (stored kvs key (.ref ae))→AS s'.heap ae dxe l p r→Rep X s'.heap l dl→Rep X s'.heap p (.tup [])→Rep X s'.heap r (.tup [])→
      (∀b,(b=ae∨b=dxe)→s.heap.get? b=none∧¬X b∧F.s₀.heap.get? b=none)→(∀b o,¬X b→b≠ad→s.heap.get? b=some o→s'.heap.get? b=some o)→Q .next s'):
    wpAny (model F.C.prog F.C.w) F.A (exec (.Assign [.Subscript (.Attribute (.Name "world" p1) "adts" p2) (.Constant (.str key) k4 p3) p4] (.Call (.Name "Adt" p5) [.Constant (.str key) k0 q1,.Tuple [] k1 q2,.Tuple [] k2 q3,e5,.Constant (.bool true) k3 q4] [] p6) p7) F.env) Q E s:=by
  have hd:=F.hd
  have inK:∀ {s:Shared},Le F.C.G F.C.g s.heap→(t9 F.C.w.params).In s.heap:=fun b a o e=>b a o (hX a o e).1 (hX a o e).2
  refine wpAny_Assign_Subscript (wpAny_Call_NameR (a6v j.1 hA hk (by decide) ?_)) rfl
  refine callWith_K (h₀:=s.heap) (K:=t9 F.C.w.params) (inK j.1.base) (by kernel_rfl) (ev X s _ j.1 _ _ fun vs ds s₁ e i₁ x1a r₁=>?_) rfl hpl
  subst e
  obtain ⟨v1,_,rfl,r1,rl⟩:=r₁.cons_inv
  clear r₁;obtain ⟨v2,_,rfl,r2,rl⟩:=rl.cons_inv
  obtain ⟨v3,_,rfl,r3,rl⟩:=rl.cons_inv
  obtain ⟨v4,_,rfl,r4,rl⟩:=rl.cons_inv
  obtain ⟨v5,_,rfl,r5,rl⟩:=rl.cons_inv
  obtain rfl:=rl.nil_inv
  obtain rfl:=r5.bool_inv
  have j1a:=j.step i₁ x1a
  have k₁:∀b o,¬X b→s.heap.get? b=some o→s₁.heap.get? b=some o:=fun b o n e=>x1a.le b o (fun g=>n (i₁.sub b g)) e
  refine ⟨inK i₁.base,wpAny_call (b8r (inK i₁.base) i₁.toSt.lim (by lia) fun ae dxe h₂ tk mA hk2a nx nd IN e1 e2 e3 e4=>?_)⟩
  have i₂:I F X ρ ⟨h₂,s₁.gens,s₁.drawn,tk,s₁.os⟩:=i₁.grow hk2a
  have j2a:JX F X ρ ⟨h₂,s₁.gens,s₁.drawn,tk,s₁.os⟩:=j1a.step i₂ ⟨rfl,rfl,rfl,Le.of hk2a⟩
  have old:∀ {b:Addr},s₁.heap.get? b=none→s.heap.get? b=none∧¬X b∧F.s₀.heap.get? b=none:=fun {b} e=>by
    have nX:¬X b:=fun z=>by obtain ⟨o,ho⟩:=i₁.d8 b z;exact n9 e ho
    refine ⟨?_,nX,(j1a.fresh e).2⟩
    exact isNone fun o z=>by rw [k₁ b o nX z] at e;cases e
  have ws2:WS F.C.prog F.C.w h₂ wd dx ad kvs:=ws.keep fun b o z e=>hk2a b o (k₁ b o (fr b z).2.1 e)
  have vw2:j9 h₂ F.env "world" (.ref wd):=vw.keep j.1 fun b o n e=>hk2a b o (k₁ b o n e)
  obtain ⟨mW,IW,eW⟩:=ws2.I
  obtain ⟨od,IA,lk⟩:=IW.at'
  refine Attribute_Name_ (wpAny_Name (t8 F.hk vw2 (get_value (K:=t9 F.C.w.params) (C:=275) (od:=od) (inK i₂.base) IA (by kernel_rfl) (findObj_own (cd:=_) rfl rfl (by kernel_rfl) ((lk _).trans (by exact b8 (eW ..) rfl))) rfl (wpAny_Constant_str ?_))) (by decide)) rfl
  refine wpAny_setItem_pairs (knd:=PySem.strKind F.C.prog F.C.w) (k:=key) (strKind_is _ _ _ _) ws2.D (fun h₃ D3 hs=>?_) (Nat.le_trans hz (by decide))
  have hfr:=fr ad (.inr (.inr rfl))
  have mv:a8s X h₂ h₃ ad:=⟨fun b o n e=>(hs.2 b n).trans e,hfr.2.1,fun o us n ho hd=>by
    obtain ⟨o',es,ep,f1,_,f3,_⟩:=ws2.D
    rw [f1] at ho;clear f1;cases ho;rw [f3] at hd;cases hd⟩
  have adn:∀ {b:Addr},s₁.heap.get? b=none→b≠ad:=fun {b} e z=>by
    obtain ⟨o',es,ep,f1,_⟩:=ws.D
    rw [z,k₁ ad _ hfr.2.1 f1] at e;cases e
  refine q _ ae dxe v4 v3 v2 (j2a.moves (tk:=_) hfr.2.2.1 hfr.2.2.2 hfr.1 mv) (j9.moves (s:=⟨h₂,s₁.gens,s₁.drawn,tk,s₁.os⟩) hfr.2.2.1 hfr.2.2.2 mv vw2) ⟨⟨mW,IW.keep fun b o z e=>(hs.2 b (z.elim (fun z=>z▸ws.ne.1.symm) fun z=>z▸ws.ne.2.symm)).trans e,eW⟩,D3,ws.ne⟩ ⟨mA,IN.keep fun b o z e=>(hs.2 b (z.elim (fun z=>z▸adn nx) fun z=>z▸adn nd)).trans e,e1,e2,e3,e4⟩
    (Rep.moves mv (r4.le (Le.of hk2a))) (Rep.moves mv (r3.le (Le.of hk2a))) (Rep.moves mv (r2.le (Le.of hk2a))) (fun b z=>z.elim (fun z=>z▸old nx) fun z=>z▸old nd) fun b o n n' e=>(hs.2 b n').trans (hk2a b o (k₁ b o n e))
open PySem.Calls
section
variable{F:Fm}{R:Rk}{fs:List Env}{ρ:b9}
theorem c0d{M:Model}{A:Around}{E:Value→Shared→Prop}{s:Shared}{env:Env}{pos:Pos}{f:Addr}{o:Obj}{fd:FuncData}{Q:Value→Shared→Prop}(hdat:o.data= .func fd)(ho:s.heap.get? f=some o)(h:wpAny M A (call (.ref f) []) Q E s):
    wpAny M A (callWith pos (.ref f) [] (backTo pos (starEach [] env)) []) Q E s:=
  callWith_function (o:=o) (fd:=fd) (wpAny_pure (a:=(⟨[],[]⟩:Args)) ⟨⟨ho,hdat⟩,h⟩)
theorem catch_(f:Rf F R fs)(d8:∀L∈m9 fs,F.C.G L){e:Addr}{s':Shared}(r:a4b F R fs e s'){np hp cp rp:Pos}{msg:Str}{k:Nat}(hx:F.env.kindOf "PatternFault"=some .globalImplicit){Q:Flow→Shared→Prop}{E:Value→Shared→Prop}
    (q:∀v s',Done F v (.str msg) s'→Q (.ret v) s'):
    wpAny (model F.C.prog F.C.w) F.A (noteFrame (.ref e) F.env) (fun O s₂=>wpAny (model F.C.prog F.C.w) F.A (setFlight (.ref e) none) (fun O s₃=>
      wpAny (model F.C.prog F.C.w) F.A (handleBy (.ref e) F.env [.ExceptHandler (some (.Name "PatternFault" np)) none [.Return (some (.Constant (.str msg) k cp)) rp] hp]) Q E s₃) E s₂) E s':=by
  have W:=f.W
  have land:∀s',N2 F.C R (F.env::fs) .none F.s₀ (m9 fs) e s'→wpAny (model F.C.prog F.C.w) F.A (handleBy (.ref e) F.env [.ExceptHandler (some (.Name "PatternFault" np)) none [.Return (some (.Constant (.str msg) k cp)) rp] hp]) Q E s':=fun s' y=>by
    obtain ⟨base,a0,k,hn,fr,tr,cov,tab⟩:=y.fly
    have base':∀b o,F.C.g.get? b=some o→¬F.C.G b→s'.heap.get? b=some o:=fun b o z g=>k b o (cov b o (F.h₀ b o g z) g fun h=>g (d8 b h))
    obtain ⟨nm,q',N,bs,bm,sn,sub,col,dd,k0,k1,k2,k3,k5,hCK,hbE,_⟩:=R.P.obj
    have hC:=base' _ _ (W.X _ _ hCK).2 (W.X _ _ hCK).1
    have gns:s'.heap.Ns mainGlobals F.C.mg:=F.C.hg.at' fun o z=>base' _ o z F.C.J7.1
    clear base';obtain ⟨cd,hc,_,_,_,_,_,_,_,_,hBE,_⟩:=R.P.mro
    obtain ⟨oe,vs,T,oT,ts,he,hcls,_⟩:=id tr
    have hb:bm.contains (.type "BaseException")=true:=by
      delta clsIn at hc;rw [hCK] at hc;cases hc
      rw [List.contains_cons] at hBE;exact hBE
    obtain ⟨h₁,g1a,d1a,t1a,o₁⟩:=s'
    refine wpAny_handleBy_cons (codeAny_handlers_test (Name_function_global (A:=F.A.mark _) F.hk hx (loadGlobal_global (mg:=F.C.mg) (by refine b8 (F.K6 ..) ?_;exact gns) W.mP ?_) (by decide))) (by intro q;cases q)
    refine wpAny_excMatches_sub_self hC he hcls.1 hb ?_
    refine codeAny_handlers_suite (wpAny_setFlight_noneW k fr tr fun h' k1 k2 k3 k4=>?_)
    refine wpAny_execs_cons (wpAny_Return_some (wpAny_Constant_str ?_))
    have sm:h₁.UpToSlots h':=fun b o z nf=>⟨o.slots,k4 b o z nf⟩
    have z:=y.step W hn cov tab k1 k2 k3 sm
    as_aux_lemma=>
    obtain ⟨base2,a2a,kk,hn2a,fr2,tr2,cov2,tab2⟩:=z.fly
    exact q _ _ ⟨⟨⟨z.gens,z.os,z.drawn,fun b o hb e=>kk b o (cov2 b o e hb fun h=>hb (d8 b h))⟩,z.inv,z.d8⟩,.str _ _⟩
  obtain ⟨fl,hfl,y⟩:=r
  obtain ⟨base,a0,k,hn,fr,tr,cov,tab⟩:=y.fly
  have lands:∀s',N2 F.C R (F.env::fs) (rawInt F.env.locals) F.s₀ (m9 fs) e s'→wpAny (model F.C.prog F.C.w) F.A (setFlight (.ref e) none) (fun O s₃=>
      wpAny (model F.C.prog F.C.w) F.A (handleBy (.ref e) F.env [.ExceptHandler (some (.Name "PatternFault" np)) none [.Return (some (.Constant (.str msg) _ cp)) rp] hp]) Q E s₃) E s':=fun s' y=>by
    as_aux_lemma=>
    obtain ⟨base,a0,k,hn,fr,tr,cov,tab⟩:=y.fly
    exact wpAny_landsW ⟨k,hn,fr,tr⟩ fun h' z sm=>land _ (y.step W hn cov tab z.1 z.2.2.1 z.2.2.2 sm)
  rcases hfl with rfl|rfl
  · exact wpAny_looks_onW f.frames f.frame ⟨k,hn,fr,tr⟩ fun h' z sm=>lands _ (y.step W hn cov tab z.1 z.2.2.1 z.2.2.2 sm)
  · exact wpAny_noteFrame_againW f.frame tr (lands _ y)
end
end
section
variable [HH:u7]
open PySem.Calls
theorem b8h{C:Cx}{R:Rk}(W:I4 C R){k:Nat}{a f:Addr}{of:Obj}{ffd:FuncData}{d₀:PV}(fn:FnAt C "_law_heard" a (i9 62))(hG:¬C.G f)(hof:C.g.get? f=some of)(hfd:of.data= .func ffd)(hk2:2≤k)
    (c:Con C k f (fun ds Q=>ds=[]∧Q d₀)∨(c3f C R k f (fun ds=>ds=[])∧d₀= .str "fault"))
    {A:Around} {X:Addr→Prop} {s:Shared} {fs:List Env} (st:St C X s) (hh:A.handled=none) (hd:A.depth+(k+1)<recursionLimit) (hu:A.units+8*(k+1)+100<cLine) (hfr:A.frames=some fs) (hok:b9p C R X fs s.heap) (d8:∀L∈m9 fs,C.G L)
    {Q:Value→Shared→Prop} {E:Value→Shared→Prop} (q:∀v s',After C s s'→Rep X s'.heap v d₀→Q v s'):wpAny (model C.prog C.w) A (call (.ref a) [.ref f]) Q E s:=by
  obtain ⟨o,fd,h1,fi,fe,_⟩:=fn.in_ (.inl (plain1 rfl fun O O O O=>rfl)) (rfl:a5s (i9 62) ["call"]=true)
  refine wpAny_call (enter (k:=k) (ds:=[.z8 (.ref f)]) fi st hh hd hu (.cons (.z8 _ fun b e=> .inr ⟨of,by cases e;exact hof⟩) .nil) rfl fun F q1 q2 q3 q4 q5 q6 q7 q8 O s' j=>?_)
  clear fn st h1 fi;subst q1
  have hF:Rf F R fs:=⟨W,by refine b8 (q5 ..) ?_;exact Around.frames_deeper hfr,q8,by refine b8 (q6 ..) (b8 (q7 ..) ?_);exact hok,by have:=F.hd;lia⟩
  obtain ⟨ad,vo⟩:=j.1.vars
  obtain ⟨v,v1,v2⟩:=vo.val "call" (.z8 (.ref f)) rfl
  obtain rfl:=v2.a1j
  have hfs:=j.1.base f of hG hof
  have hdF:=F.hd
  have huF:=F.hu
  refine wpAny_execs_cons (wpAny_Try_except (wpAny_execs_cons (wpAny_Return_some (wpAny_Call_NameR (wpAny_Name (t8 F.hk v1 (c0d hfd hfs ?_)) (by decide))))))
  rcases c with c|⟨c,rfl⟩
  · refine c F.A X s' [] [] (fun d=>d=d₀) j.1.toSt F.hA (by lia) (by lia) .nil ⟨rfl,rfl⟩ _ _ fun v d s₂ e af r=>?_
    clear c;subst e
    exact q v s₂ ⟨by refine C5 (q6 ..) ?_;exact (j.4.trans af.ext),af.inv,af.d8⟩ r
  · refine c F.A X s' [] [] (F.env::fs) j.1.toSt F.hA (by lia) (by lia) hF.frames (b9p.under hF j) .nil rfl _ _ fun e s₂ y=>?_
    refine catch_ hF d8 (N2.up hF j y) ((fe▸q3:Of F (r7 (i9 62))).kind rfl) fun v s₃ dn=>?_
    obtain ⟨d1,d2⟩:=dn
    rw [q6] at d1;rw [q7] at d2
    exact q v s₃ d1 d2
end
section
open PySem.Calls
variable [HH:u7]
structure a9i(C:Cx)(f:Addr)(qual:Str)(body:Expr)(scope:Scope)(clos:List (Str×Addr))(ρ:b9):Prop where
  obj:∃name params pm c' ctv,C.g.get? f=some (kla_obj name qual params body scope clos pm c' ctv)∧¬C.G c'∧C.g.CodeRec (.ref c') qual∧bindArgs (kla_fn name qual params body scope clos pm (.ref c') ctv) ⟨[],[]⟩=pure []
  hG:¬C.G f
  kind:scope.kind= .function
  co:scope.isCoroutine=false
  gen:scope.isGenerator=false
  c4s:∀x∈scope.names,x.2≠ .cell
  cells:∀x c,clos.lookup x=some c→¬C.G c∧∃v,C.g.IsCell c v
  apart:clos.Pairwise fun x y=>x.2≠y.2
  vars:∀x n,ρ.lookup x=some n→∃d,n= .val d∧scope.names.lookup x=some .free∧(x==("__classdict__":Str))=false∧∃c v,clos.lookup x=some c∧C.g.IsCell c (some v)∧Rep C.G C.g v d
theorem c0k{C:Cx}{k:Nat}{f:Addr}{qual:Str}{body:Expr}{scope:Scope}{clos:List (Str×Addr)}{ρ:b9}{A:Around}{X:Addr→Prop}{s:Shared}{Rz:Result→Shared→Prop}(l:a9i C f qual body scope clos ρ)
    (st:St C X s) (hh:A.handled=none) (hd:A.depth+(k+1)<recursionLimit) (hu:A.units+8*(k+1)+100<cLine)
    (h:∀F:Fm,F.C=C→F.k=k→F.env.scope=scope→F.A=A.deeper F.env→F.s₀=s→F.X₀=X→F.env.frame=some F.env.locals→∀s',JX F X ρ s'→
      wpAny (model C.prog C.w) F.A (eval body F.env) (fun v s'=>Rz (.ok (.ret v)) s') (fun e s'=>wpAny (model C.prog C.w) F.A (leaving F.env e) (fun O s''=>Rz (.error e) s'') (fun e' s''=>Rz (.error e') s'') s') s'):
    codeAny (model C.prog C.w) A (.call (.ref f) ⟨[],[]⟩) Rz s:=by
  obtain ⟨name,params,pm,c',ctv,ho,hGc,⟨c₂,oc,vs,tq,e2,e3,e4,e5⟩,hb⟩:=l.obj
  cases e2
  refine kla_callFunE (by exact Nat.lt_of_le_of_lt (Nat.le_add_right _ _) (by assumption)) (st.base _ _ l.hG ho) rfl l.co l.gen rfl ⟨_,oc,vs,tq,rfl,st.base _ _ hGc e3,e4,e5⟩ ?_
  refine b8 (hb ..) ?_
  refine wpAny_pure (wpAny_newFunctionEnv l.c4s (fun x hx=>by cases hx) (fun h' hns hsb=>?_) l.kind)
  have hk:∀b o,s.heap.get? b=some o→h'.get? b=some o:=fun b o e=>hsb.extBut b o (Nat.ne_of_lt (Heap.lt_size e)) (Heap.get?_push_of_some _ e)
  refine ⟨?_,?_⟩
  · obtain ⟨mc,⟨oS,es,ep,h1,h2,h3⟩,h4⟩:=C.hlim
    exact ⟨mc,⟨oS,es,ep,hk _ _ (st.base _ _ C.J7.2.2 h1),h2,h3⟩,h4⟩
  let env:Env:=newEnv scope s.heap.objs.size mainGlobals clos (qual++".<locals>.") (some f) (.ref c') none builtinsNs
  have hL:s.heap.get? s.heap.objs.size=none:=v9 _
  let F:Fm:= {C,A:=A.deeper env,env,k,s₀:=s,X₀:=X,hA:=hh,hd:=(by show A.depth+1+k<_;lia),hu:=(by show A.units+3+_+_<_;lia),hk:=l.kind,K6:=rfl,M7:=rfl,hX:=st.d8,hL:=hL,h₀:=st.base}
  have gc:∀x c,clos.lookup x=some c→∀v,C.g.IsCell c v→s.heap.IsCell c v:=(fun x c hc v z1=>by obtain ⟨o,e,hd⟩:=z1;exact ⟨o,st.base _ _ (l.cells x c hc).1 e,hd⟩)
  have i:I F X ρ {s with heap:=h',toks:=s.toks+([]:List (Str×Value)).length} :=by
    refine ⟨⟨st.base.trans (Le.of hk),C.stable _ _ st.inv fun b o O e=>hk b o e,fun b hb=>(by obtain ⟨o,ho⟩:=st.d8 b hb;exact ⟨o,hk _ _ ho⟩),st.sub,st.new⟩,⟨_,hns⟩,fun x c hc=>?_,l.apart,fun q=>?_,fun x c hc q=>?_,fun O=>0,fun x d e=>?_,fun x n e=>?_,fun x n y n' e=>?_⟩
    · obtain ⟨g,v,hv⟩:=l.cells x c hc
      obtain ⟨o,e,hd⟩:=gc x c hc v hv
      exact ⟨v,o,hk _ _ e,hd⟩
    · obtain ⟨o,ho⟩:=st.d8 _ q
      exact g7 (show F.env.locals=s.heap.objs.size from rfl) hL ho
    · obtain ⟨g,v,o,ho,_⟩:=l.cells x c hc
      rcases st.new _ q with q|q
      · exact g q
      · rw [ho] at q;cases q
    · obtain ⟨d',hn,h1,h2,c,v,h3,h4,h5⟩:=l.vars x _ e
      cases hn
      obtain ⟨o,e',hd⟩:=gc x c h3 _ h4
      exact ⟨v,.I7 (.inr ⟨h1,h2⟩) c h3 ⟨o,hk _ _ e',hd⟩,h5.mono (st.base.trans (Le.of hk)) st.new⟩
    · obtain ⟨d',hn,_⟩:=l.vars x _ e;cases hn
    · obtain ⟨d',hn,_⟩:=l.vars x _ e;cases hn
  exact kla_codeExpr (h F rfl rfl rfl rfl rfl rfl rfl _ ⟨i,fun O=> .inl,fun O h=>h,Ext.tok s h' _ (Le.of hk)⟩)
theorem a9i.con{C:Cx}{k:Nat}{f:Addr}{qual:Str}{body:Expr}{scope:Scope}{clos:List (Str×Addr)}{ρ:b9}{d₀:PV}(l:a9i C f qual body scope clos ρ)
    (h:∀F:Fm,F.C=C→F.k=k→F.env.scope=scope→Ev F ρ body (fun d=>d=d₀)):Con C (k+1) f fun ds Q=>ds=[]∧Q d₀:=by
  intro A X s vs ds P st hh hd hu r ⟨e,t⟩ Q E q
  subst e
  obtain rfl:=r.nil_inv
  refine wpAny_call (c0k (k:=k) l st hh hd hu fun F q1 q2 q3 q5 q6 q7 q8 s' j=>?_)
  clear l st;subst q1
  refine h F rfl q2 q3 X s' j.1 _ _ fun v d s₂ e i x r=>?_
  clear h;subst e
  have j2a:=j.step i x
  exact q v _ s₂ t (by refine C5 (q6 ..) ?_;exact j2a.1.after j2a.4) r
end
section
variable [HH:u7]
open PySem.Calls
theorem a9i.d1k{C:Cx}{R:Rk}(W:I4 C R){k:Nat}{f:Addr}{qual:Str}{body:Expr}{scope:Scope}{clos:List (Str×Addr)}{ρ:b9}(l:a9i C f qual body scope clos ρ)(hk2:2≤k)
    (h:∀F:Fm,F.C=C→F.k=k→F.env.scope=scope→∀fs,Rf F R fs→M3 F R fs ρ body):c3f C R (k+1) f fun ds=>ds=[]:=by
  intro A X s vs ds fs st hh hd hu hfr hok r e Q E q
  subst e
  obtain rfl:=r.nil_inv
  refine wpAny_call (c0k (k:=k) l st hh hd hu fun F q1 q2 q3 q5 q6 q7 q8 s' j=>?_)
  clear l st;subst q1
  have f:Rf F R fs:=⟨W,by refine b8 (q5 ..) ?_;exact Around.frames_deeper hfr,q8,by refine b8 (q6 ..) (b8 (q7 ..) ?_);exact hok,by have:=F.hd;lia⟩
  refine h F rfl q2 q3 fs f X s' j _ _ fun e s₂ y=>a7p f y _ _ fun s₃ z=>?_
  rw [q6] at z
  exact q e s₃ z
inductive B0(h:Heap)(qual:Str):List Value→Prop
  |nil:B0 h qual []
  |cons (a:Int) (t:Tok) (b:Int) (u:Tok) (c:Value) (l:List Value):h.CodeRec c qual→B0 h qual l→B0 h qual (.int a t:: .int b u::c::l)
omit [u7] in
theorem B0.ok{h:Heap}{qual:Str} :∀ {l:List Value},B0 h qual l→TriplesOk l:=by
  intro l x
  induction x with
  |nil=>trivial
  |cons a t b u c l hc O ih=>exact ih
omit [u7] in
theorem B0.among{h:Heap}{qual:Str}{pos:Pos}{cv:Value} :∀ {l:List Value},B0 h qual l→codeAmong pos l=some cv→h.CodeRec cv qual:=by
  intro l x
  induction x with
  |nil=>exact fun e=>l8 e
  | cons a t b u c l hc O ih=>
    intro e
    have e:(if (a==(pos.line:Int)&&b==pos.col)=true then some c else codeAmong pos l)=some cv:=e
    by_cases q:(a==(pos.line:Int)&&b==pos.col)=true
    · rw [if_pos q] at e;exact Option.some.inj e▸hc
    · rw [if_neg q] at e;exact ih e
omit [u7] in
theorem B0.snoc{h:Heap}{qual:Str}{a b:Int}{c:Value}(hc:h.CodeRec c qual):∀ {l:List Value},B0 h qual l→B0 h qual (l++[rawInt a,rawInt b,c]):=by
  intro l x
  induction x with
  |nil=>exact .cons _ _ _ _ _ _ hc .nil
  |cons a t b u c l hc O ih=>exact .cons _ _ _ _ _ _ hc ih
omit [u7] in
theorem B0.mono{h h':Heap}{qual:Str}(k:∀c,h.CodeRec c qual→h'.CodeRec c qual):∀ {l:List Value},B0 h qual l→B0 h' qual l:=by
  intro l x
  induction x with
  |nil=>exact .nil
  |cons a t b u c l hc O ih=>exact .cons _ _ _ _ _ _ (k _ hc) ih
omit [u7] in
theorem B0.one{h:Heap}{qual q:Str}{t:Tok} :∀ {l:List Value},B0 h qual l→l[1]?≠some (.str q t):=by
  intro l x
  cases x with
  |nil=>exact fun e=>l8 e
  |cons a t b u c l hc O=>exact fun e=>by cases e
omit [u7] in
theorem b8s{M:Model}{A:Around}{E:Value→Shared→Prop}{s:Shared}{env:Env}{params:Arguments}{body:Expr}{scope:Scope}{pos:Pos}{c P:Addr}{ps:Array Value}{mg:Str→Option Value}{clos:List (Str×Addr)}{qual:Str}{Q:Value→Shared→Prop}
    (hdef:defaultsOf params env=([],[])) (hcl:closureFor scope env=pure clos) (hge:env.globals=mainGlobals) (hg:s.heap.Ns mainGlobals mg) (hcode:env.code= .ref c) (hc:CodeHd s.heap c P) (hP:s.heap.get? P=some (tabObj ps)) (ht:B0 s.heap qual ps.toList) (hgP:mainGlobals≠P) (hb:s.heap.BuiltinsAt mg P) (hq:env.qual++"<lambda>"=qual)
    (h:∀f h' tk c' ctv ps',(∀b o,b≠P→s.heap.get? b=some o→h'.get? b=some o)→s.heap.get? f=none→s.heap.get? P≠none→h'.get? f=some (kla_obj "<lambda>" qual params body scope clos ((mg "__name__").getD .none) c' ctv)→h'.CodeRec (.ref c') qual→h'.get? P=some (tabObj ps')→B0 h' qual ps'.toList→Q (.ref f) {s with heap:=h',toks:=tk}):
    wpAny M A (eval (.Lambda params body scope pos) env) Q E s:=by
  refine kla_eval hdef ?_
  rw [hq]
  have recP:∀c,s.heap.CodeRec c qual→∀h':Heap,(∀b o,b≠P→s.heap.get? b=some o→h'.get? b=some o)→h'.CodeRec c qual:=fun c x h' k=>by
    obtain ⟨c₂,oc,vs,t,e1,e2,e3,e4⟩:=x
    refine ⟨c₂,oc,vs,t,e1,k _ _ (fun q=>?_) e2,e3,e4⟩
    rw [q,hP] at e2;cases e2;cases e3
    exact ht.one (by rw [Array.getElem?_toList];exact e4)
  cases hf:codeAmong pos ps.toList with
  | none=>
    refine kla_makeFunction hcl hge hg hcode hc hP ht.ok hf hgP hb fun c' ctv h' tk hx hge' hlt hrec hP'=>?_
    have kk:∀b o,b≠P→s.heap.get? b=some o→(h'.push (kla_obj "<lambda>" qual params body scope clos ((mg "__name__").getD .none) c' ctv)).get? b=some o:=fun b o hb e=>Heap.get?_push_of_some _ (hx b o hb e)
    have hr:(h'.push (kla_obj "<lambda>" qual params body scope clos ((mg "__name__").getD .none) c' ctv)).CodeRec (.ref c') qual:=let ⟨c₂,oc,vs,t,e1,e2,e3⟩:=hrec;⟨c₂,oc,vs,t,e1,Heap.get?_push_of_some _ e2,e3⟩
    refine h _ _ tk c' ctv _ kk (Heap.get?_none_of_le (Nat.le_trans hge' (Nat.le_of_lt hlt))) (by rw [hP];simp) (Heap.get?_push_size _ rfl) hr (Heap.get?_push_of_some _ hP') ?_
    rw [show (ps++ #[rawInt pos.line,rawInt pos.col,.ref c']).toList=ps.toList++[rawInt pos.line,rawInt pos.col,.ref c'] by simp]
    exact B0.snoc hr (ht.mono fun c x=>recP c x _ kk)
  | some cv=>
    have hrec:=ht.among hf
    obtain ⟨c',oc,vs,t,rfl,e2,e3⟩:=hrec
    refine kla_makeFunctionHit hcl hge hg hcode hc hP ht.ok hf hb fun ctv h' tk hk hsz=>?_
    have kk:∀b o,s.heap.get? b=some o→(h'.push (kla_obj "<lambda>" qual params body scope clos ((mg "__name__").getD .none) c' ctv)).get? b=some o:=fun b o e=>Heap.get?_push_of_some _ (hk b o e)
    exact h _ _ tk c' ctv ps (fun b o O e=>kk b o e) (Heap.get?_none_of_le hsz) (by rw [hP];simp) (Heap.get?_push_size _ rfl) ⟨c',oc,vs,t,rfl,kk _ _ e2,e3⟩ (kk _ _ hP) (ht.mono (fun c z1=>by obtain ⟨c₂,oc,vs,t,e1,e2,e3⟩:=z1;exact ⟨c₂,oc,vs,t,e1,kk _ _ e2,e3⟩))
end
section
open PySem.Calls
noncomputable def B5(o:Obj):Prop:=∃vs q t,o.data= .fields vs∧vs[1]?=some (.str q t)
theorem x9.a3x{I ax:Addr}{vs:List Value}{i:Nat}{h:Heap}(x:x9 I ax vs i h):∀o,h.get? I=some o→¬B5 o:=fun o e ⟨us,q,t,e1,e2⟩=>by
  rcases x.it with ⟨⟨o',h1,_,h2⟩,_⟩|⟨⟨o',h1,_,h2⟩,_⟩ <;> (rw [e] at h1;cases h1;rw [e1] at h2;cases h2;cases e2)
theorem a7q{l:List PV}{i:Nat}{d:PV}(h:E3 l=true)(e:l[i]?=some d):clean d=true:=by
  induction l generalizing i with
  |nil=>cases e
  | cons a l ih=>
    rw [E3,Bool.and_eq_true] at h
    cases i with
    |zero=>cases e;exact h.1
    |succ i=>exact ih h.2 e
theorem Rep.inst{H1a H2a:u7}{X:Addr→Prop}{h:Heap}{v:Value}{d:PV}(r: @Rep H1a X h v d):clean d=true→ @Rep H2a X h v d:=by
  induction r with
  |none=>exact fun O=> @Rep.none H2a _ _
  |bool b=>exact fun O=> @Rep.bool H2a _ _ b
  |int i t=>exact fun O=> @Rep.int H2a _ _ i t
  |str s t=>exact fun O=> @Rep.str H2a _ _ s t
  |z8 v k=>exact fun c=>by cases c
  |any v=>exact fun c=>by cases c
  |tup a b c d ih=>exact fun z=> @Rep.tup H2a _ _ _ _ _ a b c fun i v d e f=>ih i v d e f (a7q z f)
  |lst a b c d ih=>exact fun z=> @Rep.lst H2a _ _ _ _ _ a b c fun i v d e f=>ih i v d e f (a7q z f)
theorem c1r{M:Model}{A:Around}{E:Value→Shared→Prop}{s:Shared}{sc:Scope}{x:Str}{globals:Addr}{cl:List (Str×Addr)}{qual:Str}{env:Env}{Q:Env→Shared→Prop}
    (h1:∀n acc,cellsFrom n sc.names acc=(x,n)::acc) (h2:∀h,pushCells h sc.names=h.push {cls:= .type "cell",data:= .cell none})
    (hQ:Q (newEnv sc s.heap.objs.size globals ((x,s.heap.objs.size+1)::cl) qual none .none (some env) builtinsNs) {s with heap:=(s.heap.push {cls:= .type "dict",data:= .dict #[]}).push {cls:= .type "cell",data:= .cell none}}):
    wpAny M A (newFunctionEnv sc globals cl [] qual none .none (some env)) Q E s:=by
  rw [newFunctionEnv,if_pos (Option.isSome_some)]
  refine wpAny_bind (wpAny_alloc ?_)
  refine wpAny_bind (wpAny_layCells _ (fun name kind cells=>by cases hkc:kind==NameKind.cell <;> simp [hkc]) _ _ _ _ ?_)
  refine b8 (h1 ..) (b8 (h2 ..) ?_)
  rw [show ({s with heap:=s.heap.push {cls:= .type "dict",data:= .dict #[]}} :Shared).heap.objs.size=s.heap.objs.size+1 from Heap.size_push ..]
  refine wpAny_bind ?_
  refine b8 (List.forIn_nil ..) ?_
  exact wpAny_pure (wpAny_pure hQ)
variable [HH:u7]
inductive c9v(s₁:Shared)(Hs:Addr→Prop)(I0 ax:Addr)(vals:List Value)(outs:List PV)(L K D:Addr)(Ξ:Shared→Prop)(n:Nat)(s':Shared):Prop
  |mk (k:Nat) (m:Str→Option Value) (vs:List Value) (e:n=vals.length - k) (hk:k≤vals.length) (st:x9 I0 ax vals k s'.heap) (pl:s'.heap.PlainList D vs.toArray) (rl:i0 (fun b=>Hs b∨b=D) s'.heap vs (outs.take k)) (ns:s'.heap.Ns L m) (c:∃u,s'.heap.IsCell K u) (x:Ξ s')
section
variable{prog:Program}{w:World}{A:Around}{env:Env}{sc:Scope}{x:Str}
theorem b7s{elt iter:Expr}{pos xp:Pos}{s₁:Shared}{h₁:Heap}{I0 ax:Addr}{vals:List Value}{outs:List PV}{Ξ:Shared→Prop}{RR:Value→Addr→Result→Shared→Prop}{E:Value→Shared→Prop}{G Hs:Addr→Prop}(GH:∀a,G a→Hs a)
    (hx:sc.names.lookup x=some .cell) (hc1:∀n acc,cellsFrom n sc.names acc=(x,n)::acc) (hc2:∀h,pushCells h sc.names=h.push {cls:= .type "cell",data:= .cell none}) (hkind:sc.kind= .function)
    (hk1a:∀b o,s₁.heap.get? b=some o→h₁.get? b=some o) (hne:ax≠I0) (hI:s₁.heap.get? I0=none) (hax:∃o,s₁.heap.get? ax=some o) (haG:¬G ax) (st:x9 I0 ax vals 0 h₁) (hz:vals.length≤sizeLine) (hlen:outs.length=vals.length) (hh:A.handled=none)
    (hΞ:∀s' h' tk,Ξ s'→(∀b o,((∃o',s₁.heap.get? b=some o')∨B5 o)→s'.heap.get? b=some o→h'.get? b=some o)→Ξ {s' with heap:=h',toks:=tk})
    (h0:Ξ s₁) (hG:∀a,G a→∃o,s₁.heap.get? a=some o)
    (turn:∀(k:Nat) (v:Value) (d:PV) (s':Shared) (L K D:Addr),vals[k]?=some v→outs[k]?=some d→Ξ s'→s₁.heap.get? K=none→s₁.heap.get? D=none→K≠D→(∃us,s'.heap.PlainList D us)→s'.heap.IsCell K (some v)→∀(Q E:Value→Shared→Prop),
      (∀r s'',Ξ s''→(∀b o,¬G b→s'.heap.get? b=some o→s''.heap.get? b=some o)→Rep (fun b=>Hs b∨b=D) s''.heap r d→Q r s'')→wpAny (model prog w) A (eval elt (compEnvC sc ((x,K)::C4 env sc.names []) L env)) Q E s')
    (hRR:∀D C s' vs m,Ξ s'→s₁.heap.get? D= .none→s₁.heap.get? C= .none→D≠C→s'.heap.Ns C m→s'.heap.PlainList D vs.toArray→i0 (fun b=>Hs b∨b=D) s'.heap vs outs→RR (.ref D) C (.ok .next) s'):
    wpAny (model prog w) A (newList []) (fun acc s₃=>wpAny (model prog w) A (newFunctionEnv sc env.globals (C4 env sc.names []) [] env.qual none .none (some env)) (fun cenv s₄=>
      codeAny (model prog w) A (.compStart (.ListComp elt [⟨.Name x xp,iter,[],0⟩] sc pos) 0 (.ref I0) acc {cenv with scope:=relabel sc env}) (RR acc cenv.locals) s₄) E s₃) E {s₁ with heap:=h₁} :=by
  refine wpAny_newObj_type (c1r hc1 hc2 ?_)
  dsimp only
  generalize hD0:h₁.objs.size=D at *
  have hD1:h₁.get? D= .none:=hD0▸v9 _
  have hpD:(h₁.push {cls:= .type "list",dict:=none,data:= .seq ([]:List Value).toArray}).get? D=some {cls:= .type "list",dict:=none,data:= .seq ([]:List Value).toArray} :=hD0▸Heap.get?_push_size _ rfl
  generalize hH:h₁.push {cls:= .type "list",dict:=none,data:= .seq ([]:List Value).toArray} =H at *
  have hkH:∀b o,h₁.get? b=some o→H.get? b=some o:=fun b o e=>hH▸Heap.get?_push_of_some _ e
  generalize hL0:H.objs.size=L at *
  have hL1a:H.get? L= .none:=hL0▸v9 _
  have hLs0:H.objs.size+1=(H.push {cls:= .type "dict",data:= .dict #[]}).objs.size:=(Heap.size_push ..).symm
  generalize hHL:H.push {cls:= .type "dict",data:= .dict #[]} =HL at *
  generalize hK0:L+1=K at *
  have hKs0:HL.objs.size=K:=by rw [← hK0,← hL0];exact hLs0.symm
  have hK1:HL.get? K= .none:=hKs0▸v9 _
  have hkHL:∀b o,H.get? b=some o→HL.get? b=some o:=fun b o e=>hHL▸Heap.get?_push_of_some _ e
  generalize hh2:HL.push {cls:= .type "cell",data:= .cell none} =h₂ at *
  have hkh2:∀b o,HL.get? b=some o→h₂.get? b=some o:=fun b o e=>hh2▸Heap.get?_push_of_some _ e
  have hpL:HL.Ns L (fun O=>none):=hHL▸hL0▸Heap.Ns.new H (.type "dict")
  have hns2:h₂.Ns L (fun O=>none):=hpL.at' fun o e=>hkh2 L o e
  have hcK2:h₂.IsCell K none:=⟨_,by rw [← hh2,← hKs0];exact Heap.get?_push_size _ rfl,rfl⟩
  have hk12:∀b o,h₁.get? b=some o→h₂.get? b=some o:=fun b o e=>hkh2 b o (hkHL b o (hkH b o e))
  have off:∀ {ha hb:Heap} {a:Addr},(∀b o,ha.get? b=some o→hb.get? b=some o)→hb.get? a=none→ha.get? a=none:=fun {ha hb a} k e=>by
    exact isNone fun o q=>by rw [k a o q] at e;cases e
  have hL2a:=off hkH hL1a
  have hK2:h₁.get? K=none:=off hkH (off hkHL hK1)
  have hLD:L≠D:=fun q=>by rw [q,hpD] at hL1a;cases hL1a
  have hKL:K≠L:=fun q=>by rw [← hK0] at q;exact absurd q (Nat.succ_ne_self L)
  have hKD:K≠D:=fun q=>by rw [q,hkHL D _ hpD] at hK1;cases hK1
  have hDs:=off hk1a hD1
  have hKs:=off hk1a hK2
  have hLs:=off hk1a hL2a
  obtain ⟨oI,usI,hIo,_⟩:=st.self
  have hID:I0≠D:=fun q=>g7 q hD1 hIo
  have hIL:I0≠L:=fun q=>g7 q hL2a hIo
  have hIK:I0≠K:=fun q=>g7 q hK2 hIo
  have old:∀ {a b:Addr},s₁.heap.get? a=none→(∃o,s₁.heap.get? b=some o)→b≠a:=(fun {a b} e z1 q=>by obtain ⟨o,ho⟩:=z1;exact g7 q e ho)
  have nG:∀ {a},s₁.heap.get? a= .none→¬G a:=fun {a} ha g=>old ha (hG a g) rfl
  have start:∀s₃:Shared,s₃= {s₁ with heap:=h₂,toks:=s₁.toks} →
      codeAny (model prog w) A (.compLoop (.ListComp elt [⟨.Name x xp,iter,[],0⟩] sc pos) 0 (.ref I0) (.ref D) (compEnvC sc ((x,K)::C4 env sc.names []) L env)) (RR (.ref D) L) s₃:=by
    rintro s₃ rfl
    refine codeAny_compLoop_tests (c9v s₁ Hs I0 ax vals outs L K D Ξ) (fun n s' h'=>?_) (vals.length - 0)
      ⟨0,_,[],rfl,Nat.zero_le _,st.at (fun o e=>hk12 _ o e) (fun o e=>hk12 _ o e),⟨0,hkh2 D _ (hkHL D _ hpD)⟩,(by rw [List.take_zero];exact .nil),hns2,⟨_,hcK2⟩,hΞ s₁ h₂ _ h0 fun b o O e=>hk12 b o (hk1a b o e)⟩ (by intro _;rfl)
    obtain ⟨k,m,vs,rfl,hk,st',pl,rl,hns,⟨u,hcK⟩,ξ⟩:=h'
    have stepI:∀(h₃:Heap) tk,(∀b o,b≠I0→s'.heap.get? b=some o→h₃.get? b=some o)→Ξ {s' with heap:=h₃,toks:=tk} :=fun h₃ tk kp=>hΞ s' h₃ tk ξ fun b o c e=>kp b o (fun q=>by
      rcases c with c|c
      · exact old hI c q
      · exact st'.a3x o (q▸e) c) e
    by_cases hlt:k<vals.length
    · refine st'.step hne (List.getElem?_eq_getElem hlt) fun h₃ st3a kp3=>?_
      have ξ3:=stepI h₃ s'.toks kp3
      have pl3:h₃.PlainList D vs.toArray:=pl.at fun o e=>kp3 D o hID.symm e
      have hcK3:h₃.IsCell K u:=(by obtain ⟨o,e,hd⟩:=hcK;exact ⟨o,kp3 K o hIK.symm e,hd⟩)
      have hns3:h₃.Ns L m:=hns.at' fun o e=>kp3 L o hIL.symm e
      refine wpAny_assign_Name (wpAny_storeName_cell (c:=K) (show (compEnvC sc ((x,K)::C4 env sc.names []) L env).scope.kind= .function from hkind) (a0p (by decide) hx) (lookup_cons_self _ _ _) hcK3 (fun h4a hn4 hs4=>?_))
      have k4a:∀b o,b≠K→h₃.get? b=some o→h4a.get? b=some o:=fun b o hb e=>(hs4.2 b hb).trans e
      have ξ4:Ξ {s' with heap:=h4a,toks:=s'.toks} :=hΞ {s' with heap:=h₃,toks:=s'.toks} h4a _ ξ3 fun b o c e=>k4a b o (fun q=>by
        rcases c with c|⟨_,_,_,c,_⟩
        · exact old hKs c q
        · obtain ⟨o',e',hd⟩:=hcK3;rw [← q] at e';have:=(show h₃.get? b=some o from e).symm.trans e';clear e';cases this;rw [c] at hd;cases hd) e
      have rl4:i0 (fun b=>Hs b∨b=D) h4a vs (outs.take k):=⟨rl.1,fun a u e h1 h2=>((rl.2 a u e h1 h2).step (L:=I0) (h':=h₃) (fun b o hb hbL z=>kp3 b o hbL z) (fun o us n ho hd=>by obtain ⟨o',us',e',hd'⟩:=st'.self;rw [ho] at e';cases e';rw [hd] at hd';cases hd')).step (L:=K) (fun b o hb hbL z=>k4a b o hbL z) (fun o us n ho hd=>a1p hcK3 ho hd rfl)⟩
      refine wpAny_pure ?_
      rw [if_pos rfl]
      have hv:vals[k]?=some vals[k]:=List.getElem?_eq_getElem hlt
      have hlt':k<outs.length:=by lia
      refine turn k vals[k] outs[k] _ L K D hv (List.getElem?_eq_getElem hlt') ξ4 hKs hDs hKD ⟨_,pl3.at fun o e=>k4a D o hKD.symm e⟩ hn4 _ _ fun r s6 ξ6 g6a r6=>?_
      have pl6:s6.heap.PlainList D vs.toArray:=(pl3.at fun o e=>k4a D o hKD.symm e).at fun o e=>g6a D o (nG hDs) e
      have st6:x9 I0 ax vals (k+1) s6.heap:=(st3a.at (fun o e=>k4a I0 o hIK e) fun o e=>k4a ax o (old hKs hax) e).at (fun o e=>g6a I0 o (nG hI) e) fun o e=>g6a ax o haG e
      have rl6:i0 (fun b=>Hs b∨b=D) s6.heap vs (outs.take k):=rl4.le fun b o hb e=>g6a b o (fun q=>hb (.inl (GH _ q))) e
      have hvs:vs.toArray.size≤sizeLine:=by rw [List.size_toArray,rl.1,List.length_take];lia
      refine wpAny_list_append_plain (hsz:=hvs) pl6 fun h7a pl7 hs7=>?_
      have k7a:∀b o,b≠D→s6.heap.get? b=some o→h7a.get? b=some o:=fun b o hb e=>(hs7.2 b hb).trans e
      refine ⟨vals.length - (k+1),by lia,k+1,m,vs++[r],rfl,hlt,st6.at (fun o e=>k7a _ o hID e) (fun o e=>k7a _ o (old hDs hax) e),?_,?_,((hns3.at' fun o e=>k4a L o hKL.symm e).at' fun o e=>g6a L o (nG hLs) e).at' fun o e=>k7a L o hLD e,⟨_,(by obtain ⟨o,e,hd⟩:=hn4;exact ⟨o,k7a K o hKD (g6a K o (nG hKs) e),hd⟩)⟩,
        hΞ s6 h7a _ ξ6 fun b o c e=>k7a b o (fun q=>by
          rcases c with c|⟨_,_,_,c,_⟩
          · exact old hDs c q
          · obtain ⟨n,e'⟩:=pl6;rw [← q,e] at e';clear e;cases e';cases c) e⟩
      · rw [show (vs++[r]).toArray=vs.toArray.push r by simp];exact pl7
      · rw [List.take_succ_eq_append_getElem hlt']
        exact (rl6.append (.cons r6 .nil)).le fun b o hb e=>k7a b o (fun q=>hb (.inr q)) e
    · have hin:k=vals.length:=by lia
      clear hk hlt;subst hin
      refine st'.last hh (List.getElem?_eq_none (Nat.le_refl _)) fun h₃ kp3=>?_
      rw [List.take_of_length_le (by exact Nat.le_of_eq (by assumption))] at rl
      exact hRR D L {s' with heap:=h₃} vs m (stepI h₃ s'.toks kp3) hDs hLs hLD.symm (hns.at' fun o e=>kp3 L o hIL.symm e) (pl.at fun o e=>kp3 D o hID.symm e) ⟨rl.1,fun a u e h1 h2=>(rl.2 a u e h1 h2).step (L:=I0) (fun b o hb hbL z=>kp3 b o hbL z) (fun o us n ho hd=>by obtain ⟨o',us',e',hd'⟩:=st'.self;rw [ho] at e';cases e';rw [hd] at hd';cases hd')⟩
  exact codeAny_compStart_list (start _ rfl) (by
    rcases (st.at (fun o e=>hk12 _ o e) (fun o e=>hk12 _ o e):x9 I0 ax vals 0 h₂).it with ⟨a,_⟩|⟨a,_⟩
    · exact wpAny_pyIter_listiter a (start _ rfl)
    · exact wpAny_pyIter_tupleiter a (start _ rfl))
end
end
section
open PySem.Calls
theorem Rep.hop{H:u7}{X X':Addr→Prop}{h h':Heap}{L:Addr}{v:Value}{d:PV}(hk:∀b o,¬X b→b≠L→h.get? b=some o→h'.get? b=some o)(hL:∀o vs n,h.get? L=some o→o.data≠ .seq vs n)(hX:∀b,X' b→X b∨b=L∨h.get? b=Option.none)(r: @Rep H X h v d): @Rep H X' h' v d:=by
  induction r with
  |none=>exact .none
  |bool b=>exact .bool b
  |int i t=>exact .int i t
  |str s t=>exact .str s t
  |z8 v k=>exact .z8 v k
  |any v=>exact .any v
  | @tup a0a _ _ a b c e ih=>
    obtain ⟨n,ho⟩:=a
    have ne:=fun (q:a0a=L)=>(by rw [q] at ho;exact hL _ _ n ho rfl:False)
    exact .tup ⟨n,hk _ _ b ne ho⟩ (fun q=>(hX _ q).elim b fun z=>z.elim ne fun z=>by rw [ho] at z;cases z) c ih
  | @lst a0a _ _ a b c e ih=>
    obtain ⟨n,ho⟩:=a
    have ne:=fun (q:a0a=L)=>(by rw [q] at ho;exact hL _ _ n ho rfl:False)
    exact .lst ⟨n,hk _ _ b ne ho⟩ (fun q=>(hX _ q).elim b fun z=>z.elim ne fun z=>by rw [ho] at z;cases z) c ih
structure Xi(t:i8)(qual:Str)(s s':Shared):Prop where
  gens:s'.gens=s.gens
  os:s'.os=s.os
  drawn:s'.drawn=s.drawn
  keep:∀b o,b∉t.G→s.heap.get? b=some o→s'.heap.get? b=some o
  inv:t.inv s'.heap
  codes:∃ps,s'.heap.get? 376=some (tabObj ps)∧B0 s'.heap qual ps.toList
theorem B0.step{h h':Heap}{qual:Str}{l:List Value}(k:∀b o,B5 o→h.get? b=some o→h'.get? b=some o)(x:B0 h qual l):B0 h' qual l:=
  x.mono (fun c z1=>by obtain ⟨c₂,oc,vs,t,e1,e2,e3,e4⟩:=z1;exact ⟨c₂,oc,vs,t,e1,k _ _ ⟨vs,_,t,e3,e4⟩ e2,e3,e4⟩)
theorem Xi.step{t:i8}{qual:Str}{s:Shared}(hp:∀p∈t.pin,p.1∈t.G)(d8:∀a∈t.G,∃o,s.heap.get? a=some o)(s':Shared)(h':Heap)(tk:Nat)(x:Xi t qual s s')
    (k:∀b o,((∃o',s.heap.get? b=some o')∨B5 o)→s'.heap.get? b=some o→h'.get? b=some o):Xi t qual s {s' with heap:=h',toks:=tk} :=by
  obtain ⟨a,b,c,d,e,ps,f1,f2⟩:=x
  exact ⟨a,b,c,fun b o n z=>k b o (.inl ⟨o,z⟩) (d b o n z),t.stable hp e fun b o q z=>k b o (.inl (d8 b q)) z,ps,k _ _ (.inl (d8 _ (.head _))) f1,f2.step fun b o q z=>k b o (.inr q) z⟩
noncomputable def i8.add(t:i8)(L:Addr)(m:Str→Option Value):i8:= {t with frs:=(L,m)::t.frs}
theorem i8.b5e{t:i8}{L:Addr}{m:Str→Option Value}{a:Addr} :a∈(t.add L m).G↔a=L∨a∈t.G:=by
  show a∈376::116::L::(t.frs.map (·.1)++t.src)↔a=L∨a∈376::116::(t.frs.map (·.1)++t.src)
  constructor
  · intro h
    rcases List.mem_cons.mp h with e|h
    · exact .inr (List.mem_cons.mpr (.inl e))
    rcases List.mem_cons.mp h with e|h
    · exact .inr (.tail _ (List.mem_cons.mpr (.inl e)))
    exact (List.mem_cons.mp h).imp id fun h=> .tail _ (.tail _ h)
  · rintro (e|h)
    · exact .tail _ (.tail _ (List.mem_cons.mpr (.inl e)))
    rcases List.mem_cons.mp h with e|h
    · exact List.mem_cons.mpr (.inl e)
    rcases List.mem_cons.mp h with e|h
    · exact .tail _ (List.mem_cons.mpr (.inl e))
    · exact .tail _ (.tail _ (.tail _ h))
theorem i8.c6e{t:i8}{h:Heap}(iv:t.inv h){a:Addr}(ha:a∈t.G):∃o,h.get? a=some o:=by
  obtain ⟨⟨p1,a1,_⟩,⟨p2,b1,_⟩,_,d,e⟩:=iv
  rcases List.mem_cons.mp ha with rfl|ha
  · exact ⟨_,a1⟩
  rcases List.mem_cons.mp ha with rfl|ha
  · exact ⟨_,b1⟩
  rcases List.mem_append.mp ha with ha|ha
  · obtain ⟨p,hp,rfl⟩:=List.mem_map.mp ha
    exact (by obtain ⟨o,_,_,e,_⟩:=d p hp;exact ⟨o,e⟩)
  · obtain ⟨_,_,_,_,⟨o,ho,_⟩,_⟩:=e a ha;exact ⟨o,ho⟩
section
variable{H:u7}{F: @Fm H}{ρ:b9}
theorem JX.back{t:i8}{qual:Str}{s s':Shared}{m:Str→Option Value}(no:∀y xs,ρ.lookup y≠some (.own xs))(hG:∀a,a∈t.G↔a=F.env.locals∨F.C.G a)(hm:s.heap.Ns F.env.locals m)(hm':s'.heap.Ns F.env.locals m)
    (hi:t.inv s'.heap→F.C.inv s'.heap) (d8:∀a∈t.G,∃o,s'.heap.get? a=some o) (j:JX F F.C.G ρ s) (x:Xi t qual s s'):JX F F.C.G ρ s':=by
  have off:∀b,¬F.C.G b→b≠F.env.locals→b∉t.G:=fun b g n q=>((hG b).mp q).elim n g
  have nG:=j.1.u9
  have gl:F.C.g.get? F.env.locals=none:=by
    exact isNone fun o e=>by have:=F.h₀ _ o nG e;exact n9 F.hL this
  have cellne:∀y c,F.env.cells.lookup y=some c→c≠F.env.locals:=fun y c hc q=>by
    obtain ⟨v,h⟩:=j.1.cell y c hc;exact a3f hm h q
  have kc:∀y c v,F.env.cells.lookup y=some c→s.heap.IsCell c v→s'.heap.IsCell c v:=(fun y c v hc z1=>by obtain ⟨o,ho,hd⟩:=z1;exact ⟨o,x.keep _ _ (off _ (j.1.s8 y c hc) (cellne y c hc)) ho,hd⟩)
  have hLs:∀o vs n,s.heap.get? F.env.locals=some o→o.data≠ .seq vs n:=fun o vs n ho hd=>a0b hm ho hd rfl
  obtain ⟨ad,vo⟩:=j.1.vars
  refine ⟨⟨⟨fun b o g e=>?_,hi x.inv,fun a g=>d8 a ((hG a).mpr (.inr g)),fun O g=>g,j.1.new⟩,⟨m,hm'⟩,fun y c hc=>(by obtain ⟨v,hv⟩:=j.1.cell y c hc;exact ⟨v,kc y c v hc hv⟩),j.1.apart,j.1.u9,j.1.s8,ad,fun y d e=>?_,fun y n e=>absurd e (no y n),fun y n y' n' e=>absurd e (no y n)⟩,j.2,j.3,x.gens.trans j.4.gens,x.os.trans j.4.os,x.drawn.trans j.4.drawn,fun b o g e=>?_⟩
  · refine x.keep _ _ (off b g fun q=>?_) (j.1.base b o g e)
    exact g7 q gl e
  · obtain ⟨v,h1,h2⟩:=vo.val y d e
    refine ⟨v,?_,h2.hop (fun b o g n e=>x.keep b o (off b g n) e) hLs fun b g=> .inl g⟩
    rcases h1 with ⟨k,m',hn,e'⟩|⟨k,c,hc,hv⟩
    · exact .loc k m hm' (by refine C5 (Ns.same hn hm ..) ?_;exact e')
    · exact .I7 k c hc (kc y c _ hc hv)
  · refine x.keep _ _ (off b g fun q=>?_) (j.4.le b o g e)
    exact g7 q F.hL e
theorem I.c9x{X:Addr→Prop}{s:Shared}{y:Str}{d:PV}(i:I F X ρ s)(e:ρ.lookup y=some (.val d))(hk:F.env.kindOf y=some .cell):∃c v,F.env.cells.lookup y=some c∧s.heap.IsCell c (some v)∧Rep X s.heap v d∧¬X c:=by
  obtain ⟨ad,vo⟩:=i.vars
  obtain ⟨v,h1,h2⟩:=vo.val y d e
  rcases h1 with ⟨k,_⟩|⟨k,c,hc,hv⟩
  · rw [hk] at k;cases k
  · exact ⟨c,v,hc,hv,h2,i.s8 y c hc⟩
theorem a8y(H:u7){env:Env}{y:Str}{c:Addr}{names:List (Str×NameKind)}(hf:(y,NameKind.free)∈names)(hc:env.cells.lookup y=some c):(C4 env names []).lookup y=some c:=by
  letI:=H
  obtain ⟨c',h'⟩:=Option.isSome_iff_exists.mp (b0x (env:=env) names [] hf)
  rcases a3c _ _ (mem_of_lookup h') with h1|⟨_,h2⟩
  · cases h1
  · refine b8 (h' ..) (b8 (h2 ..) (b8 (hc ..) ?_));rfl
end
end
section
set_option backward.match.sparseCases true
open PySem.Calls
variable [HH:u7]
theorem a6u{C:Cx}{k:Nat}{g:Str}{a:Addr}{st:Stmt}{names:List Str}{A:Around}{X:Addr→Prop}{s:Shared}{vs:List Value}{ds:List PV}{Rz:Result→Shared→Prop}(fn:FnAt C g a st)(hp:Plain st names)(hb:a5s st names=true)
    (i:St C X s) (hh:A.handled=none) (hd:A.depth+(k+1)<recursionLimit) (hu:A.units+8*(k+1)+100<cLine) (r:i0 X s.heap vs ds) (hl:ds.length=names.length)
    (h:∀F:Fm,F.C=C→F.k=k→Of F (r7 st)→(∃o fd,C.g.get? a=some o∧o.data= .func fd∧F.env.code=fd.code)→F.A=A.deeper F.env→F.s₀=s→F.X₀=X→F.env.frame=some F.env.locals→F.env.qual=a6c st++".<locals>."→∀s',JX F X (binds names ds) s'→
      wpAny (model C.prog C.w) F.A (execs (B4 st) F.env) (fun f s'=>Rz (.ok (.ret (match f with| .ret v=>v|_=> .none))) s') (fun e s'=>wpAny (model C.prog C.w) F.A (leaving F.env e) (fun O s''=>Rz (.error e) s'') (fun e' s''=>Rz (.error e') s'') s') s'):
    codeAny (model C.prog C.w) A (.call (.ref a) ⟨vs,[]⟩) Rz s:=by
  obtain ⟨o,fd,h1,f,e,e'⟩:=fn.in_ (.inl hp) hb
  exact enter f i hh hd hu r hl fun F e1 e2 e3 e4 e5 e6 e7 e8 e9=>h F e1 e2 (e▸e3) ⟨_,_,f.ho,f.hdat,e4⟩ e5 e6 e7 e8 (e'▸e9)
end
section
set_option tactic.hygienic true
set_option backward.match.sparseCases true
variable [HH:u7]
theorem Rep.fix{H1a H2a:u7}{X:Addr→Prop}{h:Heap}{v:Value}{d:PV}{Z:List Addr}(r: @Rep H1a X h v d)(c:clean d=true)(hZ:∀a∈Z,X a)(hG:∀a,H2a.G a→(hideAll h Z).get? a=Option.none): @Rep H2a H2a.G (hideAll h Z) v d:=by
  refine Rep.hop (H:=H2a) (X:=X) (h:=h) (L:=h.objs.size) (fun b o n _ e=>hideAll_get Z e fun z=>n (hZ b z)) (fun o us n ho _=>by rw [a2t] at ho;cases ho) (fun b g=>?_) (Rep.inst r c)
  by_cases z:b∈Z
  · exact .inl (hZ b z)
  · cases e:h.get? b with
    |none=>exact .inr (.inr rfl)
    |some o=>have:=hG b g;rw [hideAll_get Z e z] at this;cases this
theorem c6m{w:World}{X:Addr→Prop}{H:u7}{h:Heap}{wd dx ad ae dxe an dxn:Addr}{le pe re ln pn rn:Value}(ws:WS prog w h wd dx ad [(("E":Str),.ref ae),("N",.ref an)])(se:AS h ae dxe le pe re)(sn:AS h an dxn ln pn rn)
    (r1: @Rep H X h le b0e) (r2: @Rep H X h pe (.tup [])) (r3: @Rep H X h re (.tup [])) (r4: @Rep H X h ln (.lst [])) (hsm:(ad==sysModules)=false)
    (hn:∀b,b=wd∨b=dx∨b=ad∨b=ae∨b=dxe∨b=an∨b=dxn→¬X b) {Z:List Addr} (hZ:∀a∈Z,X a):Wld w (hideAll h Z) wd ad ae an:=by
  have k:∀b o,(b=wd∨b=dx∨b=ad∨b=ae∨b=dxe∨b=an∨b=dxn)→h.get? b=some o→(hideAll h Z).get? b=some o:=fun b o z e=>hideAll_get Z e fun q=>hn b z (hZ b q)
  obtain ⟨le',rfl,rel⟩:∃a,le= .ref a∧True:=by obtain ⟨a,us,rfl,_⟩:=r1.lst_inv;exact ⟨a,rfl,trivial⟩
  obtain ⟨pe',rfl,_⟩:∃a,pe= .ref a∧True:=by obtain ⟨a,us,rfl,_⟩:=r2.n8;exact ⟨a,rfl,trivial⟩
  obtain ⟨re',rfl,_⟩:∃a,re= .ref a∧True:=by obtain ⟨a,us,rfl,_⟩:=r3.n8;exact ⟨a,rfl,trivial⟩
  obtain ⟨ln',rfl,_⟩:∃a,ln= .ref a∧True:=by obtain ⟨a,us,rfl,_⟩:=r4.lst_inv;exact ⟨a,rfl,trivial⟩
  obtain ⟨mW,IW,eW⟩:=(ws.keep fun b o z=>k b o (by rcases z with z|z|z <;> simp [z])).I
  obtain ⟨mE,IE,e1,e2,e3,e4⟩:=(se.keep fun b o z=>k b o (by rcases z with z|z <;> simp [z])).I
  obtain ⟨mN,IN,n1,n2,n3,n4⟩:=(sn.keep fun b o z=>k b o (by rcases z with z|z <;> simp [z])).I
  obtain ⟨oW,IW',lW⟩:=IW.at'
  obtain ⟨oE,IE',lE⟩:=IE.at'
  obtain ⟨oN,IN',lN⟩:=IN.at'
  refine ⟨⟨_,_,IW',(lW _).trans (by rw [eW])⟩,⟨_,_,le',pe',re',IE',(lE _).trans (by rw [e4]),(lE _).trans (by rw [e3]),(lE _).trans (by rw [e2]),(lE _).trans (by rw [e1]),fun H' z=>⟨r1.fix rfl hZ z,r2.fix rfl hZ z,r3.fix rfl hZ z⟩⟩,⟨_,_,ln',IN',(lN _).trans (by rw [n4]),(lN _).trans (by rw [n3]),fun H' z=>r4.fix rfl hZ z⟩,hsm,_,((ws.D.at fun o e=>k _ _ (by simp) e).mapOf),fun x=>?_⟩
  unfold valueAt
  by_cases h1:x="E"
  · subst h1;rfl
  · rw [if_neg h1,List.find?_cons,show decide (("E":Str)=x)=false from decide_eq_false fun q=>h1 q.symm]
    by_cases h2:x="N"
    · subst h2;rfl
    · rw [if_neg h2];dsimp only;rw [List.find?_cons,show decide (("N":Str)=x)=false from decide_eq_false fun q=>h2 q.symm];rfl
section
variable{w:World}{mg mb:Str→Option Value}{g:Heap}(x:Base w mg mb g){t:i8}(k:t.Ok)(hG:∀a∈t.G,g.get? a=none)
set_option maxHeartbeats 8000000 in
theorem b8u:letI:=t.d8 g;∀ {A:Around} {X:Addr→Prop} {s:Shared} (st:St (s9 x t hG k.hp) X s) (hh:A.handled=none) (hd:A.depth+20<recursionLimit) (hu:A.units+500<cLine) {Q E:Value→Shared→Prop}
    (q:∀wd ad ae an s',After (s9 x t hG k.hp) s s'→(∀Z:List Addr,(∀a∈Z,X a)→Wld w (hideAll s'.heap Z) wd ad ae an)→Q (.ref wd) s'),wpAny (model prog w) A (call (.ref 321) []) Q E s:=by
  letI:=t.d8 g
  intro A X s st hh hd hu Q E q
  have FNW:FnAt (s9 x t hG k.hp) "_law_world" 321 (i9 55):=n7 x t hG k.hp (by kernel_rfl) (show (t9 w.params).lookup 321=some (E0 55 "law_xw0167_01" 591 320 .none) from rfl) (by kernel_rfl) (by kernel_rfl)
  have nG:∀ {a:Addr} {o:Obj},g.get? a=some o→a∉t.G:=fun e=>x.none hG e
  have g1:K7 (s9 x t hG k.hp) "_law_bool" Ty.bool.pv:=⟨.ref 301,(x.at _).trans (by kernel_rfl),a2x x hG (vs:=[_]) rfl (.cons (.str _ _) .nil)⟩
  have hW:(s9 x t hG k.hp).mg "World"=some (.ref 275):=(x.at _).trans (by kernel_rfl)
  have hAd:(s9 x t hG k.hp).mg "Adt"=some (.ref 246):=(x.at _).trans (by kernel_rfl)
  have hX:∀a o,(t9 w.params).lookup a=some o→¬(s9 x t hG k.hp).G a∧(s9 x t hG k.hp).g.get? a=some o:=fun a o e=>⟨nG (x.X a o e),x.X a o e⟩
  have hsy:∃o,(s9 x t hG k.hp).g.get? sysModules=some o:=x.mods
  have hsG:¬(s9 x t hG k.hp).G sysModules:=let ⟨_,e⟩:=x.mods;nG e
  refine wpAny_call (a6u (C:=s9 x t hG k.hp) (k:=15) (names:=[]) (ds:=[]) FNW ⟨rfl,fun pm code doc vs hl=>by obtain rfl:=List.eq_nil_of_length_eq_zero hl;rfl⟩ rfl
    st hh (by omega) (by omega) .nil rfl fun F q1 q2 o q4 q5 q6 q7 q8 q9 s₀ j0a=>?_)
  have hpw:(s9 x t hG k.hp).prog=prog∧(s9 x t hG k.hp).w=w:=⟨rfl,rfl⟩
  generalize hCp:s9 x t hG k.hp=Cp at *
  subst q1
  obtain ⟨hp1,hp2⟩:=hpw
  rw [← hp2] at hX
  have hF:=F.hd
  have inK:∀ {s:Shared},Le F.C.G F.C.g s.heap→(t9 F.C.w.params).In s.heap:=fun b a o e=>b a o (hX a o e).1 (hX a o e).2
  show wpAny _ _ (execs (_::_::_::_::_::[]) F.env) _ _ _
  refine wpAny_execs_cons (wpAny_Assign_Name (wpAny_Call_NameR (a6v j0a.1 hW (o.kind rfl) (by decide) ?_)) rfl)
  refine callWith_K (h₀:=s₀.heap) (K:=t9 F.C.w.params) (inK j0a.1.base) (by kernel_rfl) (Calls.spliced_cons (wpAny_Constant_none (k:=0) (pos:=⟨287,18,287,22⟩) (Calls.spliced_nil ⟨inK j0a.1.base,wpAny_call (b2p (inK j0a.1.base) j0a.1.toSt.lim (by omega) fun wd dx ad h₁ tk mA hk1a nx nd na hne IW eW ha=>?_)⟩))) rfl rfl
  have i₁:I F X (binds [] []) ⟨h₁,s₀.gens,s₀.drawn,tk,s₀.os⟩:=j0a.1.grow hk1a
  have j1a:=j0a.step i₁ ⟨rfl,rfl,rfl,Le.of hk1a⟩
  have fresh:∀b,s₀.heap.get? b=none→F.s₀.heap.get? b=none∧¬X b∧b≠F.env.locals∧∀y,F.env.cells.lookup y≠some b:=fun b e=>by
    refine ⟨(j0a.fresh e).2,fun z=>?_,fun z=>?_,fun y z=>?_⟩
    · obtain ⟨o,ho⟩:=j0a.1.d8 b z;rw [e] at ho;cases ho
    · obtain ⟨m,hm⟩:=j0a.1.ns;obtain ⟨o,ho⟩:=Heap.Ns.ex hm;rw [← z,e] at ho;cases ho
    · obtain ⟨v,o,ho,_⟩:=j0a.1.cell y b z;rw [e] at ho;cases ho
  have fr:∀b,(b=wd∨b=dx∨b=ad)→F.s₀.heap.get? b=none∧¬X b∧b≠F.env.locals∧∀y,F.env.cells.lookup y≠some b:=fun b z=>by
    rcases z with rfl|rfl|rfl
    · exact fresh _ nx
    · exact fresh _ nd
    · exact fresh _ na
  have neL:∀ {h h':Heap} {y:Str} {v:Value} {L b:Addr},C1 F h h' y v L→(b≠F.env.locals∧∀y,F.env.cells.lookup y≠some b)→b≠L:=fun z n q=>by
    rcases z.which with e|⟨y,e⟩
    · exact n.1 (q.trans e)
    · exact n.2 y (q▸e)
  have hsm:∀ {a:Addr},s₀.heap.get? a=none→(a==sysModules)=false:=fun {a} e=>beq_eq_false_iff_ne.mpr fun z=>by
    obtain ⟨o,ho⟩:=hsy
    rw [z,j0a.1.base _ _ hsG ho] at e;cases e
  refine k9 i₁ (o.loc rfl) fun h₂ tk2 L z=>?_
  have j2a:JX F X ((("world":Str),.val .any)::binds [] []) _:=j1a.store (tk:=tk2) (n:= .val .any) (Rep.any _) z
  have vw2:j9 h₂ F.env "world" (.ref wd):=z.here
  have ws2:WS F.C.prog F.C.w h₂ wd dx ad []:=by
    have hs:∀b o,(b=wd∨b=dx∨b=ad)→h₁.get? b=some o→h₂.get? b=some o:=fun b o q e=>(z.same.2 b (neL z (fr b q).2.2)).trans e
    refine ⟨⟨mA,IW.keep fun b o q=>hs b o (q.imp id .inl),eW⟩,⟨_,#[],0,hs _ _ (.inr (.inr rfl)) ha,⟨rfl,rfl,rfl⟩,rfl,fun e he=>absurd he (by simp),.nil,List.nodup_nil⟩,hne,fun q=>?_⟩
    obtain ⟨o',es,ep,e1,e2,_,_,e4⟩:=IW.ns
    rw [← q,ha] at e1;cases e1;cases e2
    have:=e4 "adts"
    rw [eW] at this;cases this
  refine wpAny_execs_cons (wpAny_Assign_Name ((?ev:Ev F ((("world":Str),.val .any)::binds [] []) _ fun d=>d=b0e) X _ j2a.1 _ _ fun v d s₃ e i3a x3a r3a=>k9 i3a (o.loc rfl) fun h4a tk4 L4a z4a=>?_) rfl)
  case ev=>exact Ev.wp ((o.kx [] trivial).with [("_law_bool",Ty.bool.pv)] ⟨g1,trivial⟩) (Stop.on rfl rfl)
  subst e
  have j4:JX F X ((("rows":Str),.val b0e)::(("world":Str),.val .any)::binds [] []) _:=(j2a.step i3a x3a).store (tk:=tk4) (n:= .val b0e) r3a z4a
  have k₃:∀b o,¬X b→h₂.get? b=some o→s₃.heap.get? b=some o:=fun b o n e=>x3a.le b o (fun g=>n (i3a.sub b g)) e
  have vw4:j9 h4a F.env "world" (.ref wd):=z4a.there _ _ (by decide) (j9.keep j2a.1 vw2 k₃)
  have ws4:WS F.C.prog F.C.w h4a wd dx ad []:=ws2.keep fun b o q e=>(z4a.same.2 b (neL z4a (fr b q).2.2)).trans (k₃ b o (fr b q).2.1 e)
  refine wpAny_execs_cons (b5d (dl:=b0e) hX hAd (o.kind rfl) (by omega) j4 vw4 ws4 fr (by decide) rfl ?ev2 fun s5a ae dxe l p r j5 vw5 ws5 se5 r1 r2 r3 n5 k5=>?_)
  case ev2=>exact E7.wp (o.kx [] trivial) (Stop.on rfl rfl)
  have adx:∃oa,h4a.get? ad=some oa:=by obtain ⟨oa,_,_,e,_⟩:=ws4.D;exact ⟨oa,e⟩
  refine wpAny_execs_cons (b5d (dl:= .lst []) hX hAd (o.kind rfl) (by omega) j5 vw5 ws5 fr (Nat.le_of_ble_eq_true rfl) rfl ?ev3 fun s6 an dxn l' p' r' j6 vw6 ws6 sn6 u1 u2 u3 n6 k6=>?_)
  case ev3=>exact E7.wp (o.kx [] trivial) (Stop.on rfl rfl)
  refine wpAny_execs_cons (wpAny_Return_some (wpAny_Name (t8 F.hk vw6 ?_) (by decide)))
  have af:=j6.1.after j6.4
  rw [q6] at af
  have ne5:∀b,(b=ae∨b=dxe)→b≠ad:=fun b z q=>by
    obtain ⟨oa,e⟩:=adx
    have:=(n5 b z).1
    rw [q] at this;rw [show h4a.get? ad=none from this] at e;cases e
  have hop:∀v d,Rep X s5a.heap v d→Rep X s6.heap v d:=fun v d r=>Rep.hop (L:=ad) (fun b o n n' e=>k6 b o n n' e) (fun o' us n ho hd=>by
    obtain ⟨o₂,es,ep,e1,_,e3,_⟩:=ws5.D
    rw [e1] at ho;cases ho;rw [e3] at hd;cases hd) (fun b z=> .inl z) r
  have se6:=se5.keep fun b o z e=>k6 b o (n5 b z).2.1 (ne5 b z) e
  rw [hp1,hp2] at ws6
  refine q wd ad ae an s6 af fun Z hZ=>c6m (X:=X) (dx:=dx) (dxe:=dxe) (dxn:=dxn) ws6 se6 sn6 (hop _ _ r1) (hop _ _ r2) (hop _ _ r3) u1 (hsm na) (fun b z=>?_) hZ
  rcases z with rfl|rfl|rfl|rfl|rfl|rfl|rfl
  · exact (fresh _ nx).2.1
  · exact (fresh _ nd).2.1
  · exact (fresh _ na).2.1
  · exact (n5 _ (.inl rfl)).2.1
  · exact (n5 _ (.inr rfl)).2.1
  · exact (n6 _ (.inl rfl)).2.1
  · exact (n6 _ (.inr rfl)).2.1
end
end
section
open PySem.Calls
structure Frm(w:World)(mg mb:Str→Option Value)(g:Heap)(t:i8)(wd ad ae an:Addr):Prop where
  x:Base w mg mb g
  y:Wld w g wd ad ae an
  k:t.Ok
  hG:∀a∈t.G,g.get? a=none
  src:t.src=[]
  pin:t.pin=[]
theorem a9j:∀ {l:List Value} {q:Str} {tq:Tok},TriplesOk l→l[1]?≠some (.str q tq):=fun {l} {q tq} x e=>by
  fun_induction TriplesOk l with
  |case1=>cases e
  |case2 a t b u c rest ih=>cases e
  |case3=>exact x.elim
theorem TriplesOk.a3x{ps:Array Value}(x:TriplesOk ps.toList):¬B5 (tabObj ps):=fun ⟨vs,q,t,e,e2⟩=>by
  cases e
  rw [← Array.getElem?_toList] at e2
  exact a9j x e2
section
variable{w:World}{mg mb:Str→Option Value}{g:Heap}{t:i8}{wd ad ae an:Addr}
noncomputable abbrev Frm.C (f:Frm w mg mb g t wd ad ae an): @Cx (t.d8 g):=s9 f.x t f.hG f.k.hp
structure Tof(t:i8)(wd:Addr)(A:Around)(env:Env)(fs:List Env)(ρ:b9):Prop where
  frames:A.frames=some (env::fs)
  frame:env.frame=some env.locals
  below:∀env∈fs,env.scope.kind≠ .module∧∃L,env.frame=some L∧L∈t.frs.map (·.1)
  code:env.code= .ref 378
  qual:env.qual="_law_told_right.<locals>."
  room:A.depth+80<recursionLimit
  units:A.units+1000<cLine
  own:∀y xs,ρ.lookup y≠some (.own xs)
  yes:ρ.lookup ("yes":Str)=some (.val (c7.cb true).pv)
  free:ρ.lookup ("free":Str)=some (.val (c7.i7 .bool).pv)
  both:ρ.lookup ("both":Str)=some (.val (.lst [Ty.bool.pv,Ty.bool.pv]))
  world:ρ.lookup ("world":Str)=some (.val (.z8 (.ref wd)))
  c8f:env.kindOf "yes"=some .cell
  c1k:env.kindOf "free"=some .cell
  c2e:env.kindOf "both"=some .cell
  b7a:env.kindOf "world"=some .cell
noncomputable abbrev K3:Str:="_law_told_right.<locals>.<lambda>"
noncomputable def a4o(w:World)(wd:Addr)(b:Expr)(lsc:Scope)(ρl:b9)(d₀:PV):Prop:=
  ∀ (H:u7) (C: @Cx H) (R:Rk),Kit C (.z8 (.ref wd))→I4 C R→d0f C R (.z8 (.ref wd))→
    (∀F: @Fm H,F.C=C→F.k=64→F.env.scope=lsc→Ev F ρl b fun d=>d=d₀)∨((∀F: @Fm H,F.C=C→F.k=64→F.env.scope=lsc→∀fs,Rf F R fs→M3 F R fs ρl b)∧d₀= .str "fault")
inductive b8z [H:u7](F:Fm)(G:List Addr)(wd:Addr)(s:Shared)(ρ:b9)(y:Str):Prop
  |mk (c:Addr) (v:Value) (d:PV) (h1:F.env.cells.lookup y=some c) (h2:s.heap.IsCell c (some v)) (h3:Rep F.C.G s.heap v d) (h4:c∉G) (h5:ρ.lookup y=some (.val d)) (h6:clean d=true∨d= .z8 (.ref wd))
theorem c7g [H:u7]{t:i8}{F:Fm}{fs:List Env}{ρ:b9}{s:Shared}{G:List Addr}{wd:Addr}(o:Tof t wd F.A F.env fs ρ)(i:I F F.C.G ρ s)(ne:∀y c,F.env.cells.lookup y=some c→c≠F.env.locals)(hG:∀a,a∈G→a=F.env.locals∨F.C.G a){y:Str}(hy:y="yes"∨y="free"∨y="both"∨y="world"):b8z F G wd s ρ y:=by
  have key:∀d,ρ.lookup y=some (.val d)→F.env.kindOf y=some .cell→(clean d=true∨d= .z8 (.ref wd))→b8z F G wd s ρ y:=fun d e kd cl=>by
    obtain ⟨c,v,h1,h2,h3,h4⟩:=i.c9x e kd
    exact ⟨c,v,d,h1,h2,h3,fun z=>(hG c z).elim (ne y c h1) h4,e,cl⟩
  clear ne hG i;rcases hy with rfl|rfl|rfl|rfl
  · exact key _ o.yes o.c8f (.inl rfl)
  · exact key _ o.free o.c1k (.inl rfl)
  · exact key _ o.both o.c2e (.inl rfl)
  · exact key _ o.world o.b7a (.inr rfl)
inductive d0i [H:u7](G':Addr→Prop)(g':Heap)(F:Fm)(h:Heap)(X:Addr→Prop)(y:Str)(e:Ent):Prop
  |mk (c:Addr) (v:Value) (d:PV) (q:e= .val d) (h1:F.env.cells.lookup y=some c) (h2:h.IsCell c (some v)) (h3: @Rep ⟨G',g'⟩ X h v d)
theorem c2v [H:u7]{G':Addr→Prop}{g':Heap}{F:Fm}{G:List Addr}{wd:Addr}{s:Shared}{ρ:b9}{h:Heap}{X:Addr→Prop}{m:Str→Option Value}(hm:s.heap.Ns F.env.locals m)(gcap:∀c v,s.heap.IsCell c v→c∉G→h.IsCell c v)(hX:∀b,X b→b=F.env.locals∨F.C.G b)(hG:∀b,b∈G→b=F.env.locals∨F.C.G b)
    (mv:∀b o,b∉G→s.heap.get? b=some o→h.get? b=some o) (hw:∀a,Value.ref wd= .ref a→G' a∨∃o,g'.get? a=some o) {y:Str} {e:Ent} (h3:ρ.lookup y=some e) (k:b8z F G wd s ρ y):d0i G' g' F h X y e:=by
  obtain ⟨c,v,d,z1,z2,z3,z4,z5,z6⟩:=k
  refine ⟨c,v,d,Option.some.inj (h3.symm.trans z5),z1,gcap _ _ z2 z4,?_⟩
  rcases z6 with z6|z6
  · exact Rep.inst (Rep.hop (X':=X) (h':=h) (L:=F.env.locals) (fun b o n n' e=>mv b o (fun z=>(hG b z).elim n' n) e) (fun o vs n ho hd=>a0b hm ho hd rfl) (fun b hb=>(hX b hb).elim (fun z=> .inr (.inl z)) .inl) z3) z6
  · subst z6
    have hv:=z3.a1j
    subst hv
    exact @Rep.z8 ⟨G',g'⟩ _ _ _ hw
theorem b6q(f:Frm w mg mb g t wd ad ae an):letI:=t.d8 g;∀ {F:Fm} {fs:List Env} {ρ:b9} (hCf:F.C=f.C) (o:Tof t wd F.A F.env fs ρ) {m:Str→Option Value} {s s':Shared} (j:JX F F.C.G ρ s) (hm:s.heap.Ns F.env.locals m) (ξ:Xi (t.add F.env.locals m) K3 s s')
    {sc lsc:Scope} {lps:Arguments} {b:Expr} {np lpos cp:Pos} {K L D:Addr} {n:Int} {tk:Tok} {ρl:b9} {d₀:PV} (hK:s.heap.get? K=none) (hD:s.heap.get? D=none) (hKD:K≠D) (hDs:∃us,s'.heap.PlainList D us) (hcK:s'.heap.IsCell K (some (.int n tk)))
    (hsk:sc.kind= .function) (hsh:sc.names.lookup ("_law_heard":Str)=some .globalImplicit) (hsf:∀y,(y,NameKind.free)∈lsc.names→y=("many":Str)∨((y,NameKind.free)∈sc.names∧(y=("yes":Str)∨y=("free":Str)∨y=("both":Str)∨y=("world":Str))))
    (hnd:(lsc.names.map (·.1)).Nodup) (c7r:(sc.names.map (·.1)).Nodup) (hsn:∀y,(y,NameKind.free)∈sc.names→y≠("many":Str)∧(y=("yes":Str)∨y=("free":Str)∨y=("both":Str)∨y=("world":Str)))
    (hlk:lsc.kind= .function) (hco:lsc.isCoroutine=false) (hgen:lsc.isGenerator=false) (hnc:∀x∈lsc.names,x.2≠ .cell) (hdef:∀env,defaultsOf lps env=([],[])) (hbind:∀clos pm c' ctv,bindArgs (kla_fn ("<lambda>":Str) K3 lps b lsc clos pm (.ref c') ctv) ⟨[],[]⟩=pure [])
    (hρ:∀y e,ρl.lookup y=some e→lsc.names.lookup y=some .free∧(y==("__classdict__":Str))=false∧((y=("many":Str)∧e= .val (.int n))∨(y≠("many":Str)∧ρ.lookup y=some e)))
    (c4g:a4o w wd b lsc ρl d₀) (hcl:clean d₀=true) {Q E:Value→Shared→Prop}
    (q:∀r s'',Xi (t.add F.env.locals m) K3 s s''→(∀b o,b∉(t.add F.env.locals m).G→s'.heap.get? b=some o→s''.heap.get? b=some o)→Rep (fun b=>b∈(t.add F.env.locals m).G∨b=D) s''.heap r d₀→Q r s''),
    wpAny (model prog w) F.A (eval (.Call (.Name ("_law_heard":Str) np) [.Lambda lps b lsc lpos] [] cp) (compEnvC sc ((("many":Str),K)::C4 F.env sc.names []) L F.env)) Q E s':=by
  letI:=t.d8 g
  intro F fs ρ hCf o m s s' j hm ξ sc lsc lps b np lpos cp K L D n tk ρl d₀ hK hD hKD hDs hcK hsk hsh hsf hnd c7r hsn hlk hco hgen hnc hdef hbind hρ c4g hcl Q E q
  generalize K9:t.add F.env.locals m=t2 at *
  have hLG:∀a,a∈t2.G↔a=F.env.locals∨a∈t.G:=fun a=>K9▸i8.b5e
  have hfrs:∀p,p∈t2.frs↔p=(F.env.locals,m)∨p∈t.frs:=fun p=>by rw [← K9];exact List.mem_cons
  have hsrc:t2.src=[]:=by rw [← K9];exact f.src
  have hpin:t2.pin=[]:=by rw [← K9];exact f.pin
  have i:=j.1
  have cg:∀a,F.C.G a↔a∈t.G:=fun a=>Iff.rfl
  have hgC:F.C.g=g:=rfl
  have nL:F.env.locals∉t.G:=i.u9
  have gl:g.get? F.env.locals=none:=by
    exact isNone fun o' e=>by have:=F.h₀ _ o' nL e;exact n9 F.hL this
  have hot2:∀ {h:Heap},t2.inv h→∀a∈t2.G,∃o,h.get? a=some o:=fun iv a=>i8.c6e iv
  have inS:∀b o,g.get? b=some o→s.heap.get? b=some o:=fun b o e=>i.base b o (f.x.none f.hG e) e
  have offG:∀b o,g.get? b=some o→b∉t2.G:=fun b o e q=>((hLG b).mp q).elim (fun z=>g7 z gl e) (f.x.none f.hG e)
  have offD:∀b o,s.heap.get? b=some o→b≠D:=fun b o e q=>g7 q hD e
  have x':Base w mg mb s'.heap:=f.x.mono fun b o e=>ξ.keep b o (offG b o e) (inS b o e)
  obtain ⟨ps,hP,hcod⟩:=ξ.codes
  obtain ⟨us,hDl⟩:=hDs
  have cellne:∀y c,F.env.cells.lookup y=some c→c≠F.env.locals:=fun y c hc z=>by
    obtain ⟨v,h⟩:=i.cell y c hc;exact a3f hm h z
  have cap:∀y:Str,(y="yes"∨y="free"∨y="both"∨y="world")→b8z F t2.G wd s ρ y:=fun y hy=>c7g o i cellne (fun a z=>(hLG a).mp z) hy
  have scell:∀y,(y,NameKind.free)∈sc.names→∃c,F.env.cells.lookup y=some c:=fun y hy=>by
    obtain ⟨c,v,d,h1,_⟩:=cap y (hsn y hy).2
    exact ⟨c,h1⟩
  generalize hcenv:compEnvC sc ((("many":Str),K)::C4 F.env sc.names []) L F.env=cenv
  have ccells:cenv.cells=(("many":Str),K)::C4 F.env sc.names []:=by rw [← hcenv];rfl
  have cglob:cenv.globals=mainGlobals:=by rw [← hcenv];exact F.K6
  have ccode:cenv.code= .ref 378:=by rw [← hcenv];exact o.code
  have cqual:cenv.qual=F.env.qual:=by rw [← hcenv];rfl
  have clook:∀y,(y,NameKind.free)∈lsc.names→(y="many"∧cenv.cells.lookup y=some K)∨(y≠"many"∧(y="yes"∨y="free"∨y="both"∨y="world")∧∀c,F.env.cells.lookup y=some c→cenv.cells.lookup y=some c):=fun y hy=>by
    rcases hsf y hy with rfl|⟨h1,h2⟩
    · exact .inl ⟨rfl,by rw [ccells];exact lookup_cons_self _ _ _⟩
    · exact .inr ⟨(hsn y h1).1,h2,fun c hc=>by rw [ccells];exact (c5 _ _ (hsn y h1).1).trans (a8y (t.d8 g) h1 hc)⟩
  have lcell:∀y,(y,NameKind.free)∈lsc.names→∃c,cenv.cells.lookup y=some c:=fun y hy=>by
    rcases clook y hy with ⟨_,h⟩|⟨_,h1,h2⟩
    · exact ⟨K,h⟩
    · obtain ⟨c,v,d,h3,_⟩:=cap y h1;exact ⟨c,h2 c h3⟩
  have bt:s'.heap.BuiltinsAt mg 376:=by
    obtain ⟨bm,ob,h1,h2,h3,h4,h5,h6⟩:=f.x.bm
    obtain ⟨bm',ob',h1',h2',h3',h4',h5',h6'⟩:=x'.bm
    obtain rfl:bm'=bm:=Value.ref.inj (Option.some.inj (h1'.symm.trans h1))
    refine ⟨bm',ob',h1,h2,fun z=>?_,fun z=>f.x.none f.hG h3 (z▸ .head _),h3',h4',h5',h6'⟩
    obtain ⟨o₂,es,ep,e1,e2,_⟩:=x'.ns
    exact nomatch odd z h3' e1 h6' e2
  refine wpAny_Call_NameR (Name_function_global (by rw [← hcenv];exact hsk) (by rw [← hcenv];exact a0p (by decide) hsh) (loadGlobal_global (mg:=mg) (v:= .ref 364) (by rw [cglob];exact x'.ns) ((f.x.at _).trans (by kernel_rfl)) ?_) (by decide))
  obtain ⟨oh,fdh,heard,hdat⟩:∃o fd,s'.heap.get? 364=some o∧o.data= .func fd:=⟨_,_,x'.X 364 _ (show (t9 w.params).lookup 364=some _ from rfl),rfl⟩
  refine callWith_def hdat ?_ rfl
  rw [show starEach [Expr.Lambda lps b lsc lpos] cenv=(false,eval (.Lambda lps b lsc lpos) cenv)::starEach [] cenv from rfl]
  refine spliced_cons (b8s (qual:=K3) (hdef cenv) (a0h lcell) cglob x'.ns ccode x'.c1 hP hcod (by decide) bt (by rw [cqual,o.qual];rfl) fun fa h' tk' c' ctv ps' kk hfn O hfo hrec hP' hcod'=>wpAny_items_nil ⟨kk _ _ (by decide) heard,?_⟩)
  have k376:∀b o,b∉t2.G→s'.heap.get? b=some o→h'.get? b=some o:=fun b o n e=>kk b o (fun z=>n (z▸ .head _)) e
  have frne:∀p∈t2.frs,p.1≠376∧p.1≠116:=fun p hp=>by
    rcases (hfrs p).mp hp with rfl|hp
    · exact ⟨fun z=>nL (show F.env.locals∈t.G from (show F.env.locals=376 from z).symm▸ .head _),fun z=>nL (show F.env.locals∈t.G from (show F.env.locals=116 from z).symm▸ .tail _ (.head _))⟩
    · exact f.k.d1 _ (List.mem_append_left _ (List.mem_map_of_mem hp))
  have h116:∃ps,h'.get? 116=some (tabObj ps)∧TriplesOk ps.toList:=(by obtain ⟨ps,a,b⟩:=ξ.inv.2.1;exact ⟨ps,kk _ _ (by decide) a,b⟩)
  have hfr':∀p∈t2.frs,h'.Ns p.1 p.2:=fun p hp=>(ξ.inv.2.2.2.1 p hp).at' fun o e=>kk _ o (frne p hp).1 e
  have nc:∀a∈t2.G,∀o,h'.get? a=some o→¬B5 o:=fun a ha o e=>by
    simp only [i8.G,hsrc,List.append_nil,List.mem_cons,List.mem_map] at ha
    rcases ha with rfl|rfl|⟨p,hp,rfl⟩
    · rw [hP'] at e;cases e;exact TriplesOk.a3x hcod'.ok
    · obtain ⟨ps2a,a1,a2⟩:=h116
      rw [a1] at e;cases e;exact TriplesOk.a3x a2
    · rintro ⟨vs,q,tq,e1,_⟩
      obtain ⟨o₂,es,ep,a1,a2,_⟩:=hfr' p hp
      exact a6e (odd rfl e a1 e1 a2)
  have c7z:∀a∈t2.G,∃o,h'.get? a=some o:=fun a ha=>by
    by_cases z:a=376
    · exact ⟨_,z▸hP'⟩
    · obtain ⟨o,ho⟩:=hot2 ξ.inv a ha;exact ⟨o,kk a o z ho⟩
  obtain ⟨nD,hDo⟩:=hDl
  have hDn:D∉t2.G:=fun z=>by
    obtain ⟨o,ho⟩:=hot2 ξ.inv D z
    rcases (hLG D).mp z with z|z
    · obtain ⟨o₂,es,ep,e1,_⟩:=hm;exact g7 z.symm hD e1
    · obtain ⟨o₂,ho2a⟩:=i.d8 D z;exact n9 hD ho2a
  have hD':=k376 D _ hDn hDo
  let t3:i8:=⟨[(376,tabObj ps')],t2.frs,[]⟩
  have e3:t3.G=t2.G:=by show _::_::(_++[])=_::_::(_++t2.src);rw [hsrc]
  have k3:t3.Ok:=⟨fun a ha=>by
      obtain ⟨p,hp,rfl⟩:=List.mem_map.mp (show a∈t2.frs.map (·.1) from (List.append_nil (t2.frs.map (·.1)))▸ha)
      exact frne p hp,fun p hp=>by rw [List.mem_singleton.mp hp],fun a ha=>by cases ha⟩
  generalize hg3:hideAll h' (t2.G++[D])=g3
  as_aux_lemma=>
  have hG3:∀a∈t3.G,g3.get? a=none:=fun a ha=>hg3▸hideAll_none _ (List.mem_append_left _ (e3▸ha))
  have hgD:g3.get? D=none:=hg3▸hideAll_none _ (by simp)
  have into':∀b o,h'.get? b=some o→b∉t2.G→b≠D→g3.get? b=some o:=fun b o e n n'=>hg3▸hideAll_get _ e (by simp [n,n'])
  have from3:∀b o,g3.get? b=some o→h'.get? b=some o:=fun b o e=>of_hideAll _ (hg3▸e)
  have into:∀b o,s'.heap.get? b=some o→b∉t2.G→b≠D→g3.get? b=some o:=fun b o e n n'=>into' b o (k376 b o n e) n n'
  have kg:∀b o,g.get? b=some o→g3.get? b=some o:=fun b o e=>into b o (ξ.keep b o (offG b o e) (inS b o e)) (offG b o e) (offD b o (inS b o e))
  have x3:Base w mg mb g3:=f.x.mono kg
  have y3:Wld w g3 wd ad ae an:=f.y.mono kg
  have hfn':fa∉t2.G∧fa≠D:=⟨fun z=>(by obtain ⟨o,ho⟩:=hot2 ξ.inv fa z;exact n9 hfn ho),fun z=>(by rw [z,hDo] at hfn;cases hfn)⟩
  have hof:=into' fa _ hfo hfn'.1 hfn'.2
  have cellIn:∀c v,s'.heap.IsCell c v→c∉t2.G→c≠D→g3.IsCell c v:=(fun c v z1 n n'=>by obtain ⟨o,e,hd⟩:=z1;exact ⟨o,into c o e n n',hd⟩)
  have hKG:K∉t2.G:=fun z=>by
    rcases (hLG K).mp z with z|z
    · obtain ⟨o₂,es,ep,e1,_⟩:=hm;exact g7 z.symm hK e1
    · obtain ⟨o₂,ho2a⟩:=i.d8 K z;exact n9 hK ho2a
  have gK:g3.IsCell K (some (.int n tk)):=cellIn K _ hcK hKG hKD
  have gcap:∀c v,s.heap.IsCell c v→c∉t2.G→g3.IsCell c v:=(fun c v z1 n=>by obtain ⟨o,e,hd⟩:=z1;exact ⟨o,into c o (ξ.keep c o n e) n (offD c o e),hd⟩)
  have iap:=i.apart
  have icell:∀(y:Str) c,F.env.cells.lookup y=some c→K≠c:=fun y c hc z=>by
    obtain ⟨v,o₂,ho2a,_⟩:=i.cell _ c hc
    exact g7 z.symm hK ho2a
  have cap2:∀y e,ρ.lookup y=some e→(y="yes"∨y="free"∨y="both"∨y="world")→d0i (fun a=>a∈t3.G) g3 F g3 (fun a=>a∈t3.G) y e:=fun y e h3 hy=>
    c2v hm gcap (fun b hb=>(hLG b).mp (e3▸hb)) (fun b z=>(hLG b).mp z) (fun b o nb e=>into b o (ξ.keep b o nb e) nb (offD b o e)) (fun a q=> .inr (by obtain ⟨⟨ox,od,⟨hw,_⟩,_⟩,_⟩:=y3;exact ⟨ox,by cases q;exact hw⟩)) h3 (cap y hy)
  have frIn:∀L,L∈t2.frs.map (·.1)→L∈t3.G:=fun L hL=>by show _∈_::_::(_++_);simp only [List.mem_cons,List.mem_append];exact .inr (.inr (.inl hL))
  have hfrL:∀env∈F.env::fs,env.scope.kind≠ .module∧∃L,env.frame=some L∧L∈t2.frs.map (·.1):=fun env he=>by
    rcases List.mem_cons.mp he with rfl|he
    · exact ⟨by rw [F.hk];decide,_,o.frame,List.mem_map.mpr ⟨_,(hfrs _).mpr (.inl rfl),rfl⟩⟩
    · obtain ⟨h1,L,h2,h3⟩:=o.below env he
      obtain ⟨p,hp,rfl⟩:=List.mem_map.mp h3
      exact ⟨h1,_,h2,List.mem_map.mpr ⟨p,(hfrs p).mpr (.inr hp),rfl⟩⟩
  have hrm:=o.room
  have hun:=o.units
  have fhA:=F.hA
  letI:=t3.d8 g3
  have sup:=b6k x3 k3 hG3 y3
  have K5:=sup.K5
  have rk:=c8e x3 k3 hG3
  have J8:=sup.J8 rk
  have lam:a9i (s9 x3 t3 hG3 k3.hp) fa K3 b lsc (C4 cenv lsc.names []) ρl:=by
    obtain ⟨c₂,oc,vs,tq,r1,r2,r3,r4⟩:=hrec
    cases r1
    have hc':c'∉t2.G:=fun z=>nc c' z oc r2 ⟨vs,_,tq,r3,r4⟩
    have hcD:c'≠D:=fun z=>by rw [z,hD'] at r2;cases r2;cases r3
    have look:∀y,(y,NameKind.free)∈lsc.names→∀c,cenv.cells.lookup y=some c→(C4 cenv lsc.names []).lookup y=some c:=fun y hy c hc=>a8y (t.d8 g) hy hc
    refine ⟨⟨_,lps,_,c',ctv,hof,by rw [show (s9 x3 t3 hG3 k3.hp).G=fun a=>a∈t3.G from rfl];exact fun z=>hc' (e3▸z),⟨c',oc,vs,tq,rfl,into' c' oc r2 hc' hcD,r3,r4⟩,hbind _ _ _ _⟩,fun z=>hfn'.1 (e3▸z),hlk,hco,hgen,hnc,fun y c hc=>?_,?_,fun y e he=>?_⟩
    · rcases a3c _ _ (mem_of_lookup hc) with h1|⟨h1,h2⟩
      · cases h1
      rcases clook y h1 with ⟨_,h3⟩|⟨_,h3,h4⟩
      · rw [h3] at h2;obtain rfl:c=K:=h2
        exact ⟨fun z=>hKG (e3▸z),_,gK⟩
      · obtain ⟨c₂,v,d,z1,z2,z3,z4,_⟩:=cap y h3
        rw [h4 c₂ z1] at h2;obtain rfl:c=c₂:=h2
        exact ⟨fun z=>z4 (e3▸z),_,gcap _ _ z2 z4⟩
    · refine a3i ?_ lsc.names [] lcell hnd List.Pairwise.nil fun y c hy=>nomatch hy
      rw [ccells]
      refine List.Pairwise.cons (fun p hp q=>?_) (a3i iap sc.names [] scell c7r List.Pairwise.nil fun y c hy=>nomatch hy)
      rcases a3c _ _ hp with h1|⟨h1,h2⟩
      · cases h1
      · obtain ⟨c₀,hc0a⟩:=scell p.1 h1
        rw [hc0a] at h2
        exact icell _ c₀ hc0a ((show K=p.2 from q).trans h2)
    · obtain ⟨h1,h2,h3⟩:=hρ y e he
      have hy:=a4w h1
      rcases h3 with ⟨rfl,rfl⟩|⟨hne,h3⟩
      · rcases clook _ hy with ⟨_,h4⟩|⟨h4,_⟩
        · exact ⟨_,rfl,h1,h2,K,_,look _ hy K h4,gK,.int _ _⟩
        · exact absurd rfl h4
      · rcases clook y hy with ⟨h4,_⟩|⟨_,h4,h5⟩
        · exact absurd h4 hne
        obtain ⟨c,v,d,rfl,z1,z2,z3⟩:=cap2 y e h3 h4
        exact ⟨d,rfl,h1,h2,c,v,look y hy c (h5 c z1),z2,z3⟩
  have con:Con (s9 x3 t3 hG3 k3.hp) 65 fa (fun ds Q=>ds=[]∧Q d₀)∨(c3f (s9 x3 t3 hG3 k3.hp) (c9y w.params t3) 65 fa (fun ds=>ds=[])∧d₀= .str "fault"):=by
    rcases c4g _ _ _ K5 rk J8 with h|⟨h,h2⟩
    · exact .inl (lam.con h)
    · exact .inr ⟨a9i.d1k rk lam (by exact Nat.le_add_left _ _) h,h2⟩
  have inv3:t3.inv h':=⟨⟨ps',hP',hcod'.ok⟩,h116,fun p hp=>by rw [List.mem_singleton.mp hp];exact hP',hfr',fun a ha=>by cases ha⟩
  have st3:St (s9 x3 t3 hG3 k3.hp) (fun b=>b∈t3.G∨b=D) {s' with heap:=h',toks:=tk'} :=
    ⟨fun b o O e=>from3 b o e,inv3,fun a ha=>ha.elim (fun z=>c7z a (e3▸z)) fun z=>⟨_,z▸hD'⟩,fun a z=> .inl z,fun a ha=>ha.imp id fun z=>by rw [z];exact hgD⟩
  refine b8h rk (k:=65) (b0p x3 t3 hG3 k3.hp 37 _ _ _ _ rfl) (fun z=>hfn'.1 (e3▸z)) hof rfl (by exact Nat.le_add_left _ _) con st3 fhA (by lia) (by lia) o.frames (fun env he=>(hfrL env he).imp id (fun z1=>by obtain ⟨L,a,b⟩:=z1;exact ⟨L,a,.inl b⟩)) (fun L hL=>?_) fun v s₃ af r=>?_
  · obtain ⟨env,he,hf⟩:=List.mem_filterMap.mp hL
    obtain ⟨_,L',h2,h3⟩:=hfrL env he
    rw [hf] at h2;cases h2
    exact frIn L h3
  · have iv:=af.inv
    have kp:∀b o,b∉t2.G→h'.get? b=some o→s₃.heap.get? b=some o:=fun b o n e=>af.ext.le b o (fun z=>n (e3▸z)) e
    have h376:=iv.2.2.1 _ (.head _)
    refine q v s₃ ⟨af.ext.gens.trans ξ.gens,af.ext.os.trans ξ.os,af.ext.drawn.trans ξ.drawn,fun b o n e=>kp b o n (k376 b o n (ξ.keep b o n e)),⟨iv.1,iv.2.1,fun p hp=>(by rw [hpin] at hp;cases hp),iv.2.2.2.1,fun a ha=>(by rw [hsrc] at ha;cases ha)⟩,ps',h376,hcod'.step fun b o cl e=>?_⟩ (fun b o n e=>kp b o n (k376 b o n e)) ?_
    · exact kp b o (fun z=>nc b z o e cl) e
    · exact Rep.inst (r.sub fun a ha=>ha.imp (fun z=>e3▸z) id) hcl
end
end
section
open PySem.Calls
theorem d0m{α β:Type}(f:α→Option β){a b c:α}(h:f b=none):([a,b,c].filterMap f).length≠3:=by
  show ([f a,f b,f c].filterMap id).length≠3
  rw [h];cases f a <;> cases f c <;> exact Nat.ne_of_beq_eq_false rfl
theorem c2p{env:Env}{x y z:Str}{xp yp zp tp vp:Pos}{k k2:Nat}{vs:List Expr}(hy:env.kindOf y=some .cell):swappedStores [.Tuple [.Name x xp,.Name y yp,.Name z zp] k tp] (.Tuple vs k2 vp) env=pure none:=by
  unfold swappedStores
  dsimp only
  split
  · rfl
  split
  · rfl
  exact b8 (if_pos (by rw [Bool.or_eq_true,bne_iff_ne,ne_eq];exact .inl (d0m _ (by dsimp only;rw [hy];rfl))) ..) rfl
section
variable [HH:u7]{F:Fm}{ρ:b9}{N:b9→Prop}{R:PV→Prop}
theorem Ex.c1l{x y z:Str}{value:Expr}{xp yp zp tp pos:Pos}{k:Nat}(h:Ev F ρ value fun d=>∃a b c,d= .tup [a,b,c]∧N ((z,.val c)::(y,.val b)::(x,.val a)::ρ))(hx:l5 F x)(hy:l5 F y)(hz:l5 F z)
    (hs:swapsWithSole [.Tuple [.Name x xp,.Name y yp,.Name z zp] k tp] value pos.line F.env=pure false) (hw:swappedStores [.Tuple [.Name x xp,.Name y yp,.Name z zp] k tp] value F.env=pure none):
    Ex F ρ (.Assign [.Tuple [.Name x xp,.Name y yp,.Name z zp] k tp] value pos) N R:=fun X s j Q E nn r=>by
  refine PyProof.Rows.Assign_Tuple (h X s j.1 _ _ fun v d s₁ ⟨a,b,c,hd,p⟩ i₁ x1a r₁=>?_) hs hw
  subst hd
  obtain ⟨t,vs,rfl,ht,hX,rl⟩:=r₁.n8
  obtain ⟨v1a,vs',rfl,ra,rl'⟩:=rl.cons_inv
  clear rl;obtain ⟨v2a,vs'',rfl,rb,rl''⟩:=rl'.cons_inv
  obtain ⟨v3a,vs3,rfl,rc,rl3⟩:=rl''.cons_inv
  obtain rfl:=rl3.nil_inv
  have j1a:=j.step i₁ x1a
  refine assign_Tuple_tuple (items:=[v1a,v2a,v3a].toArray) F.hA ht.isTup rfl rfl fun h' e=>?_
  have kp:∀b o,s₁.heap.get? b=some o→h'.get? b=some o:=fun b o z=>e b o (Nat.ne_of_lt (Heap.lt_size z)) z
  have x₂:Ext F.C.G s₁ {s₁ with heap:=h'} :=Ext.heap _ _ (Le.of kp)
  have j2a:=j1a.step (i₁.grow (s':= {s₁ with heap:=h'}) kp) x₂
  have k₂:=(m7.x7 j.1 x1a).trans (m7.x7 i₁ x₂) (j.alive j1a (fun O h=>h) (m7.x7 j.1 x1a))
  show wpAny _ _ (assignInOrder [PySem.assign (.Name x xp) F.env,PySem.assign (.Name y yp) F.env,PySem.assign (.Name z zp) F.env] [v1a,v2a,v3a]) _ _ _
  refine wpAny_assignInOrder_more (wpAny_assign_Name (k9 j2a.1 hx fun h₁ tk L z=>?_))
  have ra':C3 F X ρ {s₁ with heap:=h'} v1a (.val a):=ra.le (Le.of kp)
  have rb':C3 F X ρ {s₁ with heap:=h'} v2a (.val b):=rb.le (Le.of kp)
  have rc':C3 F X ρ {s₁ with heap:=h'} v3a (.val c):=rc.le (Le.of kp)
  have j3:=j2a.store (tk:=tk) ra' z
  have rc3:=rc'.stored (tk:=tk) (k:= .val a) j2a.1 (fun O O f=>f.elim) z
  refine wpAny_assignInOrder_more (wpAny_assign_Name (k9 j3.1 hy fun h₂ tk' L' z'=>?_))
  have j4:=j3.store (tk:=tk') (rb'.stored (tk:=tk) (k:= .val a) j2a.1 (fun O O f=>f.elim) z) z'
  refine wpAny_assignInOrder_more (wpAny_assign_Name (k9 j4.1 hz fun h₃ tk3 L3a z3a=>?_))
  have j5:=j4.store (tk:=tk3) (rc3.stored (tk:=tk') (k:= .val b) j3.1 (fun O O f=>f.elim) z') z3a
  have k₃:=k₂.trans (z.keep (X:=X) (tk:=tk)) (j.alive j2a (fun O h=>h) k₂)
  have k4a:=k₃.trans (z'.keep (X:=X) (tk:=tk')) (j.alive j3 (fun O h=>h) k₃)
  have k5a:=k4a.trans (z3a.keep (X:=X) (tk:=tk3)) (j.alive j4 (fun O h=>h) k4a)
  exact wpAny_assignInOrder_none (nn _ _ X p j5 (fun O h=>h) k5a)
end
end
section
open PySem.Calls
noncomputable def a6y(qual:Str)(h:Heap):Prop:=∃ps,h.get? 376=some (tabObj ps)∧B0 h qual ps.toList
theorem a6y.turn{qual:Str}{h h':Heap}{L:Addr}(k:∀b o,b≠L→h.get? b=some o→h'.get? b=some o)(hL:L≠376)(nc:∀o,h.get? L=some o→¬B5 o)(x:a6y qual h):a6y qual h':=
  (by obtain ⟨ps,a,b⟩:=x;exact ⟨ps,k _ _ hL.symm a,b.step fun b o c e=>k b o (fun z=>nc o (z▸e) c) e⟩)
theorem a2w{h:Heap}{L:Addr}{m:Str→Option Value}(hn:h.Ns L m):∀o,h.get? L=some o→¬B5 o:=fun o e ⟨vs,q,t,e1,_⟩=>by
  obtain ⟨o₂,es,ep,a1,a2,_⟩:=hn
  exact a6e (odd rfl e a1 e1 a2)
theorem a9u{h:Heap}{L:Addr}{v:Option Value}(hn:h.IsCell L v):∀o,h.get? L=some o→¬B5 o:=fun o e ⟨vs,q,t,e1,_⟩=>by
  obtain ⟨o₂,a1,a2⟩:=hn
  exact b2z (odd rfl e a1 e1 a2)
section
variable{w:World}{mg mb:Str→Option Value}{g:Heap}{t:i8}{wd ad ae an:Addr}
noncomputable def TA(F: @Fm (t.d8 g))(ρ:b9)(s:Shared):Prop:=(letI:=t.d8 g;JX F (fun a=>a∈t.G) ρ s)∧a6y K3 s.heap
structure a5z(ρ:b9)(w:World)(wd:Addr)(sc lsc:Scope)(lps:Arguments)(b:Expr)(ns:List Int)(outs:List PV):Prop where
  hx:sc.names.lookup ("many":Str)=some .cell
  hc1:∀n acc,cellsFrom n sc.names acc=(("many":Str),n)::acc
  hc2:∀h,pushCells h sc.names=h.push {cls:= .type "cell",data:= .cell none}
  hsk:sc.kind= .function
  hnames:∀x∈sc.names,x.2= .local→sc.names.lookup x.1=some .local
  hsh:sc.names.lookup ("_law_heard":Str)=some .globalImplicit
  hsf:∀y,(y,NameKind.free)∈lsc.names→y=("many":Str)∨((y,NameKind.free)∈sc.names∧(y=("yes":Str)∨y=("free":Str)∨y=("both":Str)∨y=("world":Str)))
  hnd:(lsc.names.map (·.1)).Nodup
  c7r:(sc.names.map (·.1)).Nodup
  hsn:∀y,(y,NameKind.free)∈sc.names→y≠("many":Str)∧(y=("yes":Str)∨y=("free":Str)∨y=("both":Str)∨y=("world":Str))
  hlk:lsc.kind= .function
  hco:lsc.isCoroutine=false
  hgen:lsc.isGenerator=false
  hnc:∀x∈lsc.names,x.2≠ .cell
  hdef:∀env,defaultsOf lps env=([],[])
  hbind:∀clos pm c' ctv,bindArgs (kla_fn "<lambda>" K3 lps b lsc clos pm (.ref c') ctv) ⟨[],[]⟩=pure []
  few:ns.length≤10
  len:outs.length=ns.length
  c4g:∀(k:Nat) (n:Int) (d:PV),ns[k]?=some n→outs[k]?=some d→clean d=true∧∃ρl,a4o w wd b lsc ρl d∧∀y e,ρl.lookup y=some e→lsc.names.lookup y=some .free∧(y==(("__classdict__":Str):Str))=false∧((y=("many":Str)∧e= .val (.int n))∨(y≠("many":Str)∧ρ.lookup y=some e))
noncomputable def Fm.with(F: @Fm (t.d8 g))(C': @Cx (t.d8 g)): @Fm (t.d8 g):=
  letI:=t.d8 g
  {C:=C',A:=F.A,env:=F.env,k:=F.k,s₀:=F.s₀,X₀:=F.X₀,hA:=F.hA,hd:=F.hd,hu:=F.hu,hk:=F.hk,K6:=F.K6,M7:=F.M7,hX:=F.hX,hL:=F.hL,h₀:=F.h₀}
theorem JX.with:letI:=t.d8 g;∀ {F:Fm} {C':Cx} {X:Addr→Prop} {ρ:b9} {s:Shared} (no:∀(y:Str) xs,ρ.lookup y≠some (.own xs)) (hi:C'.inv s.heap) (j:JX F X ρ s),JX (F.with C') X ρ s:=by
  letI:=t.d8 g
  intro F C' X ρ s no hi j
  obtain ⟨i,a,b,e⟩:=j
  obtain ⟨ad,vo⟩:=i.vars
  exact ⟨⟨⟨i.base,hi,i.d8,i.sub,i.new⟩,i.ns,i.cell,i.apart,i.u9,i.s8,ad,vo.val,fun y xs e=>absurd e (no y xs),vo.apart⟩,a,b,⟨e.gens,e.os,e.drawn,e.le⟩⟩
noncomputable abbrev i8.at (t:i8) (ps:Array Value):i8:= {t with pin:=[(376,tabObj ps)]}
theorem i8.Ok.at{t:i8}(k:t.Ok)(ps:Array Value):(t.at ps).Ok:=⟨k.d1,fun p hp=>by exact b8 (List.mem_singleton.mp hp ..) rfl,k.d3⟩
theorem a8o(f:Frm w mg mb g t wd ad ae an):letI:=t.d8 g;∀ {F:Fm} {fs:List Env} {ρ:b9} (hCf:F.C=f.C) (o:Tof t wd F.A F.env fs ρ) {s:Shared} (ta:TA F ρ s) {sc lsc:Scope} {lps:Arguments} {b:Expr} {ns:List Int} {outs:List PV} (c:a5z ρ w wd sc lsc lps b ns outs)
    {its:List Expr} {np lpos cp xp tp pos cpos:Pos} {tk0:Nat} (hit:∀F':Fm,F'.env=F.env→Ev F' ρ (.Tuple its tk0 tp) fun d=>d= .tup (ns.map .int)) {use:Option (Value→Sem Unit)} {Qc E:Value→Shared→Prop} (hs:∀x,foldedSetIterable (.Tuple its tk0 tp) F.env x=pure x)
    (q:∀D C s' m',TA F ρ s'→s'.heap.Ns C m'→C≠F.env.locals→(∀(y:Str),F.env.cells.lookup y≠some C)→C∉t.G→F.s₀.heap.get? C=none→C≠D→Rep (fun a=>a∈t.G) s'.heap (.ref D) (.lst outs)→(∀v d,Rep (fun a=>a∈t.G) s.heap v d→Rep (fun a=>a∈t.G) s'.heap v d)→
      compPost (model prog w) F.A E use Qc (.ref D) C (.ok .next) s'),
    wpAny (model prog w) F.A (comprehension (.ListComp (.Call (.Name ("_law_heard":Str) np) [.Lambda lps b lsc lpos] [] cp) [⟨.Name ("many":Str) xp,.Tuple its tk0 tp,[],0⟩] sc pos) sc F.env cpos (newList []) false (eval (.Tuple its tk0 tp) F.env) use) Qc E s:=by
  letI:=t.d8 g
  intro F fs ρ hCf o s ta sc lsc lps b ns outs c its np lpos cp xp tp pos cpos tk0 hit use Qc E hs q
  have j:=ta.1
  have scell:∀y,(y,NameKind.free)∈sc.names→∃c,F.env.cells.lookup y=some c:=fun y hy=>by
    have key:∀d,ρ.lookup y=some (.val d)→F.env.kindOf y=some .cell→∃c,F.env.cells.lookup y=some c:=fun d e kd=>by
      obtain ⟨c,v,h1,_⟩:=j.1.c9x e kd;exact ⟨c,h1⟩
    rcases (c.hsn y hy).2 with rfl|rfl|rfl|rfl
    · exact key _ o.yes o.c8f
    · exact key _ o.free o.c1k
    · exact key _ o.both o.c2e
    · exact key _ o.world o.b7a
  obtain ⟨ps,hP,hcod⟩:=ta.2
  have iv:t.inv s.heap:=by have:=j.1.inv;rw [hCf] at this;exact this
  let Cp:Cx:=s9 f.x (t.at ps) f.hG (f.k.at ps).hp
  let Fp:Fm:=F.with Cp
  have ivp:(t.at ps).inv s.heap:=⟨iv.1,iv.2.1,fun p hp=>by rw [List.mem_singleton.mp hp];exact hP,iv.2.2.2⟩
  have jp:JX Fp (fun a=>a∈t.G) ρ s:=JX.with o.own ivp j
  refine wpAny_comprehension_free (use:=use) rfl hs (a0h scell) c.hsk c.hnames (hit Fp rfl _ s jp.1 _ _ fun v d s₁ e i₁ x1a r₁=>?_)
  subst e
  refine a5e (F:=Fp) r₁ (.inr rfl) fun I0 ax vs h₁ hne hI hax hX rl kp st=>?_
  have jp1:=jp.step i₁ x1a
  obtain ⟨m,hm⟩:=i₁.ns
  have iv1:(t.at ps).inv s₁.heap:=i₁.inv
  have iv1':t.inv s₁.heap:=⟨iv1.1,iv1.2.1,fun p hp=>(by rw [f.pin] at hp;cases hp),iv1.2.2.2⟩
  have hP1:s₁.heap.get? 376=some (tabObj ps):=iv1.2.2.1 _ (.head _)
  have j1a:JX F F.C.G ρ s₁:=by
    have:=JX.with (C':=F.C) o.own (by rw [hCf];exact iv1') jp1
    exact this
  have nc:∀a∈t.G,∀o,s.heap.get? a=some o→¬B5 o:=fun a ha o' e=>by
    simp only [i8.G,f.src,List.append_nil,List.mem_cons,List.mem_map] at ha
    rcases ha with rfl|rfl|⟨p,hp,rfl⟩
    · rw [hP] at e;cases e;exact TriplesOk.a3x hcod.ok
    · obtain ⟨ps2a,a1,a2⟩:=iv.2.1
      rw [a1] at e;cases e;exact TriplesOk.a3x a2
    · exact a2w (iv.2.2.2.1 p hp) o' e
  have hcod1:B0 s₁.heap K3 ps.toList:=hcod.step fun b o' cl e=>x1a.le b o' (fun z=>nc b z o' e cl) e
  have nL:F.env.locals∉t.G:=i₁.u9
  generalize K9:t.add F.env.locals m=t2
  have hLG:∀a,a∈t2.G↔a=F.env.locals∨a∈t.G:=fun a=>K9▸i8.b5e
  have hot1:∀a∈t2.G,∃o,s₁.heap.get? a=some o:=fun a ha=>((hLG a).mp ha).elim (fun z=>z▸Heap.Ns.ex hm) (i₁.d8 a)
  have hp2:∀p∈t2.pin,p.1∈t2.G:=fun p hp=>by rw [← K9,show (t.add F.env.locals m).pin=t.pin from rfl,f.pin] at hp;cases hp
  have iv2:t2.inv s₁.heap:=by
    rw [← K9]
    exact ⟨iv1'.1,iv1'.2.1,iv1'.2.2.1,fun p hp=>(List.mem_cons.mp hp).elim (fun z=>by rw [z];exact hm) (iv1'.2.2.2.1 p),iv1'.2.2.2.2⟩
  have haxL:ax≠F.env.locals:=fun z=>by
    obtain ⟨oa,na,e1,e2⟩:=hax
    exact a0b hm e1 e2 z
  have hlenv:vs.length=ns.length:=by rw [rl.1,List.length_map]
  have few:=c.few
  refine b7s (G:=fun a=>a∈t2.G) (Hs:=fun a=>a∈t2.G) (fun O z=>z) (vals:=vs) (outs:=outs) (Ξ:=Xi t2 K3 s₁) c.hx c.hc1 c.hc2 c.hsk kp hne hI ((by obtain ⟨o,n,e,_⟩:=hax;exact ⟨o,e⟩)) (fun z=>((hLG ax).mp z).elim haxL hX) st (by rw [hlenv];exact Nat.le_trans few (by decide)) (by rw [c.len,hlenv]) F.hA
    (Xi.step hp2 hot1) ⟨rfl,rfl,rfl,fun O O O e=>e,iv2,ps,hP1,hcod1⟩ hot1 (fun k v d s' L K D hv hd ξ hK hD hKD hDl hcK Q E qq=>?_) fun D C s' us m' ξ hD hC hDC hnC pl rl'=>?_
  · have hk:k<ns.length:=by rw [← hlenv];exact (List.getElem?_eq_some_iff.mp hv).1
    have hnk:ns[k]?=some ns[k]:=List.getElem?_eq_getElem hk
    clear hLG hot1 hp2 iv2;obtain ⟨tk,rfl⟩:=(rl.2 k v (.int ns[k]) hv (by rw [List.getElem?_map,hnk];rfl)).int_inv
    obtain ⟨hcl,ρl,c4g,hρ⟩:=c.c4g k ns[k] d hnk hd
    subst K9
    exact b6q f hCf o j1a hm ξ hK hD hKD hDl hcK c.hsk c.hsh c.hsf c.hnd c.c7r c.hsn c.hlk c.hco c.hgen c.hnc c.hdef c.hbind hρ c4g hcl qq
  · have hm':s'.heap.Ns F.env.locals m:=ξ.inv.2.2.2.1 (F.env.locals,m) (by rw [← K9];exact .head _)
    have hotG:∀a,a∈t.G→a∈t2.G:=fun a z=>(hLG a).mpr (.inr z)
    have hot2:∀a∈t2.G,∃o,s'.heap.get? a=some o:=fun a=>i8.c6e ξ.inv
    have j':JX F F.C.G ρ s':=JX.back (t:=t2) (qual:=K3) o.own hLG hm hm' (fun iv=>by
      rw [hCf]
      refine ⟨iv.1,iv.2.1,fun p hp=>(by rw [f.pin] at hp;cases hp),fun p hp=>iv.2.2.2.1 p (by rw [← K9];exact .tail _ hp),fun a ha=>(by rw [f.src] at ha;cases ha)⟩) hot2 j1a ξ
    have old:∀ {a b:Addr},s₁.heap.get? a=none→(∃o,s₁.heap.get? b=some o)→b≠a:=(fun {a b} e z1 q=>by obtain ⟨o,ho⟩:=z1;exact g7 q e ho)
    refine q D C s' m' ⟨j',ξ.codes⟩ hnC (old hC (Heap.Ns.ex hm)).symm (fun y hy=>?_) (fun z=>old hC (hot1 C (hotG C z)) rfl) (j1a.fresh hC).2 hDC.symm (Rep.c1x pl (fun z=>old hD (hot1 D (hotG D z)) rfl) (rl'.sub fun a z=> .inl (hotG a z))) fun v d r=>?_
    · obtain ⟨u,oc,hoc,_⟩:=j1a.1.cell y C hy
      exact n9 hC hoc
    · have r₁:Rep (fun a=>a∈t.G) s₁.heap v d:=r.le x1a.le
      exact r₁.hop (L:=F.env.locals) (fun b o' n n' e=>ξ.keep b o' (fun z=>((hLG b).mp z).elim n' n) e) (fun o' us n ho hd=>a0b hm ho hd rfl) fun b z=> .inl z
end
end
section
variable [HH:u7]
noncomputable def Raw(F:Fm)(Q:Flow→Shared→Prop)(E:Value→Shared→Prop)(ρ:b9)(ss:List Stmt):Prop:=∀X s,JX F X ρ s→wpAny (model F.C.prog F.C.w) F.A (execs ss F.env) Q E s
theorem b6g(env:Env)(b:List Stmt):∀a:List Stmt,execs (a++b) env=execs a env>>=fun f=>match f with| .next=>execs b env|f=>pure f:=by
  intro LL
  induction LL with
  | nil=>
    refine b8 (execs_nil ..) (b8 (pure_bind ..) ?_);rfl
  | cons st a ih=>
    refine b8 (List.cons_append ..) (b8 (execs_cons ..) (b8 (execs_cons ..) (b8 (bind_assoc ..) ?_)))
    congr 1;funext f
    cases f <;> first|exact ih|exact (pure_bind _ _).symm
theorem Raw.split{F:Fm}{Q:Flow→Shared→Prop}{E:Value→Shared→Prop}{ρ:b9}{a b:List Stmt}(h:A0 F ρ a (fun ρ'=>Raw F Q E ρ' b) fun O=>False):Raw F Q E ρ (a++b):=fun X s j=>by
  refine b8 (b6g ..) ?_
  exact wpAny_bind (h X s j _ _ (fun ρ' s' X' p j' O O=>p X' s' j') fun O O O p O=>p.elim)
noncomputable def d0k(W:PV)(ds:List PV)(P:PV→Prop):Prop:=∃n,n≤6∧TBy W m8 n ds P
noncomputable def c0i(W:PV)(ds:List PV)(P:PV→Prop):Prop:=∃n,n≤6∧a7d W m8 A4 n ds P
theorem a5k{W:PV}{t:Ty}{P:PV→Prop}(n:Nat)(ts:List Ty)(rows:List Row)(r:Option (List c7))(hr:Ea (r9 (t::ts)) rows)(h:(decide (n≤6)&&(decide (B7 ts<n)&&(decide (l6 rows≤30)&&decide (B7 (t::ts)≤100))))=true)(e:A3 A4 (leftOut m8 A4 n) t ts rows=r)(k:P (a3l r)):
    c0i W [A5 rows,.lst ((t::ts).map Ty.pv),W,.int n] P:=by
  simp only [Bool.and_eq_true,decide_eq_true_eq] at h
  obtain ⟨h1,h2,h4,h5⟩:=h
  exact ⟨n,h1,t,ts,rows,n,rfl,⟨hr.all,Nat.le_trans h4 (by decide),fun O=>h4,h5⟩,h2,by lia,e▸k⟩
theorem c3t{W:PV}{t:Ty}{P:PV→Prop}(n:Nat)(m:Int)(ts:List Ty)(rows:List Row)(one:Row)(b:Bool)(hr:Ea (D5 t ts) rows)(ho:D5 t ts one)(h:(decide (n≤6)&&(decide (L7 t+B7 ts≤n)&&(decide (l6 rows+g9 one≤30)&&(decide (B7 (t::ts)≤100)&&decide ((n:Int)≤m+1)))))=true)
    (e:a0x m8 (z0 m8 n) t ts rows one=b) (k:P (.bool b)):d0k W [A5 rows,m6 one,.lst ((t::ts).map Ty.pv),W,.int m] P:=by
  simp only [Bool.and_eq_true,decide_eq_true_eq] at h
  obtain ⟨h1,h2,h6,h7,h8⟩:=h
  exact ⟨n,h1,t,ts,rows,one,m,rfl,⟨fun r m=>(hr.all r m).row,ho.row,Nat.le_trans h6 (by decide),fun O=>h6,h7⟩,hr.all,ho,h2,h8,e▸k⟩
noncomputable def c8p:List (Str×PV):=[("_law_bool",Ty.bool.pv),("_law_none",Ty.none.pv)]
theorem b4e{F:Fm}{W:PV}(o:Of F (r7 (i9 65)))(hg:a7v F.C c8p)(hl:C9 F [("is_useful_by_parts",d0k W),("left_out_wild",c0i W)]){Q:Flow→Shared→Prop}{E:Value→Shared→Prop}
    (n:Raw F Q E [(("both":Str),.val (.lst [Ty.bool.pv,Ty.bool.pv])),(("free":Str),.val (c7.i7 .bool).pv),(("yes":Str),.val (c7.cb true).pv),(("no":Str),.val (c7.cb false).pv),(("world":Str),.val W)] ((B4 (i9 65)).drop 9)):Raw F Q E (binds ["world"] [W]) (B4 (i9 65)):=by
  show Raw F Q E _ ((B4 (i9 65)).take 9++(B4 (i9 65)).drop 9)
  refine Raw.split (A0.wp ((o.kx _ hl).with _ hg) (Stop.on rfl (Ex.c1l (Ev.wp ((o.kx _ hl).with _ hg) (Stop.on rfl ⟨(c7.cb false).pv,(c7.cb true).pv,(c7.i7 .bool).pv,rfl,Stop.on rfl ?_⟩)) (o.loc rfl) (o.I7 rfl) (o.I7 rfl) rfl (c2p (o.kind rfl)))))
  refine a5k 1 [] [] (some [.i7 .bool]) trivial rfl rfl (Stop.on rfl ?_)
  refine a5k 1 [] [[.i7 .bool]] none ⟨⟨trivial,trivial⟩,trivial⟩ rfl rfl (Stop.on rfl ?_)
  refine a5k 1 [] [] none trivial rfl rfl (Stop.on rfl (a5k (t:= .never) 1 [] [] none trivial rfl rfl (Stop.on rfl ?_)))
  refine a5k 2 [.bool] [[.i7 .bool,.cb false]] (some [.i7 .bool,.cb true]) ⟨⟨trivial,rfl,trivial⟩,trivial⟩ rfl rfl (Stop.on rfl ?_)
  refine c3t 1 0 [] [[.cb true]] [.cb false] true ⟨⟨rfl,trivial⟩,trivial⟩ ⟨rfl,trivial⟩ rfl rfl (Stop.on rfl ?_)
  refine c3t 1 0 [] [[.cb true],[.cb false]] [.i7 .bool] false ⟨⟨rfl,trivial⟩,⟨rfl,trivial⟩,trivial⟩ ⟨trivial,trivial⟩ rfl rfl (Stop.on rfl ?_)
  refine c3t 2 2 [.bool] [[.i7 .bool,.cb true]] [.cb true,.i7 .bool] true ⟨⟨trivial,rfl,trivial⟩,trivial⟩ ⟨rfl,trivial,trivial⟩ rfl rfl (Stop.on rfl ?_)
  exact n
theorem b6c{lps:Arguments}(h:lps= {posonlyargs:=[],args:=[],vararg:=none,kwonlyargs:=[],kw_defaults:=[],kwarg:=none,defaults:=[]}):(∀env,defaultsOf lps env=([],[]))∧∀b lsc clos pm c' ctv,bindArgs (kla_fn "<lambda>" K3 lps b lsc clos pm (.ref c') ctv) ⟨[],[]⟩=pure []:=by
  subst h
  exact ⟨fun O=>rfl,fun O O O O O O=>rfl⟩
theorem b0o{α β:Type}{P:α→β→Prop}{a b:α}{c d:β}(h0:P a c)(h1:P b d)(k:Nat)(n:α)(e:β)(hn:[a,b][k]?=some n)(he:[c,d][k]?=some e):P n e:=by
  match k with
  |0=>cases hn;cases he;exact h0
  |1=>cases hn;cases he;exact h1
  |_+2=>exact l8 hn
theorem seen{ρ:b9}{names:List (Str×NameKind)}{n:Int}{l:b9}(hm:names.lookup ("many":Str)=some .free)(hl:∀x∈l,names.lookup x.1=some .free∧(x.1==("__classdict__":Str))=false∧x.1≠("many":Str)∧ρ.lookup x.1=some x.2)(y:Str)(e:Ent)
    (h:List.lookup y ((("many":Str),Ent.val (.int n))::l)=some e):names.lookup y=some .free∧(y==("__classdict__":Str))=false∧((y=("many":Str)∧e= .val (.int n))∨(y≠("many":Str)∧ρ.lookup y=some e)):=by
  rcases List.mem_cons.mp (mem_of_lookup h) with q|q
  · clear h;cases q;exact ⟨hm,by decide,.inl ⟨rfl,rfl⟩⟩
  · obtain ⟨a,b,c,d⟩:=hl _ q
    exact ⟨a,b,.inr ⟨c,d⟩⟩
noncomputable abbrev noArgs:Arguments:= {posonlyargs:=[],args:=[],vararg:=none,kwonlyargs:=[],kw_defaults:=[],kwarg:=none,defaults:=[]}
noncomputable abbrev fsc (names:List (Str×NameKind)):Scope:= {kind:= .function,names:=names,isGenerator:=false,isCoroutine:=false,more:=[]}
noncomputable def Kx.bare(F:Fm):Kx F where
  kd:=fun O=>none
  fn:=fun O=>none
  c5q:=fun O O h=>nomatch h
  b8f:=fun O h=>h.elim (fun h=>nomatch h) fun h=>nomatch h
  c4x:=fun O O h=>nomatch h
  c4w:=a1w
  gv:=fun O=>none
  c4h:=fun O O h=>nomatch h
theorem a3m{env:Env}{sc:Scope}(h:env.scope=sc){x:Str}{k:Option NameKind}(e:sc.names.lookup x=k):env.kindOf x=k:=by subst h;exact e
section
variable{w:World}{wd:Addr}{ρ:b9}{p1 p2 p3 p4 p5 p6 p7 p8 p9:Pos}{k1:Nat}
theorem c5f{lsc:Scope}(e:lsc=fsc [("both",.free),("free",.free),("many",.free),("world",.free),("yes",.free),("is_useful_by_parts",.globalImplicit)])(n:Int)(d:PV)(hn:n=0∧d= .str "fault"∨n=1∧d= .bool true):
    a4o w wd (.Call (.Name "is_useful_by_parts" p1) [.List [] p2,.Tuple [.Name "yes" p3,.Name "free" p4] k1 p5,.Name "both" p6,.Name "world" p7,.Name "many" p8] [] p9) lsc [(("many":Str),.val (.int n)),(("yes":Str),.val (c7.cb true).pv),(("free":Str),.val (c7.i7 .bool).pv),(("both":Str),.val (.lst [Ty.bool.pv,Ty.bool.pv])),(("world":Str),.val (.z8 (.ref wd)))] d:=by
  intro H C R K5 rk J8
  subst e
  rcases hn with ⟨rfl,rfl⟩|⟨rfl,rfl⟩
  · refine .inr ⟨fun F hC hk hs fs f=>?_,rfl⟩
    clear K5 rk;subst hC
    exact M3.call f _ J8.by_ (by lia) (E7.wp (Kx.bare F) (Stop.on rfl rfl)) (a3m hs rfl)
  · refine .inl fun F hC hk hs=>?_
    clear rk J8;subst hC
    exact Ev.call _ (K5.by_ 2 (by decide)) (by lia) (E7.wp (T:=fun ds=>TBy _ m8 2 ds _) (Kx.bare F) (Stop.on rfl ⟨.bool,[.bool],[],[.cb true,.i7 .bool],1,rfl,⟨nofun,⟨rfl,trivial,trivial⟩,by decide,fun O=>by decide,by decide⟩,nofun,⟨rfl,trivial,trivial⟩,by decide,by decide,rfl⟩)) (a3m hs rfl)
theorem c5m{lsc:Scope}(e:lsc=fsc [("both",.free),("many",.free),("world",.free),("left_out_wild",.globalImplicit)])(n:Int)(d:PV)(hn:n=0∧d= .str "fault"∨n=1∧d= .lst [(c7.i7 .bool).pv,(c7.i7 .bool).pv]):
    a4o w wd (.Call (.Name "left_out_wild" p1) [.List [] p2,.Name "both" p6,.Name "world" p7,.Name "many" p8] [] p9) lsc [(("many":Str),.val (.int n)),(("both":Str),.val (.lst [Ty.bool.pv,Ty.bool.pv])),(("world":Str),.val (.z8 (.ref wd)))] d:=by
  intro H C R K5 rk J8
  subst e
  rcases hn with ⟨rfl,rfl⟩|⟨rfl,rfl⟩
  · refine .inr ⟨fun F hC hk hs fs f=>?_,rfl⟩
    clear K5 rk;subst hC
    exact M3.call f _ J8.i7 (by lia) (E7.wp (Kx.bare F) (Stop.on rfl rfl)) (a3m hs rfl)
  · refine .inl fun F hC hk hs=>?_
    clear rk J8;subst hC
    exact Ev.call _ (K5.i7 2 (by decide)) (by lia) (E7.wp (T:=fun ds=>a7d _ m8 A4 2 ds _) (Kx.bare F) (Stop.on rfl ⟨.bool,[.bool],[],1,rfl,⟨fun r h=>(by cases h),by decide,fun O=>by decide,by decide⟩,by decide,by decide,rfl⟩)) (a3m hs rfl)
theorem b7c{lsc:Scope}(e:lsc=fsc [("many",.free),("want_columns",.globalImplicit)])(n:Int)(d:PV)(hn:n<1∧d= .str "fault"∨1≤n∧d= .none):
    a4o w wd (.Call (.Name "want_columns" p1) [.Name "many" p8] [] p9) lsc [(("many":Str),.val (.int n))] d:=by
  intro H C R K5 rk J8
  subst e
  rcases hn with ⟨hn,rfl⟩|⟨hn,rfl⟩
  · refine .inr ⟨fun F hC hk hs fs f=>?_,rfl⟩
    clear K5 rk;subst hC
    exact M3.call f _ J8.want (by lia) (E7.wp (Kx.bare F) (Stop.on rfl ⟨n,rfl,hn⟩)) (a3m hs rfl)
  · refine .inl fun F hC hk hs=>?_
    clear rk J8;subst hC
    exact Ev.call _ K5.want (by lia) (E7.wp (T:=fun ds=>G2 ds _) (Kx.bare F) (Stop.on rfl ⟨n,rfl,hn,rfl⟩)) (a3m hs rfl)
theorem c6x(h1:ρ.lookup ("yes":Str)=some (.val (c7.cb true).pv))(h2:ρ.lookup ("free":Str)=some (.val (c7.i7 .bool).pv))(h3:ρ.lookup ("both":Str)=some (.val (.lst [Ty.bool.pv,Ty.bool.pv])))(h4:ρ.lookup ("world":Str)=some (.val (.z8 (.ref wd)))):
    a5z ρ w wd (fsc [(".0",.local),("many",.cell),("_law_heard",.globalImplicit),("both",.free),("free",.free),("world",.free),("yes",.free)])
      (fsc [("both",.free),("free",.free),("many",.free),("world",.free),("yes",.free),("is_useful_by_parts",.globalImplicit)]) noArgs
      (.Call (.Name "is_useful_by_parts" p1) [.List [] p2,.Tuple [.Name "yes" p3,.Name "free" p4] k1 p5,.Name "both" p6,.Name "world" p7,.Name "many" p8] [] p9) [0,1] [.str "fault",.bool true]:=by
  have no:=b6c (lps:=_) rfl
  have sn:∀n,_:=fun n=>seen (ρ:=ρ) (names:=[("both",.free),("free",.free),("many",.free),("world",.free),("yes",.free),("is_useful_by_parts",.globalImplicit)]) (n:=n) (l:=[(("yes":Str),.val (c7.cb true).pv),(("free":Str),.val (c7.i7 .bool).pv),(("both":Str),.val (.lst [Ty.bool.pv,Ty.bool.pv])),(("world":Str),.val (.z8 (.ref wd)))]) rfl
    (fun x hx=>by simp only [List.mem_cons,List.not_mem_nil,or_false] at hx;rcases hx with rfl|rfl|rfl|rfl <;> exact ⟨rfl,rfl,by dsimp only;decide,by assumption⟩)
  exact ⟨rfl,fun O O=>rfl,fun O=>rfl,rfl,by decide,rfl,fun y h=>(by decide:∀x∈[(("both":Str),NameKind.free),("free",.free),("many",.free),("world",.free),("yes",.free),("is_useful_by_parts",.globalImplicit)],x.2= .free→x.1=("many":Str)∨((x.1,NameKind.free)∈[((".0":Str),NameKind.local),("many",.cell),("_law_heard",.globalImplicit),("both",.free),("free",.free),("world",.free),("yes",.free)]∧(x.1=("yes":Str)∨x.1=("free":Str)∨x.1=("both":Str)∨x.1=("world":Str)))) _ h rfl,by decide,by decide,
    fun y h=>(by decide:∀x∈[((".0":Str),NameKind.local),("many",.cell),("_law_heard",.globalImplicit),("both",.free),("free",.free),("world",.free),("yes",.free)],x.2= .free→x.1≠("many":Str)∧(x.1=("yes":Str)∨x.1=("free":Str)∨x.1=("both":Str)∨x.1=("world":Str))) _ h rfl,rfl,rfl,rfl,by decide,no.1,no.2 _ _,by decide,rfl,
    b0o ⟨rfl,_,c5f rfl 0 _ (.inl ⟨rfl,rfl⟩),sn 0⟩ ⟨rfl,_,c5f rfl 1 _ (.inr ⟨rfl,rfl⟩),sn 1⟩⟩
theorem b8e(h3:ρ.lookup ("both":Str)=some (.val (.lst [Ty.bool.pv,Ty.bool.pv])))(h4:ρ.lookup ("world":Str)=some (.val (.z8 (.ref wd)))):
    a5z ρ w wd (fsc [(".0",.local),("many",.cell),("_law_heard",.globalImplicit),("both",.free),("world",.free)])
      (fsc [("both",.free),("many",.free),("world",.free),("left_out_wild",.globalImplicit)]) noArgs
      (.Call (.Name "left_out_wild" p1) [.List [] p2,.Name "both" p6,.Name "world" p7,.Name "many" p8] [] p9) [0,1] [.str "fault",.lst [(c7.i7 .bool).pv,(c7.i7 .bool).pv]]:=by
  have no:=b6c (lps:=_) rfl
  have sn:∀n,_:=fun n=>seen (ρ:=ρ) (names:=[("both",.free),("many",.free),("world",.free),("left_out_wild",.globalImplicit)]) (n:=n) (l:=[(("both":Str),.val (.lst [Ty.bool.pv,Ty.bool.pv])),(("world":Str),.val (.z8 (.ref wd)))]) rfl
    (fun x hx=>by simp only [List.mem_cons,List.not_mem_nil,or_false] at hx;rcases hx with rfl|rfl <;> exact ⟨rfl,rfl,by dsimp only;decide,by assumption⟩)
  exact ⟨rfl,fun O O=>rfl,fun O=>rfl,rfl,by decide,rfl,fun y h=>(by decide:∀x∈[(("both":Str),NameKind.free),("many",.free),("world",.free),("left_out_wild",.globalImplicit)],x.2= .free→x.1=("many":Str)∨((x.1,NameKind.free)∈[((".0":Str),NameKind.local),("many",.cell),("_law_heard",.globalImplicit),("both",.free),("world",.free)]∧(x.1=("yes":Str)∨x.1=("free":Str)∨x.1=("both":Str)∨x.1=("world":Str)))) _ h rfl,by decide,by decide,
    fun y h=>(by decide:∀x∈[((".0":Str),NameKind.local),("many",.cell),("_law_heard",.globalImplicit),("both",.free),("world",.free)],x.2= .free→x.1≠("many":Str)∧(x.1=("yes":Str)∨x.1=("free":Str)∨x.1=("both":Str)∨x.1=("world":Str))) _ h rfl,rfl,rfl,rfl,by decide,no.1,no.2 _ _,by decide,rfl,
    b0o ⟨rfl,_,c5m rfl 0 _ (.inl ⟨rfl,rfl⟩),sn 0⟩ ⟨rfl,_,c5m rfl 1 _ (.inr ⟨rfl,rfl⟩),sn 1⟩⟩
theorem b4f{α β:Type}{P:α→β→Prop}{a b a' b':α}{c d c' d':β}(h0:P a c)(h1:P b d)(h2:P a' c')(h3:P b' d')(k:Nat)(n:α)(e:β)(hn:[a,b,a',b'][k]?=some n)(he:[c,d,c',d'][k]?=some e):P n e:=by
  match k with
  |0=>cases hn;cases he;exact h0
  |1=>cases hn;cases he;exact h1
  |2=>cases hn;cases he;exact h2
  |3=>cases hn;cases he;exact h3
  |_+4=>exact l8 hn
theorem c2g:a5z ρ w wd (fsc [(".0",.local),("many",.cell),("_law_heard",.globalImplicit)]) (fsc [("many",.free),("want_columns",.globalImplicit)]) noArgs (.Call (.Name "want_columns" p1) [.Name "many" p8] [] p9) [-1,0,1,330] [.str "fault",.str "fault",.none,.none]:=by
  have no:=b6c (lps:=_) rfl
  have sn:∀n,_:=fun n=>seen (ρ:=ρ) (names:=[("many",.free),("want_columns",.globalImplicit)]) (n:=n) (l:=[]) rfl (fun x hx=>by cases hx)
  exact ⟨rfl,fun O O=>rfl,fun O=>rfl,rfl,by decide,rfl,fun y h=>(by decide:∀x∈[(("many":Str),NameKind.free),("want_columns",.globalImplicit)],x.2= .free→x.1=("many":Str)∨((x.1,NameKind.free)∈[((".0":Str),NameKind.local),("many",.cell),("_law_heard",.globalImplicit)]∧(x.1=("yes":Str)∨x.1=("free":Str)∨x.1=("both":Str)∨x.1=("world":Str)))) _ h rfl,by decide,by decide,
    fun y h=>(by decide:∀x∈[((".0":Str),NameKind.local),("many",.cell),("_law_heard",.globalImplicit)],x.2= .free→x.1≠("many":Str)∧(x.1=("yes":Str)∨x.1=("free":Str)∨x.1=("both":Str)∨x.1=("world":Str))) _ h rfl,rfl,rfl,rfl,by decide,no.1,no.2 _ _,by decide,rfl,
    b4f ⟨rfl,_,b7c rfl (-1) _ (.inl ⟨by decide,rfl⟩),sn (-1)⟩ ⟨rfl,_,b7c rfl 0 _ (.inl ⟨by decide,rfl⟩),sn 0⟩ ⟨rfl,_,b7c rfl 1 _ (.inr ⟨by decide,rfl⟩),sn 1⟩ ⟨rfl,_,b7c rfl 330 _ (.inr ⟨by decide,rfl⟩),sn 330⟩⟩
end
end
section
open PySem.Calls
section
variable{w:World}{mg mb:Str→Option Value}{g:Heap}{t:i8}{wd ad ae an:Addr}
theorem JX.shrink:letI:=t.d8 g;∀ {F:Fm} {C':Cx} {X:Addr→Prop} {ρ:b9} {s:Shared} (no:∀(y:Str) xs,ρ.lookup y≠some (.own xs)) (hX:F.X₀=fun a=>a∈t.G) (hi:C'.inv s.heap) (j:JX F X ρ s),JX (F.with C') (fun a=>a∈t.G) ρ s:=by
  letI:=t.d8 g
  intro F C' X ρ s no hX hi j
  obtain ⟨i,a,b,e⟩:=j
  obtain ⟨ad,vo⟩:=i.vars
  exact ⟨⟨⟨i.base,hi,fun a z=>i.d8 a (i.sub a z),fun O z=>z,fun a z=> .inl z⟩,i.ns,i.cell,i.apart,fun z=>i.u9 (i.sub _ z),fun y c hc z=>i.s8 y c hc (i.sub _ z),ad,fun y d q=>(by obtain ⟨v,h1,h2⟩:=vo.val y d q;exact ⟨v,h1,h2.sub fun a z=>i.sub a z⟩),fun y xs e=>absurd e (no y xs),fun y xs z ys q=>absurd q (no y xs)⟩,fun b z=>a b (i.sub b z),fun a z=>by rw [show (F.with C').X₀=F.X₀ from rfl,hX] at z;exact z,⟨e.gens,e.os,e.drawn,e.le⟩⟩
theorem TA.store:letI:=t.d8 g;∀ {F:Fm} {ρ:b9} {s:Shared} {y:Str} {v:Value} {d:PV} {h':Heap} {tk:Nat} {L:Addr} (ta:TA F ρ s) (r:Rep (fun a=>a∈t.G) s.heap v d) (z:C1 F s.heap h' y v L),TA F ((y,.val d)::ρ) {s with heap:=h',toks:=tk} :=by
  letI:=t.d8 g
  intro F ρ s y v d h' tk L ta r z
  obtain ⟨j,c⟩:=ta
  have nL:=z.off j.1
  refine ⟨j.store (n:= .val d) r z,c.turn (fun b o n e=>(z.same.2 b n).trans e) (fun q=>nL (q▸ .head _)) ?_⟩
  clear nL;rcases z.which with rfl|⟨x,e⟩
  · obtain ⟨m,hm⟩:=j.1.ns;exact a2w hm
  · obtain ⟨u,hu⟩:=j.1.cell x L e;exact a9u hu
theorem TA.free:letI:=t.d8 g;∀ {F:Fm} {ρ:b9} {s:Shared} {C:Addr} {m:Str→Option Value} {h':Heap} (ta:TA F ρ s) (hm:s.heap.Ns C m) (hl:C≠F.env.locals) (hc:∀y:Str,F.env.cells.lookup y≠some C) (hG:C∉t.G) (hn:F.s₀.heap.get? C=none) (z:Heap.SameBut C s.heap h'),
    TA F ρ {s with heap:=h'} ∧∀v d,Rep (fun a=>a∈t.G) s.heap v d→Rep (fun a=>a∈t.G) h' v d:=by
  letI:=t.d8 g
  intro F ρ s C m h' ta hm hl hc hG hn z
  have mv:a8s (fun a=>a∈t.G) s.heap h' C:=⟨fun b o hb e=>(z.2 b hb).trans e,hG,fun o us n ho hd=>a0b hm ho hd rfl⟩
  exact ⟨⟨ta.1.moves (tk:=s.toks) hl hc hn mv,ta.2.turn (fun b o n e=>(z.2 b n).trans e) (fun q=>hG (q▸ .head _)) (a2w hm)⟩,fun v d r=>r.moves mv⟩
end
end
section
set_option backward.match.sparseCases true
variable [HH:u7]
section
variable{w:World}{mg mb:Str→Option Value}{g:Heap}{t:i8}{wd ad ae an:Addr}
theorem TA.pin(f:Frm w mg mb g t wd ad ae an):letI:=t.d8 g;∀ {F:Fm} {ρ:b9} {s:Shared} (hCf:F.C=f.C) (no:∀(y:Str) xs,ρ.lookup y≠some (.own xs)) (ta:TA F ρ s),
    ∃ps,JX (F.with (s9 f.x (t.at ps) f.hG (f.k.at ps).hp)) (fun a=>a∈t.G) ρ s∧∀s',I (F.with (s9 f.x (t.at ps) f.hG (f.k.at ps).hp)) (fun a=>a∈t.G) ρ s'→Ext (fun a=>a∈t.G) s s'→TA F ρ s':=by
  letI:=t.d8 g
  intro F ρ s hCf no ta
  have j:=ta.1
  obtain ⟨ps,hP,hcod⟩:=ta.2
  have iv:t.inv s.heap:=by have:=j.1.inv;rw [hCf] at this;exact this
  have jp:JX (F.with (s9 f.x (t.at ps) f.hG (f.k.at ps).hp)) (fun a=>a∈t.G) ρ s:=JX.with no ⟨iv.1,iv.2.1,fun p hp=>(by refine b8 (List.mem_singleton.mp hp ..) ?_;exact hP),iv.2.2.2⟩ j
  have nc:∀a∈t.G,∀o,s.heap.get? a=some o→¬B5 o:=fun a ha o' e=>by
    simp only [i8.G,f.src,List.append_nil,List.mem_cons,List.mem_map] at ha
    rcases ha with rfl|rfl|⟨p,hp,rfl⟩
    · rw [hP] at e;cases e;exact TriplesOk.a3x hcod.ok
    · obtain ⟨ps2a,a1,a2⟩:=iv.2.1
      rw [a1] at e;cases e;exact TriplesOk.a3x a2
    · exact a2w (iv.2.2.2.1 p hp) o' e
  refine ⟨ps,jp,fun s' i x=>⟨?_,ps,i.inv.2.2.1 _ (.head _),hcod.step fun b o' cl e=>x.le b o' (fun z=>nc b z o' e cl) e⟩⟩
  have iv1:(t.at ps).inv s'.heap:=i.inv
  have j1:=jp.step i x
  exact (JX.with (C':=F.C) no (by refine b8 (hCf ..) ?_;exact ⟨iv1.1,iv1.2.1,fun p hp=>(by rw [f.pin] at hp;cases hp),iv1.2.2.2⟩) j1:JX ((F.with _).with F.C) _ ρ s')
theorem told_set(f:Frm w mg mb g t wd ad ae an):letI:=t.d8 g;∀ {F:Fm} {fs:List Env} {ρ:b9} (hCf:F.C=f.C) (o:Tof t wd F.A F.env fs ρ) {s:Shared} (ta:TA F ρ s) {sc lsc:Scope} {lps:Arguments} {b:Expr} {ns:List Int} {outs:List PV} (c:a5z ρ w wd sc lsc lps b ns outs)
    {its:List Expr} {np lpos cp xp tp pos yp spos:Pos} {tk0:Nat} {y:Str} (hit:∀F':Fm,F'.env=F.env→Ev F' ρ (.Tuple its tk0 tp) fun d=>d= .tup (ns.map .int)) {Q:Flow→Shared→Prop} {E:Value→Shared→Prop} (hy:l5 F y)
    (hsw:swapsWith (.ListComp (.Call (.Name ("_law_heard":Str) np) [.Lambda lps b lsc lpos] [] cp) [⟨.Name ("many":Str) xp,.Tuple its tk0 tp,[],0⟩] sc pos) (some (.Name y yp)) spos.line F.env=pure true) (hs:∀x,foldedSetIterable (.Tuple its tk0 tp) F.env x=pure x)
    (q:∀s',TA F ((y,.val (.lst outs))::ρ) s'→Q .next s'),
    wpAny (model prog w) F.A (exec (.Assign [.Name y yp] (.ListComp (.Call (.Name ("_law_heard":Str) np) [.Lambda lps b lsc lpos] [] cp) [⟨.Name ("many":Str) xp,.Tuple its tk0 tp,[],0⟩] sc pos) spos) F.env) Q E s:=by
  letI:=t.d8 g
  intro F fs ρ hCf o s ta sc lsc lps b ns outs c its np lpos cp xp tp pos yp spos tk0 y hit Q E hy hsw hs q
  refine b8 (exec_Assign_Name_used _ _ _ _ hsw ..) ?_
  refine wpAny_bind (wpAny_standAt (wpAny_bind ?_))
  refine wpAny_bind (wpAny_mono (a8o (use:=some (PySem.assign (.Name y yp) F.env)) (Qc:=fun O s'=>Q .next s') f hCf o ta c hit hs fun D C s' m' ta' hm hl hc hG hn hCD r rr=>?_) (fun O s' hq=>wpAny_pure (wpAny_pure hq)) fun O O e=>e)
  refine wpAny_assign_Name (M:=model prog w) (?_:wpAny (model prog w) F.A (storeName F.env y (.ref D)) _ _ _)
  have sw:=k9 (E:=E) (v:= .ref D) (Q:=fun O s''=>∃m,s''.heap.Ns C m∧∀h',Heap.SameBut C s''.heap h'→Q .next {s'' with heap:=h'}) ta'.1.1 hy fun h₃ tk L z=>by
    have ta3:=TA.store (tk:=tk) ta' r z
    have LC:C≠L:=fun q=>by
      rcases z.which with e|⟨u,e⟩
      · exact hl (q.trans e)
      · exact hc u (q▸e)
    have hn3:h₃.Ns C m':=hm.at' fun o e=>(z.same.2 C LC).trans e
    exact ⟨m',hn3,fun h' hs'=>q _ (TA.free ta3 hn3 hl hc hG hn hs').1⟩
  rw [hCf] at sw
  exact sw
theorem b1d(f:Frm w mg mb g t wd ad ae an):letI:=t.d8 g;∀ {F:Fm} {fs:List Env} {ρ:b9} (hCf:F.C=f.C) (o:Tof t wd F.A F.env fs ρ) {s:Shared} (ta:TA F ρ s) {sc lsc:Scope} {lps:Arguments} {b:Expr} {ns:List Int} {outs l:List PV} (c:a5z ρ w wd sc lsc lps b ns outs)
    {its:List Expr} {np lpos cp xp tp pos yp spos np' bpos:Pos} {tk0:Nat} {y:Str} (hit:∀F':Fm,F'.env=F.env→Ev F' ρ (.Tuple its tk0 tp) fun d=>d= .tup (ns.map .int)) {Q:Flow→Shared→Prop} {E:Value→Shared→Prop} (hy:l5 F y) (hl:ρ.lookup y=some (.val (.lst l))) (hz:l.length+outs.length≤sizeLine)
    (hs:∀x,foldedSetIterable (.Tuple its tk0 tp) F.env x=pure x) (hd:(y==("__debug__":Str))=false)
    (q:∀s',TA F ((y,.val (.lst (l++outs)))::ρ) s'→Q .next s'),
    wpAny (model prog w) F.A (exec (.Assign [.Name y yp] (.BinOp (.Name y np') .Add (.ListComp (.Call (.Name ("_law_heard":Str) np) [.Lambda lps b lsc lpos] [] cp) [⟨.Name ("many":Str) xp,.Tuple its tk0 tp,[],0⟩] sc pos) bpos) spos) F.env) Q E s:=by
  letI:=t.d8 g
  intro F fs ρ hCf o s ta sc lsc lps b ns outs l c its np lpos cp xp tp pos yp spos np' bpos tk0 y hit Q E hy hl hz hs hd q
  obtain ⟨ad',vo⟩:=ta.1.1.vars
  obtain ⟨v,v1,v2⟩:=vo.val y _ hl
  refine wpAny_Assign_Name (wpAny_BinOp (wpAny_Name (t8 F.hk v1 ?_) hd)) rfl
  refine b8 (eval_ListComp ..) ?_
  refine a8o (use:=none) f hCf o ta c hit hs fun D C s' m' ta' hm hl hc hG hn hCD r rr=>⟨m',hm,fun h' hs'=>?_⟩
  obtain ⟨ta2,r₂⟩:=TA.free ta' hm hl hc hG hn hs'
  obtain ⟨ps,jp,back⟩:=TA.pin f hCf o.own ta2
  refine a8r (F:=F.with (s9 f.x (t.at ps) f.hG (f.k.at ps).hp)) jp.1 (r₂ _ _ (rr _ _ v2)) (r₂ _ _ r) (I5.c7w l outs hz) fun v3a s₃ i3a x3a r3a=>?_
  have ta3:=back s₃ i3a x3a
  have sw:=k9 (E:=E) (v:=v3a) (Q:=fun O s''=>Q .next s'') ta3.1.1 hy fun h₃ tk L z=>q _ (TA.store (tk:=tk) ta3 r3a z)
  rw [hCf] at sw
  exact sw
end
end
section
set_option backward.match.sparseCases true
variable [HH:u7]
section
variable{w:World}{mg mb:Str→Option Value}{g:Heap}{t:i8}{wd ad ae an:Addr}
theorem Tof.put{A:Around}{env:Env}{fs:List Env}{ρ:b9}{d:PV}(o:Tof t wd A env fs ρ):Tof t wd A env fs ((("told":Str),.val d)::ρ):=
  ⟨o.frames,o.frame,o.below,o.code,o.qual,o.room,o.units,fun y xs e=>by
      by_cases h:y="told"
      · subst h;rw [lookup_cons_self] at e;cases e
      · rw [c5 _ _ h] at e;exact o.own y xs e,
    (c5 _ _ (by decide)).trans o.yes,(c5 _ _ (by decide)).trans o.free,(c5 _ _ (by decide)).trans o.both,(c5 _ _ (by decide)).trans o.world,o.c8f,o.c1k,o.c2e,o.b7a⟩
theorem Ev.less{F:Fm}{e:Expr}{P:PV→Prop}{ρ ρ':b9}(h:Ev F ρ' e P)(c:∀y n,ρ'.lookup y=some n→ρ.lookup y=some n):Ev F ρ e P:=fun X s i Q E q=>h X s (i.less c) Q E fun v d s' p i' x r=>q v d s' p (i.ext (i'.after x)) x r
theorem b6j(f:Frm w mg mb g t wd ad ae an):letI:=t.d8 g;∀ {F:Fm} {fs:List Env} {ρ:b9} (hCf:F.C=f.C) (o:Tof t wd F.A F.env fs ρ) (hsc:Of F (r7 (i9 65))) {s:Shared} (ta:TA F ρ s) {Q:Flow→Shared→Prop} {E:Value→Shared→Prop}
    (q:∀s',After f.C F.s₀ s'→Q (.ret (.bool true)) s'),wpAny (model prog w) F.A (execs ((B4 (i9 65)).drop 9) F.env) Q E s:=by
  letI:=t.d8 g
  intro F fs ρ hCf o hsc s ta Q E q
  have st:l5 F ("told":Str):=hsc.loc rfl
  show wpAny (model prog w) F.A (execs (_::_::_::_::[]) F.env) _ _ _
  refine wpAny_execs_cons (told_set f hCf o ta (c6x o.yes o.free o.both o.world) (fun F' e=>?_) st (a1r (hsc.kind rfl) rfl rfl) (fun O=>rfl) fun s₁ ta1=>?_)
  · exact Ev.wp (Kx.bare F') (Stop.on rfl rfl)
  have o₁:=o.put (d:= .lst [.str "fault",.bool true])
  refine wpAny_execs_cons (b1d f hCf o₁ ta1 (b8e o₁.both o₁.world) (fun F' e=>?_) st (lookup_cons_self _ _ _) (by decide) (fun O=>rfl) (by decide) fun s₂ ta2=>?_)
  · exact Ev.wp (Kx.bare F') (Stop.on rfl rfl)
  have o₂:=o₁.put (d:= .lst [.str "fault",.bool true,.str "fault",.lst [(c7.i7 .bool).pv,(c7.i7 .bool).pv]])
  refine wpAny_execs_cons (b1d f hCf o₂ ta2 c2g (fun F' e=>?_) st (lookup_cons_self _ _ _) (by decide) (fun O=>rfl) (by decide) fun s₃ ta3=>?_)
  · exact Ev.wp (Kx.bare F') (Stop.on rfl rfl)
  have o₃:=o₂.put (d:= .lst [.str "fault",.bool true,.str "fault",.lst [(c7.i7 .bool).pv,(c7.i7 .bool).pv],.str "fault",.str "fault",.none,.none])
  obtain ⟨ps,jp,back⟩:=TA.pin f hCf o₃.own ta3
  have hlF:=o₃.free
  refine wpAny_execs_cons ((?_:Ex (F.with (s9 f.x (t.at ps) f.hG (f.k.at ps).hp)) _ _ (fun O=>False) fun d=>d= .bool true) _ s₃ jp _ _ (fun O O O p O O O=>p.elim) fun v d s₄ p dn=>?_)
  · exact Ex.ret (Ev.less (ρ':=[("told",.val (.lst [.str "fault",.bool true,.str "fault",.lst [(c7.i7 .bool).pv,(c7.i7 .bool).pv],.str "fault",.str "fault",.none,.none])),("free",.val (c7.i7 .bool).pv)]) (Ev.wp (Kx.bare _) (Stop.on rfl rfl)) fun y n e=>J2.le (J2.cons (lookup_cons_self _ _ _) (J2.cons (p:=("free",.val (c7.i7 .bool).pv)) hlF (show J2 [] _ from rfl))) e)
  · subst p
    obtain ⟨d1,d2⟩:=dn
    refine b8 (d2.bool_inv ..) ?_
    refine q s₄ ⟨d1.ext,?_,d1.d8⟩
    have iv:(t.at ps).inv s₄.heap:=d1.inv
    exact ⟨iv.1,iv.2.1,fun p hp=>(by rw [f.pin] at hp;cases hp),iv.2.2.2⟩
end
end
section
set_option backward.match.sparseCases true
open PySem.Calls
section
variable{w:World}{mg mb:Str→Option Value}{g:Heap}{t:i8}{wd ad ae an:Addr}
theorem d7.any{H:u7}{C: @Cx H}{k m:Nat}{x:Str}{T:Nat→List PV→(PV→Prop)→Prop}(h:∀n,n≤m→d7 C k x (T n)):d7 C k x fun ds P=>∃n,n≤m∧T n ds P:=by
  obtain ⟨a,o,fd,h1,h2,h3,h4,_⟩:=h 0 (Nat.zero_le _)
  refine ⟨a,o,fd,h1,h2,h3,h4,fun A X s vs ds P st hh hd hu r ⟨n,hn,t⟩ Q E q=>?_⟩
  obtain ⟨a',_,_,h1',_,_,_,c⟩:=h n hn
  rw [h1] at h1';cases h1'
  exact c A X s vs ds P st hh hd hu r t Q E q
theorem c3g(f:Frm w mg mb g t wd ad ae an):letI:=t.d8 g;∀ {A:Around} {s:Shared} {fs:List Env} (st:St f.C (fun a=>a∈t.G) s) (h376:s.heap.get? 376=some (tabObj #[])) (hh:A.handled=none) (hd:A.depth+100<recursionLimit) (hu:A.units+2000<cLine) (hfr:A.frames=some fs)
    (below:∀env∈fs,env.scope.kind≠ .module∧∃L,env.frame=some L∧L∈t.frs.map (·.1)) {Q E:Value→Shared→Prop} (q:∀s',After f.C s s'→Q (.bool true) s'),wpAny (model prog w) A (call (.ref 379) [.ref wd]) Q E s:=by
  letI:=t.d8 g
  intro A s fs st h376 hh hd hu hfr below Q E q
  have nG:∀ {a:Addr} {o:Obj},g.get? a=some o→a∉t.G:=fun e=>f.x.none f.hG e
  have hinv:∀h,(s9 f.x (t.at #[]) f.hG (f.k.at #[]).hp).inv h→(t.at #[]).inv h:=fun O z=>z
  have sup:=b6k f.x (f.k.at #[]) f.hG f.y
  have stp:St (s9 f.x (t.at #[]) f.hG (f.k.at #[]).hp) (fun a=>a∈t.G) s:=⟨st.base,⟨st.inv.1,st.inv.2.1,fun p hp=>(by refine b8 (List.mem_singleton.mp hp ..) ?_;exact h376),st.inv.2.2.2⟩,st.d8,st.sub,st.new⟩
  refine wpAny_call (a6u (C:=s9 f.x (t.at #[]) f.hG (f.k.at #[]).hp) (k:=64) (names:=["world"]) (ds:=[.z8 (.ref wd)]) (b0p f.x (t.at #[]) f.hG (f.k.at #[]).hp 40 65 "_law_told_right" 379 378 rfl) (plain1 rfl fun O O O O=>rfl) rfl
    stp hh (by lia) (by lia) (.cons (.z8 _ fun a e=>?_) .nil) rfl fun F q1 q2 o q4 q5 q6 q7 q8 q9 s' j=>?_)
  · obtain ⟨⟨ox,od,⟨hw,_⟩,_⟩,_⟩:=f.y
    exact .inr ⟨ox,by cases e;exact hw⟩
  have q4':F.env.code= .ref 378:=by
    obtain ⟨o',fd,e1,e2,e3⟩:=q4
    have e4:=f.x.X 379 (E0 65 "law_xw0167_01" 591 378 .none) rfl
    cases Option.some.inj (e4.symm.trans e1)
    exact e3.trans (b7n e2)
  have K5:=sup.K5
  have g1:=sup.g1
  have g6:=sup.g6
  have hC:=q1
  generalize hCp:s9 f.x (t.at #[]) f.hG (f.k.at #[]).hp=Cp at *
  clear sup stp q4 hC;subst q1
  have no:∀(y:Str) xs,List.lookup y [(("both":Str),Ent.val (.lst [Ty.bool.pv,Ty.bool.pv])),(("free":Str),.val (c7.i7 .bool).pv),(("yes":Str),.val (c7.cb true).pv),(("no":Str),.val (c7.cb false).pv),(("world":Str),.val (.z8 (.ref wd)))]≠some (.own xs):=fun y xs e=>by
    have:=mem_of_lookup e
    simp only [List.mem_cons,List.not_mem_nil,or_false,Prod.mk.injEq] at this
    rcases this with ⟨_,h⟩|⟨_,h⟩|⟨_,h⟩|⟨_,h⟩|⟨_,h⟩ <;> cases h
  have key:=fun Q E n=>b4e (F:=F) (W:= .z8 (.ref wd)) (Q:=Q) (E:=E) o ⟨g1,g6,trivial⟩ ⟨(d7.any K5.by_).mono (by lia),(d7.any K5.i7).mono (by lia),trivial⟩ n _ s' j
  have hpw:F.C.prog=prog∧F.C.w=w:=by refine C5 (hCp ..) ?_;exact ⟨rfl,rfl⟩
  refine key _ _ fun X s₁ j1a=>?_
  have iv:(t.at #[]).inv s₁.heap:=hinv _ j1a.1.inv
  have iv':t.inv s₁.heap:=⟨iv.1,iv.2.1,fun p hp=>(by rw [f.pin] at hp;cases hp),iv.2.2.2⟩
  refine b8 (hpw.1 ..) (b8 (hpw.2 ..) ?_)
  refine b6j f (F:=F.with f.C) rfl ⟨(by refine b8 (show (F.with f.C).A=F.A from rfl ..) (b8 (q5 ..) ?_);exact Around.frames_deeper hfr),q8,below,q4',q9.trans rfl,(by refine b8 (show (F.with f.C).A=F.A from rfl ..) (b8 (q5 ..) ?_);show A.depth+1+80<_;lia),(by refine b8 (show (F.with f.C).A=F.A from rfl ..) (b8 (q5 ..) ?_);show A.units+3+1000<_;lia),no,rfl,rfl,rfl,rfl,o.kind rfl,o.kind rfl,o.kind rfl,o.kind rfl⟩
    ⟨o.scope,o.cells⟩ ⟨JX.shrink no q7 iv' j1a,#[],iv.2.2.1 _ (.head _),.nil⟩ fun s₂ af=>?_
  rw [show (F.with f.C).s₀=F.s₀ from rfl,q6] at af
  exact q s₂ af
end
end
section
set_option backward.match.sparseCases true
variable [HH:u7]
theorem Ev.d1o{F:Fm}{ρ:b9}{P:PV→Prop}{e:Expr}{np pos:Pos}(h:Ev F ρ e fun d=>∃b:Bool,d= .bool b∧P (.int (if b then 1 else 0)))(hx:F.env.kindOf "int"=some .globalImplicit)
    (hs:starEach [e] F.env=[(false,eval e F.env)]:=by rfl):Ev F ρ (.Call (.Name "int" np) [e] [] pos) P:=fun X s i Q E q=>by
  refine G6 i (F.C.bi "int" (.type "int") (by simp)) hx (by decide) (callWith_type1 ?_ hs rfl)
  refine b8 (hs ..) ?_
  exact Calls.spliced_cons (h X s i _ _ fun v d s' ⟨b,hd,p⟩ i' x r=>Calls.spliced_nil (by
    subst hd
    cases r
    exact call_int_bool (q _ _ _ p (i'.tok _) (x.trans (Ext.tok' _ _)) (.int _ _))))
theorem b6s{C:Cx}{a:Addr}(fn:FnAt C "_law_pool" a (i9 46)){A:Around}{X:Addr→Prop}{s:Shared}{v:Value}{cs:List Int}(st:St C X s)(hh:A.handled=none)(hd:A.depth+20<recursionLimit)(hu:A.units+500<cLine)(hlen:cs.length≤1000)(r:Rep X s.heap v (.lst (cs.map .int))){Q E:Value→Shared→Prop}
    (q:∀src s' (i j:Int) ti tj,After C s s'→s.heap.get? src=none→s'.heap.PlainList src #[.int i ti,.int j tj]→0≤j→j<2147483647→Q (.ref src) s'):wpAny (model C.prog C.w) A (call (.ref a) [v]) Q E s:=by
  refine wpAny_call (a6u (k:=10) (names:=["script"]) (ds:=[.lst (cs.map .int)]) fn (plain1 rfl fun O O O O=>rfl) rfl
    st hh (by lia) (by lia) (.cons r .nil) rfl fun F q1 q2 o q4 q5 q6 q7 q8 q9 s₀ j0a=>?_)
  clear fn st r q4;subst q1
  have hz:(cs.map PV.int).length≤sizeLine:=by refine b8 (List.length_map ..) ?_;exact E1 (by lia)
  show wpAny _ _ (execs (_::_::_::[]) F.env) _ _ _
  refine wpAny_execs_cons ((?e1:Ex F (binds ["script"] [.lst (cs.map .int)]) _ (fun ρ=>∃c:Int,ρ=[(("cell":Str),Ent.val (.int c)),("script",.val (.lst (cs.map .int)))]) (fun O=>False)) _ _ j0a _ _ (fun ρ1 s₁ X1a n₁ j1a O O=>?_) (fun O O O f=>f.elim))
  case e1=>exact Ex.assign (Ev.wp (o.kx [] trivial) (Stop.le rfl hz (by cases cs <;> first|exact Stop.on rfl ⟨_,rfl⟩|exact Stop.both rfl (fun O=>Stop.on rfl ⟨_,rfl⟩) fun O=>Stop.on rfl ⟨_,rfl⟩))) (o.loc rfl)
  obtain ⟨c,rfl⟩:=n₁
  refine wpAny_execs_cons ((?e2:Ex F _ _ (fun ρ=>∃c g:Int,ρ=[(("great":Str),Ent.val (.int g)),("cell",.val (.int c)),("script",.val (.lst (cs.map .int)))]) (fun O=>False)) _ _ j1a _ _ (fun ρ2 s₂ X2a n2a j2a O O=>?_) (fun O O O f=>f.elim))
  case e2=>exact Ex.assign (Ev.wp (o.kx [] trivial) (Stop.on rfl ⟨_,_,rfl⟩)) (o.loc rfl)
  obtain ⟨c,great,rfl⟩:=n2a
  as_aux_lemma=>
  refine wpAny_execs_cons (wpAny_Return_some (wpAny_List_spliced ((?e3:E7 F _ _ fun ds=>∃i j:Int,ds=[.int i,.int j]∧0≤j∧j<2147483647) _ _ _ j2a.1 _ _ fun us ds s₃ p3a i3a x3a r3a=>?_)))
  case e3=>
    exact E7.wp (T:=fun ds=>∃i j:Int,ds=[.int i,.int j]∧0≤j∧j<2147483647) (o.kx [] trivial) (Stop.on rfl (Ev.d1o (Ev.wp (o.kx [] trivial) (Stop.on rfl ⟨_,I5.c9q _ _ (by decide) (by decide),Stop.on rfl ⟨_,rfl,Stop.on rfl ⟨_,I5.c6u _ _ (IntMulOk.of_right (by split <;> decide)),Stop.on rfl ⟨_,I5.c2f _ _ (by decide),Stop.on rfl ⟨_,I5.c6u _ _ (IntMulOk.of_right (by decide)),
      Stop.on rfl ⟨_,I5.c2f _ _ (by decide),Stop.on rfl ⟨_,_,rfl,Int.fmod_nonneg_of_pos _ (by decide),Int.fmod_lt_of_pos _ (by decide)⟩⟩⟩⟩⟩⟩⟩)) (o.kind rfl)))
  obtain ⟨i,j,rfl,hj⟩:=p3a
  obtain ⟨v1,_,rfl,r1,rl⟩:=r3a.cons_inv
  as_aux_lemma=>
  clear r3a;obtain ⟨v2,_,rfl,r2,rl⟩:=rl.cons_inv
  obtain rfl:=rl.nil_inv
  obtain ⟨t1,rfl⟩:=r1.int_inv
  obtain ⟨t2,rfl⟩:=r2.int_inv
  have af:=i3a.after (j2a.4.trans x3a)
  rw [q6] at af
  refine ⟨E1 (show 2≤_ by decide),q _ _ i j t1 t2 (af.grow (Ext.heap _ _ (Le.of (c8 _)))) ?_ ⟨0,Heap.get?_push_size _ rfl⟩ hj.1 hj.2⟩
  cases e:s.heap.get? s₃.heap.objs.size with
  |none=>rfl
  | some o=>
    by_cases g:F.C.G s₃.heap.objs.size
    · obtain ⟨o',e'⟩:=af.d8 _ g;rw [A8] at e';cases e'
    · have:=af.ext.le _ _ g e;rw [A8] at this;cases this
theorem Sup.rest{C:Cx}{W:PV}(u:Sup C W){src:Addr}(ok:a8x C src){F:Fm}(hF:F.C=C)(hk:61≤F.k)(o:Of F (r7 (i9 66))){ρ:b9}(h1:ρ.lookup ("source":Str)=some (.val (.z8 (.ref src))))(h2:ρ.lookup ("world":Str)=some (.val W)):
    A0 F ρ ((B4 (i9 66)).drop 3) (fun O=>False) (fun d=>d= .bool true):=by
  subst hF
  have K5:=u.K5
  have tk:=c3w ok (u.f 29 rfl) 0
  have one:=c4r (u.f 30 rfl) 1 tk
  have vals:=b5p (u.f 31 rfl) 0 u.g1 u.g2 u.g3 u.g4 u.g5
  have com:=a3z (u.f 32 rfl) (u.f 33 rfl) 0 4
  have all:=b2m (u.f 32 rfl) (u.f 33 rfl) 0 4
  have tru:=b8x u.g1 (u.f 34 rfl) 2 one
  have pla:=b8a u.g1 u.g2 u.g3 u.g4 (u.f 35 rfl) 3 (one.mono (by lia)) (tk.mono (by lia)) (vals.mono (by lia)) tru
  have any:=c4u (u.f 36 rfl) 4 (one.mono (by lia)) pla
  have use:=b4i (u.f 38 rfl) 10 (vals.mono (by lia)) all
  have lr:=a8u (u.f 39 rfl) 60 (vals.mono (by lia)) (com.mono (by lia)) (K5.i7 4 (by lia))
  exact b2x o h1 h2 ⟨u.g1,u.g2,u.g3,u.g4,u.g5,u.g6,trivial⟩ ⟨one.mono (by lia),tk.mono (by lia),pla.mono (by lia),any.mono (by lia),(K5.by_ 5 (by lia)).mono (by lia),use.mono (by lia),lr.mono (by lia),trivial⟩
end
section
set_option backward.match.sparseCases true
open PySem.Calls
noncomputable abbrev t0:i8:=⟨[],[],[]⟩
theorem t0.ok:t0.Ok:=⟨fun a h=>(nomatch h),fun a h=>(nomatch h),fun a h=>(nomatch h)⟩
noncomputable abbrev tF (L:Addr) (m:Str→Option Value):i8:=⟨[],[(L,m)],[]⟩
noncomputable abbrev tS (src:Addr):i8:=⟨[],[],[src]⟩
theorem c5n{w:World}{mg mb:Str→Option Value}{g:Heap}(x:Base w mg mb g){src:Addr}(k:(tS src).Ok)(hG:∀a∈(tS src).G,g.get? a=none)(h1:src≠376)(h2:src≠116):letI:=(tS src).d8 g;a8x (s9 x (tS src) hG k.hp) src:=by
  letI:=(tS src).d8 g
  exact {
    d8:= .tail _ (.tail _ (.head _))
    at_:=fun h i=>i.2.2.2.2 src (.head _)
    turn:=fun h h' i sa kk=>by
      obtain ⟨⟨p1,a1,a2⟩,⟨p2,b1,b2⟩,_,_,_⟩:=i
      exact ⟨⟨p1,kk _ _ (.head _) h1.symm a1,a2⟩,⟨p2,kk _ _ (.tail _ (.head _)) h2.symm b1,b2⟩,fun p q=>(nomatch q),fun p q=>(nomatch q),fun a q=>by refine b8 (List.mem_singleton.mp q ..) ?_;exact sa⟩}
theorem c8d{x a:Addr}{p:Addr→Prop}(h:a∈[x])(hx:p x):p a:=by cases List.mem_singleton.mp h;exact hx
theorem c7j{x y a:Addr}{p:Addr→Prop}(h:a∈[x,y])(hx:p x)(hy:p y):p a:=by
  rcases List.mem_cons.mp h with e|h
  · exact e▸hx
  · exact c8d h hy
theorem c7i{x y z a:Addr}{p:Addr→Prop}(h:a∈[x,y,z])(hx:p x)(hy:p y)(hz:p z):p a:=by
  rcases List.mem_cons.mp h with e|h
  · exact e▸hx
  · exact c7j h hy hz
theorem c6q{x y z a:Addr}{l:List Addr}{p:Addr→Prop}(h:a∈x::y::z::l)(hx:p x)(hy:p y)(hz:p z)(hl:∀b∈l,p b):p a:=
  List.forall_mem_cons.mpr ⟨hx,List.forall_mem_cons.mpr ⟨hy,List.forall_mem_cons.mpr ⟨hz,hl⟩⟩⟩ a h
theorem c1v [HH:u7]{x y:Str}{d e:Ent}(q:List.lookup y [(x,d)]=some e):y=x∧d=e:=by
  by_cases h:y=x
  · subst h;rw [lookup_cons_self] at q;exact ⟨rfl,Option.some.inj q⟩
  · rw [c5 _ _ h] at q;cases q
theorem x8.one [HH:u7]{F:Fm}{X:Addr→Prop}{x:Str}{d:PV}{v:Value}{h:Heap}{ad:Str→Addr}(a:j9 h F.env x v)(r:Rep X h v d):x8 F X [(x,.val d)] h ad:=
  ⟨fun y e q=>(by obtain ⟨rfl,z⟩:=c1v q;cases z;exact ⟨v,a,r⟩),fun y e q=>(nomatch (c1v q).2),fun y e y' e' q=>(nomatch (c1v q).2)⟩
theorem b7z{w:World}{mg mb:Str→Option Value}{g:Heap}(x:Base w mg mb g)(hG:∀a∈t0.G,g.get? a=none){A:Around}{s:Shared}{a:Addr}{cs:List Int}(base:∀b o,g.get? b=some o→s.heap.get? b=some o)
    (h376:s.heap.get? 376=some (tabObj #[])) (h116:s.heap.get? 116=some (tabObj #[])) (hh:A.handled=none) (hd:A.depth+300<recursionLimit) (hu:A.units+4000<cLine) (hfr:A.frames=some []) (hr:∀H:u7,@Rep H (fun a=>a∈t0.G) s.heap (.ref a) (.lst (cs.map .int))) (hlen:cs.length≤1000)
    {Rz:Result→Shared→Prop} (q:∀s',s'.os=s.os→s'.gens=s.gens→(∀b o,b∉t0.G→s.heap.get? b=some o→s'.heap.get? b=some o)→GrownAt 376 s'.heap→GrownAt 116 s'.heap→Rz (.ok (.ret (.bool true))) s'):
    codeAny (model prog w) A (.call (.ref 384) ⟨[.ref a],[]⟩) Rz s:=by
  letI:=t0.d8 g
  have FNL:FnAt (s9 x (t0.at #[]) hG (t0.ok.at #[]).hp) "law" 384 (i9 66):=n7 x (t0.at #[]) hG (t0.ok.at #[]).hp (by kernel_rfl) (show (t9 w.params).lookup 384=some (E0 66 "law_xw0167_01" 591 383 .none) from rfl) (by kernel_rfl) (by kernel_rfl)
  have nG:∀ {a:Addr} {o:Obj},g.get? a=some o→a∉t0.G:=fun e=>x.none hG e
  have st:St (s9 x (t0.at #[]) hG (t0.ok.at #[]).hp) (fun a=>a∈t0.G) s:=⟨fun b o O e=>base b o e,⟨⟨_,h376,trivial⟩,⟨_,h116,trivial⟩,fun p hp=>(by refine b8 (List.mem_singleton.mp hp ..) ?_;exact h376),fun p hp=>(nomatch hp),fun p hp=>(nomatch hp)⟩,
    fun a ha=>c7j (p:=fun a=>∃o,s.heap.get? a=some o) ha ⟨_,h376⟩ ⟨_,h116⟩,fun O z=>z,fun O z=> .inl z⟩
  refine a6u (C:=s9 x (t0.at #[]) hG (t0.ok.at #[]).hp) (k:=200) (names:=["script"]) (ds:=[.lst (cs.map .int)]) FNL (plain1 rfl fun O O O O=>rfl) rfl
    st hh (by lia) (by lia) (.cons (hr _) .nil) rfl fun F q1 q2 o q4 q5 q6 q7 q8 q9 s₀ j0a=>?_
  have hLW:(s9 x (t0.at #[]) hG (t0.ok.at #[]).hp).mg "_law_world"=some (.ref 321):=(x.at _).trans (by kernel_rfl)
  have hLT:(s9 x (t0.at #[]) hG (t0.ok.at #[]).hp).mg "_law_told_right"=some (.ref 379):=(x.at _).trans (by kernel_rfl)
  have hpw:(s9 x (t0.at #[]) hG (t0.ok.at #[]).hp).prog=prog∧(s9 x (t0.at #[]) hG (t0.ok.at #[]).hp).w=w:=⟨rfl,rfl⟩
  generalize hCp:s9 x (t0.at #[]) hG (t0.ok.at #[]).hp=Cp at *
  clear FNL q4;subst q1
  obtain ⟨hp1,hp2⟩:=hpw
  show wpAny _ _ (execs (_::_::_::((B4 (i9 66)).drop 3)) F.env) _ _ _
  have gl:g.get? F.env.locals=none:=by
    exact isNone fun o' e=>by have:=base _ _ e;have h:=F.hL;rw [q6,this] at h;cases h
  obtain ⟨m0a,hm0a⟩:=j0a.1.ns
  generalize hZc:(F.env.cells.map (·.2)).filter (fun c=>(F.s₀.heap.get? c).isNone&&(s₀.heap.get? c).isSome)=Zc
  have zc:∀c∈Zc,F.s₀.heap.get? c=none∧∃o,s₀.heap.get? c=some o:=fun c hc=>by
    rw [← hZc] at hc
    obtain ⟨_,h⟩:=List.mem_filter.mp hc
    simp only [Bool.and_eq_true,Option.isNone_iff_eq_none] at h
    exact ⟨h.1,Option.isSome_iff_exists.mp h.2⟩
  have cz:∀y c,F.env.cells.lookup y=some c→F.s₀.heap.get? c=none→c∈Zc:=fun y c hc hn=>by
    refine C5 (hZc ..) ?_
    obtain ⟨v,o',e,_⟩:=j0a.1.cell y c hc
    exact List.mem_filter.mpr ⟨List.mem_map.mpr ⟨_,mem_of_lookup hc,rfl⟩,by refine b8 (hn ..) (b8 (e ..) ?_);rfl⟩
  have newg:∀b,F.s₀.heap.get? b=none→g.get? b=none:=fun b e=>by
    exact isNone fun o' e'=>by rw [q6,base _ _ e'] at e;cases e
  generalize hZ:(376::116::F.env.locals::Zc:List Addr)=Z
  have Zg:∀b∈Z,g.get? b=none:=fun b hb=>by
    rw [← hZ] at hb
    exact c6q (p:=fun b=>g.get? b=none) hb (hG _ (.head _)) (hG _ (.tail _ (.head _))) gl fun b hb=>newg _ (zc _ hb).1
  have ZG:∀b∈t0.G,b∈Z:=fun b hb=>by
    refine C5 (hZ ..) ?_
    exact c7j (p:=fun b=>b∈376::116::F.env.locals::Zc) hb (.head _) (.tail _ (.head _))
  have ZL:F.env.locals∈Z:=by refine C5 (hZ ..) ?_;exact .tail _ (.tail _ (.head _))
  have Zex:∀b∈Z,∃o,s₀.heap.get? b=some o:=fun b hb=>by
    rw [← hZ] at hb
    exact c6q (p:=fun b=>∃o,s₀.heap.get? b=some o) hb (j0a.1.d8 _ (.head _)) (j0a.1.d8 _ (.tail _ (.head _))) (Heap.Ns.ex hm0a) fun b hb=>(zc _ hb).2
  have nLG:F.env.locals∉t0.G:=j0a.1.u9
  have st1a:St F.C (fun a=>a∈t0.G∨(g.get? a=none∧∃o,s₀.heap.get? a=some o)) s₀:=⟨j0a.1.base,j0a.1.inv,fun a z=>z.elim (j0a.1.d8 a) (·.2),fun a z=> .inl z,fun a z=>z.imp id (·.1)⟩
  have XZ:∀b∈Z,b∈t0.G∨(g.get? b=none∧∃o,s₀.heap.get? b=some o):=fun b hb=> .inr ⟨Zg b hb,Zex b hb⟩
  have inS:∀ {a:Addr} {o:Obj},(t9 w.params).lookup a=some o→s₀.heap.get? a=some o:=fun e=>j0a.1.base _ _ (nG (x.X _ _ e)) (x.X _ _ e)
  refine wpAny_execs_cons (wpAny_Assign_Name (wpAny_Call_NameR (a6v j0a.1 hLW (o.kind rfl) (by decide) (callWith_F0 ⟨_,_,_,_,inS (a:=321) rfl⟩ ?_))) rfl)
  refine b8 (hp1 ..) (b8 (hp2 ..) ?_)
  have hA5:F.A.depth=A.depth+1∧F.A.units=A.units+3∧F.A.frames=some [F.env]:=by refine b8 (q5 ..) ?_;exact ⟨rfl,rfl,Around.frames_deeper hfr⟩
  refine b8u x (t:=t0.at #[]) (t0.ok.at #[]) hG (by refine b8 (hCp ..) ?_;exact st1a) F.hA (by lia) (by lia) fun wd ad ae an s₁ af1 hw=>?_
  rw [hCp] at af1
  have i₁:=j0a.1.ext af1
  have j1a:=j0a.step i₁ af1.ext
  refine C5 (hp1 ..) (C5 (hp2 ..) ?_)
  refine k9 i₁ (o.loc rfl) fun h₂ tk2 Ls z=>?_
  have j2a:JX F (fun a=>a∈t0.G) ((("world":Str),.val .any)::binds ["script"] [.lst (cs.map .int)]) _:=j1a.store (tk:=tk2) (n:= .val .any) (Rep.any _) z
  generalize hs2a:(⟨h₂,s₁.gens,s₁.drawn,tk2,s₁.os⟩:Shared)=s₂ at *
  as_aux_lemma=>
  have LsZ:Ls∈Z:=by
    rcases z.which with e|⟨y,e⟩
    · exact e▸ZL
    · refine C5 (hZ ..) ?_;exact .tail _ (.tail _ (.tail _ (cz y Ls e z.new)))
  have vw2:j9 s₂.heap F.env "world" (.ref wd):=by refine C5 (hs2a ..) ?_;exact z.here
  have k12:∀b o,b∉Z→s₁.heap.get? b=some o→s₂.heap.get? b=some o:=fun b o n e=>by refine C5 (hs2a ..) ?_;exact (z.same.2 b fun q=>n (q▸LsZ)).trans e
  have y₁:=hw Z XZ
  have iv2a:(t0.at #[]).inv s₂.heap:=by have:=j2a.1.inv;rw [← hCp] at this;exact this
  obtain ⟨m,hm⟩:=j2a.1.ns
  have g12:∀b o,g.get? b=some o→(hideAll s₁.heap Z).get? b=some o:=fun b o e=>by
    have n:b∉Z:=fun q=>by rw [Zg b q] at e;cases e
    exact hideAll_get Z (af1.ext.le b o (fun q=>n (ZG b q)) (j0a.1.base b o (fun q=>n (ZG b q)) e)) n
  have k12':∀b o,(hideAll s₁.heap Z).get? b=some o→(hideAll s₂.heap Z).get? b=some o:=fun b o e=>by
    have n:b∉Z:=fun q=>by rw [hideAll_none Z q] at e;cases e
    exact hideAll_get Z (k12 b o n (of_hideAll Z e)) n
  have f:Frm w mg mb (hideAll s₂.heap Z) (tF F.env.locals m) wd ad ae an:= {
    x:=x.mono fun b o e=>k12' b o (g12 b o e)
    y:=y₁.mono k12'
    k:=⟨fun a ha=>c8d (x:=F.env.locals) (p:=fun a=>a≠376∧a≠116) ha ⟨fun q=>nLG (q▸ .head _),fun q=>nLG (q▸ .tail _ (.head _))⟩,fun a h=>(nomatch h),fun a h=>(nomatch h)⟩
    hG:=fun a ha=>hideAll_none Z (c7i (p:=fun a=>a∈Z) ha (ZG _ (.head _)) (ZG _ (.tail _ (.head _))) ZL)
    src:=rfl
    pin:=rfl}
  have h3762:s₂.heap.get? 376=some (tabObj #[]):=iv2a.2.2.1 _ (.head _)
  have inS2:∀ {a:Addr} {o:Obj},(t9 w.params).lookup a=some o→s₂.heap.get? a=some o:=fun e=>j2a.1.base _ _ (nG (x.X _ _ e)) (x.X _ _ e)
  obtain ⟨o9,fd9,e9,d9⟩:∃o fd,(t9 w.params).lookup 379=some o∧o.data= .func fd:=⟨_,_,rfl,rfl⟩
  refine wpAny_execs_cons (wpAny_If (wpAny_isTrue_Not (wpAny_isTrue_value (wpAny_Call_NameR (a6v j2a.1 hLT (o.kind rfl) (by decide) (callWith_def d9 ?_ rfl))))))
  refine spliced_cons (wpAny_Name (t8 F.hk vw2 (wpAny_items_nil ⟨inS2 e9,?_⟩)) (by decide))
  refine b8 (hp1 ..) (b8 (hp2 ..) ?_)
  have st2a: @St ((tF F.env.locals m).d8 (hideAll s₂.heap Z)) f.C (fun a=>a∈(tF F.env.locals m).G) s₂:=by
    letI:=(tF F.env.locals m).d8 (hideAll s₂.heap Z)
    refine ⟨fun b o O e=>of_hideAll Z e,⟨⟨_,h3762,trivial⟩,iv2a.2.1,fun p hp=>(nomatch hp),fun p hp=>?_,fun p hp=>(nomatch hp)⟩,fun a ha=>?_,fun O z=>z,fun O z=> .inl z⟩
    · refine b8 (List.mem_singleton.mp hp ..) ?_;exact hm
    · exact c7i (p:=fun a=>∃o,s₂.heap.get? a=some o) ha ⟨_,h3762⟩ (by obtain ⟨p,e,_⟩:=iv2a.2.1;exact ⟨_,e⟩) (Heap.Ns.ex hm)
  refine c3g f (A:=F.A) (s:=s₂) (fs:=[F.env]) st2a h3762 F.hA (by lia) (by lia) hA5.2.2 (fun env he=>?_) fun s₃ af3=>?_
  · refine b8 (List.mem_singleton.mp he ..) ?_
    exact ⟨by refine b8 (F.hk ..) ?_;decide,_,q8,.head _⟩
  refine wpAny_truthy_bool (wpAny_execs_nil ?_)
  have iv3:(tF F.env.locals m).inv s₃.heap:= @After.inv ((tF F.env.locals m).d8 (hideAll s₂.heap Z)) _ _ _ af3
  have ex3:= @After.ext ((tF F.env.locals m).d8 (hideAll s₂.heap Z)) _ _ _ af3
  have hm3:s₃.heap.Ns F.env.locals m:=iv3.2.2.2.1 _ (.head _)
  have GF:∀b,b∈(tF F.env.locals m).G→b∈t0.G∨b=F.env.locals:=fun b hb=>by
    exact c7i (p:=fun b=>b∈t0.G∨b=F.env.locals) hb (.inl (.head _)) (.inl (.tail _ (.head _))) (.inr rfl)
  have k23:∀b o,b∉t0.G→b≠F.env.locals→s₂.heap.get? b=some o→s₃.heap.get? b=some o:=fun b o n n' e=>ex3.le b o (fun q=>(GF b q).elim n n') e
  have cellne:∀y c,F.env.cells.lookup y=some c→c≠F.env.locals:=fun y c hc q=>by
    obtain ⟨v,h⟩:=j2a.1.cell y c hc;exact a3f hm h q
  have kc:∀y c v,F.env.cells.lookup y=some c→s₂.heap.IsCell c v→s₃.heap.IsCell c v:=fun y c v hc ⟨o',ho,hd⟩=>⟨o',k23 _ _ (j2a.1.s8 y c hc) (cellne y c hc) ho,hd⟩
  have vt:∀y v,j9 s₂.heap F.env y v→j9 s₃.heap F.env y v:=fun y v r=>by
    rcases r with ⟨h1,m',h2,h3⟩|⟨h1,c,h2,h3⟩
    · rw [Ns.same h2 hm] at h3;exact .loc h1 m hm3 h3
    · exact .I7 h1 c h2 (kc y c _ h2 h3)
  have i3a:I (F.with (s9 x t0 hG t0.ok.hp)) (fun a=>a∈t0.G) [] s₃:=by
    refine ⟨⟨fun b o n e=>k23 b o n (fun q=>by rw [q] at e;exact absurd e (by refine b8 (show (Cx.g _).get? F.env.locals=none from gl ..) ?_;nofun)) (j2a.1.base b o n e),⟨iv3.1,iv3.2.1,fun p hp=>(nomatch hp),fun p hp=>(nomatch hp),fun p hp=>(nomatch hp)⟩,fun a ha=>?_,fun O z=>z,fun O z=> .inl z⟩,⟨m,hm3⟩,fun y c hc=>let ⟨v,hv⟩:=j2a.1.cell y c hc;⟨v,kc y c v hc hv⟩,j2a.1.apart,nLG,j2a.1.s8,fun O=>0,fun y d e=>(nomatch e),fun y d e=>(nomatch e),fun y d y' d' e=>(nomatch e)⟩
    exact c7j (p:=fun a=>∃o,s₃.heap.get? a=some o) ha (by obtain ⟨p,e,_⟩:=iv3.1;exact ⟨_,e⟩) (by obtain ⟨p,e,_⟩:=iv3.2.1;exact ⟨_,e⟩)
  have hLP:(s9 x t0 hG t0.ok.hp).mg "_law_pool"=some (.ref 286):=(x.at _).trans (by kernel_rfl)
  obtain ⟨ad2,vo2⟩:=j2a.1.vars
  obtain ⟨v2a,vs2,rs2⟩:=vo2.val "script" _ rfl
  have rs3:Rep (fun a=>a∈t0.G) s₃.heap v2a (.lst (cs.map .int)):=rs2.hop (L:=F.env.locals) (fun b o n n' e=>k23 b o n n' e) (fun o' us n ho hd=>a0b hm ho hd rfl) fun b z=> .inl z
  obtain ⟨op,fdp,ep,dp⟩:∃o fd,(t9 w.params).lookup 286=some o∧o.data= .func fd:=⟨_,_,rfl,rfl⟩
  have inS3:∀ {a:Addr} {o:Obj},(t9 w.params).lookup a=some o→s₃.heap.get? a=some o:=fun e=>i3a.base _ _ (nG (x.X _ _ e)) (x.X _ _ e)
  refine wpAny_execs_cons (wpAny_Assign_Name (wpAny_Call_NameR (a6v i3a hLP (o.kind rfl) (by decide) (callWith_def dp ?_ rfl))) rfl)
  refine spliced_cons (wpAny_Name (t8 F.hk (vt _ _ vs2) (wpAny_items_nil ⟨inS3 ep,?_⟩)) (by decide))
  refine b6s (C:=s9 x t0 hG t0.ok.hp) (b0p x t0 hG t0.ok.hp 28 46 "_law_pool" 286 285 rfl) i3a.toSt F.hA (by show F.A.depth+20<_;lia) (by show F.A.units+500<_;lia) hlen rs3 fun src s₄ ii jj ti tj af4 hns hps hj0 hj1=>?_
  have i4a:=i3a.ext af4
  have iv4:t0.inv s₄.heap:=af4.inv
  have k34:∀b o,b∉t0.G→s₃.heap.get? b=some o→s₄.heap.get? b=some o:=fun b o n e=>af4.ext.le b o n e
  have srcne:∀b o,s₃.heap.get? b=some o→b≠src:=fun b o e q=>by rw [q,hns] at e;cases e
  clear hns;obtain ⟨p1,e376,ok1⟩:=iv3.1
  obtain ⟨p2,e116,ok2⟩:=iv3.2.1
  have s376:src≠376:=(srcne _ _ e376).symm
  have s116:src≠116:=(srcne _ _ e116).symm
  have sL:F.env.locals≠src:=let ⟨_,e⟩:=Heap.Ns.ex hm3;srcne _ _ e
  have vw4:j9 s₄.heap F.env "world" (.ref wd):=j9.keep (F:=F.with (s9 x t0 hG t0.ok.hp)) i3a (vt _ _ vw2) fun b o n e=>k34 b o n e
  have k14:∀b o,(hideAll s₁.heap Z).get? b=some o→(hideAll s₄.heap (src::Z)).get? b=some o:=fun b o e=>by
    have n:b∉Z:=fun q=>by rw [hideAll_none Z q] at e;cases e
    have e₃:=k23 b o (fun q=>n (ZG b q)) (fun q=>n (q▸ZL)) (k12 b o n (of_hideAll Z e))
    refine hideAll_get (src::Z) (k34 b o (fun q=>n (ZG b q)) e₃) fun q=>?_
    rcases List.mem_cons.mp q with q|q
    · exact srcne _ _ e₃ q
    · exact n q
  have x4a:Base w mg mb (hideAll s₄.heap (src::Z)):=x.mono fun b o e=>k14 b o (g12 b o e)
  have y4a:Wld w (hideAll s₄.heap (src::Z)) wd ad ae an:=y₁.mono k14
  have kS:(tS src).Ok:=⟨fun a ha=>c8d (p:=fun a=>a≠376∧a≠116) ha ⟨s376,s116⟩,fun a h=>(nomatch h),fun a h=>(fun q=>nomatch q)⟩
  have Smem:∀b,b∈(tS src).G→b∈t0.G∨b=src:=fun b hb=>by
    exact c7i (p:=fun b=>b∈t0.G∨b=src) hb (.inl (.head _)) (.inl (.tail _ (.head _))) (.inr rfl)
  have hGS:∀a∈(tS src).G,(hideAll s₄.heap (src::Z)).get? a=none:=fun a ha=>hideAll_none _ ((Smem a ha).elim (fun q=> .tail _ (ZG a q)) fun q=>q▸ .head _)
  have sok:=c5n x4a kS hGS s376 s116
  have sup:=b6k x4a kS hGS y4a
  have ivS:(tS src).inv s₄.heap:=⟨iv4.1,iv4.2.1,fun p hp=>(nomatch hp),fun p hp=>(nomatch hp),fun p hp=>(by refine b8 (List.mem_singleton.mp hp ..) ?_;exact ⟨ii,jj,ti,tj,hps.isList,hj0,hj1⟩)⟩
  have hotS:∀a,a∈(tS src).G→∃o,s₄.heap.get? a=some o:=fun a ha=>by
    rcases Smem a ha with q|rfl
    · exact i4a.d8 a q
    · obtain ⟨n,e⟩:=hps;exact ⟨_,e⟩
  have SnL:∀b,b∈(tS src).G→b∉(F.env.locals::Zc:List Addr):=fun b hb q=>by
    rcases List.mem_cons.mp q with h|q
    · exact (Smem b hb).elim (h▸nLG) fun z=>sL (h.symm.trans z)
    · obtain ⟨z1,o',z2⟩:=zc b q
      have nb:b∉t0.G:=fun h=>(st.d8 b h).elim fun o' e'=>n9 (q6▸z1) e'
      refine (Smem b hb).elim nb fun hb=>?_
      obtain ⟨o₂,e₂⟩:∃o,s₂.heap.get? b=some o:=by
        by_cases hb:b=Ls
        · obtain ⟨o₂,e₂⟩:=z.ex b _ hb (af1.ext.le b _ nb z2);exact ⟨o₂,by refine C5 (hs2a ..) ?_;exact e₂⟩
        · exact ⟨o',by refine C5 (hs2a ..) ?_;exact (z.same.2 b hb).trans (af1.ext.le b _ nb z2)⟩
      exact srcne _ _ (k23 b o₂ nb (fun h=>sL (h.symm.trans hb)) e₂) hb
  let fA:=F.A
  let fe:=F.env
  let fk:=F.k
  have f1:fA.handled=none:=F.hA
  have f2:fA.depth+fk<recursionLimit:=F.hd
  have f3:fA.units+8*fk+100<cLine:=F.hu
  have f4:fe.scope.kind= .function:=F.hk
  have f5:fe.globals=mainGlobals:=F.K6
  have f6:fe.builtins=builtinsNs:=F.M7
  have f7:fe.scope=r7 (i9 66):=o.scope
  have f8:∀y,(r7 (i9 66)).names.lookup y=some .cell→∃c,fe.cells.lookup y=some c∧c∈Zc:=fun y hy=>let ⟨c,h1,h2⟩:=o.cells y hy;⟨c,h1,cz y c h1 h2⟩
  have f9:=i4a.ns
  have f10:=i4a.cell
  have f11:=i4a.apart
  have f12:61≤fk:=by show 61≤F.k;lia
  have f13:fe.locals∉(tS src).G:=fun q=>(Smem _ q).elim nLG sL
  have f14:∀y c,fe.cells.lookup y=some c→c∉(tS src).G:=fun y c hc q=>(Smem _ q).elim (i4a.s8 y c hc) fun q=>by
    obtain ⟨v,o',e,_⟩:=i3a.cell y c hc
    exact srcne _ _ e q
  have g4:s₄.gens=s.gens∧s₄.os=s.os:=by
    have a1:=j0a.4
    rw [q6] at a1
    have a3:s₂.gens=s₁.gens∧s₂.os=s₁.os:=by refine C5 (hs2a ..) ?_;exact ⟨rfl,rfl⟩
    exact ⟨af4.ext.gens.trans (ex3.gens.trans (a3.1.trans (af1.ext.gens.trans a1.gens))),af4.ext.os.trans (ex3.os.trans (a3.2.trans (af1.ext.os.trans a1.os)))⟩
  have gk:∀b o',b∉t0.G→s.heap.get? b=some o'→(hideAll s₄.heap (fe.locals::Zc)).get? b=some o'∧b∉(tS src).G:=fun b o' n e=>by
    have nz:∀c,F.s₀.heap.get? c=none→b≠c:=fun c hc q=>by rw [q6,← q,e] at hc;cases hc
    have e₁:=af1.ext.le b o' n (j0a.4.le b o' n (by refine b8 (q6 ..) ?_;exact e))
    have e₂:s₂.heap.get? b=some o':=by refine C5 (hs2a ..) ?_;exact (z.same.2 b (nz _ z.new)).trans e₁
    have e₃:=k23 b o' n (nz _ F.hL) e₂
    exact ⟨hideAll_get _ (k34 b o' n e₃) fun q=>(List.mem_cons.mp q).elim (nz _ F.hL) fun q=>nz b (zc b q).1 rfl,fun q=>(Smem b q).elim n (srcne _ _ e₃)⟩
  have f16:∃o,(hideAll s₄.heap (src::Z)).get? wd=some o:=let ⟨_,_,I,_⟩:=y4a.w1;⟨_,I.at_⟩
  have f15:∀b o',(hideAll s₄.heap (src::Z)).get? b=some o'→(hideAll s₄.heap (fe.locals::Zc)).get? b=some o':=fun b o' e=>by
    have n':b∉(src::Z:List Addr):=fun q=>by rw [hideAll_none _ q] at e;cases e
    exact hideAll_get _ (of_hideAll _ e) fun q=>n' (.tail _ (hZ▸ .tail _ (.tail _ q)))
  letI:=(tS src).d8 (hideAll s₄.heap (src::Z))
  let F3:Fm:= {C:=s9 x4a (tS src) hGS kS.hp,A:=fA,env:=fe,k:=fk,s₀:= {s₄ with heap:=hideAll s₄.heap (fe.locals::Zc)},X₀:=fun a=>a∈(tS src).G,hA:=f1,hd:=f2,hu:=f3,hk:=f4,K6:=f5,M7:=f6,hX:=(fun a ha=>let ⟨o',e⟩:=hotS a ha;⟨o',hideAll_get _ e (SnL a ha)⟩),hL:=hideAll_none _ (.head _),h₀:=fun b o' O e=>f15 b o' e}
  have o₃:Of F3 (r7 (i9 66)):=⟨f7,fun y hy=>by
    obtain ⟨c,h1,h2⟩:=f8 y hy
    exact ⟨c,h1,hideAll_none _ (.tail _ h2)⟩⟩
  have i5a:I F3 (fun a=>a∈(tS src).G) [(("world":Str),.val (.z8 (.ref wd)))] s₄:=by
    refine ⟨⟨fun b o' O e=>of_hideAll _ e,ivS,hotS,fun O z=>z,fun O z=> .inl z⟩,f9,f10,f11,f13,f14,fun O=>0,.one vw4 (.z8 _ fun a e=> .inr (Value.ref.inj e▸f16))⟩
  have j5:JX F3 (fun a=>a∈(tS src).G) [(("world":Str),.val (.z8 (.ref wd)))] s₄:=⟨i5a,fun a z=> .inl z,fun a z=>z,rfl,rfl,rfl,fun b o' O e=>of_hideAll _ e⟩
  refine k9 (F:=F3) i5a (o₃.I7 rfl) fun h₆ tk6 L6 z6a=>?_
  have j6:JX F3 (fun a=>a∈(tS src).G) ((("source":Str),.val (.z8 (.ref src)))::[(("world":Str),.val (.z8 (.ref wd)))]) _:=j5.store (tk:=tk6) (n:= .val (.z8 (.ref src))) (Rep.z8 _ fun a e=> .inl (by cases e;exact .tail _ (.tail _ (.head _)))) z6a
  refine (sup.rest sok (F:=F3) rfl f12 o₃ (lookup_cons_self _ _ _) ((c5 _ _ (by decide)).trans (lookup_cons_self _ _ _))) _ _ j6 _ _ (fun O O O n O O O=>n.elim) fun v d s7 hv dn=>?_
  obtain ⟨d1,d2⟩:=dn
  subst hv
  refine b8 (d2.bool_inv ..) ?_
  have iv7:(tS src).inv s7.heap:=d1.inv
  refine q s7 (d1.ext.os.trans g4.2) (d1.ext.gens.trans g4.1) (fun b o' n e=>d1.ext.le b o' (gk b o' n e).2 (gk b o' n e).1) ?_ ?_
  · exact let ⟨p,e,_⟩:=iv7.1;⟨p,e⟩
  · exact let ⟨p,e,_⟩:=iv7.2.1;⟨p,e⟩
theorem c1s:PySem.Challenge.rw_xw0167_01.wellSaid=true:=by kernel_rfl
theorem c1p{w:World}{h₁:Heap}{p:Program}{lo:List Str}{mean:ExcName→Option Value}{mg mb:Str→Option Value}(T:Top p lo mean mg mb h₁)(hp:importsNone p=true)(hT:TabsAt [(378,376),(118,116)] h₁)(X:(t9 w.params).In h₁):Base w mg mb (ghostOf h₁ [(378,376),(118,116)]):=by
  have c:=ghost_code hT
  exact {
    X:=ghost_K hT X (by kernel_rfl)
    ns:=ghost_ns hT T.g
    bl:=ghost_ns hT T.b
    bu:=T.builtins
    lim:=let ⟨mc,a,r⟩:=T.nolimit;⟨mc,ghost_ns hT a,r⟩
    mods:=let ⟨_,h,_⟩:=(T.seer hp).mods;let ⟨o,_,_,e,_⟩:=ghost_ns hT h;⟨o,e⟩
    c1:=c.1
    c2:=c.2.1
    bm:=let ⟨bm,ob,a1,a2,a3,a4,r⟩:=T.bmain;⟨bm,ob,a1,a2,ghost_get hT a3 (fun q=>by rw [q] at a4;cases a4),a4,r⟩}
theorem b8q{P:Params}{h:Heap} :∀ {cs:List Int} {vs:List Value},WellAll P h vs (ofPys (cs.map .int))→∀(H:u7) (X:Addr→Prop),@i0 H X h vs (cs.map .int):=by
  intro LL1
  induction LL1 with
  | nil=>
    rintro _ x H X
    cases x;exact @i0.nil H X h
  | cons c cs ih=>
    rintro _ x H X
    cases x with
    |cons a b=>cases a;exact @i0.cons H X h _ _ _ _ (.int _ _) (ih b H X)
theorem c2q{P:Params}{h:Heap}{cs:List Int}{v:Value}(x:Well P h v (ofPy (.list (cs.map .int)))):∃a vs,v= .ref a∧h.get? a=some {cls:= .type "list",data:= .seq (Array.mk vs)} ∧∀(H:u7) (X:Addr→Prop),@i0 H X h vs (cs.map .int):=by
  rw [ofPy] at x
  cases x with
  |list e r=>exact ⟨_,_,rfl,e,b8q r⟩
set_option tactic.hygienic true in
theorem c1g:WalkO V loose (XL V []) (kmHook t9 asL b0j [376,116]).says PySem.Challenge.rw_xw0167_01.row.toRowW ((defOf V PySem.Challenge.rw_xw0167_01.row.name).get rfl).1 [] fun f vs=>PySem.call f vs:=by
  intro w s₀ s₁ mg mb G Y fa o pm cd doc dV kV ho hd hcd hD hmg hg args vals as hpre hlay hrd hwl hlo
  have KX:=km_in_of Y
  have K8:=km_tabs_of Y
  have hT9:TabsAt [(378,376),(118,116)] s₁.heap:=List.forall_mem_cons.mpr ⟨⟨codeHd_of_K KX (by kernel_rfl),K8 _ (.head _)⟩,List.forall_mem_cons.mpr ⟨⟨codeHd_of_K KX (by kernel_rfl),K8 _ (.tail _ (.head _))⟩,fun O h=>nomatch h⟩⟩
  have x:=c1p G.T (by kernel_rfl) hT9 KX
  have hfa:fa=384:=by
    have e:=(x.at "law").symm.trans hmg
    rw [show nsFind (b3k w.params) "law"=some (.ref 384) by kernel_rfl] at e
    cases e;rfl
  subst hfa
  have hwl':=hwl
  wrow_args hpre hlay hrd hwl hlo
  rename_i cs _ _ _ _ _ _ _ a _ _ _ _ _ _ _ _ hlen _
  cases hwl' with
  |cons hw _=>
  obtain ⟨_,vs,e,hl,hi⟩:=c2q hw
  cases e
  refine enter_call (kn_post hT9 (fun O O=>rfl) ?_)
  refine b7z x (fun b hb=>hideAll_none _ hb) (fun b o e=>of_hideAll _ e) (K8 _ (.head _)) (K8 _ (.tail _ (.head _))) rfl (by decide) (by decide) rfl (fun H=> @Rep.c1x H _ _ _ _ _ ⟨0,hl⟩ (fun q=>?_) (hi H _)) (by omega) fun s' e1 e2 e3 e4 e5=>?_
  · rw [K8 a q] at hl;cases hl
  · refine ⟨⟨.inl ⟨_,.bool true,[],rfl,fun O=>rfl,.bool true,?_,fun O=>⟨List.nodup_nil,fun O h=>nomatch h⟩⟩,fun b o e=>?_,e1,e2.trans hg⟩,e4,e5,trivial⟩
    · wrow_post
    · have n:b∉[376,116]:=fun q=>by rw [show (ghostOf s₁.heap [(378,376),(118,116)]).get? b=none from hideAll_none _ q] at e;cases e
      exact e3 b o n (of_hideAll _ e)
end
end Mine.Internal
set_option tactic.hygienic true
set_option backward.match.sparseCases true
set_option maxRecDepth 100000 in
set_option maxHeartbeats 8000000 in
theorem PySem.Challenge.cw_xw0167_01_holds : PySem.Challenge.rw_xw0167_01.Holds := by
  refine holds_law Mine.Internal.c1s fun said=>?_
  refine holds_open (q:=Mine.Internal.V) (loose:=Mine.Internal.loose) (Xt:=fun s=>xlAt Mine.Internal.V [] s&&recOk [] s) (XP:=XL Mine.Internal.V []) (Yf:=(kmHook Mine.Internal.t9 Mine.Internal.asL Mine.Internal.b0j [376,116]).obs) (Ya:=(kmHook Mine.Internal.t9 Mine.Internal.asL Mine.Internal.b0j [376,116]).val) (YP:=(kmHook Mine.Internal.t9 Mine.Internal.asL Mine.Internal.b0j [376,116]).says) (N:=5246) ?hl (kmHook Mine.Internal.t9 Mine.Internal.asL Mine.Internal.b0j [376,116]).of (kmHook Mine.Internal.t9 Mine.Internal.asL Mine.Internal.b0j [376,116]).keeps (fun s e=>xl_of s (Bool.and_eq_true_iff.mp e).1) XL.keeps (by rfl) (by rfl) (by rfl) (fun s e=>recFacts_of (Bool.and_eq_true_iff.mp e).2) (by rfl) said (by kernel_rfl) ⟨rfl,rfl,rfl,rfl,rfl,by kernel_rfl⟩ ?hw ?hc
  case hl=>exact Mine.Internal.b6n
  case hw=>w_witness2
  case hc=>exact Mine.Internal.c1g
