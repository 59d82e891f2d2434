import PyProof.Rows.All
import Wide.All
import OpenK.AllK
import Wide.FinOn
import KE.KDictSum
import KE.KEqDict
import PySem.Challenge.RW_pq0090_01
set_option maxRecDepth 100000
set_option autoImplicit false
set_option linter.unusedVariables false
set_option linter.unusedSimpArgs false
set_option linter.unusedSectionVars false
set_option Elab.async false
set_option tactic.hygienic false
set_option genSizeOf false
set_option genInjectivity false
set_option compiler.extract_closed false
set_option maxHeartbeats 8000000
namespace Mine
theorem a9{a b c:Nat}(h:a≤b)(k:b≤c):a≤c:=Nat.le_trans h k
@[elab_as_elim] theorem a0{α:Sort _}{a b:α}{P:α->Prop}(h:a=b)(q:P b):P a:=h▸q
@[elab_as_elim] theorem aX{α:Sort _}{a b:α}{P:α->Prop}(h:a=b)(q:P a):P b:=h▸q
@[elab_as_elim] theorem bt{a b:Prop}{P:Prop->Prop}(h:a↔b)(q:P b):P a:=propext h▸q
theorem a6{α0:Sort _}{p0 p1:α0->Prop}(y0:α0)(x0:p0 y0)(x1:p1 y0):∃ y0,p0 y0∧p1 y0:=⟨y0,x0,x1⟩
theorem a7{α0:Sort _}{p0 p1:α0->Prop}{g:Prop}(h:∃ y0,p0 y0∧p1 y0)(f:∀ y0,p0 y0->p1 y0->g):g:=h.elim fun y0 h=>f y0 h.1 h.2
theorem i3{p0 p1 p2:Prop}(x0:p0)(x1:p1)(x2:p2):p0∧p1∧p2:=⟨x0,x1,x2⟩
theorem a2{p0 p1 g:Prop}(h:p0∧p1)(f:p0->p1->g):g:=f h.1 h.2
theorem aP{α0:Sort _}{p0 p1 p2:α0->Prop}(y0:α0)(x0:p0 y0)(x1:p1 y0)(x2:p2 y0):∃ y0,p0 y0∧p1 y0∧p2 y0:=⟨y0,x0,x1,x2⟩
theorem aH{α0:Sort _}{p0:α0->Prop}{g:Prop}(h:∃ y0,p0 y0)(f:∀ y0,p0 y0->g):g:=h.elim fun y0 h=>f y0 h
theorem d7{α0 α1:Sort _}{p0 p1 p2:α0->α1->Prop}(y0:α0)(y1:α1)(x0:p0 y0 y1)(x1:p1 y0 y1)(x2:p2 y0 y1):∃ y0,∃ y1,p0 y0 y1∧p1 y0 y1∧p2 y0 y1:=⟨y0,y1,x0,x1,x2⟩
theorem cN{α0 α1:Sort _}{p0 p1:α0->α1->Prop}(y0:α0)(y1:α1)(x0:p0 y0 y1)(x1:p1 y0 y1):∃ y0,∃ y1,p0 y0 y1∧p1 y0 y1:=⟨y0,y1,x0,x1⟩
theorem bw{α0:Sort _}{p0 p1 p2:α0->Prop}{g:Prop}(h:∃ y0,p0 y0∧p1 y0∧p2 y0)(f:∀ y0,p0 y0->p1 y0->p2 y0->g):g:=h.elim fun y0 h=>f y0 h.1 h.2.1 h.2.2
theorem a3{p0 p1 p2 g:Prop}(h:p0∧p1∧p2)(f:p0->p1->p2->g):g:=f h.1 h.2.1 h.2.2
theorem fh{α0:Sort _}{p0 p1 p2 p3:α0->Prop}(y0:α0)(x0:p0 y0)(x1:p1 y0)(x2:p2 y0)(x3:p3 y0):∃ y0,p0 y0∧p1 y0∧p2 y0∧p3 y0:=⟨y0,x0,x1,x2,x3⟩
theorem cW{α0 α1:Sort _}{p0 p1:α0->α1->Prop}{g:Prop}(h:∃ y0,∃ y1,p0 y0 y1∧p1 y0 y1)(f:∀ y0 y1,p0 y0 y1->p1 y0 y1->g):g:=h.elim fun y0 h=>h.elim fun y1 h=>f y0 y1 h.1 h.2
theorem bR{α0 α1:Sort _}{p0 p1 p2:α0->α1->Prop}{g:Prop}(h:∃ y0,∃ y1,p0 y0 y1∧p1 y0 y1∧p2 y0 y1)(f:∀ y0 y1,p0 y0 y1->p1 y0 y1->p2 y0 y1->g):g:=h.elim fun y0 h=>h.elim fun y1 h=>f y0 y1 h.1 h.2.1 h.2.2
theorem jg{α0 α1:Sort _}{p0 p1 p2 p3:α0->α1->Prop}(y0:α0)(y1:α1)(x0:p0 y0 y1)(x1:p1 y0 y1)(x2:p2 y0 y1)(x3:p3 y0 y1):∃ y0,∃ y1,p0 y0 y1∧p1 y0 y1∧p2 y0 y1∧p3 y0 y1:=⟨y0,y1,x0,x1,x2,x3⟩
theorem jZ{α0 α1:Sort _}{p0:α0->α1->Prop}(y0:α0)(y1:α1)(x0:p0 y0 y1):∃ y0,∃ y1,p0 y0 y1:=⟨y0,y1,x0⟩
theorem i4{p0 p1 p2 p3:Prop}(x0:p0)(x1:p1)(x2:p2)(x3:p3):p0∧p1∧p2∧p3:=⟨x0,x1,x2,x3⟩
theorem vT{α0 α1 α2:Sort _}{p0 p1 p2 p3 p4 p5:α0->α1->α2->Prop}(y0:α0)(y1:α1)(y2:α2)(x0:p0 y0 y1 y2)(x1:p1 y0 y1 y2)(x2:p2 y0 y1 y2)(x3:p3 y0 y1 y2)(x4:p4 y0 y1 y2)(x5:p5 y0 y1 y2):∃ y0,∃ y1,∃ y2,p0 y0 y1 y2∧p1 y0 y1 y2∧p2 y0 y1 y2∧p3 y0 y1 y2∧p4 y0 y1 y2∧p5 y0 y1 y2:=⟨y0,y1,y2,x0,x1,x2,x3,x4,x5⟩
theorem u7{α0 α1:Sort _}{p0 p1 p2 p3 p4:α0->α1->Prop}(y0:α0)(y1:α1)(x0:p0 y0 y1)(x1:p1 y0 y1)(x2:p2 y0 y1)(x3:p3 y0 y1)(x4:p4 y0 y1):∃ y0,∃ y1,p0 y0 y1∧p1 y0 y1∧p2 y0 y1∧p3 y0 y1∧p4 y0 y1:=⟨y0,y1,x0,x1,x2,x3,x4⟩
theorem zp{α0 α1:Sort _}{p0 p1 p2 p3 p4 p5 p6:α0->α1->Prop}(y0:α0)(y1:α1)(x0:p0 y0 y1)(x1:p1 y0 y1)(x2:p2 y0 y1)(x3:p3 y0 y1)(x4:p4 y0 y1)(x5:p5 y0 y1)(x6:p6 y0 y1):∃ y0,∃ y1,p0 y0 y1∧p1 y0 y1∧p2 y0 y1∧p3 y0 y1∧p4 y0 y1∧p5 y0 y1∧p6 y0 y1:=⟨y0,y1,x0,x1,x2,x3,x4,x5,x6⟩
theorem mO{α0:Sort _}{p0 p1 p2 p3:α0->Prop}{g:Prop}(h:∃ y0,p0 y0∧p1 y0∧p2 y0∧p3 y0)(f:∀ y0,p0 y0->p1 y0->p2 y0->p3 y0->g):g:=h.elim fun y0 h=>f y0 h.1 h.2.1 h.2.2.1 h.2.2.2
theorem w8{α0 α1 α2:Sort _}{p0:α0->α1->α2->Prop}{g:Prop}(h:∃ y0,∃ y1,∃ y2,p0 y0 y1 y2)(f:∀ y0 y1 y2,p0 y0 y1 y2->g):g:=h.elim fun y0 h=>h.elim fun y1 h=>h.elim fun y2 h=>f y0 y1 y2 h
theorem vU{α0 α1 α2:Sort _}{p0 p1 p2 p3:α0->α1->α2->Prop}(y0:α0)(y1:α1)(y2:α2)(x0:p0 y0 y1 y2)(x1:p1 y0 y1 y2)(x2:p2 y0 y1 y2)(x3:p3 y0 y1 y2):∃ y0,∃ y1,∃ y2,p0 y0 y1 y2∧p1 y0 y1 y2∧p2 y0 y1 y2∧p3 y0 y1 y2:=⟨y0,y1,y2,x0,x1,x2,x3⟩
theorem vV{α0:Sort _}{p0 p1 p2 p3 p4:α0->Prop}(y0:α0)(x0:p0 y0)(x1:p1 y0)(x2:p2 y0)(x3:p3 y0)(x4:p4 y0):∃ y0,p0 y0∧p1 y0∧p2 y0∧p3 y0∧p4 y0:=⟨y0,x0,x1,x2,x3,x4⟩
theorem jh{α0 α1:Sort _}{p0:α0->α1->Prop}{g:Prop}(h:∃ y0,∃ y1,p0 y0 y1)(f:∀ y0 y1,p0 y0 y1->g):g:=h.elim fun y0 h=>h.elim fun y1 h=>f y0 y1 h
theorem ia{α0 α1:Sort _}{p0 p1 p2 p3:α0->α1->Prop}{g:Prop}(h:∃ y0,∃ y1,p0 y0 y1∧p1 y0 y1∧p2 y0 y1∧p3 y0 y1)(f:∀ y0 y1,p0 y0 y1->p1 y0 y1->p2 y0 y1->p3 y0 y1->g):g:=h.elim fun y0 h=>h.elim fun y1 h=>f y0 y1 h.1 h.2.1 h.2.2.1 h.2.2.2
theorem yu{α0 α1 α2 α3:Sort _}{p0 p1 p2 p3 p4 p5:α0->α1->α2->α3->Prop}(y0:α0)(y1:α1)(y2:α2)(y3:α3)(x0:p0 y0 y1 y2 y3)(x1:p1 y0 y1 y2 y3)(x2:p2 y0 y1 y2 y3)(x3:p3 y0 y1 y2 y3)(x4:p4 y0 y1 y2 y3)(x5:p5 y0 y1 y2 y3):∃ y0,∃ y1,∃ y2,∃ y3,p0 y0 y1 y2 y3∧p1 y0 y1 y2 y3∧p2 y0 y1 y2 y3∧p3 y0 y1 y2 y3∧p4 y0 y1 y2 y3∧p5 y0 y1 y2 y3:=⟨y0,y1,y2,y3,x0,x1,x2,x3,x4,x5⟩
theorem oz{α0 α1 α2:Sort _}{p0 p1 p2 p3:α0->α1->α2->Prop}{g:Prop}(h:∃ y0,∃ y1,∃ y2,p0 y0 y1 y2∧p1 y0 y1 y2∧p2 y0 y1 y2∧p3 y0 y1 y2)(f:∀ y0 y1 y2,p0 y0 y1 y2->p1 y0 y1 y2->p2 y0 y1 y2->p3 y0 y1 y2->g):g:=h.elim fun y0 h=>h.elim fun y1 h=>h.elim fun y2 h=>f y0 y1 y2 h.1 h.2.1 h.2.2.1 h.2.2.2
theorem a4{p0 p1 p2 p3 g:Prop}(h:p0∧p1∧p2∧p3)(f:p0->p1->p2->p3->g):g:=f h.1 h.2.1 h.2.2.1 h.2.2.2
theorem xB{α0 α1:Sort _}{p0 p1 p2 p3 p4:α0->α1->Prop}{g:Prop}(h:∃ y0,∃ y1,p0 y0 y1∧p1 y0 y1∧p2 y0 y1∧p3 y0 y1∧p4 y0 y1)(f:∀ y0 y1,p0 y0 y1->p1 y0 y1->p2 y0 y1->p3 y0 y1->p4 y0 y1->g):g:=h.elim fun y0 h=>h.elim fun y1 h=>f y0 y1 h.1 h.2.1 h.2.2.1 h.2.2.2.1 h.2.2.2.2
theorem fX{a b:Nat}(h:a=b):b≤a:=Nat.le_of_eq h.symm
theorem xH{a b c d:Nat}(h:a=b)(k:c=d):a+c=b+d:=h▸k▸rfl
section
open PySem PySem.W PyProof.Rows
@[reducible] noncomputable def vs(x:String)(t:Nat):Value:=.str (Str.ofString x) t
@[reducible] noncomputable def de(p:Params)(x:String)(t:Nat)(v:Value):DictEntry:={hash:=PyData.keyHash p (Str.ofString x),key:=vs x t,val:=v}
noncomputable def zU:Stmt->List Stmt
 | .FunctionDef _ _ b _ _ _ _ _ _ _=>b
 | .ClassDef _ _ _ b _ _ _ _ _ _ _=>b
 | _=>[]
noncomputable def sa(i:Nat):List Stmt:=Challenge.pw_pq0090_01.main.body.drop i
noncomputable def sb(i j:Nat):List Stmt:=match sa i with
 | st::_=>(zU st).drop j
 | []=>[]
noncomputable def fo(l:List Stmt)(q:String)(m:Value)(c:Addr):Obj:=match l with
 | .FunctionDef name args body _ _ _ scope _ _ _::_=>{cls:=.type "function",data:=.func {name:=name,qualname:=Str.ofString q,params:=args,body:=.stmts body,scope:=scope,globals:=3,closure:=[],defaults:=.none,kwdefaults:=.none,pyModule:=m,code:=.ref c}}
 | _=>{cls:=.none}
noncomputable def co(x:String)(t1:Nat)(q:String)(t2 t3:Nat)(l a f r1 r2:Nat)(u v w:Value)(r3 t4 t5:Nat):Obj:={cls:=.type "code",data:=.fields #[vs x t1,vs q t2,vs "/claim/cut.py" t3,.int l 0,.int a 0,.int 0 0,.int 0 0,.int f 0,.ref r1,.bool true,.int 181 0,.ref r2,u,v,w,.ref r3,.int t4 0,.int l 0,vs "/claim/cut.py" t5]}
noncomputable def KF(p:Params):Frag:=
 [(2,{cls:=Value.none,data:=Data.dict #[de p "type.__subclasses__.Exception.0" 513 (.int 260 0),de p "type.__subclasses__.Exception.n" 514 (.int 1 0)] 2}),
  (3,{cls:=Value.type "dict",data:=Data.dict #[de p "__name__" 165 (vs "law_pq0090_01" 946),de p "__doc__" 166 .none,de p "__package__" 167 .none,de p "__loader__" 168 (.builtin "__main__.__loader__#\x6fpaque"),de p "__spec__" 169 .none,de p "__annotations__" 170 (.ref 6),de p "__builtins__" 171 (.ref 4),de p "__file__" 173 (vs "/claim/cut.py" 172),de p "__cached__" 174 .none,de p "_wall" 193 (.ref 21),de p "whole_of" 201 (.ref 26),de p "Consts" 249 (.ref 57),de p "LeastDepth" 287 (.ref 85),de p "LeastSize" 312 (.ref 106),de p "FreeNames" 344 (.ref 128),de p "Signs" 399 (.ref 171),de p "Keeper" 476 (.ref 230),de p "HeapError" 516 (.ref 260),de p "TermFault" 532 (.ref 273),de p "is_op" 540 (.ref 280),de p "parts" 546 (.ref 285),de p "Bank" 677 (.ref 387),de p "Unions" 779 (.ref 469),de p "Heap" 945 (.ref 599),de p "_law_leaves" 955 (.ref 611),de p "_law_turn" 964 (.ref 618),de p "_law_term" 974 (.ref 625),de p "_law_analysis" 981 (.ref 632),de p "_law_kept" 987 (.ref 637),de p "_law_is_reached" 993 (.ref 642),de p "law" 999 (.ref 647)] 31}),
  (25,co "whole_of" 196 "whole_of" 197 198 5 1 3 22 23 .none .none .none 24 199 200),
  (26,fo (sa 2) "whole_of" (vs "alikeheap.analyses" 194) 25),
  (39,co "__init__" 214 "Consts.__init__" 215 216 12 2 3 34 35 .none (.ref 36) (.ref 37) 38 219 220),
  (40,fo (sb 3 0) "Consts.__init__" (vs "alikeheap.analyses" 194) 39),
  (46,co "of_node" 222 "Consts.of_node" 223 224 15 3 3 41 42 .none (.ref 43) (.ref 44) 45 229 230),
  (47,fo (sb 3 1) "Consts.of_node" (vs "alikeheap.analyses" 194) 46),
  (53,co "joined" 232 "Consts.joined" 233 234 27 3 3 48 49 .none (.ref 50) (.ref 51) 52 238 239),
  (54,fo (sb 3 2) "Consts.joined" (vs "alikeheap.analyses" 194) 53),
  (56,{cls:=Value.type "dict",data:=Data.dict #[de p "__module__" 209 (vs "alikeheap.analyses" 194),de p "__firstlineno__" 213 (.int 10 212),de p "__init__" 221 (.ref 40),de p "of_node" 231 (.ref 47),de p "joined" 240 (.ref 54),de p "__static_attributes__" 242 (.ref 55),de p "__dict__" 244 (.ref 58),de p "__weakref__" 246 (.ref 59),de p "__doc__" 247 .none] 4}),
  (57,{cls:=Value.type "type",data:=Data.cls {name:=Str.ofString "Consts",bases:=[Value.type "object"],mro:=[Value.ref 57,Value.type "object"],ns:=56,qualname:=Str.ofString "Consts"},slots:= #[none,none,some (vs "Consts" 202),some (vs "Consts" 210),some (.builtin "object.__new__"),some (Value.bool true)]}),
  (74,co "of_node" 262 "LeastDepth.of_node" 263 264 33 3 3 69 70 .none (.ref 71) (.ref 72) 73 268 269),
  (75,fo (sb 4 0) "LeastDepth.of_node" (vs "alikeheap.analyses" 194) 74),
  (81,co "joined" 271 "LeastDepth.joined" 272 273 36 3 3 76 77 .none (.ref 78) (.ref 79) 80 277 278),
  (82,fo (sb 4 1) "LeastDepth.joined" (vs "alikeheap.analyses" 194) 81),
  (84,{cls:=Value.type "dict",data:=Data.dict #[de p "__module__" 257 (vs "alikeheap.analyses" 194),de p "__firstlineno__" 261 (.int 31 260),de p "of_node" 270 (.ref 75),de p "joined" 279 (.ref 82),de p "__static_attributes__" 280 (.ref 83),de p "__dict__" 282 (.ref 86),de p "__weakref__" 284 (.ref 87),de p "__doc__" 285 .none] 4}),
  (85,{cls:=Value.type "type",data:=Data.cls {name:=Str.ofString "LeastDepth",bases:=[Value.type "object"],mro:=[Value.ref 85,Value.type "object"],ns:=84,qualname:=Str.ofString "LeastDepth",subclasses:=[Value.ref 106]},slots:= #[none,none,some (vs "LeastDepth" 250),some (vs "LeastDepth" 258),some (.builtin "object.__new__"),some (Value.bool true)]}),
  (102,co "of_node" 300 "LeastSize.of_node" 301 302 42 3 3 97 98 .none (.ref 99) (.ref 100) 101 306 307),
  (103,fo (sb 5 0) "LeastSize.of_node" (vs "alikeheap.analyses" 194) 102),
  (105,{cls:=Value.type "dict",data:=Data.dict #[de p "__module__" 295 (vs "alikeheap.analyses" 194),de p "__firstlineno__" 299 (.int 40 298),de p "of_node" 308 (.ref 103),de p "__static_attributes__" 309 (.ref 104),de p "__doc__" 310 .none] 2}),
  (106,{cls:=Value.type "type",data:=Data.cls {name:=Str.ofString "LeastSize",bases:=[Value.ref 85],mro:=[Value.ref 106,Value.ref 85,Value.type "object"],ns:=105,qualname:=Str.ofString "LeastSize"},slots:= #[some (.ref 90),none,some (vs "LeastSize" 288),some (vs "LeastSize" 296),some (.builtin "object.__new__"),some (Value.bool true)]}),
  (119,co "of_node" 325 "FreeNames.of_node" 326 327 46 3 3 116 117 .none .none .none 118 328 329),
  (120,fo (sb 6 0) "FreeNames.of_node" (vs "alikeheap.analyses" 194) 119),
  (124,co "joined" 331 "FreeNames.joined" 332 333 60 3 3 121 122 .none .none .none 123 334 335),
  (125,fo (sb 6 1) "FreeNames.joined" (vs "alikeheap.analyses" 194) 124),
  (127,{cls:=Value.type "dict",data:=Data.dict #[de p "__module__" 320 (vs "alikeheap.analyses" 194),de p "__firstlineno__" 324 (.int 44 323),de p "of_node" 330 (.ref 120),de p "joined" 336 (.ref 125),de p "__static_attributes__" 337 (.ref 126),de p "__dict__" 339 (.ref 129),de p "__weakref__" 341 (.ref 130),de p "__doc__" 342 .none] 4}),
  (128,{cls:=Value.type "type",data:=Data.cls {name:=Str.ofString "FreeNames",bases:=[Value.type "object"],mro:=[Value.ref 128,Value.type "object"],ns:=127,qualname:=Str.ofString "FreeNames"},slots:= #[none,none,some (vs "FreeNames" 313),some (vs "FreeNames" 321),some (.builtin "object.__new__"),some (Value.bool true)]}),
  (145,co "signs" 357 "Signs.signs" 358 359 66 2 3 140 141 .none (.ref 142) (.ref 143) 144 362 363),
  (146,fo (sb 7 0) "Signs.signs" (vs "alikeheap.analyses" 194) 145),
  (150,co "made" 365 "Signs.made" 366 367 69 2 3 147 148 .none .none .none 149 368 369),
  (151,fo (sb 7 1) "Signs.made" (vs "alikeheap.analyses" 194) 150),
  (157,co "added" 371 "Signs.added" 372 373 73 3 3 152 153 .none (.ref 154) (.ref 155) 156 377 378),
  (158,fo (sb 7 2) "Signs.added" (vs "alikeheap.analyses" 194) 157),
  (162,co "of_node" 380 "Signs.of_node" 381 382 78 3 3 159 160 .none .none .none 161 383 384),
  (163,fo (sb 7 3) "Signs.of_node" (vs "alikeheap.analyses" 194) 162),
  (167,co "joined" 386 "Signs.joined" 387 388 93 3 3 164 165 .none .none .none 166 389 390),
  (168,fo (sb 7 4) "Signs.joined" (vs "alikeheap.analyses" 194) 167),
  (170,{cls:=Value.type "dict",data:=Data.dict #[de p "__module__" 352 (vs "alikeheap.analyses" 194),de p "__firstlineno__" 356 (.int 64 355),de p "signs" 364 (.ref 146),de p "made" 370 (.ref 151),de p "added" 379 (.ref 158),de p "of_node" 385 (.ref 163),de p "joined" 391 (.ref 168),de p "__static_attributes__" 392 (.ref 169),de p "__dict__" 394 (.ref 172),de p "__weakref__" 396 (.ref 173),de p "__doc__" 397 .none] 4}),
  (171,{cls:=Value.type "type",data:=Data.cls {name:=Str.ofString "Signs",bases:=[Value.type "object"],mro:=[Value.ref 171,Value.type "object"],ns:=170,qualname:=Str.ofString "Signs"},slots:= #[none,none,some (vs "Signs" 345),some (vs "Signs" 353),some (.builtin "object.__new__"),some (Value.bool true)]}),
  (188,co "__init__" 412 "Keeper.__init__" 413 414 99 3 3 183 184 .none (.ref 185) (.ref 186) 187 418 419),
  (189,fo (sb 8 0) "Keeper.__init__" (vs "alikeheap.analyses" 194) 188),
  (195,co "value" 421 "Keeper.value" 422 423 105 2 3 190 191 .none (.ref 192) (.ref 193) 194 426 427),
  (196,fo (sb 8 1) "Keeper.value" (vs "alikeheap.analyses" 194) 195),
  (202,co "begun" 429 "Keeper.begun" 430 431 108 1 3 197 198 .none (.ref 199) (.ref 200) 201 436 437),
  (203,fo (sb 8 2) "Keeper.begun" (vs "alikeheap.analyses" 194) 202),
  (207,co "reckoned" 439 "Keeper.reckoned" 440 441 115 2 3 204 205 .none .none .none 206 442 443),
  (208,fo (sb 8 3) "Keeper.reckoned" (vs "alikeheap.analyses" 194) 207),
  (212,co "settle" 445 "Keeper.settle" 446 447 122 1 3 209 210 .none .none .none 211 448 449),
  (213,fo (sb 8 4) "Keeper.settle" (vs "alikeheap.analyses" 194) 212),
  (229,{cls:=Value.type "dict",data:=Data.dict #[de p "__module__" 407 (vs "alikeheap.analyses" 194),de p "__firstlineno__" 411 (.int 97 410),de p "__init__" 420 (.ref 189),de p "value" 428 (.ref 196),de p "begun" 438 (.ref 203),de p "reckoned" 444 (.ref 208),de p "settle" 450 (.ref 213),de p "clashes" 457 (.ref 220),de p "fold" 464 (.ref 227),de p "__static_attributes__" 469 (.ref 228),de p "__dict__" 471 (.ref 231),de p "__weakref__" 473 (.ref 232),de p "__doc__" 474 .none] 4}),
  (230,{cls:=Value.type "type",data:=Data.cls {name:=Str.ofString "Keeper",bases:=[Value.type "object"],mro:=[Value.ref 230,Value.type "object"],ns:=229,qualname:=Str.ofString "Keeper"},slots:= #[none,none,some (vs "Keeper" 400),some (vs "Keeper" 408),some (.builtin "object.__new__"),some (Value.bool true)]}),
  (279,co "is_op" 535 "is_op" 536 537 156 1 3 276 277 .none .none .none 278 538 539),
  (280,fo (sa 13) "is_op" (vs "alikeheap.terms" 533) 279),
  (298,co "__init__" 559 "Bank.__init__" 560 561 165 1 3 293 294 .none (.ref 295) (.ref 296) 297 563 564),
  (299,fo (sb 15 0) "Bank.__init__" (vs "alikeheap.terms" 533) 298),
  (305,co "size" 566 "Bank.size" 567 568 171 1 3 300 301 .none (.ref 302) (.ref 303) 304 570 571),
  (306,fo (sb 15 1) "Bank.size" (vs "alikeheap.terms" 533) 305),
  (310,co "take" 573 "Bank.take" 574 575 174 3 3 307 308 .none .none .none 309 576 577),
  (311,fo (sb 15 2) "Bank.take" (vs "alikeheap.terms" 533) 310),
  (317,co "require" 579 "Bank.require" 580 581 188 2 3 312 313 .none (.ref 314) (.ref 315) 316 584 585),
  (318,fo (sb 15 3) "Bank.require" (vs "alikeheap.terms" 533) 317),
  (343,co "op" 611 "Bank.op" 612 613 203 2 3 338 339 .none (.ref 340) (.ref 341) 342 616 617),
  (344,fo (sb 15 7) "Bank.op" (vs "alikeheap.terms" 533) 343),
  (350,co "kids" 619 "Bank.kids" 620 621 206 2 3 345 346 .none (.ref 347) (.ref 348) 349 624 625),
  (351,fo (sb 15 8) "Bank.kids" (vs "alikeheap.terms" 533) 350),
  (362,co "term" 635 "Bank.term" 636 637 212 2 3 359 360 .none .none .none 361 638 639),
  (363,fo (sb 15 10) "Bank.term" (vs "alikeheap.terms" 533) 362),
  (386,{cls:=Value.type "dict",data:=Data.dict #[de p "__module__" 554 (vs "alikeheap.terms" 533),de p "__firstlineno__" 558 (.int 163 557),de p "__init__" 565 (.ref 299),de p "size" 572 (.ref 306),de p "take" 578 (.ref 311),de p "require" 586 (.ref 318),de p "put" 596 (.ref 325),de p "put_all" 602 (.ref 330),de p "cut" 610 (.ref 337),de p "op" 618 (.ref 344),de p "kids" 626 (.ref 351),de p "node" 634 (.ref 358),de p "term" 640 (.ref 363),de p "weight" 648 (.ref 370),de p "depth" 656 (.ref 377),de p "seek" 665 (.ref 384),de p "__static_attributes__" 670 (.ref 385),de p "__dict__" 672 (.ref 388),de p "__weakref__" 674 (.ref 389),de p "__doc__" 675 .none] 4}),
  (387,{cls:=Value.type "type",data:=Data.cls {name:=Str.ofString "Bank",bases:=[Value.type "object"],mro:=[Value.ref 387,Value.type "object"],ns:=386,qualname:=Str.ofString "Bank"},slots:= #[none,none,some (vs "Bank" 547),some (vs "Bank" 555),some (.builtin "object.__new__"),some (Value.bool true)]}),
  (404,co "__init__" 692 "Unions.__init__" 693 694 235 1 3 399 400 .none (.ref 401) (.ref 402) 403 696 697),
  (405,fo (sb 17 0) "Unions.__init__" (vs "alikeheap.unions" 678) 404),
  (411,co "make" 699 "Unions.make" 700 701 240 1 3 406 407 .none (.ref 408) (.ref 409) 410 703 704),
  (412,fo (sb 17 1) "Unions.make" (vs "alikeheap.unions" 678) 411),
  (418,co "size" 706 "Unions.size" 707 708 245 1 3 413 414 .none (.ref 415) (.ref 416) 417 710 711),
  (419,fo (sb 17 2) "Unions.size" (vs "alikeheap.unions" 678) 418),
  (425,co "find" 713 "Unions.find" 714 715 248 2 3 420 421 .none (.ref 422) (.ref 423) 424 718 719),
  (426,fo (sb 17 3) "Unions.find" (vs "alikeheap.unions" 678) 425),
  (432,co "merge" 721 "Unions.merge" 722 723 253 3 3 427 428 .none (.ref 429) (.ref 430) 431 729 730),
  (433,fo (sb 17 4) "Unions.merge" (vs "alikeheap.unions" 678) 432),
  (439,co "members" 732 "Unions.members" 733 734 262 2 3 434 435 .none (.ref 436) (.ref 437) 438 737 738),
  (440,fo (sb 17 5) "Unions.members" (vs "alikeheap.unions" 678) 439),
  (444,co "classes" 740 "Unions.classes" 741 742 265 1 3 441 442 .none .none .none 443 743 744),
  (445,fo (sb 17 6) "Unions.classes" (vs "alikeheap.unions" 678) 444),
  (468,{cls:=Value.type "dict",data:=Data.dict #[de p "__module__" 687 (vs "alikeheap.unions" 678),de p "__firstlineno__" 691 (.int 233 690),de p "__init__" 698 (.ref 405),de p "make" 705 (.ref 412),de p "size" 712 (.ref 419),de p "find" 720 (.ref 426),de p "merge" 731 (.ref 433),de p "members" 739 (.ref 440),de p "classes" 745 (.ref 445),de p "log" 752 (.ref 452),de p "back" 760 (.ref 459),de p "cut" 768 (.ref 466),de p "__static_attributes__" 772 (.ref 467),de p "__dict__" 774 (.ref 470),de p "__weakref__" 776 (.ref 471),de p "__doc__" 777 .none] 4}),
  (469,{cls:=Value.type "type",data:=Data.cls {name:=Str.ofString "Unions",bases:=[Value.type "object"],mro:=[Value.ref 469,Value.type "object"],ns:=468,qualname:=Str.ofString "Unions"},slots:= #[none,none,some (vs "Unions" 680),some (vs "Unions" 688),some (.builtin "object.__new__"),some (Value.bool true)]}),
  (486,co "__init__" 794 "Heap.__init__" 795 796 279 1 3 481 482 .none (.ref 483) (.ref 484) 485 798 799),
  (487,fo (sb 19 0) "Heap.__init__" (vs "alikeheap.heap" 780) 486),
  (493,co "size" 801 "Heap.size" 802 803 288 1 3 488 489 .none (.ref 490) (.ref 491) 492 805 806),
  (494,fo (sb 19 1) "Heap.size" (vs "alikeheap.heap" 780) 493),
  (498,co "node" 808 "Heap.node" 809 810 291 2 3 495 496 .none .none .none 497 811 812),
  (499,fo (sb 19 2) "Heap.node" (vs "alikeheap.heap" 780) 498),
  (503,co "add" 814 "Heap.add" 815 816 294 3 3 500 501 .none .none .none 502 817 818),
  (504,fo (sb 19 3) "Heap.add" (vs "alikeheap.heap" 780) 503),
  (508,co "put" 820 "Heap.put" 821 822 305 2 3 505 506 .none .none .none 507 823 824),
  (509,fo (sb 19 4) "Heap.put" (vs "alikeheap.heap" 780) 508),
  (515,co "look_at" 826 "Heap.look_at" 827 828 308 2 3 510 511 .none (.ref 512) (.ref 513) 514 832 833),
  (516,fo (sb 19 5) "Heap.look_at" (vs "alikeheap.heap" 780) 515),
  (522,co "find" 835 "Heap.find" 836 837 313 2 3 517 518 .none (.ref 519) (.ref 520) 521 840 841),
  (523,fo (sb 19 6) "Heap.find" (vs "alikeheap.heap" 780) 522),
  (536,co "merge" 852 "Heap.merge" 853 854 319 4 3 531 532 .none (.ref 533) (.ref 534) 535 859 860),
  (537,fo (sb 19 8) "Heap.merge" (vs "alikeheap.heap" 780) 536),
  (543,co "join" 862 "Heap.join" 863 864 322 4 3 538 539 .none (.ref 540) (.ref 541) 542 872 873),
  (544,fo (sb 19 9) "Heap.join" (vs "alikeheap.heap" 780) 543),
  (550,co "settle" 875 "Heap.settle" 876 877 333 1 3 545 546 .none (.ref 547) (.ref 548) 549 879 880),
  (551,fo (sb 19 10) "Heap.settle" (vs "alikeheap.heap" 780) 550),
  (564,co "classes" 889 "Heap.classes" 890 891 340 1 3 559 560 .none (.ref 561) (.ref 562) 563 893 894),
  (565,fo (sb 19 12) "Heap.classes" (vs "alikeheap.heap" 780) 564),
  (571,co "members" 896 "Heap.members" 897 898 343 2 3 566 567 .none (.ref 568) (.ref 569) 570 901 902),
  (572,fo (sb 19 13) "Heap.members" (vs "alikeheap.heap" 780) 571),
  (576,co "nodes_of" 904 "Heap.nodes_of" 905 906 346 2 3 573 574 .none .none .none 575 907 908),
  (577,fo (sb 19 14) "Heap.nodes_of" (vs "alikeheap.heap" 780) 576),
  (595,co "users" 923 "Heap.users" 924 925 356 2 3 590 591 .none (.ref 592) (.ref 593) 594 928 929),
  (596,fo (sb 19 17) "Heap.users" (vs "alikeheap.heap" 780) 595),
  (598,{cls:=Value.type "dict",data:=Data.dict #[de p "__module__" 789 (vs "alikeheap.heap" 780),de p "__firstlineno__" 793 (.int 277 792),de p "__init__" 800 (.ref 487),de p "size" 807 (.ref 494),de p "node" 813 (.ref 499),de p "add" 819 (.ref 504),de p "put" 825 (.ref 509),de p "look_at" 834 (.ref 516),de p "find" 842 (.ref 523),de p "are_like" 851 (.ref 530),de p "merge" 861 (.ref 537),de p "join" 874 (.ref 544),de p "settle" 881 (.ref 551),de p "is_settled" 888 (.ref 558),de p "classes" 895 (.ref 565),de p "members" 903 (.ref 572),de p "nodes_of" 909 (.ref 577),de p "many_nodes" 916 (.ref 584),de p "seek" 922 (.ref 589),de p "users" 930 (.ref 596),de p "__static_attributes__" 938 (.ref 597),de p "__dict__" 940 (.ref 600),de p "__weakref__" 942 (.ref 601),de p "__doc__" 943 .none] 4}),
  (599,{cls:=Value.type "type",data:=Data.cls {name:=Str.ofString "Heap",bases:=[Value.type "object"],mro:=[Value.ref 599,Value.type "object"],ns:=598,qualname:=Str.ofString "Heap"},slots:= #[none,none,some (vs "Heap" 782),some (vs "Heap" 790),some (.builtin "object.__new__"),some (Value.bool true)]}),
  (604,{cls:=Value.type "tuple",data:=Data.seq #[vs "a" 948]}),
  (605,{cls:=Value.type "tuple",data:=Data.seq #[vs "b" 949]}),
  (606,{cls:=Value.type "tuple",data:=Data.seq #[vs "var0" 950]}),
  (607,{cls:=Value.type "tuple",data:=Data.seq #[vs "var1" 951]}),
  (608,{cls:=Value.type "tuple",data:=Data.seq #[vs "0" 952]}),
  (609,{cls:=Value.type "tuple",data:=Data.seq #[vs "2" 953]}),
  (610,{cls:=Value.type "tuple",data:=Data.seq #[vs "-3" 954]}),
  (611,{cls:=Value.type "tuple",data:=Data.seq #[Value.ref 604,Value.ref 605,Value.ref 606,Value.ref 607,Value.ref 608,Value.ref 609,Value.ref 610]}),
  (617,co "_law_turn" 956 "_law_turn" 957 958 360 2 3 612 613 .none (.ref 614) (.ref 615) 616 962 963),
  (618,fo (sa 22) "_law_turn" (vs "law_pq0090_01" 946) 617),
  (624,co "_law_term" 965 "_law_term" 966 967 364 2 3 619 620 .none (.ref 621) (.ref 622) 623 972 973),
  (625,fo (sa 23) "_law_term" (vs "law_pq0090_01" 946) 624),
  (631,co "_law_analysis" 975 "_law_analysis" 976 977 372 1 3 626 627 .none (.ref 628) (.ref 629) 630 979 980),
  (632,fo (sa 24) "_law_analysis" (vs "law_pq0090_01" 946) 631),
  (636,co "_law_kept" 982 "_law_kept" 983 984 374 3 3 633 634 .none .none .none 635 985 986),
  (637,fo (sa 25) "_law_kept" (vs "law_pq0090_01" 946) 636),
  (641,co "_law_is_reached" 988 "_law_is_reached" 989 990 385 2 3 638 639 .none .none .none 640 991 992),
  (642,fo (sa 26) "_law_is_reached" (vs "law_pq0090_01" 946) 641),
  (646,co "law" 994 "law" 995 996 393 1 3 643 644 .none .none .none 645 997 998),
  (647,fo (sa 27) "law" (vs "law_pq0090_01" 946) 646)]
noncomputable def xn(ok:Thread->Bool)(st:SharedT->Thread->Option (SharedT×Thread))(n:Nat):SharedT->Thread->Option SharedT:=
 @Nat.rec (fun Z=>SharedT->Thread->Option SharedT) (fun Z Z=>none) (fun Z ih s t=>@Bool.rec (fun Z=>Option SharedT) (@Bool.rec (fun Z=>Option SharedT) none (@Option.rec (SharedT×Thread) (fun Z=>Option SharedT) none (fun r=>@Prod.rec SharedT Thread (fun Z=>Option SharedT) (fun s' t'=>ih s' t') r) (st s t)) (ok t)) (some s) (through t)) n
theorem qF{tb:String->Option Builtin}{p:Program}{w:World}{n₀:Nat}{ann:Option Value}:∀ {n:Nat} {s s':SharedT} {t:Thread},xn (stepOk n₀ ann) (stepT (denote tb) p w) n s t=some s'->topRun tb p w n₀ ann n s.abs t=some s'.abs
 | 0,_,_,_,h=>by cases h
 | n+1,s,s',t,h=>by
   change @Bool.rec (fun Z=>Option SharedT) (@Bool.rec (fun Z=>Option SharedT) none (@Option.rec (SharedT×Thread) (fun Z=>Option SharedT) none (fun r=>@Prod.rec SharedT Thread (fun Z=>Option SharedT) (fun s' t'=>xn (stepOk n₀ ann) (stepT (denote tb) p w) n s' t') r) (stepT (denote tb) p w s t)) (stepOk n₀ ann t)) (some s) (through t)=_ at h
   unfold topRun
   cases he:through t with
   | true=>rw[he] at h;cases h;rfl
   | false=>
     rw[he] at h
     cases hk:stepOk n₀ ann t with
     | false=>rw[hk] at h;cases h
     | true=>
       rw[hk] at h
       cases hs:stepT (denote tb) p w s t with
       | none=>rw[hs] at h;cases h
       | some r=>obtain⟨s₂,t₂⟩:=r;rw[hs] at h;dsimp only;rw[stepT_spec hs];exact qF h
noncomputable def wV(P:Params):PySem.W.BT:=((boot_heap P).objs.toList.foldl (fun r o=>(r.1.ins r.2 o,r.2+1)) (PySem.W.BT.nil,0)).1
noncomputable def uy(P:Params)(os:OsState):SharedT:=⟨wV P,(boot_heap P).objs.size,(boot_heap P).life,Array.mk [],boot_drawn,boot_toks,os⟩
theorem sx(P:Params)(os:OsState):(uy P os).abs=⟨boot_heap P,Array.mk [],boot_drawn,boot_toks,os⟩:=by
 have:absHeap (wV P) (boot_heap P).objs.size (boot_heap P).life=boot_heap P:=by kernel_rfl
 unfold uy SharedT.abs
 dsimp only
 rw[this]
noncomputable def qv:Program:=view PySem.Challenge.pw_pq0090_01 [27]
noncomputable def LS:List Str:=["_wall","whole_of","Consts","LeastDepth","LeastSize","FreeNames","Signs","Keeper","HeapError","TermFault","is_op","parts","Bank","Unions","Heap","_law_leaves","_law_turn","_law_term","_law_analysis","_law_kept","_law_is_reached"]
noncomputable def KA:List Addr:=[2,3,25,26,39,40,46,47,53,54,56,57,74,75,81,82,84,85,102,103,105,106,119,120,124,125,127,128,145,146,150,151,157,158,162,163,167,168,170,171,188,189,195,196,202,203,207,208,212,213,229,230,279,280,298,299,305,306,310,311,317,318,343,344,350,351,362,363,386,387,404,405,411,412,418,419,425,426,432,433,439,440,444,445,468,469,486,487,493,494,498,499,503,504,508,509,515,516,522,523,536,537,543,544,550,551,564,565,571,572,576,577,595,596,598,599,604,605,606,607,608,609,610,611,617,618,624,625,631,632,636,637,641,642,646,647]
theorem m7:∀ P,KA=(KF P).map (fun x=>x.1):=fun Z=>rfl
noncomputable def XT(s:Shared):Bool:=xlAt qv [] s&&recOk [] s
noncomputable def pC(P:Params)(s:Shared):Bool:=staticsOk (importedModules PySem.Challenge.pw_pq0090_01.main.body) (boot_heap P) s.heap&&namesBound PySem.Challenge.pw_pq0090_01 s.heap&&gensDone s&&laidKept (boot_heap P) s.heap
theorem zf(w:World)(os:OsState):(xn (stepOk (boot_heap w.params).objs.size ((boot_heap w.params).nsMap mainGlobals "__annotations__")) (stepT (denote treeTable) PySem.Challenge.pw_pq0090_01 w) 9174 (uy w.params os) (topStub PySem.Challenge.pw_pq0090_01)).map (fun s=>(pC w.params s.abs&&KA.all (fun a=>Nat.blt a s.n),openSeen qv LS (importedModules PySem.Challenge.pw_pq0090_01.main.body) XT true s.abs,KA.map fun a=>(s.tree.get a).bind alive))=some (true,openGood qv LS,(KF w.params).map fun p=>some p.2):=by
 unfold pC
 rewrite[PySem.W.Fast.te10156331382660048174,PySem.W.Fast.te6613529449190102663,PySem.W.Fast.te11892475500146522536,PySem.W.Fast.te14364793385576792824,PySem.W.Fast.te4187177175401517315,PySem.W.Fast.te5923862056798008813]
 kernel_rfl
theorem vj{s:SharedT}{a:Addr}{x:Obj}(hn:Nat.blt a s.n=true)(h:(s.tree.get a).bind alive=some x):s.abs.heap.get? a=some x:=by
 cases g:s.tree.get a with
 | none=>rw[g] at h;cases h
 | some o=>rw[g] at h;exact(abs_get (Nat.le_of_ble_eq_true hn) g).trans h
theorem tc{s:SharedT}(l:List Addr):∀ (r:List (Addr×Obj)),l.all (fun a=>Nat.blt a s.n)=true->(l.map fun a=>(s.tree.get a).bind alive)=(r.map fun p=>some p.2)->l.map s.abs.heap.get?=r.map fun p=>some p.2:=by
 induction l with
 | nil=>exact fun r Z h=>h
 | cons a l ih=>
   intro r hn h
   cases r with
   | nil=>cases h
   | cons p r=>
     have z:=Bool.and_eq_true_iff.mp hn
     have y:=List.cons.inj h
     exact congr (congrArg List.cons (vj z.1 y.1)) (ih r z.2 y.2)
theorem pA{tb:String->Option Builtin}{p:Program}{w:World}{N:Nat}{s₀ s₁:Shared}(z:(s₀.heap.isNs mainGlobals&&s₀.gens.size==0)=true)(r:topRun tb p w s₀.heap.objs.size (s₀.heap.nsMap mainGlobals "__annotations__") N s₀ (topStub p)=some s₁)
 (k:(staticsOk (importedModules p.main.body) s₀.heap s₁.heap&&namesBound p s₁.heap&&gensDone s₁&&laidKept s₀.heap s₁.heap)=true):topFrom tb p w N s₀=some s₁:=by
 unfold topFrom
 rw[z,r]
 show(match staticsOk (importedModules p.main.body) s₀.heap s₁.heap&&namesBound p s₁.heap&&gensDone s₁&&laidKept s₀.heap s₁.heap with | true=>some s₁ | false=>none)=_
 rw[k]
theorem xE(P:Params):((boot_heap P).isNs mainGlobals&&(Array.mk []:Array GenState).size==0)=true:=by kernel_rfl
theorem yz:opening PySem.Challenge.pw_pq0090_01=plainProg PySem.Challenge.pw_pq0090_01.main.scope.names:=by kernel_rfl
theorem yy:∀ s,fenceModules? PySem.Challenge.pw_pq0090_01 s=some s:=by intro s;kernel_rfl
theorem vm{w:World}{os:OsState}{s₁:Shared}(hr:topRun treeTable PySem.Challenge.pw_pq0090_01 w (boot_heap w.params).objs.size ((boot_heap w.params).nsMap mainGlobals "__annotations__") 9174 ⟨boot_heap w.params,Array.mk [],boot_drawn,boot_toks,os⟩ (topStub PySem.Challenge.pw_pq0090_01)=some s₁)(k:pC w.params s₁=true):topFrom treeTable PySem.Challenge.pw_pq0090_01 w 9174 ⟨boot_heap w.params,Array.mk [],boot_drawn,boot_toks,os⟩=some s₁:=
 pA (s₀:=⟨boot_heap w.params,Array.mk [],boot_drawn,boot_toks,os⟩) (xE w.params) hr k
theorem vK{p q:Program}{l:List Str}{Xt:Shared->Bool}{α:Type}{Yf:Shared->α}{Ya:α}{N:Nat}{w:World}{s s₁:Shared}(h:fencedOpening treeTable p w N=some s)(h1:topFrom treeTable p w N s=some s₁)(h2:(openSeen q l (importedModules p.main.body) Xt true s₁,Yf s₁)=(openGood q l,Ya)):
 (openEnds treeTable p w N).map (fun s=>(openSeen q l (importedModules p.main.body) Xt true s,Yf s))=some (openGood q l,Ya):=by
 unfold openEnds
 rw[h]
 show(topFrom treeTable p w N s).map _=_
 rw[h1]
 exact congrArg some h2
theorem tO{α β γ:Type}{f:α->β}{g:α->γ}{b:β}{c:γ}{o:Option α}(h:o.map (fun s=>(f s,g s))=some (b,c)):∃ x,o=some x∧f x=b∧g x=c:=by
 obtain⟨x,hx,e⟩:=Option.map_eq_some_iff.mp h
 exact⟨x,hx,congrArg Prod.fst e,congrArg Prod.snd e⟩
theorem wa(w:World):∃ os,fencedOpening treeTable PySem.Challenge.pw_pq0090_01 w 9174=some ⟨boot_heap w.params,Array.mk [],boot_drawn,boot_toks,os⟩:=by
 obtain⟨⟨h,g,d,t,os⟩,hs,e⟩:=Option.map_eq_some_iff.mp (boot_open (p:=PySem.Challenge.pw_pq0090_01) (N:=9174) yz (by rfl) yy w)
 obtain⟨rfl,e⟩:=Prod.mk.inj e
 obtain⟨rfl,e⟩:=Prod.mk.inj e
 obtain⟨rfl,rfl⟩:=Prod.mk.inj e
 exact⟨os,hs⟩
theorem yr:LeftO PySem.Challenge.pw_pq0090_01 qv LS XT (fun s=>KA.map s.heap.get?) (fun w=>(KF w.params).map fun p=>some p.2) 9174:=fun w=>by
 obtain⟨os,hs⟩:=wa w
 obtain⟨x,hx,e3,e4⟩:=tO (zf w os)
 have hr:=qF hx
 rw[sx] at hr
 have e5:=Bool.and_eq_true_iff.mp e3
 have e6:=Prod.mk.inj e4
 exact vK hs (vm hr e5.1) (Prod.ext e6.1 (tc KA (KF w.params) e5.2 e6.2))
theorem yo:namesResolve PySem.Challenge.pw_pq0090_01=true:=by
 rewrite[PySem.W.Fast.te8377067652309620493]
 kernel_rfl
theorem yn:noRoadLSs {strict:= !(importedModules PySem.Challenge.pw_pq0090_01.main.body).all cThrough.contains,foot:=none,bare:=(["vars","dir","locals"]:List Str).filter (readsOut PySem.Challenge.pw_pq0090_01 PySem.Challenge.pw_pq0090_01.main.body)} PySem.Challenge.pw_pq0090_01.main.body=true:=by
 rewrite[PySem.W.Fast.te8326940854005059898,PySem.W.Fast.te5923862056798008813,PySem.W.Fast.te13343964577679436407,PySem.W.Fast.te17691160309236699985]
 kernel_rfl
theorem ym:(namesMeet PySem.Challenge.pw_pq0090_01 PySem.Challenge.pw_pq0090_01.main.body fun Z n=>attrL n)=true:=by
 rewrite[PySem.W.Fast.te17119622794617984870,PySem.W.Fast.te17868728402115742887]
 kernel_rfl
theorem yk:PySem.Challenge.pw_pq0090_01.boundNames.all (fun n=> !worldNames.contains n)=true:=by
 rewrite[PySem.W.Fast.te18344453789297297638,PySem.W.Fast.te14412699480532031325]
 kernel_rfl
theorem yj:(sreFenced PySem.Challenge.pw_pq0090_01.main&&((moduleNames PySem.Challenge.pw_pq0090_01.main.body).isEmpty||lookedIntoSs (moduleNames PySem.Challenge.pw_pq0090_01.main.body) PySem.Challenge.pw_pq0090_01.main.body))=true:=by kernel_rfl
theorem zj:looksOpen PySem.Challenge.rw_pq0090_01.row.prog=true:=look_both (look_both (look_both (look_both yj yo) yk) yn) ym
theorem ya:PySem.Challenge.rw_pq0090_01.row.wellSaid=true:=by
 unfold OpenRow.wellSaid OpenRow.partSaid
 rewrite[zj,PySem.W.Fast.te18344453789297297638]
 kernel_rfl
theorem xi:PySem.Challenge.rw_pq0090_01.wellSaid=true:=by
 have q:=ya
 rewrite[PySem.W.Fast.te17960256430627541270,PySem.W.Fast.te2368527892694137696] at q
 rewrite[PySem.W.Fast.te9446332074065402090]
 unfold PySem.W.Fast.tw9446332074065402090
 rewrite[q]
 kernel_rfl
end
section
open PySem PySem.W PySem.Calls PySem.Spec PyProof.Rows
inductive a5 where
 | none
 | bool (b:Bool)
 | int (i:Int)
 | str (s:Str)
 | tup (xs:List a5)
 | frz (xs:List a5)
 | rng (n:Nat)
 | ref (l:Nat)
noncomputable abbrev aT:=Sum Str Int
inductive af where
 | list (xs:List a5)
 | idict (es:List (Int×a5))
 | tdict (es:List (List aT×a5))
 | inst (C:Addr) (as:List (Str×a5))
structure aj where
 pl:List (Nat×Nat)
 rs:List Nat
noncomputable def Pl(φ:aj)(b:Nat):Prop:=∃ p∈φ.pl,p.1=b∨p.2=b
noncomputable def dO(φ:aj)(b:Nat):Prop:=Pl φ b∨b∈φ.rs
structure Wd where
 prog:Program
 w:World
 H:Heap
 K:Frag
 mg:Str->Option Value
 mb:Str->Option Value
structure Wd.Ok(W:Wd):Prop where
 X:W.K.In W.H
 g:W.H.Ns mainGlobals W.mg
 b:W.H.Ns builtinsNs W.mb
 nolimit:W.H.NoLimit
 builtins:∀ x:Str,x≠Str.ofString "__name__"->W.mb x=bootBuiltins x
 low:sysModules<W.H.objs.size
 nodigits:∃ mc,W.H.Ns cStatics mc∧mc (Str.ofString "sys.int_max_str_digits")=Option.none
mutual
inductive aa(φ:aj)(h:Heap):Value->a5->Prop
 | none:aa φ h .none .none
 | bool (b:Bool):aa φ h (.bool b) (.bool b)
 | int (i:Int) (t:Tok):aa φ h (.int i t) (.int i)
 | str (x:Str) (t:Tok):aa φ h (.str x t) (.str x)
 | tup {a:Addr} {vs:Array Value} {xs:List a5}:h.IsTuple a vs->¬dO φ a->ad φ h vs.toList xs->aa φ h (.ref a) (.tup xs)
 | frz {a:Addr} {vs:Array Value} {xs:List a5}:h.IsList a vs->¬dO φ a->ad φ h vs.toList xs->aa φ h (.ref a) (.frz xs)
 | rng {a:Addr} {n:Nat} {t u v:Tok}:IsRange h a 0 (n:Int) 1 t u v->n≤1000->¬dO φ a->aa φ h (.ref a) (.rng n)
 | ref {l:Nat} {p:Nat×Nat}:φ.pl[l]? =some p->aa φ h (.ref p.1) (.ref l)
inductive ad(φ:aj)(h:Heap):List Value->List a5->Prop
 | nil:ad φ h [] []
 | cons {v:Value} {x:a5} {vs:List Value} {xs:List a5}:aa φ h v x->ad φ h vs xs->ad φ h (v::vs) (x::xs)
end
structure b6(X:Addr->Prop)(φ:aj)(h:Heap)(φ':aj)(h':Heap):Prop where
 ext:∃ t:List (Nat×Nat),φ'.pl=φ.pl++t∧∀ p∈t,h.objs.size≤p.1∧h.objs.size≤p.2
 rs:φ'.rs=φ.rs
 keep:∀ b o,h.get? b=some o->¬Pl φ b->¬X b->h'.get? b=some o
 size:h.objs.size≤h'.objs.size
noncomputable abbrev dB:=b6 (fun Z=>False)
theorem b6.refl{X:Addr->Prop}{φ:aj}{h:Heap}:b6 X φ h φ h:=⟨(a6 ([]) (by exact(List.append_nil ..).symm) (fun Z hp=>nomatch hp)),rfl,fun Z Z e Z Z=>e,Nat.le_refl _⟩
theorem b6.mono{X Y:Addr->Prop}{φ φ':aj}{h h':Heap}(hXY:∀ b,X b->Y b)(S:b6 X φ h φ' h'):b6 Y φ h φ' h':=
 ⟨S.ext,S.rs,fun b o e n ny=>S.keep b o e n fun x=>ny (hXY b x),S.size⟩
theorem dB.toX{X:Addr->Prop}{φ φ':aj}{h h':Heap}(S:dB φ h φ' h'):b6 X φ h φ' h':=S.mono fun Z x=>x.elim
theorem b6.quiet{X:Addr->Prop}{φ:aj}{h h':Heap}(k:∀ b o,h.get? b=some o->¬X b->h'.get? b=some o)(hs:h.objs.size≤h'.objs.size):b6 X φ h φ h':=⟨(a6 ([]) (by exact(List.append_nil ..).symm) (fun Z hp=>nomatch hp)),rfl,fun b o e Z nx=>k b o e nx,hs⟩
theorem b6.notPl{X:Addr->Prop}{φ φ':aj}{h h':Heap}(S:b6 X φ h φ' h'){b:Nat}(hb:b<h.objs.size)(n:¬Pl φ b):¬Pl φ' b:=by
 refine a7 S.ext fun t e ht=>?_
 rintro⟨p,hp,q⟩
 rw[e] at hp
 rcases List.mem_append.mp hp with hp | hp
 ·exact n (a6 p hp q)
 ·have:=ht p hp;rcases q with q | q<;>lia
theorem b6.notOwn{X:Addr->Prop}{φ φ':aj}{h h':Heap}(S:b6 X φ h φ' h'){b:Nat}(hb:b<h.objs.size)(n:¬dO φ b):¬dO φ' b:=by
 rintro(x | x)
 ·exact S.notPl hb (fun y=>n (.inl y)) x
 ·exact n (.inr (S.rs▸x))
theorem b6.trans{X:Addr->Prop}{φ φ₁ φ₂:aj}{h h₁ h₂:Heap}(S:b6 X φ h φ₁ h₁)(T:b6 X φ₁ h₁ φ₂ h₂):b6 X φ h φ₂ h₂:=by
 refine⟨?_,T.rs.trans S.rs,fun b o e n nx=>T.keep b o (S.keep b o e n nx) (S.notPl (Heap.lt_size e) n) nx,a9 S.size T.size⟩
 refine a7 S.ext fun t e ht=>?_
 refine a7 T.ext fun u e' hu=>?_
 refine a6 (t++u) (by refine a0 e' ?_;refine a0 e ?_;refine a0 (List.append_assoc ..) ?_;rfl) (fun p hp=>?_)
 rcases List.mem_append.mp hp with hp | hp
 ·exact ht p hp
 ·have:=hu p hp;have:=S.size;lia
theorem b6.phi{X:Addr->Prop}{φ φ':aj}{h h':Heap}(S:b6 X φ h φ' h'){l:Nat}{p:Nat×Nat}(e:φ.pl[l]? =some p):φ'.pl[l]? =some p:=by
 refine a7 S.ext fun t q Z=>?_
 refine a0 q ?_;refine a0 (List.getElem?_append_left (List.getElem?_eq_some_iff.mp e).1) ?_;exact e
theorem IsTuple.lt{h:Heap}{a:Addr}{vs:Array Value}(x:h.IsTuple a vs):a<h.objs.size:=let ⟨_,e,_⟩:=x;Heap.lt_size e
theorem IsList.lt{h:Heap}{a:Addr}{vs:Array Value}(x:h.IsList a vs):a<h.objs.size:=let ⟨_,e,_⟩:=x;Heap.lt_size e
noncomputable def c9(X:Addr->Prop)(φ:aj)(h:Heap):Prop:=∀ (b:Nat) o,h.get? b=some o->X b->b∈φ.rs∨((∀ xs n,o.data≠.seq xs n)∧∀ vs,o.data≠.fields vs)
structure fv(φ:aj)(h:Heap)(φ':aj)(h':Heap):Prop where
 pl:∀ {l:Nat} {p:Nat×Nat},φ.pl[l]? =some p->φ'.pl[l]? =some p
 ob:∀ (b:Nat) o,h.get? b=some o->¬dO φ b->((∃ xs n,o.data=.seq xs n)∨∃ vs,o.data=.fields vs)->h'.get? b=some o
 own:∀ b:Nat,b<h.objs.size->¬dO φ b->¬dO φ' b
 size:h.objs.size≤h'.objs.size
section
variable{φ φ':aj}{h h':Heap}{X:Addr->Prop}{v:Value}{x:a5}{vs:List Value}{xs:List a5}
theorem aa.map(M:fv φ h φ' h')(r:aa φ h v x):aa φ' h' v x:=
 aa.rec (motive_1:=fun v x Z=>aa φ' h' v x) (motive_2:=fun vs xs Z=>ad φ' h' vs xs) .none .bool .int .str
  (fun ht n Z ih=>.tup (Exists.imp (fun o k=>⟨M.ob _ o k.1 n (.inl ⟨_,k.2.2⟩),k.2⟩) ht) (M.own _ (IsTuple.lt ht) n) ih)
  (fun ht n Z ih=>.frz (Exists.imp (fun o k=>⟨M.ob _ o k.1 n (.inl ⟨_,k.2.2⟩),k.2⟩) ht) (M.own _ (IsList.lt ht) n) ih)
  (fun ht hn n=>.rng (M.ob _ _ ht n (.inr ⟨_,rfl⟩)) hn (M.own _ (Heap.lt_size ht) n)) (fun e=>.ref (M.pl e)) .nil (fun Z Z a b=>.cons a b) r
theorem ad.ind{P:List Value->List a5->Prop}(h0:P [] [])(h1:∀ {v x vs xs},aa φ h v x->ad φ h vs xs->P vs xs->P (v::vs) (x::xs))(r:ad φ h vs xs):P vs xs:=
 ad.rec (motive_1:=fun Z Z Z=>True) (motive_2:=fun vs xs Z=>P vs xs) trivial (fun Z=>trivial) (fun Z Z=>trivial) (fun Z Z=>trivial) (fun Z Z Z Z=>trivial) (fun Z Z Z Z=>trivial) (fun Z Z Z=>trivial) (fun Z=>trivial) h0 (fun a b Z ih=>h1 a b ih) r
theorem ad.map(M:fv φ h φ' h')(r:ad φ h vs xs):ad φ' h' vs xs:=r.ind .nil fun a Z ih=>.cons (a.map M) ih
theorem b6.vmap(S:b6 X φ h φ' h')(hX:c9 X φ h):fv φ h φ' h':=
 ⟨S.phi,fun b o e n d=>S.keep b o e (fun x=>n (.inl x)) fun x=>(hX b o e x).elim (fun y=>n (.inr y)) fun y=>d.elim (fun⟨_,_,z⟩=>y.1 _ _ z) fun⟨_,z⟩=>y.2 _ z,fun b lt n=>S.notOwn lt n,S.size⟩
theorem aa.step(S:b6 X φ h φ' h')(hX:c9 X φ h)(r:aa φ h v x):aa φ' h' v x:=r.map (S.vmap hX)
theorem ad.step(S:b6 X φ h φ' h')(hX:c9 X φ h)(r:ad φ h vs xs):ad φ' h' vs xs:=r.map (S.vmap hX)
theorem fv.more(e:φ'.pl=φ.pl)(l:∀ b∈φ'.rs,b∈φ.rs∨h.objs.size≤(b:Nat)):fv φ h φ' h:=
 ⟨fun q=>e▸q,fun Z Z e Z Z=>e,fun b lt n x=>x.elim (fun⟨p,hp,q⟩=>n (.inl (a6 p (e▸hp) q))) fun y=>(l b y).elim (fun z=>n (.inr z)) fun z=>absurd lt (Nat.not_lt.mpr z),Nat.le_refl _⟩
theorem fv.less(e:φ'.pl=φ.pl)(l:∀ b∈φ'.rs,b∈φ.rs):fv φ h φ' h:=.more e fun b hb=>.inl (l b hb)
theorem aa.less(e:φ'.pl=φ.pl)(l:∀ b∈φ'.rs,b∈φ.rs)(r:aa φ h v x):aa φ' h v x:=r.map (.less e l)
theorem ad.less(e:φ'.pl=φ.pl)(l:∀ b∈φ'.rs,b∈φ.rs)(r:ad φ h vs xs):ad φ' h vs xs:=r.map (.less e l)
end
theorem c9.any{X:Addr->Prop}{h:Heap}(x:c9 X ⟨[],[]⟩ h)(φ:aj):c9 X φ h:=fun b o e f=>(x b o e f).elim (fun y=>nomatch y) .inr
theorem ae(φ:aj)(h:Heap):c9 (fun Z=>False) φ h:=fun Z Z Z x=>x.elim
section
variable{φ:aj}{h:Heap}{v:Value}{x:a5}{vs ws:List Value}{xs ys:List a5}
theorem ad.length(r:ad φ h vs xs):vs.length=xs.length:=r.ind (P:=fun vs xs=>vs.length=xs.length) rfl fun Z Z ih=>congrArg (· +1) ih
theorem ad.append(r:ad φ h vs xs)(q:ad φ h ws ys):ad φ h (vs++ws) (xs++ys):=r.ind (P:=fun vs xs=>ad φ h (vs++ws) (xs++ys)) q fun a Z ih=>.cons a ih
theorem ad.get(r:ad φ h vs xs):∀ {i:Nat} {x:a5},xs[i]? =some x->∃ v,vs[i]? =some v∧aa φ h v x:=
 r.ind (P:=fun vs xs=>∀ {i:Nat} {x:a5},xs[i]? =some x->∃ v,vs[i]? =some v∧aa φ h v x) (fun e=>nomatch e) fun a Z ih i Z e=>match i,e with
   | 0,e=>Option.some.inj e▸(a6 _ rfl a)
   | _+1,e=>ih e
theorem ad.get'(r:ad φ h vs xs):∀ {i:Nat} {v:Value},vs[i]? =some v->∃ x,xs[i]? =some x∧aa φ h v x:=
 r.ind (P:=fun vs xs=>∀ {i:Nat} {v:Value},vs[i]? =some v->∃ x,xs[i]? =some x∧aa φ h v x) (fun e=>nomatch e) fun a Z ih i Z e=>match i,e with
   | 0,e=>Option.some.inj e▸(a6 _ rfl a)
   | _+1,e=>ih e
theorem ad.drop(r:ad φ h vs xs):∀ k,ad φ h (vs.drop k) (xs.drop k):=r.ind (P:=fun vs xs=>∀ k,ad φ h (vs.drop k) (xs.drop k)) (fun k=>by refine a0 List.drop_nil ?_;refine a0 List.drop_nil ?_;exact .nil) fun a b ih k=>match k with
 | 0=>.cons a b
 | k+1=>ih k
theorem ad.set(a':aa φ h v x)(r:ad φ h vs xs):∀ k,ad φ h (vs.set k v) (xs.set k x):=r.ind (P:=fun vs xs=>∀ k,ad φ h (vs.set k v) (xs.set k x)) (fun Z=>.nil) fun a b ih k=>match k with
 | 0=>.cons a' b
 | k+1=>.cons a (ih k)
theorem ad.erase(r:ad φ h vs xs):∀ k,ad φ h (vs.eraseIdx k) (xs.eraseIdx k):=r.ind (P:=fun vs xs=>∀ k,ad φ h (vs.eraseIdx k) (xs.eraseIdx k)) (fun Z=>.nil) fun a b ih k=>match k with
 | 0=>b
 | k+1=>.cons a (ih k)
theorem ad.reverse(r:ad φ h vs xs):ad φ h vs.reverse xs.reverse:=r.ind (P:=fun vs xs=>ad φ h vs.reverse xs.reverse) .nil fun a Z ih=>by refine a0 List.reverse_cons ?_;refine a0 List.reverse_cons ?_;exact ih.append (.cons a .nil)
noncomputable def uI(φ:aj)(h:Heap)(v:Value):a5->Prop
 | .none=>v=.none
 | .bool b=>v=.bool b
 | .int i=>∃ t,v=.int i t
 | .str x=>∃ t,v=.str x t
 | .tup xs=>∃ a vs,v=.ref a∧h.IsTuple a vs∧¬dO φ a∧ad φ h vs.toList xs
 | .frz xs=>∃ a vs,v=.ref a∧h.IsList a vs∧¬dO φ a∧ad φ h vs.toList xs
 | .rng n=>∃ a t u w,v=.ref a∧IsRange h a 0 (n:Int) 1 t u w∧n≤1000∧¬dO φ a
 | .ref l=>∃ p,v=.ref p.1∧φ.pl[l]? =some p
noncomputable def qU(φ:aj)(h:Heap)(vs:List Value):List a5->Prop
 | []=>vs=[]
 | x::xs=>∃ v ws,vs=v::ws∧aa φ h v x∧ad φ h ws xs
theorem aa.shape(r:aa φ h v x):uI φ h v x:=
 aa.rec (motive_1:=fun v x Z=>uI φ h v x) (motive_2:=fun Z Z Z=>True) rfl (fun Z=>rfl) (fun Z t=>⟨t,rfl⟩) (fun Z t=>⟨t,rfl⟩) (fun a b c Z=>jg _ _ rfl a b c) (fun a b c Z=>jg _ _ rfl a b c) (fun a b c=>⟨_,_,_,_,rfl,a,b,c⟩) (fun e=>a6 _ rfl e) trivial (fun Z Z Z Z=>trivial) r
theorem ad.shape(r:ad φ h vs xs):qU φ h vs xs:=r.ind (P:=qU φ h) rfl fun a b Z=>d7 _ _ rfl a b
theorem aa.none_inv(r:aa φ h v .none):v=.none:=r.shape
theorem aa.bool_inv{b:Bool}(r:aa φ h v (.bool b)):v=.bool b:=r.shape
theorem aa.int_inv{i:Int}(r:aa φ h v (.int i)):∃ t,v=.int i t:=r.shape
theorem aa.str_inv{x:Str}(r:aa φ h v (.str x)):∃ t,v=.str x t:=r.shape
theorem aa.tup_inv(r:aa φ h v (.tup xs)):∃ a vs,v=.ref a∧h.IsTuple a vs∧¬dO φ a∧ad φ h vs.toList xs:=r.shape
theorem aa.frz_inv(r:aa φ h v (.frz xs)):∃ a vs,v=.ref a∧h.IsList a vs∧¬dO φ a∧ad φ h vs.toList xs:=r.shape
theorem aa.rng_inv{n:Nat}(r:aa φ h v (.rng n)):∃ a t u w,v=.ref a∧IsRange h a 0 (n:Int) 1 t u w∧n≤1000∧¬dO φ a:=r.shape
theorem aa.ref_inv{l:Nat}(r:aa φ h v (.ref l)):∃ p,v=.ref p.1∧φ.pl[l]? =some p:=r.shape
theorem ad.nil_inv(r:ad φ h vs []):vs=[]:=r.shape
theorem ad.cons_inv(r:ad φ h vs (x::xs)):∃ v ws,vs=v::ws∧aa φ h v x∧ad φ h ws xs:=r.shape
section
variable{P:Value->Prop}{Ps:List Value->Prop}
@[elab_as_elim] theorem aa.none_el(r:aa φ h v .none)(k:P .none):P v:=r.none_inv▸k
@[elab_as_elim] theorem aa.bool_el{b:Bool}(r:aa φ h v (.bool b))(k:P (.bool b)):P v:=r.bool_inv▸k
@[elab_as_elim] theorem aa.int_el{i:Int}(r:aa φ h v (.int i))(k:∀ t,P (.int i t)):P v:=r.int_inv.elim fun t e=>e▸k t
@[elab_as_elim] theorem aa.str_el{x:Str}(r:aa φ h v (.str x))(k:∀ t,P (.str x t)):P v:=r.str_inv.elim fun t e=>e▸k t
@[elab_as_elim] theorem aa.tup_el(r:aa φ h v (.tup xs))(k:∀ a (vs:Array Value),h.IsTuple a vs->¬dO φ a->ad φ h vs.toList xs->P (.ref a)):P v:=by refine ia r.tup_inv fun a vs z2 b c d=>?_;subst z2;exact k a vs b c d
@[elab_as_elim] theorem aa.frz_el(r:aa φ h v (.frz xs))(k:∀ a (vs:Array Value),h.IsList a vs->¬dO φ a->ad φ h vs.toList xs->P (.ref a)):P v:=by refine ia r.frz_inv fun a vs z2 b c d=>?_;subst z2;exact k a vs b c d
@[elab_as_elim] theorem aa.rng_el{n:Nat}(r:aa φ h v (.rng n))(k:∀ a t u w,IsRange h a 0 (n:Int) 1 t u w->n≤1000->¬dO φ a->P (.ref a)):P v:=by obtain⟨a,t,u,w,rfl,b,c,d⟩:=r.rng_inv;exact k a t u w b c d
@[elab_as_elim] theorem aa.ref_el{l:Nat}(r:aa φ h v (.ref l))(k:∀ p,φ.pl[l]? =some p->P (.ref p.1)):P v:=by refine a7 r.ref_inv fun p z1 e=>?_;subst z1;exact k p e
@[elab_as_elim] theorem ad.nil_el(r:ad φ h vs [])(k:Ps []):Ps vs:=r.nil_inv▸k
@[elab_as_elim] theorem ad.cons_el(r:ad φ h vs (x::xs))(k:∀ v ws,aa φ h v x->ad φ h ws xs->Ps (v::ws)):Ps vs:=by refine bR r.cons_inv fun v ws z2 a b=>?_;subst z2;exact k v ws a b
@[elab_as_elim] theorem ad.one_el(r:ad φ h vs [x])(k:∀ v,aa φ h v x->Ps [v]):Ps vs:=r.cons_el fun v Z a b=>b.nil_el (Ps:=fun ws=>Ps (v::ws)) (k v a)
@[elab_as_elim] theorem ad.two_el{y:a5}(r:ad φ h vs [x,y])(k:∀ v w,aa φ h v x->aa φ h w y->Ps [v,w]):Ps vs:=r.cons_el fun v Z a b=>b.one_el (Ps:=fun ws=>Ps (v::ws)) fun w c=>k v w a c
@[elab_as_elim] theorem ad.three_el{y z:a5}(r:ad φ h vs [x,y,z])(k:∀ v w u,aa φ h v x->aa φ h w y->aa φ h u z->Ps [v,w,u]):Ps vs:=r.cons_el fun v Z a b=>b.two_el (Ps:=fun ws=>Ps (v::ws)) fun w u c d=>k v w u a c d
end
end
inductive d0(P:Params)(φ:aj)(h:Heap):List DictEntry->List (Str×a5)->Prop
 | nil:d0 P φ h [] []
 | cons {e:DictEntry} {x:Str} {t:Tok} {a:a5} {es:List DictEntry} {as:List (Str×a5)}:e.key=.str x t->e.hash=PyData.keyHash P x->aa φ h e.val a->d0 P φ h es as->d0 P φ h (e::es) ((x,a)::as)
inductive cI{K:Type}(φ:aj)(h:Heap):List (K×Value)->List (K×a5)->Prop
 | nil:cI φ h [] []
 | cons {k:K} {v:Value} {a:a5} {es:List (K×Value)} {as:List (K×a5)}:aa φ h v a->cI φ h es as->cI φ h ((k,v)::es) ((k,a)::as)
inductive dA(φ:aj)(h:Heap):List (List aT×Addr×Value)->List (List aT×a5)->Prop
 | nil:dA φ h [] []
 | cons {k:List aT} {b:Addr} {v:Value} {a:a5} {es:List (List aT×Addr×Value)} {as:List (List aT×a5)}:b<h.objs.size->¬dO φ b->aa φ h v a->dA φ h es as->dA φ h ((k,b,v)::es) ((k,a)::as)
section
variable{P:Params}{K:Type}{X:Addr->Prop}{φ φ':aj}{h h':Heap}
theorem d0.map(M:fv φ h φ' h'){es:List DictEntry}{as:List (Str×a5)}(r:d0 P φ h es as):d0 P φ' h' es as:=by
 induction r with
 | nil=>exact .nil
 | cons a b c _ ih=>exact .cons a b (c.map M) ih
theorem cI.map(M:fv φ h φ' h'){es:List (K×Value)}{as:List (K×a5)}(r:cI φ h es as):cI φ' h' es as:=by
 induction r with
 | nil=>exact .nil
 | cons c _ ih=>exact .cons (c.map M) ih
theorem dA.map(M:fv φ h φ' h'){es:List (List aT×Addr×Value)}{as:List (List aT×a5)}(r:dA φ h es as):dA φ' h' es as:=by
 induction r with
 | nil=>exact .nil
 | cons a b c _ ih=>exact .cons (Nat.lt_of_lt_of_le a M.size) (M.own _ a b) (c.map M) ih
theorem d0.step(S:b6 X φ h φ' h')(hX:c9 X φ h){es:List DictEntry}{as:List (Str×a5)}(r:d0 P φ h es as):d0 P φ' h' es as:=r.map (S.vmap hX)
theorem cI.step(S:b6 X φ h φ' h')(hX:c9 X φ h){es:List (K×Value)}{as:List (K×a5)}(r:cI φ h es as):cI φ' h' es as:=r.map (S.vmap hX)
theorem dA.step(S:b6 X φ h φ' h')(hX:c9 X φ h){es:List (List aT×Addr×Value)}{as:List (List aT×a5)}(r:dA φ h es as):dA φ' h' es as:=r.map (S.vmap hX)
end
end
section
open PySem PySem.W PySem.Calls PySem.Spec PyProof.Rows
noncomputable def qM:aT->Value->Bool
 | .inl x,v=>Value.isStrOf x v
 | .inr i,v=>Value.isInt i v
theorem bU{k:aT}{v:Value}(h:qM k v=true):(∃ x t,k=.inl x∧v=.str x t)∨∃ i t,k=.inr i∧v=.int i t:=by
 cases k with
 | inl x=>refine aH (Value.isStrOf_shape h) fun t z1=>?_;subst z1;exact .inl (cN x t rfl rfl)
 | inr i=>refine aH (Value.isInt_shape h) fun t z1=>?_;subst z1;exact .inr (cN i t rfl rfl)
section
variable{prog:Program}{w:World}{A:Around}{E:Value->Shared->Prop}{s:Shared}
theorem ke{x:Str}{t u:Tok}{i:Int}{Q:Bool->Shared->Prop}(h:Q false s):wpAny (model prog w) A (eqBool (.str x t) (.int i u)) Q E s:=by
 unfold eqBool
 refine wpAny_holding ?_
 refine a0 (if_neg (by exact fun z=>nomatch z)) ?_
 dsimp only
 refine wpAny_bind (EqMixed.eq_str_int (Q:=fun v s'=>wpAny (model prog w) A (truthOfDropped v) Q E s') ?_)
 exact wpAny_truthy_bool h
theorem kg{x:Str}{t u:Tok}{i:Int}{Q:Bool->Shared->Prop}(h:Q false s):wpAny (model prog w) A (eqBool (.int i u) (.str x t)) Q E s:=by
 unfold eqBool
 refine wpAny_holding ?_
 refine a0 (if_neg (by exact fun z=>nomatch z)) ?_
 dsimp only
 refine wpAny_bind (EqMixed.eq_int_str (Q:=fun v s'=>wpAny (model prog w) A (truthOfDropped v) Q E s') ?_)
 exact wpAny_truthy_bool h
end
noncomputable def aM(prog:Program)(w:World):KeyKind prog w aT where
 is:=qM
 hash:=fun k=>match k with | .inl x=>hashStr w x | .inr i=>hashInt i
 inj:=fun v a b ha hb=>by
  rcases bU ha with⟨x,t,rfl,rfl⟩ | ⟨x,t,rfl,rfl⟩<;>rcases bU hb with⟨y,u,rfl,e⟩ | ⟨y,u,rfl,e⟩<;>cases e<;>rfl
 byValue:=fun k v h=>by rcases bU h with⟨x,t,rfl,rfl⟩ | ⟨x,t,rfl,rfl⟩<;>rfl
 pyHash:=fun hv h=>by
  rcases bU hv with⟨x,t,rfl,rfl⟩ | ⟨x,t,rfl,rfl⟩
  ·exact wpAny_pyHash_str h
  ·exact wpAny_pyHash_int h
 eqBool:=fun hu hv h=>by
  rcases bU hu with⟨x,t,rfl,rfl⟩ | ⟨x,t,rfl,rfl⟩<;>rcases bU hv with⟨y,u,rfl,rfl⟩ | ⟨y,u,rfl,rfl⟩
  ·refine wpAny_eqBool_str ?_
   have e:decide ((Sum.inl x:aT)=Sum.inl y)=decide (x=y):=by simp
   rwa [e] at h
  ·exact ke (by simpa using h)
  ·exact kg (by simpa using h)
  ·refine wpAny_eqBool_int ?_
   have e:decide ((Sum.inr x:aT)=Sum.inr y)=decide (x=y):=by simp
   rwa [e] at h
 «strs» :=fun k x t v h=>by
  rcases bU h with⟨x,t,rfl,e⟩ | ⟨x,t,rfl,e⟩
  ·cases e;exact(PySem.strKind prog w).strs _ x t v (by show Value.isStrOf x (.str x t)=true;assumption)
  ·cases e
noncomputable abbrev St:=List af
inductive bp(W:Wd)(φ:aj)(h:Heap)(p:Nat×Nat):af->Prop
 | list {vs:List Value} {n:Nat} {xs:List a5}:h.get? p.1=some (seqObj "list" vs.toArray n)->p.2=p.1->ad φ h vs xs->bp W φ h p (.list xs)
 | idict {kvs:List (Int×Value)} {es:List (Int×a5)}:h.DictOf (intKind W.prog W.w) p.1 kvs->p.2=p.1->cI φ h kvs es->bp W φ h p (.idict es)
 | tdict {kvs:List (List aT×Addr×Value)} {es:List (List aT×a5)}:h.DictOfH (tupleKind (aM W.prog W.w)) p.1 kvs->p.2=p.1->dA φ h kvs es->bp W φ h p (.tdict es)
 | inst {C:Addr} {es:List DictEntry} {n:Nat} {as:List (Str×a5)}:h.get? p.1=some (instObj C p.2)->h.get? p.2=some (dictOf es n)->p.2≠p.1->es.length≤20->d0 W.w.params φ h es as->bp W φ h p (.inst C as)
structure aO(W:Wd)(φ:aj)(V:St)(h:Heap):Prop where
 ok:W.Ok
 len:φ.pl.length=V.length
 objs:∀ (l:Nat) p o,φ.pl[l]? =some p->V[l]? =some o->bp W φ h p o
 base:∀ b o,W.H.get? b=some o->h.get? b=some o
 size:W.H.objs.size≤h.objs.size
 above:∀ p∈φ.pl,W.H.objs.size≤p.1∧W.H.objs.size≤p.2
 rsOk:∀ b∈φ.rs,W.H.objs.size≤b∧b<h.objs.size∧¬Pl φ b
 apart:φ.pl.Pairwise fun p q=>p.1≠q.1∧p.1≠q.2∧p.2≠q.1∧p.2≠q.2
theorem aO.at{W:Wd}{φ:aj}{V:St}{h:Heap}(N:aO W φ V h){l:Nat}{o:af}(e:V[l]? =some o):∃ p,φ.pl[l]? =some p∧bp W φ h p o:=by
 have hl:l<φ.pl.length:=by refine a0 N.len ?_;exact(List.getElem?_eq_some_iff.mp e).1
 exact a6 (φ.pl[l]) (List.getElem?_eq_getElem hl) (N.objs l _ o (List.getElem?_eq_getElem hl) e)
noncomputable def wY(W:Wd)(φ:aj)(h:Heap)(p:Nat×Nat):af->Prop
 | .list xs=>∃ (us:List Value) (m:Nat),h.get? p.1=some (seqObj "list" us.toArray m)∧p.2=p.1∧ad φ h us xs
 | .idict es=>∃ kvs,h.DictOf (intKind W.prog W.w) p.1 kvs∧p.2=p.1∧cI φ h kvs es
 | .tdict es=>∃ kvs,h.DictOfH (tupleKind (aM W.prog W.w)) p.1 kvs∧p.2=p.1∧dA φ h kvs es
 | .inst C as=>∃ (es:List DictEntry) (m:Nat),h.get? p.1=some (instObj C p.2)∧h.get? p.2=some (dictOf es m)∧p.2≠p.1∧es.length≤20∧d0 W.w.params φ h es as
theorem bp.form{W:Wd}{φ:aj}{h:Heap}{p:Nat×Nat}{o:af}(r:bp W φ h p o):wY W φ h p o:=
 bp.rec (motive:=fun o Z=>wY W φ h p o) (fun a b c=>d7 _ _ a b c) (fun a b c=>aP _ a b c) (fun a b c=>aP _ a b c) (fun a b c d e=>u7 _ _ a b c d e) r
section
variable{W:Wd}{φ:aj}{V:St}{h:Heap}{v:Value}{l:Nat}{P:Value->Prop}
@[elab_as_elim] theorem aa.at_el{o:af}(r:aa φ h v (.ref l))(N:aO W φ V h)(ho:V[l]? =some o)(k:∀ p,φ.pl[l]? =some p->bp W φ h p o->P (.ref p.1)):P v:=
  r.ref_el fun p e=>k p e ((N.at ho).elim fun q z=>Option.some.inj (z.1.symm.trans e)▸z.2)
@[elab_as_elim] theorem aa.list_el{xs:List a5}(r:aa φ h v (.ref l))(N:aO W φ V h)(ho:V[l]? =some (.list xs))(k:∀ p (us:List Value) m,φ.pl[l]? =some p->h.get? p.1=some (seqObj "list" us.toArray m)->p.2=p.1->ad φ h us xs->P (.ref p.1)):P v:=
  r.at_el N ho fun p e O=>O.form.elim fun us z=>z.elim fun m z=>k p us m e z.1 z.2.1 z.2.2
@[elab_as_elim] theorem aa.idict_el{es:List (Int×a5)}(r:aa φ h v (.ref l))(N:aO W φ V h)(ho:V[l]? =some (.idict es))(k:∀ p kvs,φ.pl[l]? =some p->h.DictOf (intKind W.prog W.w) p.1 kvs->p.2=p.1->cI φ h kvs es->P (.ref p.1)):P v:=
  r.at_el N ho fun p e O=>O.form.elim fun us z=>k p us e z.1 z.2.1 z.2.2
@[elab_as_elim] theorem aa.tdict_el{es:List (List aT×a5)}(r:aa φ h v (.ref l))(N:aO W φ V h)(ho:V[l]? =some (.tdict es))(k:∀ p kvs,φ.pl[l]? =some p->h.DictOfH (tupleKind (aM W.prog W.w)) p.1 kvs->p.2=p.1->dA φ h kvs es->P (.ref p.1)):P v:=
  r.at_el N ho fun p e O=>O.form.elim fun us z=>k p us e z.1 z.2.1 z.2.2
@[elab_as_elim] theorem aa.inst_el{C:Addr}{as:List (Str×a5)}(r:aa φ h v (.ref l))(N:aO W φ V h)(ho:V[l]? =some (.inst C as))(k:∀ p (es:List DictEntry) m,φ.pl[l]? =some p->h.get? p.1=some (instObj C p.2)->h.get? p.2=some (dictOf es m)->p.2≠p.1->es.length≤20->d0 W.w.params φ h es as->P (.ref p.1)):P v:=
  r.at_el N ho fun p e O=>O.form.elim fun us z=>z.elim fun m z=>k p us m e z.1 z.2.1 z.2.2.1 z.2.2.2.1 z.2.2.2.2
end
theorem aO.X{W:Wd}{φ:aj}{V:St}{h:Heap}(N:aO W φ V h):W.K.In h:=fun a o e=>N.base a o (N.ok.X a o e)
theorem aO.notOwn{W:Wd}{φ:aj}{V:St}{h:Heap}(N:aO W φ V h){b:Nat}{o:Obj}(e:W.H.get? b=some o):¬dO φ b:=by
 have hb:b<W.H.objs.size:=Heap.lt_size e
 rintro(⟨p,hp,q⟩ | hr)
 ·have:=N.above p hp
  rcases q with q | q<;>lia
 ·have:=N.rsOk b hr
  exact absurd (Nat.lt_of_lt_of_le hb this.1) (Nat.lt_irrefl _)
theorem bp.there{W:Wd}{φ:aj}{h:Heap}{p:Nat×Nat}{o:af}(r:bp W φ h p o):(∃ x,h.get? p.1=some x)∧(∃ x,h.get? p.2=some x):=
 bp.rec (motive:=fun Z Z=>(∃ x,h.get? p.1=some x)∧(∃ x,h.get? p.2=some x)) (fun e q Z=>⟨⟨_,e⟩,_,q▸e⟩) (fun e q Z=>e.elim fun Z z=>z.elim fun Z z=>z.elim fun Z z=>⟨⟨_,z.1⟩,_,q▸z.1⟩) (fun e q Z=>e.elim fun Z z=>z.elim fun Z z=>z.elim fun Z z=>⟨⟨_,z.1⟩,_,q▸z.1⟩) (fun a b Z Z Z=>⟨⟨_,a⟩,_,b⟩) r
theorem aO.lt{W:Wd}{φ:aj}{V:St}{h:Heap}(N:aO W φ V h):∀ p∈φ.pl,p.1<h.objs.size∧p.2<h.objs.size:=by
 intro p hp
 obtain⟨l,hl,e⟩:=List.getElem_of_mem hp
 have e':φ.pl[l]? =some p:=by refine a0 (List.getElem?_eq_getElem hl) ?_;refine a0 e ?_;rfl
 have hs:l<V.length:=N.len▸hl
 obtain⟨⟨x,hx⟩,y,hy⟩:=(N.objs l p _ e' (List.getElem?_eq_getElem hs)).there
 exact⟨Heap.lt_size hx,Heap.lt_size hy⟩
theorem aO.ownLt{W:Wd}{φ:aj}{V:St}{h:Heap}(N:aO W φ V h){b:Nat}(hb:dO φ b):b<h.objs.size:=by
 rcases hb with⟨p,hp,q⟩ | hr
 ·have:=N.lt p hp
  rcases q with q | q<;>lia
 ·exact(N.rsOk b hr).2.1
theorem sS{prog:Program}{w:World}{h h':Heap}{a:Addr}{kvs:List (Int×Value)}(x:h.DictOf (intKind prog w) a kvs)(k:∀ o,h.get? a=some o->h'.get? a=some o):h'.DictOf (intKind prog w) a kvs:=
 let ⟨o,es,ep,ho,r⟩:=x;⟨o,es,ep,k o ho,r⟩
theorem dA.mem{φ:aj}{h:Heap}{es:List (List aT×Addr×Value)}{as:List (List aT×a5)}(r:dA φ h es as):∀ x∈es,(x.2.1:Nat)<h.objs.size∧¬dO φ x.2.1:=by
 induction r with
 | nil=>intro x hx;cases hx
 | cons a b _ _ ih=>
   intro x hx
   rcases List.mem_cons.mp hx with rfl | hx
   ·exact⟨a,b⟩
   ·exact ih x hx
theorem bp.map{W:Wd}{φ φ':aj}{h h':Heap}{p:Nat×Nat}{o:af}(r:bp W φ h p o)(M:fv φ h φ' h')(k1:∀ o,h.get? p.1=some o->h'.get? p.1=some o)(k2:∀ o,h.get? p.2=some o->h'.get? p.2=some o):bp W φ' h' p o:=by
 cases r with
 | list e q r=>exact .list (k1 _ e) q (r.map M)
 | idict e q r=>exact .idict (sS e k1) q (r.map M)
 | tdict e q r=>
   have m:=r.mem
   refine .tdict (Exists.imp (fun o k=>k.imp fun es k=>k.imp fun ep k=>⟨k1 _ k.1,k.2.1,k.2.2.1,k.2.2.2.1,fun x hx=>?_,k.2.2.2.2.2⟩) e) q (r.map M)
   exact(k.2.2.2.2.1 x hx).imp fun ok k=>k.imp fun items k=>k.imp fun n k=>⟨M.ob _ _ k.1 (m x hx).2 (.inl (jZ _ _ k.2.2.1)),k.2⟩
 | inst a b c d r=>exact .inst (k1 _ a) (k2 _ b) c d (r.map M)
theorem bp.step{W:Wd}{X:Addr->Prop}{φ φ':aj}{h h':Heap}{p:Nat×Nat}{o:af}(r:bp W φ h p o)(S:b6 X φ h φ' h')(hX:c9 X φ h)
 (k1:∀ o,h.get? p.1=some o->h'.get? p.1=some o)(k2:∀ o,h.get? p.2=some o->h'.get? p.2=some o):bp W φ' h' p o:=r.map (S.vmap hX) k1 k2
theorem aO.quiet{W:Wd}{φ:aj}{V:St}{h h':Heap}(N:aO W φ V h)(X:Addr->Prop)(hX:c9 X φ h)(hXo:∀ b,Pl φ b->¬X b)(hXb:∀ b o,W.H.get? b=some o->¬X b)(hs:h.objs.size≤h'.objs.size)(k:∀ b o,h.get? b=some o->¬X b->h'.get? b=some o):aO W φ V h' where
 ok:=N.ok
 len:=N.len
 objs:=fun l p o e1 e2=>by
  have hm:p∈φ.pl:=List.mem_of_getElem? e1
  exact(N.objs l p o e1 e2).step (X:=X) (.quiet k hs) hX
   (fun o e=>k _ o e (hXo _ (a6 p hm (.inl rfl)))) (fun o e=>k _ o e (hXo _ (a6 p hm (.inr rfl))))
 base:=fun b o e=>k b o (N.base b o e) (hXb b o e)
 size:=a9 N.size hs
 above:=N.above
 rsOk:=fun b hb=>let ⟨a,c,d⟩:=N.rsOk b hb;(i3 a (Nat.lt_of_lt_of_le c hs) d)
 apart:=N.apart
theorem aO.grown{W:Wd}{φ:aj}{V:St}{h h':Heap}(N:aO W φ V h)(hs:h.objs.size≤h'.objs.size)(k:∀ b o,h.get? b=some o->h'.get? b=some o):aO W φ V h':=
 N.quiet (fun Z=>False) (ae _ _) (fun Z Z z=>z) (fun Z Z Z z=>z) hs fun b o e Z=>k b o e
noncomputable def aj.add(φ:aj)(p:Nat×Nat):aj:=⟨φ.pl++[p],φ.rs⟩
theorem xp{φ:aj}{p:Nat×Nat}{b:Nat}:Pl (φ.add p) b↔Pl φ b∨p.1=b∨p.2=b:=by
 constructor
 ·rintro⟨q,hq,e⟩
  rcases List.mem_append.mp hq with hq | hq
  ·exact .inl (a6 q hq e)
  ·rw[List.mem_singleton.mp hq] at e;exact .inr e
 ·rintro(⟨q,hq,e⟩ | e)
  ·exact a6 q (List.mem_append_left _ hq) e
  ·exact a6 p (List.mem_append_right _ (.head _)) e
theorem aO.adopt{W:Wd}{φ:aj}{V:St}{h h':Heap}(N:aO W φ V h){p:Nat×Nat}{o:af}(a1:h.objs.size≤p.1)(a2:h.objs.size≤p.2)(hs:h.objs.size≤h'.objs.size)(k:∀ b o,h.get? b=some o->h'.get? b=some o)
 (r:bp W (φ.add p) h' p o):aO W (φ.add p) (V++[o]) h'∧dB φ h (φ.add p) h':=by
 have st:dB φ h (φ.add p) h':=⟨(a6 ([p]) rfl (fun q hq=>by refine a0 (List.mem_singleton.mp hq) ?_;exact⟨a1,a2⟩)),rfl,fun b o e Z Z=>k b o e,hs⟩
 refine⟨⟨N.ok,by simp[aj.add,N.len],fun l q o' e1 e2=>?_,fun b o e=>k b o (N.base b o e),a9 N.size hs,fun q hq=>?_,fun b hb=>?_,?_⟩,st⟩
 ·change (φ.pl++[p])[l]? =some q at e1
  by_cases hl:l<φ.pl.length
  ·rw[List.getElem?_append_left hl] at e1
   rw[List.getElem?_append_left (N.len▸hl)] at e2
   exact(N.objs l q o' e1 e2).step st (ae _ _) (fun Z e=>k _ _ e) (fun Z e=>k _ _ e)
  ·have hl':l=φ.pl.length:=by
    have:=(List.getElem?_eq_some_iff.mp e1).1
    simp at this;lia
   subst hl'
   simp at e1
   have e2':(V++[o])[φ.pl.length]? =some o:=by refine a0 N.len ?_;exact List.getElem?_concat_length ..
   rw[e2'] at e2
   cases e1;cases e2
   exact r
 ·rcases List.mem_append.mp hq with hq | hq
  ·exact N.above q hq
  ·refine a0 (List.mem_singleton.mp hq) ?_;exact⟨a9 N.size a1,a9 N.size a2⟩
 ·refine a3 (N.rsOk b hb) fun c d e=>?_
  refine i3 c (Nat.lt_of_lt_of_le d hs) (fun x=>?_)
  rcases xp.mp x with x | x | x
  ·exact e x
  ·exact absurd (Nat.lt_of_lt_of_le d (a9 a1 (Nat.le_of_eq x))) (Nat.lt_irrefl _)
  ·exact absurd (Nat.lt_of_lt_of_le d (a9 a2 (Nat.le_of_eq x))) (Nat.lt_irrefl _)
 ·show(φ.pl++[p]).Pairwise _
  refine bt List.pairwise_append ?_
  refine i3 N.apart (List.pairwise_singleton _ _) (fun a ha b hb=>?_)
  refine a0 (List.mem_singleton.mp hb) ?_
  have:=N.lt a ha
  refine(i4 ?_ ?_ ?_ ?_)<;>lia
theorem aO.sep{W:Wd}{φ:aj}{V:St}{h:Heap}(N:aO W φ V h){i j:Nat}{p q:Nat×Nat}(hi:φ.pl[i]? =some p)(hj:φ.pl[j]? =some q)(ne:i≠j):p.1≠q.1∧p.1≠q.2∧p.2≠q.1∧p.2≠q.2:=by
 refine aH (List.getElem?_eq_some_iff.mp hi) fun li ei=>?_
 refine aH (List.getElem?_eq_some_iff.mp hj) fun lj ej=>?_
 have P:=List.pairwise_iff_getElem.mp N.apart
 rcases Nat.lt_or_gt_of_ne ne with lt | lt
 ·have:=P i j li lj lt
  rw[ei,ej] at this;exact this
 ·have:=P j i lj li lt
  rw[ei,ej] at this
  exact i4 this.1.symm this.2.2.1.symm this.2.1.symm this.2.2.2.symm
theorem dB.at{φ:aj}{h h':Heap}{l:Nat}{p:Nat×Nat}(hp:φ.pl[l]? =some p)(hs:h.objs.size≤h'.objs.size)(k:∀ (b:Nat) o,h.get? b=some o->b≠p.1->b≠p.2->h'.get? b=some o):dB φ h φ h':=
 have hm:p∈φ.pl:=List.mem_of_getElem? hp
 ⟨(a6 ([]) ((List.append_nil _).symm) (fun Z hp=>nomatch hp)),rfl,fun b o e n Z=>k b o e (fun q=>n (a6 p hm (.inl q.symm))) (fun q=>n (a6 p hm (.inr q.symm))),hs⟩
theorem aO.update{W:Wd}{φ:aj}{V:St}{h h':Heap}(N:aO W φ V h){l:Nat}{p:Nat×Nat}{o:af}(hp:φ.pl[l]? =some p)(hs:h.objs.size≤h'.objs.size)
 (k:∀ (b:Nat) o,h.get? b=some o->b≠p.1->b≠p.2->h'.get? b=some o)(r:bp W φ h' p o):aO W φ (V.set l o) h'∧dB φ h φ h':=by
 have hm:p∈φ.pl:=List.mem_of_getElem? hp
 have S:=dB.at hp hs k
 refine⟨⟨N.ok,by simp[N.len],fun j q o' e1 e2=>?_,fun b o e=>?_,a9 N.size hs,N.above,fun b hb=>let ⟨a,c,d⟩:=N.rsOk b hb;(i3 a (Nat.lt_of_lt_of_le c hs) d),N.apart⟩,S⟩
 ·by_cases hj:l=j
  ·subst hj
   rw[hp] at e1
   cases e1
   rw[List.getElem?_set_self (by have:=(List.getElem?_eq_some_iff.mp hp).1;rw[N.len] at this;exact this)] at e2
   cases e2
   exact r
  ·rw[List.getElem?_set_ne hj] at e2
   have sp:=N.sep hp e1 hj
   exact(N.objs j q o' e1 e2).step S (ae _ _) (fun o e=>k _ o e sp.1.symm sp.2.2.1.symm) (fun o e=>k _ o e sp.2.1.symm sp.2.2.2.symm)
 ·have:=N.above p hm
  exact k b o (N.base b o e) (Nat.ne_of_lt (Nat.lt_of_lt_of_le (Heap.lt_size e) this.1)) (Nat.ne_of_lt (Nat.lt_of_lt_of_le (Heap.lt_size e) this.2))
noncomputable def aj.res(φ:aj)(b:Nat):aj:=⟨φ.pl,b::φ.rs⟩
theorem fv.res{φ:aj}{h:Heap}{o:Obj}:fv φ h (φ.res h.objs.size) (h.push o):=
 ⟨id,fun Z Z e Z Z=>Heap.get?_push_of_some _ e,fun b lt n x=>x.elim (fun y=>n (.inl y)) fun y=>(List.mem_cons.mp y).elim (fun e=>Nat.lt_irrefl _ (e▸lt)) fun y=>n (.inr y),by refine a0 (Heap.size_push ..) ?_;exact Nat.le_succ _⟩
theorem aO.reserve{W:Wd}{φ:aj}{V:St}{h:Heap}(N:aO W φ V h){o:Obj}:aO W (φ.res h.objs.size) V (h.push o):=by
 have sz:(h.push o).objs.size=h.objs.size+1:=by refine a0 (Heap.size_push ..) ?_;rfl
 have kp:∀ b o',h.get? b=some o'->(h.push o).get? b=some o':=fun b o' e=>Heap.get?_push_of_some _ e
 have G:=N.grown (h':=h.push o) (by lia) kp
 refine⟨N.ok,N.len,fun l p q e1 e2=>(N.objs l p q e1 e2).map .res (fun o=>kp _ o) fun o=>kp _ o,G.base,G.size,N.above,fun b hb=>?_,N.apart⟩
 rcases List.mem_cons.mp hb with rfl | hb
 ·exact i3 N.size (by exact fX sz) (fun x=>Nat.lt_irrefl _ (N.ownLt (.inl x)))
 ·refine a3 (N.rsOk b hb) fun a c d=>?_
  exact i3 a (by lia) d
theorem bp.less{W:Wd}{φ φ':aj}{h:Heap}{p:Nat×Nat}{o:af}(e:φ'.pl=φ.pl)(l:∀ b∈φ'.rs,b∈φ.rs)(r:bp W φ h p o):bp W φ' h p o:=r.map (.less e l) (fun Z=>id) fun Z=>id
theorem aO.release{W:Wd}{pl:List (Nat×Nat)}{b:Nat}{rs:List Nat}{V:St}{h:Heap}(N:aO W ⟨pl,b::rs⟩ V h):aO W ⟨pl,rs⟩ V h:=
 ⟨N.ok,N.len,fun l p o e1 e2=>(N.objs l p o e1 e2).less (φ:=⟨pl,b::rs⟩) rfl (fun Z hb=>List.mem_cons_of_mem _ hb),N.base,N.size,N.above,fun c hc=>N.rsOk c (.tail _ hc),N.apart⟩
structure bz(n:Nat)(A:Around):Prop where
 handled:A.handled=none
 depth:A.depth+4*n≤950
 units:A.units+40*n≤9500
theorem bz.deeper{n:Nat}{A:Around}(r:bz (n+1) A)(env:Env):bz n (A.deeper env):=⟨r.handled,by have:=r.depth;show A.depth+1+4*n≤950;lia,by have:=r.units;show A.units+3+40*n≤9500;lia⟩
theorem bz.room{n:Nat}{A:Around}(r:bz n A):A.depth<recursionLimit:=by have:=r.depth;show A.depth<1000;lia
theorem bz.cline{n:Nat}{A:Around}(r:bz n A):A.units+399<cLine:=by have:=r.units;show A.units+399<9900;lia
structure aq(W:Wd)(X:Addr->Prop)(φ:aj)(s:Shared)(φ':aj)(V':St)(s':Shared):Prop where
 st:b6 X φ s.heap φ' s'.heap
 now:aO W φ' V' s'.heap
 gens:s'.gens=s.gens
 os:s'.os=s.os
theorem aq.trans{W:Wd}{X:Addr->Prop}{φ φ₁ φ₂:aj}{s s₁ s₂:Shared}{V₁ V₂:St}(a:aq W X φ s φ₁ V₁ s₁)(b:aq W X φ₁ s₁ φ₂ V₂ s₂):aq W X φ s φ₂ V₂ s₂:=
 ⟨a.st.trans b.st,b.now,b.gens.trans a.gens,b.os.trans a.os⟩
noncomputable abbrev Rl(α β:Type):=aj->Heap->α->β->Prop
inductive kC(W:Wd){α β:Type}(X:Addr->Prop)(φ:aj)(s:Shared)(R:Rl α β)(Q:β->St->Prop)(v:α)(s':Shared):Prop
 | mk (φ':aj) (V':St) (x:β) (e:aq W X φ s φ' V' s') (r:R φ' s'.heap v x) (q:Q x V'):kC W X φ s R Q v s'
noncomputable def TT(W:Wd){α β:Type}(X:Addr->Prop)(A:Around)(φ:aj)(s:Shared)(t:Sem α)(R:Rl α β)(Q:β->St->Prop):Prop:=
 wpAny (model W.prog W.w) A t (kC W X φ s R Q) (fun Z Z=>False) s
theorem TT.bind{W:Wd}{α β γ δ:Type}{X:Addr->Prop}{A:Around}{φ:aj}{s:Shared}{t:Sem α}{k:α->Sem γ}{R:Rl α β}{R':Rl γ δ}{K:β->St->Prop}{Q:δ->St->Prop}
 (h:TT W X A φ s t R K)(g:∀ v φ₁ V₁ s₁ x,aq W X φ s φ₁ V₁ s₁->R φ₁ s₁.heap v x->K x V₁->TT W X A φ₁ s₁ (k v) R' Q):TT W X A φ s (t >>= k) R' Q:=by
 refine wpAny_bind (wpAny_mono h (fun v s₁ ⟨φ₁,V₁,x,e,r,q⟩=>?_) fun Z Z z=>z)
 exact wpAny_mono (g v φ₁ V₁ s₁ x e r q) (fun v' s₂ ⟨φ₂,V₂,y,e',r',q'⟩=>⟨φ₂,V₂,y,e.trans e',r',q'⟩) fun Z Z z=>z
theorem TT.pure{W:Wd}{α β:Type}{X:Addr->Prop}{A:Around}{φ:aj}{V:St}{s:Shared}{v:α}{R:Rl α β}{Q:β->St->Prop}{x:β}(N:aO W φ V s.heap)(r:R φ s.heap v x)(q:Q x V):TT W X A φ s (pure v) R Q:=
 wpAny_pure ⟨φ,V,x,⟨.refl,N,rfl,rfl⟩,r,q⟩
theorem TT.mono{W:Wd}{α β:Type}{X:Addr->Prop}{A:Around}{φ:aj}{s:Shared}{t:Sem α}{R:Rl α β}{Q Q':β->St->Prop}(h:TT W X A φ s t R Q)(m:∀ x V,Q x V->Q' x V):TT W X A φ s t R Q':=
 wpAny_mono h (fun v s' ⟨φ',V',x,e,r,q⟩=>⟨φ',V',x,e,r,m _ _ q⟩) fun Z Z z=>z
noncomputable abbrev ai:=List (Str×a5)
noncomputable abbrev ah:=List (Str×NameKind)
noncomputable def FX(env:Env)(b:Addr):Prop:=b=env.locals∨∃ x,(x,b)∈env.cells
structure az(W:Wd)(φ:aj)(h:Heap)(env:Env)(sc:ah)(ρ:ai):Prop where
 kind:env.scope.kind=.function
 names:env.scope.names=sc
 globals:env.globals=mainGlobals
 builtins:env.builtins=builtinsNs
 off:∀ b,FX env b->¬dO φ b
 above:∀ b,FX env b->W.H.objs.size≤(b:Nat)
 there:∀ b,FX env b->∃ o,h.get? b=some o
 free:c9 (FX env) ⟨[],[]⟩ h
 locals:∃ m,h.Ns env.locals m∧∀ x a,sc.lookup x=some .local->ρ.lookup x=some a->∃ v,m x=some v∧aa φ h v a
 cells:∀ x,(sc.lookup x=some .cell∨sc.lookup x=some .free)->∃ c v,env.cells.lookup x=some c∧c≠env.locals∧h.IsCell c v∧∀ a,ρ.lookup x=some a->∃ u,v=some u∧aa φ h u a
 inj:∀ x y c,env.cells.lookup x=some c->env.cells.lookup y=some c->x=y
theorem FX.of_lookup{env:Env}{x:Str}{c:Addr}(e:env.cells.lookup x=some c):FX env c:=by
 refine .inr ⟨x,?_⟩
 generalize env.cells=l at e
 induction l with
 | nil=>cases e
 | cons y r ih=>
   obtain⟨n,d⟩:=y
   rw[List.lookup_cons] at e
   by_cases hq:(x==n)=true
   ·simp only[hq] at e;cases e;have:=eq_of_beq hq;subst this;exact .head _
   ·simp only[hq] at e;exact .tail _ (ih e)
theorem az.map{W:Wd}{φ φ':aj}{h h':Heap}{env:Env}{sc:ah}{ρ:ai}(F:az W φ h env sc ρ)(M:fv φ h φ' h')(kf:∀ b o,FX env b->h.get? b=some o->h'.get? b=some o)(off:∀ b,FX env b->¬dO φ' b):az W φ' h' env sc ρ where
 kind:=F.kind
 names:=F.names
 globals:=F.globals
 builtins:=F.builtins
 off:=off
 above:=F.above
 there:=fun b f=>(F.there b f).imp fun o e=>kf b o f e
 free:=fun b o e f=>(F.there b f).elim fun o' e'=>F.free b o (Option.some.inj ((kf b o' f e').symm.trans e)▸e') f
 locals:=F.locals.imp fun m k=>⟨k.1.imp fun o z=>z.imp fun es z=>z.imp fun ep z=>⟨kf _ _ (.inl rfl) z.1,z.2⟩,fun x a h1 h2=>(k.2 x a h1 h2).imp fun v z=>⟨z.1,z.2.map M⟩⟩
 cells:=fun x hx=>(F.cells x hx).imp fun c k=>k.imp fun v k=>i4 k.1 k.2.1 (k.2.2.1.imp fun o z=>⟨kf _ _ (.of_lookup k.1) z.1,z.2⟩) (fun a ha=>(k.2.2.2 a ha).imp fun u z=>⟨z.1,z.2.map M⟩)
 inj:=F.inj
theorem az.stepX{W:Wd}{sc:ah}{ρ:ai}{X:Addr->Prop}{φ φ':aj}{h h':Heap}{env:Env}(F:az W φ h env sc ρ)(S:b6 X φ h φ' h')(hX:c9 X φ h)(nx:∀ b,FX env b->¬X b):az W φ' h' env sc ρ:=
 F.map (S.vmap hX) (fun b o f e=>S.keep b o e (fun x=>F.off b f (.inl x)) (nx b f)) fun b f=>(F.there b f).elim fun Z e=>S.notOwn (Heap.lt_size e) (F.off b f)
theorem az.step{W:Wd}{φ φ':aj}{h h':Heap}{env:Env}{sc:ah}{ρ:ai}(F:az W φ h env sc ρ)(S:dB φ h φ' h'):az W φ' h' env sc ρ:=F.stepX S (ae _ _) fun Z Z x=>x
noncomputable def ET(W:Wd)(n:Nat)(sc:ah)(e:Expr)(ρ:ai)(V:St)(Q:a5->St->Prop):Prop:=
 ∀ (A:Around) (env:Env) (φ:aj) (s:Shared),bz n A->aO W φ V s.heap->az W φ s.heap env sc ρ->TT W (fun Z=>False) A φ s (eval e env) aa Q
noncomputable def lq(W:Wd)(n:Nat)(sc:ah)(es:List Expr)(ρ:ai)(V:St)(Q:List a5->St->Prop):Prop:=
 ∀ (A:Around) (env:Env) (φ:aj) (s:Shared) (pos:Pos),bz n A->aO W φ V s.heap->az W φ s.heap env sc ρ->TT W (fun Z=>False) A φ s (spliced (backTo pos (starEach es env))) ad Q
noncomputable def BT(W:Wd)(n:Nat)(sc:ah)(e:Expr)(ρ:ai)(V:St)(Q:Bool->St->Prop):Prop:=
 ∀ (A:Around) (env:Env) (φ:aj) (s:Shared),bz n A->aO W φ V s.heap->az W φ s.heap env sc ρ->TT W (fun Z=>False) A φ s (isTrue e env (eval e env)) (fun Z Z b c=>b=c) Q
noncomputable def CT(W:Wd)(n:Nat)(f:Value)(args:List a5)(V:St)(Q:a5->St->Prop):Prop:=
 ∀ (A:Around) (φ:aj) (s:Shared) (vs:List Value),bz n A->aO W φ V s.heap->ad φ s.heap vs args->TT W (fun Z=>False) A φ s (call f vs) aa Q
inductive cH where
 | next | brk | cont
 | ret (v:a5)
inductive na(φ:aj)(h:Heap):Flow->cH->Prop
 | next:na φ h .next .next
 | brk:na φ h .brk .brk
 | cont:na φ h .cont .cont
 | ret {v:Value} {x:a5}:aa φ h v x->na φ h (.ret v) (.ret x)
inductive uN(W:Wd)(env:Env)(sc:ah)(φ:aj)(s:Shared){α β:Type}(R:Rl α β)(Q:β->ai->St->Prop)(v:α)(s':Shared):Prop
 | mk (φ':aj) (V':St) (ρ':ai) (x:β) (e:aq W (FX env) φ s φ' V' s') (f:az W φ' s'.heap env sc ρ') (r:R φ' s'.heap v x) (q:Q x ρ' V'):uN W env sc φ s R Q v s'
noncomputable def d9(W:Wd)(A:Around)(env:Env)(sc:ah)(φ:aj)(s:Shared){α β:Type}(t:Sem α)(R:Rl α β)(Q:β->ai->St->Prop):Prop:=
 wpAny (model W.prog W.w) A t (uN W env sc φ s R Q) (fun Z Z=>False) s
noncomputable def ST(W:Wd)(n:Nat)(sc:ah)(st:Stmt)(ρ:ai)(V:St)(Q:cH->ai->St->Prop):Prop:=
 ∀ (A:Around) (env:Env) (φ:aj) (s:Shared),bz n A->aO W φ V s.heap->az W φ s.heap env sc ρ->d9 W A env sc φ s (exec st env) na Q
noncomputable def df(W:Wd)(n:Nat)(sc:ah)(st:List Stmt)(ρ:ai)(V:St)(Q:cH->ai->St->Prop):Prop:=
 ∀ (A:Around) (env:Env) (φ:aj) (s:Shared),bz n A->aO W φ V s.heap->az W φ s.heap env sc ρ->d9 W A env sc φ s (execs st env) na Q
noncomputable def AT(W:Wd)(n:Nat)(sc:ah)(tg:Expr)(a:a5)(ρ:ai)(V:St)(Q:ai->St->Prop):Prop:=
 ∀ (A:Around) (env:Env) (φ:aj) (s:Shared) (v:Value),bz n A->aO W φ V s.heap->az W φ s.heap env sc ρ->aa φ s.heap v a->d9 W A env sc φ s (assign tg env v) (fun _ _ (_:Unit) (_:Unit)=>True) (fun Z ρ' V'=>Q ρ' V')
theorem d9.bind{W:Wd}{A:Around}{env:Env}{sc:ah}{α β γ δ:Type}{φ:aj}{s:Shared}{t:Sem α}{k:α->Sem γ}{R:Rl α β}{R':Rl γ δ}{K:β->ai->St->Prop}{Q:δ->ai->St->Prop}
 (h:d9 W A env sc φ s t R K)(g:∀ v φ₁ V₁ ρ₁ s₁ x,aq W (FX env) φ s φ₁ V₁ s₁->az W φ₁ s₁.heap env sc ρ₁->R φ₁ s₁.heap v x->K x ρ₁ V₁->d9 W A env sc φ₁ s₁ (k v) R' Q):d9 W A env sc φ s (t >>= k) R' Q:=by
 refine wpAny_bind (wpAny_mono h (fun v s₁ ⟨φ₁,V₁,ρ₁,x,e,f,r,q⟩=>?_) fun Z Z z=>z)
 exact wpAny_mono (g v φ₁ V₁ ρ₁ s₁ x e f r q) (fun v' s₂ ⟨φ₂,V₂,ρ₂,y,e',f',r',q'⟩=>⟨φ₂,V₂,ρ₂,y,e.trans e',f',r',q'⟩) fun Z Z z=>z
theorem TT.inS{W:Wd}{A:Around}{env:Env}{sc:ah}{α β:Type}{φ:aj}{s:Shared}{t:Sem α}{R:Rl α β}{ρ:ai}{Q:β->St->Prop}
 (h:TT W (fun Z=>False) A φ s t R Q)(F:az W φ s.heap env sc ρ):d9 W A env sc φ s t R (fun x ρ' V'=>ρ'=ρ∧Q x V'):=
 wpAny_mono h (fun v s' ⟨φ',V',x,e,r,q⟩=>⟨φ',V',ρ,x,⟨dB.toX e.st,e.now,e.gens,e.os⟩,F.step e.st,r,rfl,q⟩) fun Z Z z=>z
theorem d9.pure{W:Wd}{A:Around}{env:Env}{sc:ah}{α β:Type}{φ:aj}{V:St}{ρ:ai}{s:Shared}{v:α}{R:Rl α β}{Q:β->ai->St->Prop}{x:β}(N:aO W φ V s.heap)(F:az W φ s.heap env sc ρ)(r:R φ s.heap v x)(q:Q x ρ V):d9 W A env sc φ s (Pure.pure v) R Q:=
 wpAny_pure ⟨φ,V,ρ,x,⟨.refl,N,rfl,rfl⟩,F,r,q⟩
theorem d9.mono{W:Wd}{A:Around}{env:Env}{sc:ah}{α β:Type}{φ:aj}{s:Shared}{t:Sem α}{R:Rl α β}{Q Q':β->ai->St->Prop}(h:d9 W A env sc φ s t R Q)(m:∀ x ρ V,Q x ρ V->Q' x ρ V):d9 W A env sc φ s t R Q':=
 wpAny_mono h (fun v s' ⟨φ',V',ρ',x,e,f,r,q⟩=>⟨φ',V',ρ',x,e,f,r,m _ _ _ q⟩) fun Z Z z=>z
noncomputable def aJ:List (Str×a5)->Str->a5->List (Str×a5)
 | [],x,v=>[(x,v)]
 | (y,w)::r,x,v=>if y=x then(x,v)::r else(y,w)::aJ r x v
noncomputable def iD(name:Str)(hh:Int)(key v:Value):List DictEntry->List DictEntry
 | []=>[⟨hh,key,v⟩]
 | e::r=>if e.key.isStr name then {e with val:=v}::r else e::iD name hh key v r
theorem mF(name:Str)(hh:Int)(key v:Value)(es:List DictEntry)(n:Nat):∃ m,Obj.putName name hh key v (dictOf es n)=dictOf (iD name hh key v es) m:=by
 refine a0 (show Obj.putName=Obj.putNameByArray from Obj.putName_eq) ?_
 unfold Obj.putNameByArray
 dsimp only
 have main:∀ es:List DictEntry,(match es.findIdx? (·.key.isStr name)with | some i=>es.modify i fun e=>{e with val:=v} | none=>es++[⟨hh,key,v⟩])=iD name hh key v es:=by
  intro es
  induction es with
  | nil=>rfl
  | cons e r ih=>
    refine a0 List.findIdx?_cons ?_
    unfold iD
    by_cases q:e.key.isStr name=true
    ·refine a0 (if_pos q) ?_;refine a0 (if_pos q) ?_;exact rfl
    ·refine a0 (if_neg q) ?_;refine a0 (if_neg q) ?_;refine aX ih ?_
     cases r.findIdx? (·.key.isStr name)with
     | none=>rfl
     | some i=>exact rfl
 have e1:es.toArray.findIdx? (fun e=>e.key.isStr name)=es.findIdx? (fun e=>e.key.isStr name):=by simp
 refine a0 e1 ?_
 have:=main es
 cases hq:es.findIdx? (fun e=>e.key.isStr name)with
 | none=>rw[hq] at this;refine⟨n+1,?_⟩;dsimp only at this ⊢;refine aX this ?_;simp
 | some i=>rw[hq] at this;refine⟨n,?_⟩;dsimp only at this ⊢;refine aX this ?_;simp
theorem f8(name:Str)(hh:Int)(key v:Value):∀ es:List DictEntry,(iD name hh key v es).length≤es.length+1
 | []=>by exact Nat.le_refl _
 | e::r=>by
   unfold iD
   split
   ·simp
   ·have:=f8 name hh key v r;exact a9 (a9 (Nat.le_of_eq (List.length_cons ..)) (Nat.add_le_add_right this _)) (fX (congrArg (· +_) (List.length_cons ..)))
theorem jW{x y:Str}{t:Tok}{v:Value}(h:v=.str x t):v.isStr y=decide (x=y):=by
 subst h
 show(x==y)=_
 by_cases e:x=y
 ·subst e;exact rfl
 ·refine a0 (decide_eq_false e) ?_;exact beq_eq_false_iff_ne.mpr e
theorem d0.put{P:Params}{φ:aj}{h:Heap}{x:Str}{tk:Tok}{v:Value}{a:a5}(r:aa φ h v a){es:List DictEntry}{as:List (Str×a5)}(R:d0 P φ h es as):d0 P φ h (iD x (PyData.keyHash P x) (.str x tk) v es) (aJ as x a):=by
 induction R with
 | nil=>exact .cons rfl rfl r .nil
 | @cons e y t b es as k1 k2 k3 R ih=>
   unfold iD aJ
   refine a0 (jW k1) ?_
   by_cases q:y=x
   ·subst q
    refine a0 (if_pos (by exact decide_eq_true rfl)) ?_;refine a0 (if_pos rfl) ?_
    exact .cons k1 k2 r R
   ·refine a0 (if_neg (by simp[q])) ?_;refine a0 (if_neg q) ?_
    exact .cons k1 k2 k3 ih
theorem d0.find{P:Params}{φ:aj}{h:Heap}{x:Str}{es:List DictEntry}{as:List (Str×a5)}(R:d0 P φ h es as){a:a5}(e:as.lookup x=some a):∃ en,es.find? (·.key.isStr x)=some en∧aa φ h en.val a:=by
 induction R with
 | nil=>cases e
 | @cons en y t b es as k1 k2 k3 R ih=>
   rw[List.lookup_cons] at e
   refine a0 List.find?_cons ?_;refine a0 (jW k1) ?_
   by_cases q:x=y
   ·subst q
    simp only[beq_self_eq_true] at e
    cases e
    exact a6 en (by simp) k3
   ·have q1:(x==y)=false:=beq_eq_false_iff_ne.mpr q
    rw[q1] at e
    have q2:decide (y=x)=false:=decide_eq_false fun z=>q z.symm
    refine a0 q2 ?_
    exact ih e
theorem d0.miss{P:Params}{φ:aj}{h:Heap}{x:Str}{es:List DictEntry}{as:List (Str×a5)}(R:d0 P φ h es as)(e:as.lookup x=none):es.find? (·.key.isStr x)=none:=by
 induction R with
 | nil=>rfl
 | @cons en y t b es as k1 k2 k3 R ih=>
   rw[List.lookup_cons] at e
   refine a0 List.find?_cons ?_;refine a0 (jW k1) ?_
   by_cases q:x=y
   ·subst q
    simp at e
   ·have q1:(x==y)=false:=beq_eq_false_iff_ne.mpr q
    rw[q1] at e
    have q2:decide (y=x)=false:=decide_eq_false fun z=>q z.symm
    refine a0 q2 ?_
    exact ih e
theorem d0.norefs{P:Params}{φ:aj}{h:Heap}{es:List DictEntry}{as:List (Str×a5)}(R:d0 P φ h es as):es.any (·.refKey)=false:=by
 induction R with
 | nil=>rfl
 | cons k1 k2 k3 R ih=>refine a0 List.any_cons ?_;refine a0 ih ?_;refine a0 (Bool.or_false ..) ?_;unfold DictEntry.refKey;refine a0 k1 ?_;rfl
theorem d0.lookIn{P:Params}{φ:aj}{h:Heap}{x:Str}{es:List DictEntry}{n:Nat}{as:List (Str×a5)}(R:d0 P φ h es as):(∀ a,as.lookup x=some a->∃ v,PySem.W.lookIn x (dictOf es n)=some (some v)∧aa φ h v a)∧(as.lookup x=none->PySem.W.lookIn x (dictOf es n)=some none):=by
 unfold PySem.W.lookIn
 dsimp only
 refine⟨fun a e=>?_,fun e=>?_⟩
 ·refine a7 (R.find e) fun en h1 h2=>?_
  refine a0 h1 ?_
  exact a6 _ rfl h2
 ·refine a0 (R.miss e) ?_
  have:=R.norefs
  dsimp only
  refine a0 (if_neg (by simpa using this)) ?_;rfl
theorem d0.length{P:Params}{φ:aj}{h:Heap}{es:List DictEntry}{as:List (Str×a5)}(R:d0 P φ h es as):es.length=as.length:=by
 induction R with
 | nil=>rfl
 | cons _ _ _ _ ih=>simp[ih]
theorem aa.handed{φ:aj}{h:Heap}{v:Value}{a:a5}(r:aa φ h v a):handedIn v=true:=
 aa.rec (motive_1:=fun v Z Z=>handedIn v=true) (motive_2:=fun Z Z Z=>True) rfl (fun Z=>rfl) (fun Z Z=>rfl) (fun Z Z=>rfl) (fun Z Z Z Z=>rfl) (fun Z Z Z Z=>rfl) (fun Z Z Z=>rfl) (fun Z=>rfl) trivial (fun Z Z Z Z=>trivial) r
structure ca(K:Frag)(C:Addr):Prop where
 cls:(clsIn K C).any (·.hasDict)=true
 ga:findIn K (.ref C) "__getattribute__"=some (some (.builtin "object.__getattribute__"))
 gx:findIn K (.ref C) "__getattr__"=some none
 sa:findIn K (.ref C) "__setattr__"=some (some (.builtin "object.__setattr__"))
 over:plainOver K C=true
section
variable{W:Wd}{φ:aj}{V:St}{A:Around}{s:Shared}{E:Value->Shared->Prop}
theorem lN{h:Heap}{C:Addr}{p:Nat×Nat}{es:List DictEntry}{n:Nat}(a:h.get? p.1=some (instObj C p.2))(b:h.get? p.2=some (dictOf es n)):InstAt h p.1 (instObj C p.2) C (some (dictOf es n)):=⟨a,rfl,rfl,b⟩
theorem mN{l:Nat}{C:Addr}{as:List (Str×a5)}{x:Str}{a:a5}{expr:Bool}{Q:a5->St->Prop}{v:Value}(N:aO W φ V s.heap)(r:aa φ s.heap v (.ref l))(ho:V[l]? =some (.inst C as))(ha:as.lookup x=some a)(ck:ca W.K C)(hf:findIn W.K (.ref C) x=some none)(q:Q a V):
 TT W (fun Z=>False) A φ s (getAttr v x expr) aa Q:=by
 refine r.inst_el N ho fun p es m e i1 i2 i3 i4 R=>?_
 refine a7 ((R.lookIn (n:=m)).1 a ha) fun v e1 e2=>?_
 refine a7 (any_some ck.cls) fun cd hc hd=>?_
 have fo:findObj W.K C (some (dictOf es m)) x=some (.value v):=by
  unfold findObj PySem.W.ownOf
  refine a0 hc ?_
  simp only[Option.bind_some,hf,hd,if_true,e1]
 exact get_value N.X (lN i1 i2) ck.ga fo e2.handed ⟨φ,V,a,⟨.refl,N,rfl,rfl⟩,e2,q⟩
theorem nY{l:Nat}{C f:Addr}{as:List (Str×a5)}{x:Str}{pl:Sem Bool}{Q:Value×List Value->Shared->Prop}{v:Value}(N:aO W φ V s.heap)(r:aa φ s.heap v (.ref l))(ho:V[l]? =some (.inst C as))(ha:as.lookup x=none)(ck:ca W.K C)
 (hf:findIn W.K (.ref C) x=some (some (.ref f)))(ht:typeIn W.K (.ref f)=some (.type "function"))(q:Q (.ref f,[v]) s):
 wpAny (model W.prog W.w) A (getMethod v x pl) Q E s:=by
 refine r.inst_el (P:=fun v=>Q (.ref f,[v]) s->wpAny (model W.prog W.w) A (getMethod v x pl) Q E s) N ho (fun p es m e i1 i2 i3 i4 R q=>?_) q
 refine method_fn N.X (lN i1 i2) ck.ga ck.gx hf ht ?_ q
 unfold shadowIn
 dsimp only
 refine a0 ((R.lookIn).2 ha) ?_
 rfl
theorem mC{x dx C:Addr}{es:List DictEntry}{n:Nat}{name:Str}{v:Value}{Q:Unit->Shared->Prop}(X:W.K.In s.heap)(ck:ca W.K C)(hx:s.heap.get? x=some (instObj C dx))(hd:s.heap.get? dx=some (dictOf es n))(ht:takerIn W.K C name=some none)
 (hr:es.any (·.refKey)=false)(hz:es.length≤1000)(h:∀ t t' m,Obj.putName name (PyData.keyHash W.w.params name) (.str name t) v (dictOf es n)=dictOf (iD name (PyData.keyHash W.w.params name) (.str name t) v es) m->
  Q () {s with heap:=s.heap.update dx (Obj.putName name (PyData.keyHash W.w.params name) (.str name t) v),toks:=t'}):wpAny (model W.prog W.w) A (setAttr (.ref x) name v) Q E s:=by
 have I:InstAt s.heap x (instObj C dx) C (some (dictOf es n)):=⟨hx,rfl,rfl,hd⟩
 refine set_plain X I ck.sa (osa_open (s:={s with toks:=s.toks+1}) X I ck.over ht fun b=>?_)
 refine a7 (any_some ck.cls) fun cd hc hd'=>?_
 refine wpAny_bind (wpAny_pure (wpAny_bind (wpAny_bind (wpAny_loadPart hx (wpAny_bind (looks_clsIn (M:=model W.prog W.w) X hc _ _ _ _ (fun Z Z e=>e) ?_))))))
 refine a0 hd' ?_
 refine wpAny_pure (a:=some dx) (wpAny_bind (wpAny_pure (wpAny_bind ?_)))
 unfold nsSet
 refine wpAny_bind (wpAny_bind (wpAny_askSetting (wpAny_pure (wpAny_bind (wpAny_mkText (wpAny_bind (wpAny_loadPart hd ?_)))))))
 dsimp only
 have c:(!es.toArray.any (·.key.isStr name)&&es.toArray.any (·.refKey))=false:=by
  refine aX Array.any_toList ?_;refine aX Array.any_toList ?_
  simp only[hr,Bool.and_false]
 refine a0 (aRefKeyMayBeTheName_at ..) ?_;refine a0 c ?_
 refine aH (mF name (PyData.keyHash W.w.params name) (.str name (s.toks+1)) v es n) fun m hm=>?_
 have g:(s.heap.update dx (Obj.putName name (PyData.keyHash W.w.params name) (.str name (s.toks+1)) v)).get? dx=some (dictOf (iD name (PyData.keyHash W.w.params name) (.str name (s.toks+1)) v es) m):=by
  refine aX hm ?_;exact Heap.get?_update_self _ hd (by refine a0 hm ?_;rfl)
 refine wpAny_updatePart hd ?_
 refine wpAny_bind (wpAny_lookBehind (o:=dictOf (iD name (PyData.keyHash W.w.params name) (.str name (s.toks+1)) v es) m) g (pastItsLine_dict (by refine a0 List.size_toArray ?_;refine a0 sizeLine_eq ?_;have:=f8 name (PyData.keyHash W.w.params name) (.str name (s.toks+1)) v es;exact a9 (a9 this (Nat.add_le_add_right hz _)) (by decide))) ?_)
 exact wpAny_pure (h _ _ m hm)
theorem mA{l:Nat}{C:Addr}{as:List (Str×a5)}{x:Str}{a:a5}{u v:Value}{Q:Unit->St->Prop}(N:aO W φ V s.heap)(r:aa φ s.heap u (.ref l))(rv:aa φ s.heap v a)(ho:V[l]? =some (.inst C as))(hl:as.length<20)(ck:ca W.K C)(ht:takerIn W.K C x=some none)
 (q:Q () (V.set l (.inst C (aJ as x a)))):TT W (fun Z=>False) A φ s (setAttr u x v) (fun Z Z Z Z=>True) Q:=by
 refine r.inst_el N ho fun p es m hp i1 i2 i3 i4 R=>?_
 have len:=R.length
 refine mC N.X ck i1 i2 ht R.norefs (by exact a9 i4 (by decide)) fun t t' m hm=>?_
 have ln:=f8 x (PyData.keyHash W.w.params x) (.str x t) v es
 have RR:d0 W.w.params φ s.heap (iD x (PyData.keyHash W.w.params x) (.str x t) v es) (aJ as x a):=R.put rv
 generalize iD x (PyData.keyHash W.w.params x) (.str x t) v es=es' at hm ln RR
 generalize Obj.putName x (PyData.keyHash W.w.params x) (.str x t) v=f at hm ⊢
 have g2:(s.heap.update p.2 f).get? p.2=some (dictOf es' m):=by
  refine aX hm ?_;exact Heap.get?_update_self _ i2 (by refine a0 hm ?_;rfl)
 have g1:∀ (b:Nat) o,s.heap.get? b=some o->b≠p.1->b≠p.2->(s.heap.update p.2 f).get? b=some o:=fun b o e n1 n2=>(Heap.get?_update_ne _ _ _ _ n2).trans e
 have sz:s.heap.objs.size≤(s.heap.update p.2 f).objs.size:=by refine a0 (Heap.size_update ..) ?_;exact Nat.le_refl _
 have S:=dB.at hp sz g1
 refine a2 (N.update (o:=.inst C (aJ as x a)) hp sz g1 (.inst ((Heap.get?_update_ne _ _ _ _ (Ne.symm i3)).trans i1) g2 i3 (by lia) (RR.step S (ae _ _)))) fun N' S'=>?_
 exact⟨φ,_,(),⟨S',N',rfl,rfl⟩,trivial,q⟩
end
noncomputable def cU(sc:ah)(x:Str):Bool:=match sc.lookup x with | some .local | some .cell | some .free=>true | _=>false
noncomputable def d5(x:Str):Bool:= !(x==("__debug__":Str))&& !(x==("__classdict__":Str))
section
variable{W:Wd}{n:Nat}{sc:ah}{ρ:ai}{V:St}
theorem iX{sc:ah}{x:Str}(h:cU sc x=true):sc.lookup x=some .local∨sc.lookup x=some .cell∨sc.lookup x=some .free:=by
 unfold cU at h
 revert h
 generalize sc.lookup x=o
 intro h
 cases o with
 | none=>exact nomatch h
 | some k=>cases k<;>first | exact .inl rfl | exact .inr (.inl rfl) | exact .inr (.inr rfl) | exact nomatch h
theorem uq{A:Around}{env:Env}{φ:aj}{s:Shared}{x:Str}{pos:Pos}{a:a5}{Q:a5->St->Prop}(N:aO W φ V s.heap)(F:az W φ s.heap env sc ρ)
 (hx:cU sc x=true)(hn:d5 x=true)(ha:ρ.lookup x=some a)(q:Q a V):TT W (fun Z=>False) A φ s (eval (.Name x pos) env) aa Q:=by
 unfold d5 at hn
 simp only[Bool.and_eq_true,Bool.not_eq_true'] at hn
 have go:∀ v,aa φ s.heap v a->kC W (fun Z=>False) φ s aa Q v s:=fun v r=>⟨φ,V,a,⟨.refl,N,rfl,rfl⟩,r,q⟩
 have kn:∀ k,sc.lookup x=some k->env.kindOf x=some k:=fun k e=>by unfold Env.kindOf;refine a0 F.names ?_;exact e
 rcases iX hx with e | e | e
 ·refine a7 F.locals fun m hm hv=>?_
  refine a7 (hv x a e ha) fun v e1 r=>?_
  exact wpAny_Name (wpAny_loadName_local F.kind (kn _ e) hm e1 (go v r)) hn.1
 ·refine ia (F.cells x (.inl e)) fun c v e1 Z e2 e3=>?_
  refine a7 (e3 a ha) fun u z1 r=>?_;subst z1
  exact wpAny_Name (wpAny_loadName_cell F.kind (kn _ e) e1 e2 (go u r)) hn.1
 ·refine ia (F.cells x (.inr e)) fun c v e1 Z e2 e3=>?_
  refine a7 (e3 a ha) fun u z1 r=>?_;subst z1
  exact wpAny_Name (wpAny_loadName_free F.kind (kn _ e) e1 e2 (go u r) hn.2) hn.1
theorem cF{x:Str}{pos:Pos}{a:a5}{Q:a5->St->Prop}(ha:ρ.lookup x=some a)(q:Q a V)(hx:cU sc x=true:=by rfl)(hn:d5 x=true:=by rfl):ET W n sc (.Name x pos) ρ V Q:=
 fun A env φ s R N F=>uq N F hx hn ha q
inductive GV(W:Wd)(x:Str):Value->Prop
 | own {v:Value}:nsIn W.K mainGlobals x=some (some v)->GV W x v
 | blt {v:Value}:nsIn W.K mainGlobals x=some none->bootBuiltins x=some v->x≠"__name__"->GV W x v
theorem gA{A:Around}{env:Env}{φ:aj}{s:Shared}{x:Str}{pos:Pos}{v:Value}{Q:Value->Shared->Prop}{E:Value->Shared->Prop}(N:aO W φ V s.heap)(F:az W φ s.heap env sc ρ)
 (hx:sc.lookup x=some .globalImplicit)(hn:d5 x=true)(g:GV W x v)(q:Q v s):wpAny (model W.prog W.w) A (eval (.Name x pos) env) Q E s:=by
 unfold d5 at hn
 simp only[Bool.and_eq_true,Bool.not_eq_true'] at hn
 have kn:env.kindOf x=some .globalImplicit:=by unfold Env.kindOf;refine a0 F.names ?_;exact hx
 have G:s.heap.Ns env.globals W.mg:=by refine a0 F.globals ?_;exact N.ok.g.keeps N.base
 have B:s.heap.Ns env.builtins W.mb:=by refine a0 F.builtins ?_;exact N.ok.b.keeps N.base
 refine Name_function_global F.kind kn ?_ hn.1
 cases g with
 | own e=>exact loadGlobal_global G (mg_of N.ok.X N.ok.g e) q
 | blt e hb ne=>exact loadGlobal_builtin G (mg_none_of N.ok.X N.ok.g e) B ((N.ok.builtins x ne).trans hb) q
theorem xS{i:Int}{k:Nat}{pos:Pos}{Q:a5->St->Prop}(q:Q (.int i) V):ET W n sc (.Constant (.int i) k pos) ρ V Q:=
 fun A env φ s R N F=>wpAny_Constant_int ⟨φ,V,.int i,⟨.refl,N,rfl,rfl⟩,.int i _,q⟩
theorem xQ{x:Str}{k:Nat}{pos:Pos}{Q:a5->St->Prop}(q:Q (.str x) V):ET W n sc (.Constant (.str x) k pos) ρ V Q:=
 fun A env φ s R N F=>wpAny_Constant_str ⟨φ,V,.str x,⟨.refl,N,rfl,rfl⟩,.str x _,q⟩
theorem wA{k:Nat}{pos:Pos}{Q:a5->St->Prop}(q:Q .none V):ET W n sc (.Constant .none k pos) ρ V Q:=
 fun A env φ s R N F=>wpAny_Constant_none ⟨φ,V,.none,⟨.refl,N,rfl,rfl⟩,.none,q⟩
theorem wF{b:Bool}{k:Nat}{pos:Pos}{Q:a5->St->Prop}(q:Q (.bool b) V):ET W n sc (.Constant (.bool b) k pos) ρ V Q:=
 fun A env φ s R N F=>wpAny_Constant_bool ⟨φ,V,.bool b,⟨.refl,N,rfl,rfl⟩,.bool b,q⟩
noncomputable def dS(e:Expr):Bool:= !(e.ctorIdx==16)
theorem dc{o:Expr}(h:dS o=true)(attr:Str)(env:Env)(t:Sem Value):attributeBase o attr env t=t:=by
 cases o<;>first | rfl | cases h
theorem wI{o:Expr}{x:Str}{pos:Pos}{Q:a5->St->Prop}
 (h:ET W n sc o ρ V (fun ov V'=>∃ l C as a,ov=.ref l∧V'[l]? =some (.inst C as)∧as.lookup x=some a∧ca W.K C∧findIn W.K (.ref C) x=some none∧Q a V'))(hb:dS o=true:=by rfl):ET W n sc (.Attribute o x pos) ρ V Q:=by
 intro A env φ s R N F
 refine a0 (arm_eval_Attribute ..) ?_;rewrite[dc hb]
 refine TT.bind (h A env φ s R N F) fun v φ₁ V₁ s₁ ov E₁ r q=>?_
 obtain⟨l,C,as,a,rfl,ho,ha,ck,hf,q⟩:=q
 refine wpAny_bind (wpAny_standAt ?_)
 refine TT.bind (K:=fun y V'=>y=a∧Q a V'∧V'=V₁) (wpAny_holding (mN E₁.now r ho ha ck hf (i3 rfl q rfl))) fun v' φ₂ V₂ s₂ y E₂ r' q'=>?_
 refine a3 q' ?_;clear q';intro z0 q' z2;subst z0;subst z2
 exact wpAny_bind (wpAny_letTemporaryGo (TT.pure E₂.now r' q'))
noncomputable def aQ(es:List Expr):Bool:=es.all fun e=> !(e.ctorIdx==22)
theorem g5{e:Expr}(h:aQ [e]=true)(es:List Expr)(env:Env):starEach (e::es) env=(false,eval e env)::starEach es env:=by
 cases e<;>first | rfl | cases h
theorem eZ{e:Expr}{es:List Expr}(h:aQ (e::es)=true):aQ [e]=true∧aQ es=true:=by
 unfold aQ at h ⊢
 rw[List.all_cons,Bool.and_eq_true] at h
 refine a0 List.all_cons ?_;refine a0 h.1 ?_
 exact⟨rfl,h.2⟩
theorem iV:∀ {es:List Expr},aQ es=true->∀ env,starEach es env=es.map fun e=>(false,eval e env)
 | [],_,_=>rfl
 | e::r,h,env=>by rw[g5 (eZ h).1,iV (eZ h).2];rfl
theorem dp{es:List Expr}(h:aQ es=true)(pos:Pos)(env:Env):(backTo pos (starEach es env)).any (fun x=>x.1)=false:=by
 rw[iV h]
 unfold backTo
 refine a0 List.any_map ?_;refine a0 List.any_map ?_
 induction es with
 | nil=>rfl
 | cons e r ih=>
   unfold aQ at h
   rw[List.all_cons,Bool.and_eq_true] at h
   refine a0 List.any_cons ?_;refine a0 (ih h.2) ?_
   rfl
theorem i8{M:Model}{A:Around}{E:Value->Shared->Prop}{s:Shared}{f:Value}{trees:List (Bool×Sem Value)}{Q:Args->Shared->Prop}(hp:trees.any (fun x=>x.1)=false)
 (h:wpAny M A (spliced trees) (fun vs s₁=>Q ⟨vs,[]⟩ s₁) E s):wpAny M A (evalArgs f true trees []) Q E s:=by
 cases trees with
 | nil=>
   refine evalArgs_kw_nil rfl ?_
   exact fun Γ p hΓ=>h Γ p hΓ
 | cons x r=>
   obtain⟨b,t⟩:=x
   rw[List.any_cons,Bool.or_eq_false_iff] at hp
   obtain rfl:b=false:=hp.1
   refine evalArgs_kw rfl ?_
   exact wpAny_mono h (fun vs s₁ q=>wpAny_pure q) fun Z Z z=>z
noncomputable def iP(K:Frag)(f:Value):Bool:=match f with
 | .builtin _=>true
 | .type _=>true
 | f=>keepIn K f
theorem oe{K:Frag}{M:Model}{f:Value}(hk:iP K f=true)(h:Heap)(X:K.In h):∃ k,(k=Keeper.frame∨k=Keeper.machine∨k=Keeper.boundFrame)∧Looks M h (keeperOf f) k:=by
 cases f with
 | builtin i=>exact a6 .machine (.inr (.inl rfl)) .now
 | type i=>exact a6 .machine (.inr (.inl rfl)) .now
 | _=>exact keeps_K (K:=K) (by exact hk) h X
theorem TT.callWith{A:Around}{env:Env}{φ:aj}{s:Shared}{pos:Pos}{f:Value}{first:List Value}{es:List Expr}{Q:a5->St->Prop}(hk:iP W.K f=true)(hs:aQ es=true)
 (h:TT W (fun Z=>False) A φ s (spliced (backTo pos (starEach es env))) ad (fun as V'=>∀ (φ':aj) (s':Shared) (vs:List Value),b6 (fun Z=>False) φ s.heap φ' s'.heap->aO W φ' V' s'.heap->ad φ' s'.heap vs as->TT W (fun Z=>False) A φ' s' (call f (first++vs)) aa Q)):
 TT W (fun Z=>False) A φ s (callWith pos f first (backTo pos (starEach es env)) []) aa Q:=by
 refine callWith_of (P:=W.K.In) (by rw[dp hs];rfl) (fun h X=>oe hk h X) (i8 (dp hs pos env) ?_)
 refine wpAny_mono h (fun vs s₁ ⟨φ₁,V₁,as,E₁,r,q⟩=>⟨E₁.now.X,?_⟩) fun Z Z z=>z
 exact wpAny_mono (q φ₁ s₁ vs E₁.st E₁.now r) (fun v' s₂ ⟨φ₂,V₂,y,e',r',q'⟩=>⟨φ₂,V₂,y,E₁.trans e',r',q'⟩) fun Z Z z=>z
theorem jq{Q:List a5->St->Prop}(q:Q [] V):lq W n sc [] ρ V Q:=fun A env φ s pos R N F=>TT.pure N .nil q
theorem kJ{e:Expr}{es:List Expr}{Q:List a5->St->Prop}(h:ET W n sc e ρ V (fun a V'=>lq W n sc es ρ V' (fun as V''=>Q (a::as) V'')))(hs:aQ [e]=true:=by rfl):lq W n sc (e::es) ρ V Q:=by
 intro A env φ s pos R N F
 rw[g5 hs]
 refine Calls.spliced_cons ?_
 refine wpAny_mono (h A env φ s R N F) (fun v s₁ ⟨φ₁,V₁,a,E₁,r,q⟩=>?_) fun Z Z z=>z
 refine wpAny_mono (q A env φ₁ s₁ pos R E₁.now (F.step E₁.st)) (fun vs s₂ ⟨φ₂,V₂,as,E₂,r',q'⟩=>?_) fun Z Z z=>z
 exact⟨φ₂,V₂,a::as,E₁.trans E₂,.cons (r.step E₂.st (ae _ _)) r',q'⟩
theorem n7{x:Str}{np pos:Pos}{args:List Expr}{f:Value}{Q:a5->St->Prop}(g:GV W x f)(hk:iP W.K f=true)(h:lq W n sc args ρ V (fun as V'=>CT W n f as V' Q))
 (hx:sc.lookup x=some .globalImplicit:=by rfl)(hn:d5 x=true:=by rfl)(hs:aQ args=true:=by rfl):ET W n sc (.Call (.Name x np) args [] pos) ρ V Q:=by
 intro A env φ s R N F
 refine wpAny_Call_ofName (gA N F hx hn g ?_)
 refine TT.callWith (first:=[]) hk hs ?_
 exact(h A env φ s pos R N F).mono fun as V' q φ' s' vs Z N' r=>q A φ' s' vs R N' r
inductive gH(W:Wd)(V:St):a5->Str->Value->Prop
 | inst {l:Nat} {C f:Addr} {as:List (Str×a5)} {x:Str}:V[l]? =some (.inst C as)->as.lookup x=none->ca W.K C->findIn W.K (.ref C) x=some (some (.ref f))->typeIn W.K (.ref f)=some (.type "function")->fnIn W.K f=true->gH W V (.ref l) x (.ref f)
 | list {l:Nat} {xs:List a5} {x:Str} {id:String}:V[l]? =some (.list xs)->Slot "list" x id->typeOf (.builtin id)=pure (.type "method_descriptor")->gH W V (.ref l) x (.builtin id)
 | idict {l:Nat} {es:List (Int×a5)} {x:Str} {id:String}:V[l]? =some (.idict es)->Slot "dict" x id->typeOf (.builtin id)=pure (.type "method_descriptor")->gH W V (.ref l) x (.builtin id)
 | tdict {l:Nat} {es:List (List aT×a5)} {x:Str} {id:String}:V[l]? =some (.tdict es)->Slot "dict" x id->typeOf (.builtin id)=pure (.type "method_descriptor")->gH W V (.ref l) x (.builtin id)
 | str {y:Str} {x:Str} {id:String}:Slot "str" x id->typeOf (.builtin id)=pure (.type "method_descriptor")->gH W V (.str y) x (.builtin id)
theorem hG{args:List Expr}(hs:aQ args=true)(hl:args.length<29)(pos:Pos)(env:Env):methodCallForm (args.length+([]:List Keyword).length) (backTo pos (starEach args env)) (backToKw pos (keywordEach [] env))=true:=by
 unfold methodCallForm
 have a1:(backTo pos (starEach args env)).all (!·.1)=true:=by
  have:=dp hs pos env
  rw[List.any_eq_false] at this
  refine bt List.all_eq_true ?_
  intro x hx
  have:=this x hx
  simpa using this
 refine a0 a1 ?_
 show(true&&true&&decide (args.length+0+(if([]:List (Option Str×Sem Value)).isEmpty then 0 else 1)<30))=true
 simp
 exact a9 hl (by decide)
theorem gH.get{A:Around}{φ:aj}{s:Shared}{ov:a5}{x:Str}{f v:Value}{pl:Sem Bool}{E:Value->Shared->Prop}{Q:Value×List Value->Shared->Prop}(N:aO W φ V s.heap)(m:gH W V ov x f)(r:aa φ s.heap v ov)(q:Q (f,[v]) s):wpAny (model W.prog W.w) A (getMethod v x pl) Q E s:=
 gH.rec (motive:=fun ov x f Z=>aa φ s.heap v ov->Q (f,[v]) s->wpAny (model W.prog W.w) A (getMethod v x pl) Q E s)
  (fun h1 h2 h3 h4 h5 Z r q=>nY N r h1 h2 h3 h4 h5 q)
  (fun h1 sl ty r=>r.list_el N h1 fun p us m e g Z Z q=>getMethod_builtin (a6 _ g rfl) F.plainAttrs_list sl ty (fun a ea=>by cases ea;exact a6 _ g rfl) q)
  (fun h1 sl ty r=>r.idict_el N h1 fun p us e g Z Z q=>g.elim fun o g=>g.elim fun Z g=>g.elim fun Z g=>getMethod_builtin (a6 _ g.1 g.2.1.1) F.plainAttrs_dict sl ty (fun a ea=>by cases ea;exact a6 _ g.1 g.2.1.2.1) q)
  (fun h1 sl ty r=>r.tdict_el N h1 fun p us e g Z Z q=>g.elim fun o g=>g.elim fun Z g=>g.elim fun Z g=>getMethod_builtin (a6 _ g.1 g.2.1.1) F.plainAttrs_dict sl ty (fun a ea=>by cases ea;exact a6 _ g.1 g.2.1.2.1) q)
  (fun{y x id} sl ty r=>r.str_el fun t q=>getMethod_builtin (s:=s) (show s.TypeIs (.str y t) "str" from rfl) F.plainAttrs_str sl ty (fun a ea=>by cases ea) q) m r q
set_option tactic.hygienic true in
theorem gH.callOk{ov:a5}{x:Str}{f:Value}(m:gH W V ov x f):iP W.K f=true:=by
 cases m with
 | @inst l C f as x h1 h2 h3 h4 h5 h6=>
   show keepIn W.K (.ref f)=true
   unfold fnIn at h6
   unfold keepIn
   split at h6
   ·rename_i e;simp only[e]
   ·cases h6
 | _=>rfl
theorem uP{o:Expr}{x:Str}{apos pos:Pos}{args:List Expr}{Q:a5->St->Prop}
 (h:ET W n sc o ρ V (fun ov V'=>∃ f,gH W V' ov x f∧lq W n sc args ρ V' (fun as V''=>CT W n f (ov::as) V'' Q)))
 (hb:dS o=true:=by rfl)(hs:aQ args=true:=by rfl)(hl:args.length<29:=by decide)(hp:(apos.endLine==pos.line)=true:=by rfl):ET W n sc (.Call (.Attribute o x apos) args [] pos) ρ V Q:=by
 intro A env φ s R N F
 refine a0 (arm_eval_Call ..) ?_;rewrite[dc hb]
 refine TT.bind (h A env φ s R N F) fun v φ₁ V₁ s₁ ov E₁ r q=>?_
 refine a7 q fun f m q=>?_
 refine wpAny_bind (wpAny_standAt ?_)
 unfold methodCall
 rw[hG hs hl]
 refine wpAny_bind (wpAny_holding (m.get E₁.now r ?_))
 have hpos:methodCallPos true o env apos pos=Pure.pure pos:=by unfold methodCallPos;simp[hp]
 dsimp only
 refine wpAny_bind (wpAny_of_eq hpos ?_)
 refine TT.callWith m.callOk hs ?_
 refine(q A env φ₁ s₁ pos R E₁.now (F.step E₁.st)).mono fun as V' q' φ' s' vs S N' r'=>?_
 exact q' A φ' s' (v::vs) R N' (.cons (r.step S (ae _ _)) r')
end
theorem j6(k:Str->Option NameKind):∀ (l:List (Str×Value)) (m:Str->Option Value) (x:Str),x∉l.map (fun x=>x.1)->bindL k l m x=m x
 | [],m,x,_=>rfl
 | (y,v)::r,m,x,h=>by
   simp only[List.map_cons,List.mem_cons,not_or] at h
   unfold bindL
   refine a0 (j6 k r _ x h.2) ?_
   split
   ·dsimp only;refine a0 (if_neg h.1) ?_;rfl
   ·rfl
theorem j7(k:Str->Option NameKind):∀ (l:List (Str×Value)) (m:Str->Option Value) (x:Str),x∉l.map (fun x=>x.1)->bindC k l m x=m x
 | [],m,x,_=>rfl
 | (y,v)::r,m,x,h=>by
   simp only[List.map_cons,List.mem_cons,not_or] at h
   unfold bindC
   refine a0 (j7 k r _ x h.2) ?_
   split
   ·rfl
   ·dsimp only;refine a0 (if_neg h.1) ?_;rfl
theorem ju:∀ (ps:List Str) (vs:List Value),vs.length=ps.length->(ps.zip vs).map (fun x=>x.1)=ps
 | [],_,_=>by exact rfl
 | p::ps,[],h=>by simp at h
 | p::ps,v::vs,h=>by simp at h ⊢;exact ju ps vs h
theorem jt{φ:aj}{hp:Heap}{x:Str}{a:a5}:∀ {ps:List Str} {vs:List Value} {as:List a5},ad φ hp vs as->as.length=ps.length->ps.Nodup->(ps.zip as).lookup x=some a->
 ∃ v,aa φ hp v a∧(∀ (k:Str->Option NameKind) m,k x=some .local->bindL k (ps.zip vs) m x=some v)∧(∀ (k:Str->Option NameKind) m,k x≠some .local->bindC k (ps.zip vs) m x=some v):=by
 intro ps
 induction ps with
 | nil=>intro vs as _ _ _ e;cases e
 | cons p ps ih=>
   intro vs as rs h nd e
   cases rs with
   | nil=>cases h
   | @cons v b vs as r rs=>
     replace h:=Nat.succ.inj h
     rw[List.nodup_cons] at nd
     by_cases q:x=p
     ·subst q
      have e':b=a:=Option.some.inj ((show((x,b)::ps.zip as).lookup x=some b by refine a0 List.lookup_cons ?_;refine a0 (beq_self_eq_true ..) ?_;rfl).symm.trans e)
      have nk:x∉(ps.zip vs).map (fun x=>x.1):=by refine a0 (ju ps vs (rs.length.trans h)) ?_;exact nd.1
      exact aP v (e'▸r) (fun k m hk=>(j6 k _ _ _ nk).trans ((if_pos hk).symm▸if_pos rfl)) (fun k m hk=>(j7 k _ _ _ nk).trans ((if_neg hk).symm▸if_pos rfl))
     ·have e':(ps.zip as).lookup x=some a:=(show((p,b)::ps.zip as).lookup x=(ps.zip as).lookup x by refine a0 List.lookup_cons ?_;refine a0 (beq_eq_false_iff_ne.mpr q) ?_;rfl).symm.trans e
      exact(ih rs h nd.2 e').imp fun v' z=>i3 z.1 (fun k m hk=>z.2.1 k _ hk) (fun k m hk=>z.2.2 k _ hk)
theorem eD{x:Str}{c:Addr}:∀ {l:List (Str×Addr)},l.lookup x=some c->(x,c)∈l
 | [],e=>by cases e
 | (y,d)::r,e=>by
   rw[List.lookup_cons] at e
   by_cases q:(x==y)=true
   ·simp only[q] at e;cases e;refine a0 (eq_of_beq q) ?_;exact .head _
   ·simp only[q] at e;exact .tail _ (eD e)
section
variable{W:Wd}{n:Nat}{sc:ah}{ρ:ai}{V:St}
noncomputable def vX:cH->a5
 | .ret a=>a
 | _=>.none
noncomputable def yv(f:Flow):Value:=match f with | .ret v=>v | _=>.none
theorem w0{φ:aj}{h:Heap}{f:Flow}{g:cH}(r:na φ h f g):aa φ h (yv f) (vX g):=by
 cases r with
 | ret r=>exact r
 | _=>exact .none
noncomputable def CC(W:Wd)(n:Nat)(f:Value)(args:List a5)(V:St)(Q:a5->St->Prop):Prop:=
 ∀ (A:Around) (φ:aj) (s:Shared) (vs:List Value),bz n A->aO W φ V s.heap->ad φ s.heap vs args->
   codeAny (model W.prog W.w) A (.call f ⟨vs,[]⟩) (fun r s'=>match r with | .ok (.ret v)=>kC W (fun Z=>False) φ s aa Q v s' | .ok _=>False | .error _=>False) s
theorem CC.call{f:Value}{args:List a5}{Q:a5->St->Prop}(h:CC W n f args V Q):CT W n f args V Q:=fun A φ s vs R N r=>wpAny_call (h A φ s vs R N r)
theorem xU{f:Addr}{name qual:Str}{params:Arguments}{body:List Stmt}{scope:Scope}{dV kV doc pm cdv ct oc:Value}{an od:Option Addr}{osl:Array (Option Value)}{ps:List Str}{args:List a5}{Q:a5->St->Prop}
 (ho:W.K.lookup f=some ⟨oc,od,.func (fnX name qual params body scope [] dV kV doc pm an cdv ct),osl⟩)(hcd:codeIn W.K cdv qual=true)
 (hbind:∀ vs:List Value,vs.length=ps.length->bindArgs (fnX name qual params body scope [] dV kV doc pm an cdv ct) ⟨vs,[]⟩=pure (ps.zip vs))
 (hlen:args.length=ps.length)(hnd:ps.Nodup)(hk:(ps.all fun x=>scope.names.lookup x==some .local||(scope.names.lookup x==some .cell))=true)
 (hcn:((cellsFrom 0 scope.names []).map (fun x=>x.1)).Nodup)(hcl:(scope.names.all fun y=>(y.2 != .free)&&(y.2 != .cell||((cellsFrom 0 scope.names []).lookup y.1).isSome&&scope.names.lookup y.1==some .cell))=true)
 (h:df W n scope.names body (ps.zip args) V (fun g Z V'=>Q (vX g) V'))
 (hco:scope.isCoroutine=false)(hgen:scope.isGenerator=false)(hkind:scope.kind=.function):CC W (n+1) (.ref f) args V Q:=by
 intro A φ s vs R N r
 have hvl:vs.length=ps.length:=r.length.trans hlen
 refine codeAny_call_function R.room (N.X _ _ ho) rfl hco hgen rfl (codeRec_of N.X hcd) ?_
 refine a0 (hbind vs hvl) ?_
 refine wpAny_pure ?_
 refine wpAny_newFunctionEnv_cells hkind ?_ fun env he s' x=>?_
 ·intro y hy
  have hm:y.1∈ps:=by refine aX (ju ps vs hvl) ?_;exact List.mem_map_of_mem hy
  have:=List.all_eq_true.mp hk y.1 hm
  rcases Bool.or_eq_true_iff.mp this with q | q
  ·exact .inl (by simpa using q)
  ·have q':scope.names.lookup y.1=some .cell:=by simpa using q
   exact .inr ⟨q',cellsFrom_some _ _ _ (.inl q')⟩
 refine jh x.toInCall.same fun h₁ tk z2=>?_;subst z2
 have keep:=x.toInCall.keep
 have fresh:s.heap.objs.size≤(env.locals:Nat):=x.toInCall.fresh
 have hcells:env.cells=cellsFrom (s.heap.objs.size+1) scope.names []:=congrArg Env.cells he
 have hnd':(env.cells.map (fun x=>x.1)).Nodup:=by
  refine a0 hcells ?_
  exact cellsFrom_names scope.names 0 (s.heap.objs.size+1) [] [] rfl▸hcn
 have cellAt:∀ y c,(y,c)∈env.cells->env.cells.lookup y=some c:=fun y c hm=>lookup_of_mem_nodup hnd' hm
 have sz:s.heap.objs.size≤h₁.objs.size:=by
  obtain⟨o,_,_,e,_⟩:=x.toInCall.ns
  exact Nat.le_of_lt (Nat.lt_of_le_of_lt fresh (Heap.lt_size e))
 have fxge:∀ b,FX env b->s.heap.objs.size≤(b:Nat):=by
  rintro b (rfl | ⟨y,hm⟩)
  ·exact fresh
  ·exact a9 fresh (Nat.le_of_lt (x.above y b hm))
 have st0:dB φ s.heap φ h₁:=.quiet (fun b o e Z=>keep b o e) sz
 have N₁:aO W φ V h₁:=N.grown sz keep
 have data:∀ b,FX env b->∃ o,h₁.get? b=some o∧((∃ es ep,o.data=.dict es ep)∨∃ v,o.data=.cell v):=by
  rintro b (rfl | ⟨y,hm⟩)
  ·obtain⟨o,es,ep,e,d,_⟩:=x.toInCall.ns
   exact a6 o e (.inl (jZ es ep d))
  ·refine a7 (x.cell y b (cellAt y b hm)) fun o e d=>?_
   exact a6 o e (.inr ⟨_,d⟩)
 have rl:=r.step st0 (ae _ _)
 have F₁:az W φ h₁ env scope.names (ps.zip args):=by
  refine⟨(congrArg (fun e:Env=>e.scope.kind) he).trans hkind,congrArg (fun e:Env=>e.scope.names) he,congrArg Env.globals he,congrArg Env.builtins he,fun b fb ob=>?_,fun b fb=>?_,fun b fb=>?_,fun b o e fb=>?_,(a6 _ x.toInCall.ns (fun y a e1 e2=>?_)),fun y hy=>?_,fun y z c e1 e2=>?_⟩
  ·have:=N.ownLt ob
   have:=fxge b fb
   exact absurd ‹_› (Nat.not_lt.mpr this)
  ·have hb:=N.size
   exact a9 hb (fxge b fb)
  ·refine a7 (data b fb) fun o e Z=>?_;exact⟨o,e⟩
  ·refine a7 (data b fb) fun o' e' d=>?_
   rw[e'] at e;cases e
   refine .inr ⟨fun xs k z=>?_,fun vs z=>?_⟩<;>(rcases d with⟨es,ep,d⟩ | ⟨v,d⟩<;>(rw[d] at z;cases z))
  ·refine bw (jt rl hlen hnd e2) fun v rv h1 Z=>?_
   exact a6 v (h1 _ _ ((congrArg (fun e:Env=>e.kindOf y) he).trans e1)) rv
  ·have hc:scope.names.lookup y=some .cell:=by
    rcases hy with hy | hy
    ·exact hy
    ·have hm:∃ z∈scope.names,z.2=.free:=by
      have:∀ (l:ah),l.lookup y=some .free->∃ z∈l,z.2=.free:=by
       intro l
       induction l with
       | nil=>intro e;cases e
       | cons z r ih=>
         intro e
         obtain⟨z1,z2⟩:=z
         rw[List.lookup_cons] at e
         by_cases q:(y==z1)=true
         ·simp only[q] at e;cases e;exact a6 _ (.head _) rfl
         ·simp only[q] at e;refine a7 (ih e) fun w hw e'=>?_;exact a6 w (.tail _ hw) e'
      exact this _ hy
     refine a7 hm fun z hz hf=>?_
     have:=List.all_eq_true.mp hcl z hz
     rw[hf] at this
     simp at this
   refine aH (Option.isSome_iff_exists.mp (cellsFrom_some (x:=y) scope.names (s.heap.objs.size+1) [] (.inl hc))) fun c hc'=>?_
   rw[← hcells] at hc'
   refine jg c _ hc' (fun e=>?_) (x.cell y c hc') (fun a e2=>?_)
   ·have:=x.above y c (eD hc');rw[e] at this;exact Nat.lt_irrefl _ this
   ·refine bw (jt rl hlen hnd e2) fun v rv Z h2=>?_
    refine a6 v (h2 _ _ ?_) rv
    exact fun z=>nomatch ((congrArg (fun e:Env=>e.kindOf y) he).trans hc).symm.trans z
  ·have m1:=eD e1
   have m2:=eD e2
   have ap:=x.apart
   refine Classical.byContradiction fun ne=>?_
   have:∀ l:List (Str×Addr),l.Pairwise (fun x y=>x.2≠y.2)->(y,c)∈l->(z,c)∈l->False:=by
    intro l
    induction l with
    | nil=>intro _ h;cases h
    | cons p r ih=>
      intro hp h1 h2
      rw[List.pairwise_cons] at hp
      rcases List.mem_cons.mp h1 with h1 | h1<;>rcases List.mem_cons.mp h2 with h2 | h2
      ·rw[← h1] at h2;cases h2;exact ne rfl
      ·exact hp.1 _ h2 (by refine aX h1 ?_;rfl)
      ·exact hp.1 _ h1 (by refine aX h2 ?_;rfl)
      ·exact ih hp.2 h1 h2
   exact this _ ap m1 m2
 refine⟨N.ok.nolimit.keeps (fun b o e=>keep b o (N.base b o e)),codeAny_func ?_⟩
 refine wpAny_mono (h (A.deeper env) env φ {s with heap:=h₁,toks:=tk} (R.deeper env) N₁ F₁) (fun fl s' hp=>?_) fun Z Z z=>z.elim
 obtain⟨φ',V',ρ',g,E',F',rf,q⟩:=hp
 refine⟨φ',V',_,⟨⟨?_,E'.st.rs,?_,?_⟩,E'.now,E'.gens,E'.os⟩,(show aa φ' s'.heap (yv fl) (vX g) from w0 rf),q⟩
 ·refine a7 E'.st.ext fun t e ht=>?_
  exact a6 t e (fun p hp=>⟨a9 sz (ht p hp).1,a9 sz (ht p hp).2⟩)
 ·intro b o e no _
  exact E'.st.keep b o (keep b o e) no (fun fb=>absurd (Heap.lt_size e) (Nat.not_lt.mpr (fxge b fb)))
 ·exact a9 sz E'.st.size
end
theorem bY(ρ:ai)(x:Str)(a:a5)(y:Str):(aJ ρ x a).lookup y=if y=x then some a else ρ.lookup y:=by
 induction ρ with
 | nil=>
   unfold aJ
   refine a0 List.lookup_cons ?_;refine a0 List.lookup_nil ?_
   by_cases q:y=x
   ·subst q;simp
   ·refine a0 (if_neg q) ?_;refine a0 (beq_eq_false_iff_ne.mpr q) ?_;rfl
 | cons z r ih=>
   obtain⟨k,b⟩:=z
   unfold aJ
   by_cases q:k=x
   ·subst q
    refine a0 (if_pos rfl) ?_;refine a0 List.lookup_cons ?_;refine a0 List.lookup_cons ?_
    by_cases p:y=k
    ·subst p;simp
    ·refine a0 (if_neg p) ?_;refine a0 (beq_eq_false_iff_ne.mpr p) ?_;rfl
   ·refine a0 (if_neg q) ?_;refine a0 List.lookup_cons ?_;refine a0 List.lookup_cons ?_;refine a0 ih ?_
    by_cases p:y=k
    ·subst p;simp[q]
    ·refine a0 (beq_eq_false_iff_ne.mpr p) ?_;rfl
section
variable{W:Wd}{n:Nat}{sc:ah}{ρ:ai}{V:St}
theorem ci{ρ:ai}{x y:Str}{v a:a5}(h:ρ.lookup y=some a)(n:¬y=x):(aJ ρ x v).lookup y=some a:=(bY ..).trans ((if_neg n).trans h)
theorem az.xfree{φ:aj}{h:Heap}{env:Env}(F:az W φ h env sc ρ):c9 (FX env) φ h:=F.free.any φ
theorem aO.frame{φ:aj}{h h':Heap}{env:Env}(N:aO W φ V h)(F:az W φ h env sc ρ)(hs:h.objs.size≤h'.objs.size)(k:∀ b o,h.get? b=some o->¬FX env b->h'.get? b=some o):aO W φ V h':=
 N.quiet (FX env) F.xfree (fun b p f=>F.off b f (.inl p)) (fun b o e f=>absurd (Heap.lt_size e) (Nat.not_lt.mpr (F.above b f))) hs k
theorem az.upd{φ:aj}{h h':Heap}{env:Env}{c:Nat}{ρ':ai}(F:az W φ h env sc ρ)(kp:∀ b o,h.get? b=some o->b≠c->h'.get? b=some o)(new:∃ o,h'.get? c=some o∧(∀ xs n,o.data≠.seq xs n)∧∀ vs,o.data≠.fields vs)
 (locals:∃ m,h'.Ns env.locals m∧∀ x a,sc.lookup x=some .local->ρ'.lookup x=some a->∃ v,m x=some v∧aa φ h' v a)(cells:∀ x,(sc.lookup x=some .cell∨sc.lookup x=some .free)->∃ c v,env.cells.lookup x=some c∧c≠env.locals∧h'.IsCell c v∧∀ a,ρ'.lookup x=some a->∃ u,v=some u∧aa φ h' u a):az W φ h' env sc ρ' where
 kind:=F.kind
 names:=F.names
 globals:=F.globals
 builtins:=F.builtins
 off:=F.off
 above:=F.above
 there:=fun b f=>if hb:b=c then new.imp fun Z z=>hb▸z.1 else(F.there b f).imp fun o e=>kp b o e hb
 free:=fun b o e f=>if hb:b=c then .inr (new.elim fun o' z=>Option.some.inj (z.1.symm.trans (hb▸e))▸z.2)else(F.there b f).elim fun o' e'=>F.free b o (by rw[kp b o' e' hb] at e;cases e;exact e') f
 locals:=locals
 cells:=cells
 inj:=F.inj
theorem az.putLocal{φ:aj}{h h':Heap}{env:Env}{x:Str}{v:Value}{a:a5}{m:Str->Option Value}(F:az W φ h env sc ρ)(S:b6 (FX env) φ h φ h')(e:sc.lookup x=some .local)(hv:∀ y b,sc.lookup y=some .local->ρ.lookup y=some b->∃ u,m y=some u∧aa φ h u b)
 (hn:h'.Ns env.locals fun y=>if y=x then some v else m y)(kp:∀ b o,h.get? b=some o->b≠env.locals->h'.get? b=some o)(r:aa φ h v a):az W φ h' env sc (aJ ρ x a):=by
 refine F.upd kp (hn.elim fun o z=>z.elim fun es z=>z.elim fun ep z=>aP o z.1 (fun Z Z q=>?_) (fun Z q=>?_)) (a6 _ hn (fun y b e1 e2=>?_)) fun y hy=>?_
 ·cases z.2.1.symm.trans q
 ·cases z.2.1.symm.trans q
 ·rw[bY] at e2
  by_cases hy:y=x
  ·rw[if_pos hy] at e2
   cases e2
   exact a6 v (if_pos hy) (r.step S F.xfree)
  ·rw[if_neg hy] at e2
   refine a7 (hv y b e1 e2) fun u h1 h2=>?_
   exact a6 u ((if_neg hy).trans h1) (h2.step S F.xfree)
 ·refine ia (F.cells y hy) fun c u h1 h2 h3 h4=>?_
  refine jg c u h1 h2 (h3.imp fun o k=>⟨kp _ _ k.1 h2,k.2⟩) (fun b hb=>?_)
  rw[bY,if_neg (fun z=>by rw[z,e] at hy;rcases hy with hy | hy<;>cases hy)] at hb
  exact(h4 b hb).imp fun w k=>⟨k.1,k.2.step S F.xfree⟩
theorem az.putCell{φ:aj}{h h':Heap}{env:Env}{x:Str}{v:Value}{a:a5}{c:Nat}(F:az W φ h env sc ρ)(S:b6 (FX env) φ h φ h')(e:sc.lookup x=some .cell)(h1:env.cells.lookup x=some c)(h2:c≠env.locals)
 (hn:h'.IsCell c (some v))(kp:∀ b o,h.get? b=some o->b≠c->h'.get? b=some o)(r:aa φ h v a):az W φ h' env sc (aJ ρ x a):=by
 refine F.upd kp (hn.elim fun o z=>aP o z.1 (fun Z Z q=>?_) (fun Z q=>?_)) ?_ fun y hy=>?_
 ·cases z.2.symm.trans q
 ·cases z.2.symm.trans q
 ·refine a7 F.locals fun m hm hv=>?_
  refine a6 m (hm.imp fun o k=>k.imp fun es k=>k.imp fun ep k=>⟨kp _ _ k.1 (Ne.symm h2),k.2⟩) (fun y b e1 e2=>?_)
  rw[bY,if_neg (fun z=>by rw[z,e] at e1;cases e1)] at e2
  exact(hv y b e1 e2).imp fun u k=>⟨k.1,k.2.step S F.xfree⟩
 ·by_cases hyx:y=x
  ·refine a0 hyx ?_
   exact jg c (some v) h1 h2 hn (fun b hb=>by rw[bY,if_pos rfl] at hb;cases hb;exact(a6 v rfl (r.step S F.xfree)))
  ·refine ia (F.cells y hy) fun c' u' g1 g2 g3 g4=>?_
   refine jg c' u' g1 g2 (g3.imp fun o k=>⟨kp _ _ k.1 fun z=>hyx (F.inj y x c (z▸g1) h1),k.2⟩) (fun b hb=>?_)
   rw[bY,if_neg hyx] at hb
   exact(g4 b hb).imp fun w k=>⟨k.1,k.2.step S F.xfree⟩
theorem az.kindOf{φ:aj}{h:Heap}{env:Env}(F:az W φ h env sc ρ){x:Str}{k:NameKind}(e:sc.lookup x=some k):env.kindOf x=some k:=by unfold Env.kindOf;refine a0 F.names ?_;exact e
theorem az.notClass{φ:aj}{h:Heap}{env:Env}(F:az W φ h env sc ρ):((env.scope.kind== .class||(env.scope.kind== .module&&env.locals != env.globals)))=false:=by refine a0 F.kind ?_;rfl
theorem jE{A:Around}{env:Env}{φ:aj}{s:Shared}{x:Str}{v:Value}{a:a5}{E:Value->Shared->Prop}{Q:Unit->Shared->Prop}(N:aO W φ V s.heap)(F:az W φ s.heap env sc ρ)(r:aa φ s.heap v a)
 (e:sc.lookup x=some .local)(q:∀ s',aq W (fun b=>b=env.locals) φ s φ V s'->az W φ s'.heap env sc (aJ ρ x a)->Q () s'):wpAny (model W.prog W.w) A (storeName env x v) Q E s:=by
 refine a7 F.locals fun m hm hv=>?_
 refine wpAny_storeName_local (F.kindOf e) hm (fun h' hn hs=>?_) F.notClass
 have kp:∀ b o,s.heap.get? b=some o->b≠env.locals->h'.get? b=some o:=fun b o e ne=>(hs.2 b ne).trans e
 have sz:s.heap.objs.size≤h'.objs.size:=Nat.le_of_eq hs.1.symm
 have k2:∀ b o,s.heap.get? b=some o->¬FX env b->h'.get? b=some o:=fun b o e nf=>kp b o e fun q=>nf (.inl q)
 exact q _ ⟨.quiet kp sz,N.frame F sz k2,rfl,rfl⟩ (F.putLocal (.quiet k2 sz) e hv hn kp r)
set_option tactic.hygienic true in
theorem iT{A:Around}{env:Env}{φ:aj}{s:Shared}{x:Str}{v:Value}{a:a5}{Q:Unit->ai->St->Prop}(N:aO W φ V s.heap)(F:az W φ s.heap env sc ρ)(r:aa φ s.heap v a)
 (hx:cU sc x=true)(hfree:sc.lookup x≠some .free)(q:Q () (aJ ρ x a) V):d9 W A env sc φ s (storeName env x v) (fun _ _ (_:Unit) (_:Unit)=>True) Q:=by
 rcases iX hx with e | e | e
 ·exact jE N F r e fun s' E F'=>⟨φ,V,_,(),⟨E.st.mono fun b h=>.inl h,E.now,E.gens,E.os⟩,F',trivial,q⟩
 ·refine ia (F.cells x (.inl e)) fun c u h1 h2 h3 h4=>?_
  refine wpAny_storeName_cell F.kind (F.kindOf e) h1 h3 fun h' hn hs=>?_
  have kp:∀ b o,s.heap.get? b=some o->b≠c->h'.get? b=some o:=fun b o e ne=>(hs.2 b ne).trans e
  have sz:s.heap.objs.size≤h'.objs.size:=Nat.le_of_eq hs.1.symm
  have k2:∀ b o,s.heap.get? b=some o->¬FX env b->h'.get? b=some o:=fun b o e nf=>kp b o e fun q=>nf (q▸.of_lookup h1)
  exact⟨φ,V,_,(),⟨.quiet k2 sz,N.frame F sz k2,rfl,rfl⟩,F.putCell (.quiet k2 sz) e h1 h2 hn kp r,trivial,q⟩
 ·exact absurd e hfree
noncomputable def i5(sc:ah)(x:Str):Bool:=match sc.lookup x with | some .local | some .cell=>true | _=>false
set_option tactic.hygienic true in
theorem dX{x:Str}(h:i5 sc x=true):cU sc x=true∧sc.lookup x≠some .free:=by
 unfold i5 at h
 unfold cU
 revert h
 generalize sc.lookup x=o
 intro h
 cases o with
 | none=>exact nomatch h
 | some k=>cases k<;>first | exact⟨rfl,by decide⟩ | exact nomatch h
theorem n8{x:Str}{pos:Pos}{a:a5}{Q:ai->St->Prop}(q:Q (aJ ρ x a) V)(hx:i5 sc x=true:=by rfl):AT W n sc (.Name x pos) a ρ V Q:=by
 intro A env φ s v R N F r
 refine a0 (arm_assign_Name ..) ?_
 refine wpAny_bind (wpAny_standAt ?_)
 unfold bindName
 refine wpAny_bind (wpAny_holding (wpAny_point ?_))
 refine wpAny_bind (wpAny_mono (iT N F r (dX hx).1 (dX hx).2 (Q:=fun Z ρ' V'=>Q ρ' V') q) (fun Z Z z=>wpAny_point z) fun Z Z z=>z)
theorem wQ{o:Expr}{x:Str}{pos:Pos}{a:a5}{Q:ai->St->Prop}
 (h:ET W n sc o ρ V (fun ov V'=>∃ l C as,ov=.ref l∧V'[l]? =some (.inst C as)∧as.length<20∧ca W.K C∧takerIn W.K C x=some none∧Q ρ (V'.set l (.inst C (aJ as x a))))):AT W n sc (.Attribute o x pos) a ρ V Q:=by
 intro A env φ s v R N F r
 refine a0 (arm_assign_Attribute ..) ?_
 refine d9.bind (wpAny_holding ((h A env φ s R N F).inS F)) fun u φ₁ V₁ ρ₁ s₁ ov E₁ F₁ ru q=>?_
 obtain⟨rfl,l,C,as,rfl,ho,hl,ck,ht,q⟩:=q
 refine wpAny_bind (wpAny_standAt ?_)
 have r':=r.step E₁.st F.xfree
 refine wpAny_bind (wpAny_mono (wpAny_holding ((mA (A:=A) (Q:=fun Z V'=>V'=V₁.set l (.inst C (aJ as x a))) E₁.now ru r' ho hl ck ht rfl).inS F₁)) (fun Z s₂ z=>wpAny_release ?_) fun Z Z z=>z)
 obtain⟨φ',V',ρ',y,E',F',_,rfl,rfl⟩:=z
 exact⟨φ',_,_,(),E',F',trivial,q⟩
set_option tactic.hygienic true in
theorem fR{Q:cH->ai->St->Prop}(q:Q .next ρ V):df W n sc [] ρ V Q:=fun A env φ s R N F=>d9.pure N F .next q
theorem oO{st:Stmt}{rest:List Stmt}{Q:cH->ai->St->Prop}(h:ST W n sc st ρ V (fun f ρ' V'=>match f with | .next=>df W n sc rest ρ' V' Q | f=>Q f ρ' V')):df W n sc (st::rest) ρ V Q:=by
 intro A env φ s R N F
 show d9 W A env sc φ s (exec st env >>= fun f=>match f with | .next=>execs rest env | f=>Pure.pure f) na Q
 refine d9.bind (h A env φ s R N F) fun f φ₁ V₁ ρ₁ s₁ g E₁ F₁ r q=>?_
 cases r with
 | next=>exact q A env φ₁ s₁ R E₁.now F₁
 | brk=>exact d9.pure E₁.now F₁ .brk q
 | cont=>exact d9.pure E₁.now F₁ .cont q
 | ret r=>exact d9.pure E₁.now F₁ (.ret r) q
theorem sI{e:Expr}{pos:Pos}{Q:cH->ai->St->Prop}(h:ET W n sc e ρ V (fun a V'=>Q (.ret a) ρ V')):ST W n sc (.Return (some e) pos) ρ V Q:=by
 intro A env φ s R N F
 refine a0 (arm_exec_Return ..) ?_
 refine wpAny_bind (wpAny_standAt ?_)
 refine d9.bind ((h A env φ s R N F).inS F) fun v φ₁ V₁ ρ₁ s₁ a E₁ F₁ r q=>?_
 refine a2 q ?_;clear q;intro z0 q;subst z0
 exact d9.pure E₁.now F₁ (.ret r) q
noncomputable def gv(e:Expr):Bool:=e.ctorIdx==8||e.ctorIdx==9||e.ctorIdx==10
theorem iS{e:Expr}(h:gv e=false)(t:Option Expr)(l:Nat)(env:Env):swapsWith e t l env=pure false:=by
 cases e<;>first | rfl | cases h
set_option tactic.hygienic true in
theorem iq{A:Around}{E:Value->Shared->Prop}{s:Shared}{e:Expr}{pos:Pos}{v:Value}{Q:Flow->Shared->Prop}(h:Q .next s):wpAny (model W.prog W.w) A (dropValue e pos v) Q E s:=wpAny_dropValue h
theorem wq{e:Expr}{pos:Pos}{Q:cH->ai->St->Prop}(h:ET W n sc e ρ V (fun Z V'=>Q .next ρ V'))(hc:gv e=false:=by rfl):ST W n sc (.Expr e pos) ρ V Q:=by
 intro A env φ s R N F
 refine a0 (arm_exec_Expr ..) ?_;rewrite[iS hc]
 refine wpAny_bind (wpAny_standAt ?_)
 have hi:interactive env=false:=by unfold interactive;refine a0 F.kind ?_;rfl
 refine a0 hi ?_;refine a0 (if_neg (by decide)) ?_
 refine wpAny_bind (wpAny_pure ?_)
 refine a0 (if_neg (by decide)) ?_
 refine d9.bind ((h A env φ s R N F).inS F) fun v φ₁ V₁ ρ₁ s₁ a E₁ F₁ r q=>?_
 refine a2 q ?_;clear q;intro z0 q;subst z0
 exact iq ⟨φ₁,V₁,_,.next,⟨.refl,E₁.now,rfl,rfl⟩,F₁,.next,q⟩
theorem yE{t:Expr}{b o:List Stmt}{pos:Pos}{Q:cH->ai->St->Prop}(h:BT W n sc t ρ V (fun c V'=>if c=true then df W n sc b ρ V' Q else df W n sc o ρ V' Q)):ST W n sc (.If t b o pos) ρ V Q:=by
 intro A env φ s R N F
 refine a0 (arm_exec_If ..) ?_
 refine wpAny_bind (wpAny_standAt ?_)
 refine d9.bind ((h A env φ s R N F).inS F) fun v φ₁ V₁ ρ₁ s₁ c E₁ F₁ r q=>?_
 refine a2 q ?_;clear q;intro z0 q;subst z0
 cases r
 cases v with
 | true=>exact q A env φ₁ s₁ R E₁.now F₁
 | false=>exact q A env φ₁ s₁ R E₁.now F₁
noncomputable def iB(t v:Expr):Bool:= !((t.ctorIdx==25||t.ctorIdx==24)&&v.ctorIdx==25)
theorem gm{t v:Expr}(h:iB t v=true)(env:Env):swappedStores [t] v env=pure none:=by
 cases t<;>first | rfl | (cases v<;>first | rfl | cases h)
set_option tactic.hygienic true in
theorem j8{t:Expr}{ts:List Expr}{env:Env}(h:aQ [t]=true):(assignEach (t::ts) env).map (fun x=>x.2)=assign t env::(assignEach ts env).map (fun x=>x.2):=by
 cases t<;>first | rfl | cases h
theorem lW{t e:Expr}{pos:Pos}{Q:cH->ai->St->Prop}(h:ET W n sc e ρ V (fun a V'=>AT W n sc t a ρ V' (fun ρ' V''=>Q .next ρ' V'')))(hc:gv e=false:=by rfl)(hs:iB t e=true:=by rfl)
 (ht:aQ [t]=true:=by rfl):ST W n sc (.Assign [t] e pos) ρ V Q:=by
 intro A env φ s R N F
 refine a0 (arm_exec_Assign ..) ?_
 refine wpAny_bind (wpAny_standAt ?_)
 have e1:swapsWithSole [t] e pos.line env=Pure.pure false:=iS hc _ _ _
 refine a0 e1 ?_
 refine wpAny_bind (wpAny_pure ?_)
 refine a0 (if_neg (by decide)) ?_
 refine d9.bind ((h A env φ s R N F).inS F) fun v φ₁ V₁ ρ₁ s₁ a E₁ F₁ r q=>?_
 refine a2 q ?_;clear q;intro z0 q;subst z0
 rw[gm hs]
 refine wpAny_bind (wpAny_pure ?_)
 refine a0 (show(assignEach [t] env).map (fun x=>x.2)=[assign t env] from j8 ht) ?_
 show d9 W A env sc φ₁ s₁ (assign t env v >>= fun Z=>Pure.pure Flow.next) na Q
 refine d9.bind (q A env φ₁ s₁ v R E₁.now F₁ r) fun Z φ₂ V₂ ρ₂ s₂ Z E₂ F₂ Z q=>?_
 exact d9.pure E₂.now F₂ .next q
end
mutual
noncomputable def py:a5->PyData
 | .none=>.none
 | .bool b=>.bool b
 | .int i=>.int i
 | .str x=>.str x
 | .tup xs=>.tuple (pj xs)
 | .frz xs=>.list (pj xs)
 | .rng _=>.dict []
 | .ref _=>.dict []
noncomputable def pj:List a5->List PyData
 | []=>[]
 | x::xs=>py x::pj xs
end
noncomputable def fu(x y:a5):Bool:=PyData.eqv (py x) (py y)
noncomputable def yC(xs ys:List a5):Bool:=PyData.eqvAll (pj xs) (pj ys)
noncomputable def okv:Nat->a5->Bool
 | _,.none=>true
 | _,.bool _=>true
 | _,.int _=>true
 | _,.str x=>PyData.strOk x
 | n+1,.tup xs=>xs.all (okv n)
 | n+1,.frz xs=>xs.all (okv n)
 | _,_=>false
theorem gY{n:Nat}{xs:List a5}:(okv n (.tup xs)=true->∃ m,n=m+1∧xs.all (okv m)=true)∧(okv n (.frz xs)=true->∃ m,n=m+1∧xs.all (okv m)=true):=by
 cases n with
 | zero=>exact⟨fun h=>(nomatch h),fun h=>(nomatch h)⟩
 | succ m=>exact⟨fun h=>(a6 m rfl h),fun h=>(a6 m rfl h)⟩
theorem jj{n l:Nat}:okv n (.ref l)=false∧okv n (.rng l)=false:=by cases n<;>exact⟨rfl,rfl⟩
theorem vz{n:Nat}{x:Str}:okv n (.str x)=PyData.strOk x:=by cases n<;>rfl
theorem all_cons{n:Nat}{x:a5}{xs:List a5}(h:(x::xs).all (okv n)=true):okv n x=true∧xs.all (okv n)=true:=by rwa [List.all_cons,Bool.and_eq_true] at h
theorem aa.reads{φ:aj}{h:Heap}{v:Value}{x:a5}(r:aa φ h v x):∀ {n:Nat},okv n x=true->∃ as,Reads h v (py x) as:=
 aa.rec (motive_1:=fun v x Z=>∀ {n:Nat},okv n x=true->∃ as,Reads h v (py x) as) (motive_2:=fun vs xs Z=>∀ {n:Nat},xs.all (okv n)=true->∃ as,ReadsAll h vs (pj xs) as)
  (fun Z=>⟨_,.none⟩) (fun b Z Z=>⟨_,.bool b⟩) (fun i t Z Z=>⟨_,.int i t⟩) (fun x t Z Z=>⟨_,.str x t⟩)
  (fun ht Z Z ih Z e=>(gY.1 e).elim fun Z z=>(ih z.2).elim fun Z q=>ht.elim fun Z k=>k.2.2.elim fun Z hd=>⟨_,.tuple k.1 k.2.1 hd q⟩)
  (fun ht Z Z ih Z e=>(gY.2 e).elim fun Z z=>(ih z.2).elim fun Z q=>ht.elim fun Z k=>k.2.2.elim fun Z hd=>⟨_,.list k.1 k.2.1 hd q⟩)
  (fun Z Z Z Z e=>by rw[jj.2] at e;cases e) (fun Z Z e=>by rw[jj.1] at e;cases e) (fun Z=>⟨_,.nil⟩)
  (fun Z Z a b Z e=>(a (all_cons e).1).elim fun Z p=>(b (all_cons e).2).elim fun Z q=>⟨_,.cons p q⟩) r
theorem ad.reads{φ:aj}{h:Heap}{vs:List Value}{xs:List a5}(r:ad φ h vs xs){n:Nat}:xs.all (okv n)=true->∃ as,ReadsAll h vs (pj xs) as:=
 r.ind (P:=fun vs xs=>xs.all (okv n)=true->∃ as,ReadsAll h vs (pj xs) as) (fun Z=>⟨_,.nil⟩) fun a Z b e=>(a.reads (all_cons e).1).elim fun Z p=>(b (all_cons e).2).elim fun Z q=>⟨_,.cons p q⟩
theorem bM:∀ {n:Nat} {x:a5},okv n x=true->(py x).canLay0=true∧(py x).depth≤n:=by
 intro n x
 refine a5.rec (motive_1:=fun x=>∀ n,okv n x=true->(py x).canLay0=true∧(py x).depth≤n) (motive_2:=fun xs=>∀ n,xs.all (okv n)=true->PyData.canLayAll0 (pj xs)=true∧PyData.depthAll (pj xs)≤n) (fun Z Z=>⟨rfl,Nat.zero_le _⟩) (fun Z Z Z=>⟨rfl,Nat.zero_le _⟩) (fun Z Z Z=>⟨rfl,Nat.zero_le _⟩) (fun x Z h=>⟨vz.symm.trans h,Nat.zero_le _⟩) (fun xs ih n h=>?_) (fun xs ih n h=>?_) (fun Z Z h=>?_) (fun Z Z h=>?_) (fun Z Z=>⟨rfl,Nat.zero_le _⟩) (fun x xs a b n h=>?_) x n
 ·refine a7 (gY.1 h) fun m z1 h=>?_;subst z1
  exact⟨(ih m h).1,Nat.succ_le_succ (ih m h).2⟩
 ·refine a7 (gY.2 h) fun m z1 h=>?_;subst z1
  exact⟨(ih m h).1,Nat.succ_le_succ (ih m h).2⟩
 ·rw[jj.2] at h;cases h
 ·rw[jj.1] at h;cases h
 ·have h:=all_cons h
  exact⟨Bool.and_eq_true_iff.mpr ⟨(a n h.1).1,(b n h.2).1⟩,Nat.max_le.mpr ⟨(a n h.1).2,(b n h.2).2⟩⟩
noncomputable def bA(V:St):a5->a5
 | .ref l=>match V[l]? with
   | some (.list xs)=>.frz xs
   | _=>.ref l
 | a=>a
set_option tactic.hygienic true in
theorem oA(V:St)(x:a5):bA V x=x∨∃ l xs,x=.ref l∧V[l]? =some (.list xs)∧bA V x=.frz xs:=by
 cases x with
 | ref l=>
   unfold bA
   dsimp only
   cases e:V[l]? with
   | none=>exact .inl rfl
   | some o=>
     cases o with
     | list xs=>exact .inr (d7 l xs rfl e rfl)
     | _=>exact .inl rfl
 | _=>exact .inl rfl
theorem aa.readsD{W:Wd}{φ:aj}{V:St}{h:Heap}(N:aO W φ V h){v:Value}{x:a5}{n:Nat}(r:aa φ h v x)(e:okv n (bA V x)=true):∃ as,Reads h v (py (bA V x)) as:=by
 rcases oA V x with z | ⟨l,xs,rfl,hl,z⟩
 ·rw[z] at e ⊢;exact r.reads e
 ·rw[z] at e ⊢
  refine r.list_el N hl fun p us m Z g Z rs=>?_
  refine a7 (gY.2 e) fun k Z e=>?_
  refine aH (rs.reads e) fun as q=>?_
  exact⟨_,.list g rfl rfl q⟩
section
variable{W:Wd}{n:Nat}{sc:ah}{ρ:ai}{V:St}
theorem TT.holding{α β:Type}{X:Addr->Prop}{A:Around}{φ:aj}{s:Shared}{t:Sem α}{R:Rl α β}{Q:β->St->Prop}{vs:List Value}(h:TT W X A φ s t R Q):TT W X A φ s (PySem.holding vs t) R Q:=wpAny_holding h
theorem TT.operate{β:Type}{X:Addr->Prop}{A:Around}{φ:aj}{s:Shared}{t:Sem Value}{R:Rl Value β}{Q:β->St->Prop}{vs:List Value}(h:TT W X A φ s t R Q):TT W X A φ s (PySem.operate vs t) R Q:=by
 unfold PySem.operate
 refine wpAny_bind (wpAny_holding (wpAny_mono h (fun r s' z=>wpAny_bind (wpAny_release (wpAny_pure z))) fun Z Z z=>z))
noncomputable def cu(W:Wd)(n:Nat)(op:CmpOp)(a b:a5)(V:St)(c:Bool):Prop:=
 ∀ (A:Around) (φ:aj) (s:Shared) (v w:Value),bz n A->aO W φ V s.heap->aa φ s.heap v a->aa φ s.heap w b->∀ (Q:Value->Shared->Prop) (E:Value->Shared->Prop),(∀ tk,Q (.bool c) {s with toks:=tk})->wpAny (model W.prog W.w) A (compareOp op v w) Q E s
theorem cu.tt{op:CmpOp}{a b:a5}{c:Bool}(h:cu W n op a b V c){A:Around}{φ:aj}{s:Shared}{v w:Value}(R:bz n A)(N:aO W φ V s.heap)(ra:aa φ s.heap v a)(rb:aa φ s.heap w b){Q:Bool->St->Prop}(q:Q c V):TT W (fun Z=>False) A φ s (compareOp op v w) (fun Z Z r c=>r=.bool c) Q:=
 h A φ s v w R N ra rb _ _ fun tk=>⟨φ,V,c,⟨.refl,N,rfl,rfl⟩,rfl,q⟩
theorem gE{a b:a5}(ha:okv 50 (bA V a)=true)(hb:okv 50 (bA V b)=true):cu W n .Eq a b V (fu (bA V a) (bA V b)):=by
 intro A φ s v w R N ra rb Q E q
 refine aH (ra.readsD N ha) fun Z r1=>?_
 refine aH (rb.readsD N hb) fun Z r2=>?_
 exact SeqAt.compareEq_reads r1 r2 (bM ha).1 (bM hb).1 (by have:=R.cline;have:=(bM ha).2;lia) (q _)
theorem gD{a b:a5}(ha:okv 50 (bA V a)=true)(hb:okv 50 (bA V b)=true):cu W n .NotEq a b V (!fu (bA V a) (bA V b)):=by
 intro A φ s v w R N ra rb Q E q
 refine aH (ra.readsD N ha) fun Z r1=>?_
 refine aH (rb.readsD N hb) fun Z r2=>?_
 exact SeqAt.compareNe_reads r1 r2 (bM ha).1 (bM hb).1 (by have:=R.cline;have:=(bM ha).2;lia) (q _)
theorem kw{i j:Int}:cu W n .Lt (.int i) (.int j) V (decide (i<j)):=by
 intro A φ s v w R N ra rb Q E q;exact ra.int_el fun Z=>rb.int_el fun Z=>PyProof.Rows.lt_int (q _)
theorem mR{i j:Int}:cu W n .Gt (.int i) (.int j) V (decide (j<i)):=by
 intro A φ s v w R N ra rb Q E q;exact ra.int_el fun Z=>rb.int_el fun Z=>PyProof.Rows.gt_int (q _)
theorem xC{i j:Int}:cu W n .LtE (.int i) (.int j) V (decide (i≤j)):=by
 intro A φ s v w R N ra rb Q E q;exact ra.int_el fun Z=>rb.int_el fun Z=>PyProof.Rows.le_int (q _)
theorem xD{i j:Int}:cu W n .GtE (.int i) (.int j) V (decide (j≤i)):=by
 intro A φ s v w R N ra rb Q E q;exact ra.int_el fun Z=>rb.int_el fun Z=>PyProof.Rows.ge_int (q _)
noncomputable def isNone:a5->Bool
 | .none=>true
 | _=>false
theorem aa.is_none{φ:aj}{h:Heap}{v:Value}{a:a5}(r:aa φ h v a):plainIs v .none=true∧(v==Value.none)=isNone a:=
 aa.rec (motive_1:=fun v a Z=>plainIs v .none=true∧(v==Value.none)=isNone a) (motive_2:=fun Z Z Z=>True) ⟨rfl,rfl⟩ (fun Z=>⟨rfl,rfl⟩) (fun Z Z=>⟨rfl,rfl⟩) (fun Z Z=>⟨rfl,rfl⟩) (fun Z Z Z Z=>⟨rfl,rfl⟩) (fun Z Z Z Z=>⟨rfl,rfl⟩) (fun Z Z Z=>⟨rfl,rfl⟩) (fun Z=>⟨rfl,rfl⟩) trivial (fun Z Z Z Z=>trivial) r
theorem bX{a:a5}:cu W n .Is a .none V (isNone a):=by
 intro A φ s v w R N ra rb Q E q
 exact rb.none_el (wpAny_is_plain ra.is_none.1 (ra.is_none.2▸q _))
theorem iH{a:a5}:cu W n .IsNot a .none V (!isNone a):=by
 intro A φ s v w R N ra rb Q E q
 exact rb.none_el (wpAny_isNot_plain ra.is_none.1 (ra.is_none.2▸q _))
noncomputable def cK(V:St):a5->Option (List a5)
 | .tup xs=>some xs
 | .frz xs=>some xs
 | .ref l=>match V[l]? with
   | some (.list xs)=>some xs
   | _=>none
 | _=>none
theorem uE(a:a5):∀ xs:List a5,((pj xs).any fun y=>PyData.eqv y (py a))=xs.any fun y=>fu y a
 | []=>rfl
 | x::xs=>by
   show(PyData.eqv (py x) (py a)||(pj xs).any _)=_
   refine a0 (uE a xs) ?_
   rfl
set_option tactic.hygienic true in
theorem aa.readsSeq{φ:aj}{h:Heap}{b:a5}{w:Value}{xs:List a5}{k:Nat}(r:aa φ h w b)(N:aO W φ V h)(hs:cK V b=some xs)(hx:xs.all (okv k)=true):∃ as,Reads h w (.list (pj xs)) as∨Reads h w (.tuple (pj xs)) as:=by
 unfold cK at hs
 cases b with
 | tup ys=>cases hs;exact(r.reads (n:=k+1) hx).imp fun Z=>.inr
 | frz ys=>cases hs;exact(r.reads (n:=k+1) hx).imp fun Z=>.inl
 | ref l=>
   dsimp only at hs
   split at hs
   ·rename_i ys hl
    cases hs
    exact r.list_el N hl fun p us m Z g Z rs=>(rs.reads hx).elim fun Z q=>⟨_,.inl (.list g rfl rfl q)⟩
   ·cases hs
 | _=>cases hs
theorem cE{a b:a5}{xs:List a5}(hs:cK V b=some xs)(ha:okv 50 a=true)(hx:xs.all (okv 50)=true):cu W n .In a b V (xs.any fun y=>fu y a)∧cu W n .NotIn a b V (!xs.any fun y=>fu y a):=by
 have room:∀ {A:Around},bz n A->A.units+1+min (PyData.depthAll (pj xs)) (py a).depth<cLine:=fun R=>by have:=R.cline;have:=(bM ha).2;lia
 have lay:PyData.canLayAll0 (pj xs)=true:=(bM (n:=51) (x:=.frz xs) hx).1
 have e:=uE a xs
 refine⟨fun A φ s v w R N ra rb Q E q=>?_,fun A φ s v w R N ra rb Q E q=>?_⟩
 ·refine aH (ra.reads ha) fun bs r1=>?_
  refine aH (rb.readsSeq N hs hx) fun as r2=>?_
  rcases r2 with r2 | r2
  ·exact SeqAt.in_list_reads r2 r1 lay (bM ha).1 (room R) (by refine a0 e ?_;exact q _)
  ·exact SeqAt.in_tuple_reads r2 r1 lay (bM ha).1 (room R) (by refine a0 e ?_;exact q _)
 ·refine aH (ra.reads ha) fun bs r1=>?_
  refine aH (rb.readsSeq N hs hx) fun as r2=>?_
  rcases r2 with r2 | r2
  ·exact SeqAt.notIn_list_reads r2 r1 lay (bM ha).1 (room R) (by refine a0 e ?_;exact q _)
  ·exact SeqAt.notIn_tuple_reads r2 r1 lay (bM ha).1 (room R) (by refine a0 e ?_;exact q _)
theorem l8{x y:Str}:cu W n .NotIn (.str y) (.str x) V (!(!(Builtin.Str.occurrences x y 0 x.length 1).isEmpty)):=by
 intro A φ s v w R N ra rb Q E q;exact ra.str_el fun Z=>rb.str_el fun Z=>PyProof.Rows.notIn_str (q _)
theorem qd{x y:Str}:cu W n .In (.str y) (.str x) V (!(Builtin.Str.occurrences x y 0 x.length 1).isEmpty):=by
 intro A φ s v w R N ra rb Q E q;exact ra.str_el fun Z=>rb.str_el fun Z=>PyProof.Rows.in_str (q _)
end
end
section
open PySem PySem.W PySem.Calls PySem.Spec PyProof.Rows
section
variable{W:Wd}{n:Nat}{sc:ah}{ρ:ai}{V:St}
theorem aq.push{φ:aj}{s:Shared}(N:aO W φ V s.heap)(o:Obj)(tk:Nat):aq W (fun Z=>False) φ s φ V {s with heap:=s.heap.push o,toks:=tk}:=by
 have sz:s.heap.objs.size≤(s.heap.push o).objs.size:=by refine a0 (Heap.size_push ..) ?_;exact Nat.le_succ _
 exact⟨.quiet (fun b o' e Z=>Heap.get?_push_of_some _ e) sz,N.grown sz (fun b o' e=>Heap.get?_push_of_some _ e),rfl,rfl⟩
theorem iC{φ:aj}{h:Heap}(N:aO W φ V h):¬dO φ h.objs.size:=fun x=>Nat.lt_irrefl _ (N.ownLt x)
theorem jk{φ:aj}{s:Shared}{vs:Array Value}{xs:List a5}(N:aO W φ V s.heap)(r:ad φ s.heap vs.toList xs)(k:Nat:=0):aa φ (s.heap.push (seqObj "tuple" vs k)) (.ref s.heap.objs.size) (.tup xs):=
 .tup ⟨_,Heap.get?_push_size _ rfl,rfl,_,rfl⟩ (iC N) (r.step (aq.push N _ s.toks).st (ae _ _))
theorem mI{φ:aj}{s:Shared}{vs:Array Value}{xs:List a5}(N:aO W φ V s.heap)(r:ad φ s.heap vs.toList xs)(k:Nat:=0):aa φ (s.heap.push (seqObj "list" vs k)) (.ref s.heap.objs.size) (.frz xs):=
 .frz ⟨_,Heap.get?_push_size _ rfl,rfl,_,rfl⟩ (iC N) (r.step (aq.push N _ s.toks).st (ae _ _))
theorem TT.newTuple{A:Around}{φ:aj}{s:Shared}{vs:List Value}{xs:List a5}{Q:a5->St->Prop}(N:aO W φ V s.heap)(r:ad φ s.heap vs xs)(hl:xs.length≤1000000)(q:Q (.tup xs) V):TT W (fun Z=>False) A φ s (PySem.newTuple vs) aa Q:=
 wpAny_newTuple ⟨φ,V,_,aq.push N _ s.toks,jk N (vs:=vs.toArray) (by simpa using r),q⟩ (by refine a0 r.length ?_;refine a0 sizeLine_eq ?_;exact a9 hl (by decide))
theorem TT.newList{A:Around}{φ:aj}{s:Shared}{vs:List Value}{xs:List a5}{Q:a5->St->Prop}(N:aO W φ V s.heap)(r:ad φ s.heap vs xs)(hl:xs.length≤1000000)(q:Q (.frz xs) V):TT W (fun Z=>False) A φ s (PySem.newList vs) aa Q:=
 wpAny_newList ⟨φ,V,_,aq.push N _ s.toks,mI N (vs:=vs.toArray) (by simpa using r),q⟩ (by refine a0 r.length ?_;refine a0 sizeLine_eq ?_;exact a9 hl (by decide))
theorem p9{es:List Expr}{k:Nat}{pos:Pos}{Q:a5->St->Prop}(h:lq W n sc es ρ V (fun as V'=>as.length≤1000000∧Q (.tup as) V')):ET W n sc (.Tuple es k pos) ρ V Q:=by
 intro A env φ s R N F
 refine a0 (arm_eval_Tuple ..) ?_
 refine wpAny_bind (wpAny_standAt (TT.bind (h A env φ s pos R N F) fun vs φ₁ V₁ s₁ as E₁ r q=>?_))
 exact TT.newTuple E₁.now r q.1 q.2
theorem wC{es:List Expr}{pos:Pos}{Q:a5->St->Prop}(h:lq W n sc es ρ V (fun as V'=>as.length≤1000000∧Q (.frz as) V')):ET W n sc (.List es pos) ρ V Q:=by
 intro A env φ s R N F
 refine a0 (arm_eval_List ..) ?_
 refine wpAny_bind (wpAny_standAt (TT.bind (h A env φ s pos R N F) fun vs φ₁ V₁ s₁ as E₁ r q=>?_))
 exact TT.newList E₁.now r q.1 q.2
theorem uQ{t b o:Expr}{pos:Pos}{Q:a5->St->Prop}(h:BT W n sc t ρ V (fun c V'=>if c=true then ET W n sc b ρ V' Q else ET W n sc o ρ V' Q)):ET W n sc (.IfExp t b o pos) ρ V Q:=by
 intro A env φ s R N F
 refine a0 (arm_eval_IfExp ..) ?_
 refine TT.bind (h A env φ s R N F) fun v φ₁ V₁ s₁ c E₁ r q=>?_
 cases r
 cases v with
 | true=>exact q A env φ₁ s₁ R E₁.now (F.step E₁.st)
 | false=>exact q A env φ₁ s₁ R E₁.now (F.step E₁.st)
theorem xX{e:Expr}{pos:Pos}{Q:Bool->St->Prop}(h:BT W n sc e ρ V (fun c V'=>Q (!c) V')):BT W n sc (.UnaryOp .Not e pos) ρ V Q:=by
 intro A env φ s R N F
 refine a0 (arm_isTrue_UnaryOp ..) ?_
 refine TT.bind (h A env φ s R N F) fun v φ₁ V₁ s₁ c E₁ r q=>?_
 cases r
 exact TT.pure E₁.now rfl q
noncomputable def lw(W:Wd)(n:Nat)(sc:ah)(op:BoolOp)(es:List Expr)(ρ:ai)(V:St)(Q:Bool->St->Prop):Prop:=
 ∀ (A:Around) (env:Env) (φ:aj) (s:Shared),bz n A->aO W φ V s.heap->az W φ s.heap env sc ρ->TT W (fun Z=>False) A φ s (allTrue op es env) (fun Z Z b c=>b=c) Q
theorem sX{op:BoolOp}{es:List Expr}{pos:Pos}{Q:Bool->St->Prop}(h:lw W n sc op es ρ V Q):BT W n sc (.BoolOp op es pos) ρ V Q:=by
 intro A env φ s R N F
 refine a0 (arm_isTrue_BoolOp ..) ?_
 exact h A env φ s R N F
theorem v9{op:BoolOp}{Q:Bool->St->Prop}(q:Q (op== .And) V):lw W n sc op [] ρ V Q:=fun A env φ s R N F=>TT.pure N rfl q
theorem vb{e:Expr}{es:List Expr}{Q:Bool->St->Prop}(h:BT W n sc e ρ V (fun c V'=>if c=true then lw W n sc .And es ρ V' Q else Q false V')):lw W n sc .And (e::es) ρ V Q:=by
 intro A env φ s R N F
 refine a0 (arm_allTrue_cons ..) ?_
 refine TT.bind (h A env φ s R N F) fun v φ₁ V₁ s₁ c E₁ r q=>?_
 cases r
 cases v with
 | true=>exact q A env φ₁ s₁ R E₁.now (F.step E₁.st)
 | false=>exact TT.pure E₁.now rfl q
theorem wO{e:Expr}{es:List Expr}{Q:Bool->St->Prop}(h:BT W n sc e ρ V (fun c V'=>if c=true then Q true V' else lw W n sc .Or es ρ V' Q)):lw W n sc .Or (e::es) ρ V Q:=by
 intro A env φ s R N F
 refine a0 (arm_allTrue_cons ..) ?_
 refine TT.bind (h A env φ s R N F) fun v φ₁ V₁ s₁ c E₁ r q=>?_
 cases r
 cases v with
 | true=>exact TT.pure E₁.now rfl q
 | false=>exact q A env φ₁ s₁ R E₁.now (F.step E₁.st)
noncomputable def iA(e:Expr):Bool:= !(e.ctorIdx==3||e.ctorIdx==0||e.ctorIdx==5||e.ctorIdx==15)
theorem q4{e:Expr}(h:iA e=true)(env:Env)(t:Sem Value):isTrue e env t=(do let v ← t;standAt e.pos;PySem.holding [v] (truthy v)):=by
 cases e with
 | UnaryOp op x pos=>cases op<;>first | rfl | cases h
 | _=>first | rfl | cases h
theorem xW{e:Expr}{Q:Bool->St->Prop}(h:ET W n sc e ρ V (fun a V'=>∃ b,a=.bool b∧Q b V'))(hp:iA e=true:=by rfl):BT W n sc e ρ V Q:=by
 intro A env φ s R N F
 rw[q4 hp]
 refine TT.bind (h A env φ s R N F) fun v φ₁ V₁ s₁ c E₁ r q=>?_
 refine a7 q ?_;clear q;intro b z1 q;subst z1
 refine r.bool_el ?_
 exact wpAny_bind (wpAny_standAt (wpAny_holding (wpAny_truthy_bool ⟨φ₁,V₁,b,⟨.refl,E₁.now,rfl,rfl⟩,rfl,q⟩)))
noncomputable def cq(e:Expr):Bool:= !(e.ctorIdx==7)
theorem qN{op:CmpOp}{e:Expr}(h:cq e=true)(env:Env):markedEach [op] [e] (evalEach [e] env)=[eval e env]:=by
 have:behindInMarks op e=false:=by cases e<;>first | rfl | cases h
 show[markedBehindIn op e (eval e env)]=_
 unfold markedBehindIn
 refine a0 this ?_;rfl
theorem xY{l r:Expr}{op:CmpOp}{pos:Pos}{Q:Bool->St->Prop}(h:ET W n sc l ρ V (fun a V'=>ET W n sc r ρ V' (fun b V''=>∃ c,cu W n op a b V'' c∧Q c V'')))(hp:cq r=true:=by rfl):BT W n sc (.Compare l [op] [r] pos) ρ V Q:=by
 intro A env φ s R N F
 refine a0 (arm_isTrue_Compare ..) ?_;rewrite[qN hp]
 refine TT.bind (h A env φ s R N F) fun v φ₁ V₁ s₁ a E₁ ra q=>?_
 show TT W _ A φ₁ s₁ (do let rv ← PySem.holding [v] (eval r env);standAt pos;let c ← PySem.operate [v,rv] (compareOp op v rv);PySem.holding [c] (truthy c)) _ _
 refine TT.bind (q A env φ₁ s₁ R E₁.now (F.step E₁.st)).holding fun w φ₂ V₂ s₂ b E₂ rb q=>?_
 refine a7 q fun c hc q=>?_
 refine wpAny_bind (wpAny_standAt ?_)
 change TT W (fun Z=>False) A φ₂ s₂ _ (fun Z Z b c=>b=c) Q
 refine TT.bind (K:=fun c V'=>Q c V') (TT.operate (hc.tt R E₂.now (ra.step E₂.st (ae _ _)) rb q)) fun u φ₃ V₃ s₃ d E₃ rc q=>?_
 subst rc
 exact wpAny_holding (wpAny_truthy_bool ⟨φ₃,V₃,d,⟨.refl,E₃.now,rfl,rfl⟩,rfl,q⟩)
theorem vH{o1 o2:CmpOp}{e1 e2:Expr}(h:cq e2=true)(env:Env):markedEach [o1,o2] [e1,e2] (evalEach [e1,e2] env)=[eval e1 env,eval e2 env]:=by
 have:behindInMarks o2 e2=false:=by cases e2<;>first | rfl | cases h
 show eval e1 env::[markedBehindIn o2 e2 (eval e2 env)]=_
 unfold markedBehindIn
 refine a0 this ?_;rfl
theorem rn{l m r:Expr}{o1 o2:CmpOp}{pos:Pos}{Q:Bool->St->Prop}(h:ET W n sc l ρ V (fun a V'=>ET W n sc m ρ V' (fun b V''=>∃ c,cu W n o1 a b V'' c∧if c=true then ET W n sc r ρ V'' (fun d V3=>∃ e,cu W n o2 b d V3 e∧Q e V3)else Q false V'')))(hp:cq r=true:=by rfl):BT W n sc (.Compare l [o1,o2] [m,r] pos) ρ V Q:=by
 intro A env φ s R N F
 refine a0 (arm_isTrue_Compare ..) ?_;rewrite[vH hp]
 refine TT.bind (h A env φ s R N F) fun v φ₁ V₁ s₁ a E₁ ra q=>?_
 show TT W _ A φ₁ s₁ (do let rv ← PySem.holding [v] (eval m env);standAt pos;let c ← PySem.holding [v,rv] (compareOp o1 v rv);release [v,rv] [c]
                         if ← PySem.holding [c,rv] (truthy c)then testChain pos rv [o2] [eval r env]else Pure.pure false) _ _
 refine TT.bind (q A env φ₁ s₁ R E₁.now (F.step E₁.st)).holding fun w φ₂ V₂ s₂ b E₂ rb q=>?_
 refine a7 q fun c hc q=>?_
 refine wpAny_bind (wpAny_standAt ?_)
 have F₂:=(F.step E₁.st).step E₂.st
 change TT W (fun Z=>False) A φ₂ s₂ _ (fun Z Z b c=>b=c) Q
 refine TT.bind (K:=fun c' V'=>c'=c∧V'=V₂) (TT.holding (hc.tt R E₂.now (ra.step E₂.st (ae _ _)) rb ⟨rfl,rfl⟩)) fun u φ₃ V₃ s₃ d E₃ rc q'=>?_
 refine a2 q' ?_;clear q';intro z0 z1;subst z0;subst z1
 subst rc
 refine wpAny_bind (wpAny_release (wpAny_bind (wpAny_holding (wpAny_truthy_bool ?_))))
 cases d with
 | false=>
   refine a0 (if_neg (by decide)) ?_
   exact TT.pure (R:=fun Z Z b c=>b=c) E₃.now rfl q
 | true=>
   refine a0 (if_pos rfl) ?_
   show TT W (fun Z=>False) A φ₃ s₃ (do let rv ← PySem.holding [w] (eval r env);standAt pos;let c ← PySem.operate [w,rv] (compareOp o2 w rv);PySem.holding [c] (truthy c)) (fun Z Z b c=>b=c) Q
   refine TT.bind (TT.holding (q A env φ₃ s₃ R E₃.now (F₂.step E₃.st))) fun x φ₄ V₄ s₄ d E₄ rd q=>?_
   refine a7 q fun e he q=>?_
   refine wpAny_bind (wpAny_standAt ?_)
   change TT W (fun Z=>False) A φ₄ s₄ _ (fun Z Z b c=>b=c) Q
   refine TT.bind (K:=fun c V'=>Q c V') (TT.operate (he.tt R E₄.now ((rb.step E₃.st (ae _ _)).step E₄.st (ae _ _)) rd q)) fun u φ₅ V₅ s₅ d E₅ rc q=>?_
   subst rc
   exact wpAny_holding (wpAny_truthy_bool ⟨φ₅,V₅,d,⟨.refl,E₅.now,rfl,rfl⟩,rfl,q⟩)
theorem xT{l r:Expr}{op:CmpOp}{pos:Pos}{Q:a5->St->Prop}(h:ET W n sc l ρ V (fun a V'=>ET W n sc r ρ V' (fun b V''=>∃ c,cu W n op a b V'' c∧Q (.bool c) V'')))(hp:cq r=true:=by rfl):ET W n sc (.Compare l [op] [r] pos) ρ V Q:=by
 intro A env φ s R N F
 refine a0 (arm_eval_Compare ..) ?_;rewrite[qN hp]
 refine TT.bind (h A env φ s R N F) fun v φ₁ V₁ s₁ a E₁ ra q=>?_
 show TT W _ A φ₁ s₁ (do let rv ← PySem.holding [v] (eval r env);standAt pos;PySem.operate [v,rv] (compareOp op v rv)) _ _
 refine TT.bind (q A env φ₁ s₁ R E₁.now (F.step E₁.st)).holding fun w φ₂ V₂ s₂ b E₂ rb q=>?_
 refine a7 q fun c hc q=>?_
 refine wpAny_bind (wpAny_standAt ?_)
 refine TT.operate (hc A φ₂ s₂ v w R E₂.now (ra.step E₂.st (ae _ _)) rb _ _ fun tk=>?_)
 exact⟨φ₂,V₂,.bool c,⟨.refl,E₂.now,rfl,rfl⟩,.bool c,q⟩
noncomputable def za(W:Wd)(n:Nat)(sc:ah)(op:BoolOp)(es:List Expr)(ρ:ai)(V:St)(Q:a5->St->Prop):Prop:=
 ∀ (A:Around) (env:Env) (φ:aj) (s:Shared) (pos:Pos),bz n A->aO W φ V s.heap->az W φ s.heap env sc ρ->TT W (fun Z=>False) A φ s (boolOp pos op (evalEach es env)) aa Q
theorem mf{op:BoolOp}{es:List Expr}{pos:Pos}{Q:a5->St->Prop}(h:za W n sc op es ρ V Q):ET W n sc (.BoolOp op es pos) ρ V Q:=by
 intro A env φ s R N F
 refine a0 (arm_eval_BoolOp ..) ?_
 exact h A env φ s pos R N F
theorem rg{op:BoolOp}{e:Expr}{Q:a5->St->Prop}(h:ET W n sc e ρ V Q):za W n sc op [e] ρ V Q:=fun A env φ s pos R N F=>h A env φ s R N F
theorem rh{e e':Expr}{es:List Expr}{Q:a5->St->Prop}(h:ET W n sc e ρ V (fun a V'=>∃ b,a=.bool b∧if b=true then za W n sc .And (e'::es) ρ V' Q else Q (.bool false) V')):za W n sc .And (e::e'::es) ρ V Q:=by
 intro A env φ s pos R N F
 show TT W _ A φ s (do let v ← eval e env;standAt pos;let t ← PySem.holding [v] (truthy v)
                       match BoolOp.And,t with | .And,false | .Or,true=>Pure.pure v | _,_=>boolOp pos .And (evalEach (e'::es) env)) _ _
 refine TT.bind (h A env φ s R N F) fun v φ₁ V₁ s₁ a E₁ ra q=>?_
 refine a7 q ?_;clear q;intro b z1 q;subst z1
 refine ra.bool_el ?_
 refine wpAny_bind (wpAny_standAt (wpAny_bind (wpAny_holding (wpAny_truthy_bool ?_))))
 cases b with
 | true=>exact q A env φ₁ s₁ pos R E₁.now (F.step E₁.st)
 | false=>exact TT.pure E₁.now (.bool false) q
noncomputable def gK(W:Wd)(n:Nat)(op:Operator)(a b:a5)(V:St)(c:a5):Prop:=
 ∀ (A:Around) (φ:aj) (s:Shared) (v w:Value) (Q:a5->St->Prop),bz n A->aO W φ V s.heap->aa φ s.heap v a->aa φ s.heap w b->Q c V->TT W (fun Z=>False) A φ s (binaryOp op v w) aa Q
theorem uS{l r:Expr}{op:Operator}{pos:Pos}{Q:a5->St->Prop}(h:ET W n sc l ρ V (fun a V'=>ET W n sc r ρ V' (fun b V''=>∃ c,gK W n op a b V'' c∧Q c V''))):ET W n sc (.BinOp l op r pos) ρ V Q:=by
 intro A env φ s R N F
 refine a0 (arm_eval_BinOp ..) ?_
 refine TT.bind (h A env φ s R N F) fun v φ₁ V₁ s₁ a E₁ ra q=>?_
 refine TT.bind (q A env φ₁ s₁ R E₁.now (F.step E₁.st)).holding fun w φ₂ V₂ s₂ b E₂ rb q=>?_
 refine a7 q fun c hc q=>?_
 exact wpAny_bind (wpAny_standAt (TT.operate (hc A φ₂ s₂ v w Q R E₂.now (ra.step E₂.st (ae _ _)) rb q)))
theorem TT.val{φ:aj}{s:Shared}{v:Value}{a:a5}{Q:a5->St->Prop}(N:aO W φ V s.heap)(tk:Nat)(r:aa φ s.heap v a)(q:Q a V):kC W (fun Z=>False) φ s aa Q v {s with toks:=tk}:=
 ⟨φ,V,a,⟨.refl,N,rfl,rfl⟩,r,q⟩
theorem c7{i j:Int}:gK W n .Add (.int i) (.int j) V (.int (i+j)):=by
 intro A φ s v w Q R N ra rb q;exact ra.int_el fun Z=>rb.int_el fun Z=>PyProof.Rows.add_int (TT.val N _ (.int _ _) q)
theorem dK{i j:Int}:gK W n .Sub (.int i) (.int j) V (.int (i - j)):=by
 intro A φ s v w Q R N ra rb q;exact ra.int_el fun Z=>rb.int_el fun Z=>PyProof.Rows.sub_int (TT.val N _ (.int _ _) q)
theorem mT{i j:Int}(hm:IntMulOk i j):gK W n .Mult (.int i) (.int j) V (.int (i*j)):=by
 intro A φ s v w Q R N ra rb q;exact ra.int_el fun Z=>rb.int_el fun Z=>PyProof.Rows.mul_int (TT.val N _ (.int _ _) q) hm
theorem fO{i j:Int}(h:j≠0):gK W n .Mod (.int i) (.int j) V (.int (i.fmod j)):=by
 intro A φ s v w Q R N ra rb q;exact ra.int_el fun Z=>rb.int_el fun Z=>PyProof.Rows.mod_int' h (TT.val N _ (.int _ _) q)
theorem wg{i j:Int}(h:j≠0)(hp:Builtin.divisionGoesByPylong i j=false):gK W n .FloorDiv (.int i) (.int j) V (.int (i.fdiv j)):=by
 intro A φ s v w Q R N ra rb q;exact ra.int_el fun Z=>rb.int_el fun Z=>PyProof.Rows.floordiv_int h (TT.val N _ (.int _ _) q) (.inl hp)
theorem uz{p q:Bool}:gK W n .Sub (.bool p) (.bool q) V (.int (b2i p - b2i q)):=by
 intro A φ s v w Q R N ra rb q;exact ra.bool_el (rb.bool_el (PyProof.Rows.sub_bool (TT.val N _ (.int _ _) q)))
theorem IsTuple.obj{h:Heap}{a:Addr}{vs:Array Value}(x:h.IsTuple a vs):∃ k dd sl,h.get? a=some ⟨.type "tuple",dd,.seq vs k,sl⟩:=by
 obtain⟨⟨cls,dd,data,sl⟩,ho,hc,k,hd⟩:=x
 exact⟨k,dd,sl,by refine a0 ho ?_;refine a0 (show cls=_ from hc) ?_;refine a0 (show data=_ from hd) ?_;rfl⟩
theorem IsList.obj{h:Heap}{a:Addr}{vs:Array Value}(x:h.IsList a vs):∃ k dd sl,h.get? a=some ⟨.type "list",dd,.seq vs k,sl⟩:=by
 obtain⟨⟨cls,dd,data,sl⟩,ho,hc,k,hd⟩:=x
 exact⟨k,dd,sl,by refine a0 ho ?_;refine a0 (show cls=_ from hc) ?_;refine a0 (show data=_ from hd) ?_;rfl⟩
theorem jo{xs ys:List a5}(hl:xs.length+ys.length≤1000000):gK W n .Add (.tup xs) (.tup ys) V (.tup (xs++ys)):=by
 intro A φ s v w Q R N ra rb q
 refine ra.tup_el fun t vs ht nt rs=>rb.tup_el fun b ws hb nb ts=>?_
 refine w8 (IsTuple.obj ht) fun k dd sl ho=>?_
 refine w8 (IsTuple.obj hb) fun k2 dd2 sl2 ho2=>?_
 have l1:=rs.length
 have l2:=ts.length
 simp only[Array.length_toList] at l1 l2
 by_cases e1:vs.isEmpty=true
 ·refine concat_meets (a6 _ ho rfl) (a6 _ ho2 rfl) noFill_tuple_add seq_tuple_add PySem.F.slot_tuple_add PySem.F.entry_tuple_add (PySem.F.args_tuple_add_2 _ _) (tuple_addW0 t b vs ws k k2 dd dd2 sl sl2 e1) (i3 ho ho2 ?_)
  rw[List.length_eq_zero_iff.mp (l1.symm.trans (Array.isEmpty_iff_size_eq_zero.mp e1))] at q
  exact TT.val N _ (.tup hb nb ts) q
 ·by_cases e2:ws.isEmpty=true
  ·refine concat_meets (a6 _ ho rfl) (a6 _ ho2 rfl) noFill_tuple_add seq_tuple_add PySem.F.slot_tuple_add PySem.F.entry_tuple_add (PySem.F.args_tuple_add_2 _ _) (tuple_addW1 t b vs ws k k2 dd dd2 sl sl2 e1 e2) (i3 ho ho2 ?_)
   rw[List.length_eq_zero_iff.mp (l2.symm.trans (Array.isEmpty_iff_size_eq_zero.mp e2)),List.append_nil] at q
   exact TT.val N _ (.tup ht nt rs) q
  ·refine concat_meets (a6 _ ho rfl) (a6 _ ho2 rfl) noFill_tuple_add seq_tuple_add PySem.F.slot_tuple_add PySem.F.entry_tuple_add (PySem.F.args_tuple_add_2 _ _) (tuple_addW2 t b vs ws k k2 dd dd2 sl sl2 e1 e2 (by refine a0 l1 ?_;refine a0 l2 ?_;refine a0 sizeLine_eq ?_;exact a9 hl (by decide))) (i3 ho ho2 ?_)
   exact⟨φ,V,_,aq.push N _ s.toks,jk N (vs:=vs++ws) (by refine a0 Array.toList_append ?_;exact rs.append ts),q⟩
noncomputable def bn(V:St):a5->Option (List a5)
 | .frz xs=>some xs
 | .ref l=>match V[l]? with
   | some (.list xs)=>some xs
   | _=>none
 | _=>none
set_option tactic.hygienic true in
@[elab_as_elim] theorem aa.asList_el{φ:aj}{h:Heap}{v:Value}{a:a5}{xs:List a5}{P:Value->Prop}(r:aa φ h v a)(N:aO W φ V h)(e:bn V a=some xs)(k:∀ b (vs:Array Value),h.IsList b vs->ad φ h vs.toList xs->P (.ref b)):P v:=by
  unfold bn at e
  cases a with
  | frz ys=>cases e;exact r.frz_el fun b vs hl Z rs=>k b vs hl rs
  | ref l=>
    dsimp only at e
    split at e
    ·rename_i ys hl
     cases e
     exact r.list_el N hl fun p us m Z g Z rs=>k _ us.toArray ⟨_,g,rfl,_,rfl⟩ rs
    ·cases e
  | _=>cases e
theorem aa.list{φ:aj}{h:Heap}(N:aO W φ V h){v:Value}{a:a5}{xs:List a5}(r:aa φ h v a)(e:bn V a=some xs):∃ b vs,v=.ref b∧h.IsList b vs∧ad φ h vs.toList xs:=r.asList_el N e fun b vs hl rs=>d7 b vs rfl hl rs
theorem kz{a b:a5}{xs ys:List a5}(ea:bn V a=some xs)(eb:bn V b=some ys)(hl:xs.length+ys.length≤1000000):gK W n .Add a b V (.frz (xs++ys)):=by
 intro A φ s v w Q R N ra rb q
 refine ra.asList_el N ea fun t vs ht rs=>rb.asList_el N eb fun b ws hb ts=>?_
 refine w8 (IsList.obj ht) fun k dd sl ho=>?_
 refine w8 (IsList.obj hb) fun k2 dd2 sl2 ho2=>?_
 have l1:=rs.length
 have l2:=ts.length
 simp only[Array.length_toList] at l1 l2
 refine concat_meets (a6 _ ho rfl) (a6 _ ho2 rfl) noFill_list_add seq_list_add PySem.F.slot_list_add PySem.F.entry_list_add (PySem.F.args_list_add_2 _ _) (list_addW t b vs ws k k2 dd dd2 sl sl2 (by refine a0 l1 ?_;refine a0 l2 ?_;refine a0 sizeLine_eq ?_;exact a9 hl (by decide))) (i3 ho ho2 ?_)
 exact⟨φ,V,_,aq.push N _ s.toks,mI N (vs:=vs++ws) (by refine a0 Array.toList_append ?_;exact rs.append ts),q⟩
theorem xR{e:Expr}{pos:Pos}{Q:a5->St->Prop}(h:ET W n sc e ρ V (fun a V'=>∃ i,a=.int i∧Q (.int (-i)) V')):ET W n sc (.UnaryOp .USub e pos) ρ V Q:=by
 intro A env φ s R N F
 refine a0 (arm_eval_UnaryOp ..) ?_
 refine TT.bind (h A env φ s R N F) fun v φ₁ V₁ s₁ a E₁ ra q=>?_
 refine a7 q ?_;clear q;intro i z1 q;subst z1
 exact ra.int_el fun Z=>wpAny_bind (wpAny_standAt (wpAny_holding (PyProof.Rows.neg_int (TT.val E₁.now _ (.int _ _) q))))
end
section
variable{K:Type}[DecidableEq K]
noncomputable def bb(es:List (K×a5))(k:K):Option a5:=(es.find? fun e=>decide (e.1=k)).map (fun x=>x.2)
noncomputable def cX(es:List (K×a5))(k:K)(a:a5):List (K×a5):=if(bb es k).isSome then es.map (fun e=>if e.1=k then(e.1,a)else e)else es++[(k,a)]
noncomputable def gC(es:List (K×a5))(k:K):List (K×a5):=es.filter fun e=>decide (e.1≠k)
theorem cI.get{φ:aj}{h:Heap}{kvs:List (K×Value)}{es:List (K×a5)}(r:cI φ h kvs es)(k:K):(∀ a,bb es k=some a->∃ v,valueAt kvs k=some v∧aa φ h v a)∧(bb es k=none->valueAt kvs k=none):=by
 unfold bb valueAt
 induction r with
 | nil=>exact⟨fun Z e=>(nomatch e),fun Z=>rfl⟩
 | @cons k' v a kvs es c r ih=>
   refine a0 List.find?_cons ?_;refine a0 List.find?_cons ?_
   by_cases q:k'=k
   ·subst q
    simp only[decide_true]
    exact⟨fun b e=>(by cases e;exact a6 v rfl c),fun e=>nomatch e⟩
   ·simp only[decide_eq_false q]
    exact ih
theorem cI.some{φ:aj}{h:Heap}{kvs:List (K×Value)}{es:List (K×a5)}(r:cI φ h kvs es)(k:K):(valueAt kvs k).isSome=(bb es k).isSome:=by
 cases e:bb es k with
 | none=>refine a0 ((r.get k).2 e) ?_;rfl
 | some a=>refine a7 ((r.get k).1 a e) fun v e' Z=>?_;refine a0 e' ?_;rfl
theorem ng(kvs:List (K×Value))(k:K):(kvs.any fun kv=>kv.1=k)=(valueAt kvs k).isSome:=by
 unfold valueAt
 induction kvs with
 | nil=>rfl
 | cons x r ih=>
   refine a0 List.any_cons ?_;refine a0 List.find?_cons ?_
   by_cases q:x.1=k
   ·simp[q]
   ·simp only[decide_eq_false q,Bool.false_or];exact ih
set_option tactic.hygienic true in
theorem cI.put{φ:aj}{h:Heap}{kvs:List (K×Value)}{es:List (K×a5)}(r:cI φ h kvs es){k:K}{v:Value}{a:a5}(c:aa φ h v a):cI φ h (stored kvs k v) (cX es k a):=by
 unfold stored cX
 refine a0 (ng ..) ?_;refine a0 (r.some ..) ?_
 split
 ·rename_i hh;clear hh
  induction r with
  | nil=>exact .nil
  | @cons k' v' a' kvs es c' r ih=>
    refine a0 List.map_cons ?_;refine a0 List.map_cons ?_
    by_cases q:k'=k
    ·simp only[q,if_true];exact .cons c ih
    ·simp only[q,if_false];exact .cons c' ih
 ·rename_i hh;clear hh
  induction r with
  | nil=>exact .cons c .nil
  | cons c' r ih=>exact .cons c' ih
theorem cI.del{φ:aj}{h:Heap}{kvs:List (K×Value)}{es:List (K×a5)}(r:cI φ h kvs es)(k:K):cI φ h (without kvs k) (gC es k):=by
 unfold without gC
 induction r with
 | nil=>exact .nil
 | @cons k' v' a' kvs es c' r ih=>
   refine a0 List.filter_cons ?_;refine a0 List.filter_cons ?_
   by_cases q:k'=k
   ·simpa [q]using ih
   ·simp only[ne_eq,q,not_false_eq_true,decide_true,if_true];exact .cons c' ih
theorem cI.length{φ:aj}{h:Heap}{kvs:List (K×Value)}{es:List (K×a5)}(r:cI φ h kvs es):kvs.length=es.length:=by
 induction r with
 | nil=>rfl
 | cons _ _ ih=>simp[ih]
theorem cI.keys{φ:aj}{h:Heap}{kvs:List (K×Value)}{es:List (K×a5)}(r:cI φ h kvs es):kvs.map (fun x=>x.1)=es.map (fun x=>x.1):=by
 induction r with
 | nil=>rfl
 | cons _ _ ih=>simp[ih]
end
theorem dA.get{φ:aj}{h:Heap}{kvs:List (List aT×Addr×Value)}{es:List (List aT×a5)}(r:dA φ h kvs es)(k:List aT):(∀ a,bb es k=some a->∃ b v,atKey kvs k=some (b,v)∧aa φ h v a)∧(bb es k=none->atKey kvs k=none):=by
 unfold bb atKey
 induction r with
 | nil=>exact⟨fun Z e=>(nomatch e),fun Z=>rfl⟩
 | @cons k' b v a kvs es _ _ c r ih=>
   refine a0 List.find?_cons ?_;refine a0 List.find?_cons ?_
   by_cases q:k'=k
   ·subst q
    simp only[decide_true]
    exact⟨fun x e=>(by cases e;exact cN b v rfl c),fun e=>nomatch e⟩
   ·simp only[decide_eq_false q]
    exact ih
theorem dA.some{φ:aj}{h:Heap}{kvs:List (List aT×Addr×Value)}{es:List (List aT×a5)}(r:dA φ h kvs es)(k:List aT):(atKey kvs k).isSome=(bb es k).isSome:=by
 cases e:bb es k with
 | none=>refine a0 ((r.get k).2 e) ?_;rfl
 | some a=>refine cW ((r.get k).1 a e) fun Z v e' Z=>?_;refine a0 e' ?_;rfl
set_option tactic.hygienic true in
theorem dA.put{φ:aj}{h:Heap}{kvs:List (List aT×Addr×Value)}{es:List (List aT×a5)}(r:dA φ h kvs es){k:List aT}{b:Addr}{v:Value}{a:a5}(hb:b<h.objs.size)(no:¬dO φ b)(c:aa φ h v a):dA φ h (storedH kvs k b v) (cX es k a):=by
 unfold storedH cX
 refine a0 (r.some ..) ?_
 split
 ·rename_i hh;clear hh
  induction r with
  | nil=>exact .nil
  | @cons k' b' v' a' kvs es x y c' r ih=>
    refine a0 List.map_cons ?_;refine a0 List.map_cons ?_
    unfold putAt
    by_cases q:k'=k
    ·simp only[q,if_true];exact .cons x y c ih
    ·simp only[q,if_false];exact .cons x y c' ih
 ·rename_i hh;clear hh
  induction r with
  | nil=>exact .cons hb no c .nil
  | cons x y c' r ih=>exact .cons x y c' ih
theorem dA.length{φ:aj}{h:Heap}{kvs:List (List aT×Addr×Value)}{es:List (List aT×a5)}(r:dA φ h kvs es):kvs.length=es.length:=by
 induction r with
 | nil=>rfl
 | cons _ _ _ _ ih=>simp[ih]
noncomputable def skeys:List a5->Option (List aT)
 | []=>some []
 | .str x::r=>(skeys r).map (.inl x:: ·)
 | .int i::r=>(skeys r).map (.inr i:: ·)
 | _::_=>none
theorem ad.skeys{prog:Program}{w:World}{φ:aj}{h:Heap}{vs:List Value}{xs:List a5}(r:ad φ h vs xs):∀ {ks:List aT},skeys xs=some ks->ItemsAre (aM prog w) ks vs:=
 r.ind (P:=fun vs xs=>∀ {ks:List aT},Mine.skeys xs=some ks->ItemsAre (aM prog w) ks vs) (fun e=>Option.some.inj e▸.nil) fun{v x vs xs} a _ ih ks e=>by
   cases x with
   | str y=>
     refine a7 (Option.map_eq_some_iff.mp e) fun ks' e1 z2=>?_;subst z2
     exact a.str_el fun t=>.cons (knd:=aM prog w) (k:=(.inl y:aT)) (v:=.str y t) (show qM (.inl y) (.str y t)=true by exact decide_eq_true rfl) (ih e1)
   | int i=>
     refine a7 (Option.map_eq_some_iff.mp e) fun ks' e1 z2=>?_;subst z2
     exact a.int_el fun t=>.cons (knd:=aM prog w) (k:=(.inr i:aT)) (v:=.int i t) (show qM (.inr i) (.int i t)=true by exact decide_eq_true rfl) (ih e1)
   | _=>cases e
@[elab_as_elim] theorem aa.tkey_el{prog:Program}{w:World}{φ:aj}{h:Heap}{v:Value}{xs:List a5}{ks:List aT}{P:Value->Prop}(r:aa φ h v (.tup xs))(e:skeys xs=some ks)(k:∀ a,(tupleKind (aM prog w)).is h ks a->a<h.objs.size->¬dO φ a->P (.ref a)):P v:=
  r.tup_el fun a vs ht no rs=>ht.elim fun o z=>z.2.2.elim fun m hd=>k a (vU o _ m z.1 z.2.1 hd (rs.skeys e)) (Heap.lt_size z.1) no
theorem aa.tkey{prog:Program}{w:World}{φ:aj}{h:Heap}{v:Value}{xs:List a5}{ks:List aT}(r:aa φ h v (.tup xs))(e:skeys xs=some ks):∃ a,v=.ref a∧(tupleKind (aM prog w)).is h ks a∧a<h.objs.size∧¬dO φ a:=r.tkey_el e fun a x y z=>fh a rfl x y z
section
variable{W:Wd}{n:Nat}{sc:ah}{ρ:ai}{V:St}
noncomputable def xA(e:Expr):Bool:=e.ctorIdx==26
noncomputable def n4(W:Wd)(n:Nat)(o i:a5)(V:St)(Q:a5->St->Prop):Prop:=
 ∀ (A:Around) (φ:aj) (s:Shared) (v w:Value),bz n A->aO W φ V s.heap->aa φ s.heap v o->aa φ s.heap w i->
   (∃ T id,s.TypeIs v T∧typeLookup (.type T) "__getitem__"=pure (some (.builtin id)))∧TT W (fun Z=>False) A φ s (getItem v w) aa Q
theorem gQ{e:Expr}(h:xA e=false)(o i:Value):subscripted e false o i=operate [o,i] (getItem o i):=by
 cases e<;>first | rfl | cases h
theorem qs{o i:Expr}{pos:Pos}{Q:a5->St->Prop}(h:ET W n sc o ρ V (fun a V'=>ET W n sc i ρ V' (fun b V''=>n4 W n a b V'' Q)))(hs:xA i=false:=by rfl):ET W n sc (.Subscript o i pos) ρ V Q:=by
 intro A env φ s R N F
 refine a0 (arm_eval_Subscript ..) ?_
 refine TT.bind (h A env φ s R N F) fun v φ₁ V₁ s₁ a E₁ ra q=>?_
 refine TT.bind (q A env φ₁ s₁ R E₁.now (F.step E₁.st)).holding fun w φ₂ V₂ s₂ b E₂ rb q=>?_
 obtain⟨⟨T,id,hT,hl⟩,q⟩:=q A φ₂ s₂ v w R E₂.now (ra.step E₂.st (ae _ _)) rb
 refine wpAny_bind (wpAny_standAt ?_)
 exact tail_any hT hl q (gQ hs v w)
@[elab_as_elim] theorem aa.isSeq_el{φ:aj}{h:Heap}{v:Value}{a:a5}{xs:List a5}{P:Value->Prop}(r:aa φ h v a)(N:aO W φ V h)(e:cK V a=some xs)(k:∀ b (vs:Array Value),(IsTup h b vs∨h.IsList b vs)->ad φ h vs.toList xs->P (.ref b)):P v:=by
  cases a with
  | tup ys=>cases e;exact r.tup_el fun b vs ht Z rs=>k b vs (.inl ht) rs
  | frz ys=>exact r.asList_el N e fun b vs h2 h3=>k b vs (.inr h2) h3
  | ref l=>exact r.asList_el N e fun b vs h2 h3=>k b vs (.inr h2) h3
  | _=>cases e
theorem aa.isSeq{φ:aj}{s:Shared}{v:Value}{a:a5}{xs:List a5}(N:aO W φ V s.heap)(r:aa φ s.heap v a)(e:cK V a=some xs):∃ b vs,v=.ref b∧(IsTup s.heap b vs∨s.heap.IsList b vs)∧ad φ s.heap vs.toList xs:=r.isSeq_el N e fun b vs x y=>d7 b vs rfl x y
theorem bC{o:a5}{xs:List a5}{i:Int}{x:a5}{Q:a5->St->Prop}(e:cK V o=some xs)(h0:0≤i)(hi:i<2 ^ 63)(hx:xs[i.toNat]? =some x)(q:Q x V):n4 W n o (.int i) V Q:=by
 intro A φ s v w R N ra rb
 refine ra.isSeq_el N e fun b vs hs rs=>rb.int_el fun t=>?_
 refine a7 (rs.get hx) fun y hy ry=>?_
 have hy':vs[i.toNat]? =some y:=by simpa using hy
 have fin:kC W (fun Z=>False) φ s aa Q y s:=⟨φ,V,x,⟨.refl,N,rfl,rfl⟩,ry,q⟩
 rcases hs with hs | hs
 ·refine⟨(cN _ _ hs.typeIs slot_tuple_getitem.lookup),PyProof.Rows.getItem_tuple (j:=i.toNat) hs (by lia) hi ?_ hy' fin⟩
  have lt:i.toNat<vs.size:=(Array.getElem?_eq_some_iff.mp hy').1
  unfold seqIndex?
  dsimp only
  refine a0 (if_neg (Int.not_lt.mpr h0)) ?_;refine a0 (if_pos (by simp;lia)) ?_;rfl
 ·exact⟨(cN _ _ hs.typeIs list_getitem_lookup),wpAny_getItem_list hs h0 hi hy' fin⟩
theorem vZ{x:Str}{i:Int}{c:Nat}{Q:a5->St->Prop}(hr:(decide (i< -(2 ^ 63:Int))||decide (i ≥ 2 ^ 63))=false)(hc:(seqIndex? i x.length).bind (x.cps[·]?)=some c)(q:Q (.str ⟨#[c]⟩) V):n4 W n (.str x) (.int i) V Q:=by
 intro A φ s v w R N ra rb
 exact ra.str_el fun Z=>rb.int_el fun Z=>⟨(cN "str" _ rfl PyProof.Rows.slot_str_getitem.lookup),PyProof.Rows.getItem_str hr hc (TT.val N _ (.str _ _) q)⟩
theorem aq.toks{φ:aj}{s:Shared}(N:aO W φ V s.heap)(tk:Nat):aq W (fun Z=>False) φ s φ V {s with toks:=tk}:=⟨.refl,N,rfl,rfl⟩
theorem pT{φ:aj}{h:Heap}(N:aO W φ V h){p:Nat×Nat}(hp:p∈φ.pl):(p.1==sysModules)=false:=by
 exact beq_eq_false_iff_ne.mpr (Nat.ne_of_gt (Nat.lt_of_lt_of_le N.ok.low (N.above p hp).1))
theorem lM{k:Int}{t:Tok}:(intKind W.prog W.w).is k (.int k t)=true:=by exact decide_eq_true rfl
theorem bz.under{A:Around}(R:bz n A):A.in1.units<cLine:=by have:=R.cline;show A.units+1<cLine;lia
theorem eC{φ:aj}{h:Heap}(N:aO W φ V h){l:Nat}{p:Nat×Nat}(hp:φ.pl[l]? =some p):(p.1==sysModules)=false:=pT N (List.mem_of_getElem? hp)
theorem cO{l:Nat}{es:List (Int×a5)}{k:Int}{x:a5}{Q:a5->St->Prop}(ho:V[l]? =some (.idict es))(hx:bb es k=some x)(q:Q x V):n4 W n (.ref l) (.int k) V Q:=by
 intro A φ s v w R N ra rb
 refine ra.idict_el N ho fun p kvs hp g Z rs=>rb.int_el fun t=>?_
 refine a7 ((rs.get k).1 x hx) fun y hy ry=>?_
 exact⟨(cN _ _ g.mapOf.typeIs PySem.slot_dict_getitem.lookup),wpAny_getItem_of (knd:=intKind W.prog W.w) (k:=k) lM g.mapOf hy ⟨φ,V,x,aq.toks N _,ry,q⟩⟩
theorem sd{l:Nat}{es:List (List aT×a5)}{xs:List a5}{k:List aT}{x:a5}{Q:a5->St->Prop}(ho:V[l]? =some (.tdict es))(hk:skeys xs=some k)(hx:bb es k=some x)(q:Q x V):n4 W n (.ref l) (.tup xs) V Q:=by
 intro A φ s v w R N ra rb
 refine ra.tdict_el N ho fun p kvs hp g Z rs=>rb.tkey_el (prog:=W.prog) (w:=W.w) hk fun b hb Z Z=>?_
 refine cW ((rs.get k).1 x hx) fun b' y hy ry=>?_
 exact⟨(cN _ _ g.typeIs PySem.slot_dict_getitem.lookup),wpAny_getItem_heap (knd:=tupleKind (aM W.prog W.w)) R.under hb g hy ⟨φ,V,x,aq.toks N _,ry,q⟩⟩
theorem ot{l:Nat}{es:List (Int×a5)}{k:Int}(ho:V[l]? =some (.idict es)):cu W n .In (.int k) (.ref l) V (bb es k).isSome∧cu W n .NotIn (.int k) (.ref l) V (!(bb es k).isSome):=by
 refine⟨fun A φ s v w R N ra rb Q E q=>?_,fun A φ s v w R N ra rb Q E q=>?_⟩
 ·exact rb.idict_el N ho fun p kvs hp g Z rs=>ra.int_el fun t=>wpAny_in_of (knd:=intKind W.prog W.w) (k:=k) lM (eC N hp) g.mapOf (by refine a0 (rs.some ..) ?_;exact q _)
 ·exact rb.idict_el N ho fun p kvs hp g Z rs=>ra.int_el fun t=>wpAny_notIn_of (knd:=intKind W.prog W.w) (k:=k) lM (eC N hp) g.mapOf (by refine a0 (rs.some ..) ?_;exact q _)
theorem oq{l:Nat}{es:List (List aT×a5)}{xs:List a5}{k:List aT}(ho:V[l]? =some (.tdict es))(hk:skeys xs=some k):cu W n .In (.tup xs) (.ref l) V (bb es k).isSome:=by
 intro A φ s v w R N ra rb Q E q
 exact rb.tdict_el N ho fun p kvs hp g Z rs=>ra.tkey_el (prog:=W.prog) (w:=W.w) hk fun b hb Z Z=>wpAny_in_heap (knd:=tupleKind (aM W.prog W.w)) R.under hb (eC N hp) g (by refine a0 (rs.some ..) ?_;exact q _)
noncomputable def oP(W:Wd)(n:Nat)(o i a:a5)(V:St)(Q:St->Prop):Prop:=
 ∀ (A:Around) (φ:aj) (s:Shared) (v w u:Value),bz n A->aO W φ V s.heap->aa φ s.heap v o->aa φ s.heap w i->aa φ s.heap u a->
   TT W (fun Z=>False) A φ s (setItem v w u) (fun _ _ (_:Unit) (_:Unit)=>True) (fun Z V'=>Q V')
theorem y5{o i:Expr}{pos:Pos}{a:a5}{Q:ai->St->Prop}(h:ET W n sc o ρ V (fun ov V'=>ET W n sc i ρ V' (fun iv V''=>oP W n ov iv a V'' (Q ρ)))):AT W n sc (.Subscript o i pos) a ρ V Q:=by
 intro A env φ s v R N F r
 refine a0 (arm_assign_Subscript ..) ?_
 refine d9.bind (wpAny_holding ((h A env φ s R N F).inS F)) fun u φ₁ V₁ ρ₁ s₁ ov E₁ F₁ ru q=>?_
 refine a2 q ?_;clear q;intro z0 q;subst z0
 refine d9.bind (wpAny_holding ((q A env φ₁ s₁ R E₁.now F₁).inS F₁)) fun w φ₂ V₂ ρ₂ s₂ iv E₂ F₂ rw' q=>?_
 refine a2 q ?_;clear q;intro z0 q;subst z0
 refine wpAny_bind (wpAny_standAt ?_)
 have r':=(r.step E₁.st F.xfree).step E₂.st F₁.xfree
 refine wpAny_bind (wpAny_mono (wpAny_holding ((q A φ₂ s₂ u w v R E₂.now (ru.step E₂.st F₁.xfree) rw' r').inS F₂)) (fun Z s₃ z=>wpAny_release ?_) fun Z Z z=>z)
 obtain⟨φ',V',ρ',y,E',F',_,rfl,q⟩:=z
 exact⟨φ',_,_,(),E',F',trivial,q⟩
end
section
variable{W:Wd}{n:Nat}{sc:ah}{ρ:ai}{V:St}
theorem hH(f:Array Value->Array Value)(its:Array Value)(k:Nat):Obj.mapSeq f (seqObj "list" its k)=seqObj "list" (f its) (if(f its).size==its.size then k else k+1):=rfl
theorem uj{i:Nat}(h:i≤1000000):Builtin.List.listFitsIndex (i:Int)=true:=by
 refine fitsIndex_of (Int.natCast_nonneg _) ?_
 have:(i:Int)≤1000000:=by lia
 exact Int.lt_of_le_of_lt this (by decide)
theorem aq.list{φ:aj}{s:Shared}{l:Nat}{p:Nat×Nat}{its:Array Value}{k:Nat}{ys:List a5}(N:aO W φ V s.heap)(hp:φ.pl[l]? =some p)(hq:p.2=p.1)(ho:s.heap.get? p.1=some (seqObj "list" its k))(f:Array Value->Array Value)(r:ad φ s.heap (f its).toList ys)(tk:Nat):
 aq W (fun Z=>False) φ s φ (V.set l (.list ys)) {s with heap:=s.heap.update p.1 (Obj.mapSeq f),toks:=tk}:=by
 have g2:(s.heap.update p.1 (Obj.mapSeq f)).get? p.1=some (seqObj "list" (f its) (if(f its).size==its.size then k else k+1)):=by
  refine a0 (Heap.get?_update_self _ ho (by rw[hH];rfl)) ?_;refine a0 (hH ..) ?_;rfl
 have g1:∀ (b:Nat) o,s.heap.get? b=some o->b≠p.1->b≠p.2->(s.heap.update p.1 (Obj.mapSeq f)).get? b=some o:=fun b o e n1 Z=>(Heap.get?_update_ne _ _ _ _ n1).trans e
 have sz:s.heap.objs.size≤(s.heap.update p.1 (Obj.mapSeq f)).objs.size:=by refine a0 (Heap.size_update ..) ?_;exact Nat.le_refl _
 have S:=dB.at hp sz g1
 refine a2 (N.update (o:=.list ys) hp sz g1 (.list (vs:=(f its).toList) (n:=if(f its).size==its.size then k else k+1) (by rw[Array.toArray_toList];exact g2) hq (r.step S (ae _ _)))) fun N' S'=>?_
 exact⟨S',N',rfl,rfl⟩
theorem aq.same{φ:aj}{s:Shared}{l:Nat}{p:Nat×Nat}{o:af}{h':Heap}(N:aO W φ V s.heap)(hp:φ.pl[l]? =some p)(hs:Heap.SameBut p.1 s.heap h')(r:dB φ s.heap φ h'->bp W φ h' p o)(tk:Nat):
 aq W (fun Z=>False) φ s φ (V.set l o) {s with heap:=h',toks:=tk}:=by
 have g1:∀ (b:Nat) o,s.heap.get? b=some o->b≠p.1->b≠p.2->h'.get? b=some o:=fun b o e n1 Z=>(hs.2 b n1).trans e
 have sz:s.heap.objs.size≤h'.objs.size:=Nat.le_of_eq hs.1.symm
 refine a2 (N.update (o:=o) hp sz g1 (r (dB.at hp sz g1))) fun N' S'=>?_
 exact⟨S',N',rfl,rfl⟩
theorem cw{f:Value}{a:a5}{Q:a5->St->Prop}(h:∀ (A:Around) (φ:aj) (s:Shared) (v:Value),bz n A->aO W φ V s.heap->aa φ s.heap v a->TT W (fun Z=>False) A φ s (call f [v]) aa Q):CT W n f [a] V Q:=fun A φ s vs R N r=>r.one_el fun v a=>h A φ s v R N a
theorem iQ{f:Value}{a b:a5}{Q:a5->St->Prop}(h:∀ (A:Around) (φ:aj) (s:Shared) (v w:Value),bz n A->aO W φ V s.heap->aa φ s.heap v a->aa φ s.heap w b->TT W (fun Z=>False) A φ s (call f [v,w]) aa Q):CT W n f [a,b] V Q:=fun A φ s vs R N r=>r.two_el fun v w a b=>h A φ s v w R N a b
theorem uU{f:Value}{a b c:a5}{Q:a5->St->Prop}(h:∀ (A:Around) (φ:aj) (s:Shared) (v w u:Value),bz n A->aO W φ V s.heap->aa φ s.heap v a->aa φ s.heap w b->aa φ s.heap u c->TT W (fun Z=>False) A φ s (call f [v,w,u]) aa Q):CT W n f [a,b,c] V Q:=fun A φ s vs R N r=>r.three_el fun v w u a b c=>h A φ s v w u R N a b c
theorem mh{l:Nat}{xs:List a5}{a:a5}{Q:a5->St->Prop}(ho:V[l]? =some (.list xs))(hl:xs.length≤1000000)(q:Q .none (V.set l (.list (xs++[a])))):CT W n (.builtin "list.append") [.ref l,a] V Q:=by
 refine iQ fun A φ s v va R N r0 ra=>?_
 refine r0.list_el N ho fun p us k hp g hq rs=>?_
 refine call_meets PySem.F.slot_list_append (a6 _ g rfl) PySem.F.entry_list_append (PySem.F.args_list_append_2 _ _) (PySem.list_append p.1 us.toArray k va (by refine a0 List.size_toArray ?_;refine a0 rs.length ?_;refine a0 sizeLine_eq ?_;exact a9 hl (by decide))) ⟨g,?_⟩
 exact⟨φ,_,.none,aq.list N hp hq g (fun x=>x.push va) (ys:=xs++[a]) (by simpa using rs.append (.cons ra .nil)) s.toks,.none,q⟩
theorem sV{l m:Nat}{xs ys:List a5}{Q:a5->St->Prop}(ho:V[l]? =some (.list xs))(hm:V[m]? =some (.list ys))(hl:xs.length+ys.length≤1000000)(q:Q .none (V.set l (.list (xs++ys)))):CT W n (.builtin "list.extend") [.ref l,.ref m] V Q:=by
 refine iQ fun A φ s v va R N r0 ra=>?_
 refine r0.list_el N ho fun p us k hp g hq rs=>ra.list_el N hm fun p' us' k' hp' g' hq' rs'=>?_
 have e1:=rs.length
 have e2:=rs'.length
 refine call_meets PySem.F.slot_list_extend (a6 _ g rfl) PySem.F.entry_list_extend (PySem.F.args_list_extend_2 _ _) (PySem.AutoSeq1.list_extend_list_list_0 p.1 us.toArray k p'.1 us'.toArray k' ?_ (by refine a0 List.size_toArray ?_;refine a0 e1 ?_;refine a0 sizeLine_eq ?_;lia) (by refine a0 List.size_toArray ?_;refine a0 List.size_toArray ?_;refine a0 e1 ?_;refine a0 e2 ?_;refine a0 sizeLine_eq ?_;exact a9 hl (by decide))) (i3 g g' ?_)
 ·simp only[List.size_toArray,e1,e2,Builtin.List.listTooLong,Bool.and_eq_true,not_and,Bool.not_eq_true]
  intro _
  exact decide_eq_false (by have:=sizeLine_eq;show ¬_;lia)
 ·exact⟨φ,_,.none,aq.list N hp hq g (fun x=>x++us'.toArray) (ys:=xs++ys) (by simpa using rs.append rs') s.toks,.none,q⟩
set_option tactic.hygienic true in
theorem qR(xs:List Value)(k:Nat):(xs.toArray.eraseIdxIfInBounds k).toList=xs.eraseIdx k:=by
 unfold Array.eraseIdxIfInBounds
 split
 ·simp
 ·rename_i h;simp at h;simp[List.eraseIdx_of_length_le h]
theorem uX{l:Nat}{xs:List a5}{a:a5}{Q:a5->St->Prop}(ho:V[l]? =some (.list (xs++[a])))(hl:xs.length≤1000000)(q:Q a (V.set l (.list xs))):CT W n (.builtin "list.pop") [.ref l] V Q:=by
 refine cw fun A φ s v R N r0=>?_
 refine r0.list_el N ho fun p us k hp g hq rs=>?_
 have e1:=rs.length
 rw[List.length_append,List.length_singleton] at e1
 refine a7 (rs.get (i:=xs.length) (x:=a) (by exact List.getElem?_concat_length ..)) fun y hy ry=>?_
 have hy':us.toArray[us.toArray.size - 1]? =some y:=by refine a0 List.size_toArray ?_;refine a0 e1 ?_;simpa using hy
 refine call_meets PySem.F.slot_list_pop (a6 _ g rfl) PySem.F.entry_list_pop (PySem.F.args_list_pop_1 _) (PySem.MeetsSeq.list_pop_last p.1 us.toArray k y hy' (by refine a0 List.size_toArray ?_;refine a0 e1 ?_;refine a0 sizeLine_eq ?_;exact a9 (a9 (fX e1) (a9 (Nat.le_of_eq e1) (Nat.add_le_add_right hl _))) (by decide))) ⟨g,?_⟩
 have E':=aq.list N hp hq g (fun x=>x.eraseIdxIfInBounds (us.toArray.size - 1)) (ys:=xs) (by
  refine a0 (qR ..) ?_;refine a0 List.size_toArray ?_;refine a0 e1 ?_
  have:=rs.erase xs.length
  rw[List.eraseIdx_append_of_length_le (Nat.le_refl _),Nat.sub_self] at this
  simpa using this) s.toks
 exact⟨φ,_,a,E',ry.step E'.st (ae _ _),q⟩
theorem sU{l:Nat}{xs:List a5}{i:Nat}{a:a5}{Q:a5->St->Prop}(ho:V[l]? =some (.list xs))(hx:xs[i]? =some a)(hl:xs.length≤1000000)(q:Q a (V.set l (.list (xs.eraseIdx i)))):CT W n (.builtin "list.pop") [.ref l,.int i] V Q:=by
 refine iQ fun A φ s v vi R N r0 ri=>?_
 refine r0.list_el N ho fun p us k hp g hq rs=>ri.int_el fun t=>?_
 have e1:=rs.length
 have lt:=(List.getElem?_eq_some_iff.mp hx).1
 have fit:Builtin.List.listFitsIndex (i:Int)=true:=uj (by exact a9 (Nat.le_of_lt lt) hl)
 refine a7 (rs.get hx) fun y hy ry=>?_
 have sq:seqIndex? (i:Int) us.toArray.size=some i:=by
  unfold seqIndex?
  dsimp only
  rewrite[if_neg (Int.not_lt.mpr (Int.natCast_nonneg i))];refine a0 (if_pos (by simp;exact a9 lt (fX e1))) ?_
  rfl
 generalize hj:(i:Int)=j at fit sq ⊢
 refine call_meets PySem.F.slot_list_pop (a6 _ g rfl) PySem.F.entry_list_pop (PySem.F.args_list_pop_2 _ _) (PySem.MeetsSeq.list_pop_at p.1 us.toArray k j _ i y fit sq (by simpa using hy) (by refine a0 List.size_toArray ?_;refine a0 e1 ?_;refine a0 sizeLine_eq ?_;exact a9 hl (by decide))) ⟨g,?_⟩
 have E':=aq.list N hp hq g (fun x=>x.eraseIdxIfInBounds i) (ys:=xs.eraseIdx i) (by refine a0 (qR ..) ?_;exact rs.erase i) s.toks
 exact⟨φ,_,a,E',ry.step E'.st (ae _ _),q⟩
theorem kS{A:Around}{E:Value->Shared->Prop}{s:Shared}{l:Addr}{items:Array Value}{m:Nat}{k:Int}{t:Tok}{v:Value}{Q:Unit->Shared->Prop}(ho:s.heap.get? l=some (seqObj "list" items m))(h0:0≤k)(hfit:k<2 ^ 63)(hn:k<items.size)
 (hQ:Q () {s with heap:=s.heap.update l (Obj.mapSeq (·.setIfInBounds k.toNat v))}):wpAny (model W.prog W.w) A (PySem.setItem (.ref l) (.int k t) v) Q E s:=by
 have hT:s.TypeIs (.ref l) "list":=a6 _ ho rfl
 unfold PySem.setItem
 try with_reducible refine wpAny_holding ?_
 first | refine wpAny_bind (wpAny_pure ?_) | skip
 refine wpAny_bind (wpAny_sequenceKey hT (by decide) ?_)
 refine wpAny_bind (wpAny_callSpecial?_slot (name:=Str.ofString "__setitem__") hT slot_list_setitem
  (wpAny_call_entry slot_list_setitem hT entry_list_setitem ?_ (args_list_setitem _ _ _)))
 show wpAny _ _ (Builtin.List.listSubscript? (.int k t) >>= _) _ _ s
 refine wpAny_bind (wpAny_listSubscript_int (fitsIndex_of h0 hfit) ?_)
 clear hfit
 refine aH (Int.eq_ofNat_of_zero_le h0) fun j z1=>?_;subst z1
 have hj:j<items.size:=by lia
 have hx':items[j]? =some items[j]:=Array.getElem?_eq_getElem hj
 show wpAny _ _ ((seqItemAt l j >>= fun r=>Pure.pure (r.map (j,·))) >>= _) _ _ s
 refine wpAny_bind (wpAny_bind (wpAny_seqItemAt ho rfl (wpAny_pure ?_)))
 refine a0 hx' ?_
 show wpAny _ _ (setSeqItemAt l j v >>= _) _ _ s
 refine wpAny_bind (wpAny_setSeqItemAt ho rfl ?_)
 first
  | exact wpAny_bind (wpAny_pure (wpAny_pure (a6 .none rfl (wpAny_pure hQ))))
  | exact wpAny_pure ⟨.none,rfl,wpAny_pure hQ⟩
theorem tx{l:Nat}{xs:List a5}{i:Nat}{a:a5}{Q:St->Prop}(ho:V[l]? =some (.list xs))(hi:i<xs.length)(hl:xs.length≤1000000)(q:Q (V.set l (.list (xs.set i a)))):oP W n (.ref l) (.int i) a V Q:=by
 intro A φ s v w u R N r0 ri ra
 refine r0.list_el N ho fun p us k hp g hq rs=>ri.int_el fun t=>?_
 have e1:=rs.length
 have E':=aq.list N hp hq g (fun x=>x.setIfInBounds i u) (ys:=xs.set i a) (by simpa using ad.set ra rs i) s.toks
 have h63:(i:Int)<2 ^ 63:=Int.lt_of_lt_of_le (show(i:Int)<1000000 by lia) (by decide)
 exact kS g (Int.natCast_nonneg i) h63 (by refine a0 List.size_toArray ?_;refine a0 e1 ?_;lia) ⟨φ,_,(),E',trivial,q⟩
theorem rK{l:Nat}{es:List (Int×a5)}{k:Int}{a:a5}{Q:St->Prop}(ho:V[l]? =some (.idict es))(hl:es.length≤1000000)(q:Q (V.set l (.idict (cX es k a)))):oP W n (.ref l) (.int k) a V Q:=by
 intro A φ s v w u R N r0 ri ra
 refine r0.idict_el N ho fun p kvs hp g hq rs=>ri.int_el fun t=>?_
 refine wpAny_setItem_pairs (knd:=intKind W.prog W.w) (k:=k) lM g (fun h' hm hs=>?_) (by refine a0 rs.length ?_;refine a0 sizeLine_eq ?_;exact a9 hl (by decide))
 exact⟨φ,_,(),aq.same N hp hs (fun S=>.idict hm hq ((rs.step S (ae _ _)).put (ra.step S (ae _ _)))) _,trivial,q⟩
theorem rJ{l:Nat}{es:List (List aT×a5)}{xs:List a5}{k:List aT}{a:a5}{Q:St->Prop}(ho:V[l]? =some (.tdict es))(hk:skeys xs=some k)(hl:es.length≤1000000)(q:Q (V.set l (.tdict (cX es k a)))):oP W n (.ref l) (.tup xs) a V Q:=by
 intro A φ s v w u R N r0 ri ra
 refine r0.tdict_el N ho fun p kvs hp g hq rs=>ri.tkey_el (prog:=W.prog) (w:=W.w) hk fun b hb lt no=>?_
 refine wpAny_setItem_heap (knd:=tupleKind (aM W.prog W.w)) R.under hb g (fun h' hm hs=>?_) (by refine a0 rs.length ?_;refine a0 sizeLine_eq ?_;exact a9 hl (by decide))
 exact⟨φ,_,(),aq.same N hp hs (fun S=>.tdict hm hq ((rs.step S (ae _ _)).put (Nat.lt_of_lt_of_le lt S.size) (S.notOwn lt no) (ra.step S (ae _ _)))) _,trivial,q⟩
theorem kM{l:Nat}{es:List (Int×a5)}{k:Int}{Q:a5->St->Prop}(ho:V[l]? =some (.idict es))(q:Q ((bb es k).getD .none) V):CT W n (.builtin "dict.get") [.ref l,.int k] V Q:=by
 refine iQ fun A φ s v vi R N r0 ri=>?_
 refine r0.idict_el N ho fun p kvs hp g hq rs=>ri.int_el fun t=>?_
 refine call_meetsIn PySem.F.slot_dict_get g.mapOf.typeIs PySem.F.entry_dict_get (PySem.F.args_dict_get_2 _ _) (meets_dict_get (intKind W.prog W.w) (k:=k) p.1 lM (eC N hp)) ⟨_,g.mapOf,φ,V,_,aq.toks N _,?_,q⟩
 cases e:bb es k with
 | none=>refine a0 ((rs.get k).2 e) ?_;exact .none
 | some a=>refine a7 ((rs.get k).1 a e) fun y hy ry=>?_;refine a0 hy ?_;exact ry
theorem r9{l:Nat}{es:List (Int×a5)}{k:Int}{a:a5}{Q:a5->St->Prop}(ho:V[l]? =some (.idict es))(hk:bb es k=some a)(hl:es.length≤1000000)(q:Q a (V.set l (.idict (gC es k)))):CT W n (.builtin "dict.pop") [.ref l,.int k] V Q:=by
 refine iQ fun A φ s v vi R N r0 ri=>?_
 refine r0.idict_el N ho fun p kvs hp g hq rs=>ri.int_el fun t=>?_
 refine a7 ((rs.get k).1 a hk) fun y hy ry=>?_
 refine call_meetsIn PySem.F.slot_dict_pop g.mapOf.typeIs PySem.F.entry_dict_pop (PySem.F.args_dict_pop_2 _ _) (meets_dict_pop_there (intKind W.prog W.w) (k:=k) p.1 lM [] (.inl rfl) rfl) (jg _ y g (by refine a0 rs.length ?_;refine a0 sizeLine_eq ?_;exact a9 hl (by decide)) hy (fun h' hm hs=>?_))
 have E':=aq.same (V:=V) (o:=.idict (gC es k)) N hp hs (fun S=>.idict hm hq ((rs.step S (ae _ _)).del k)) (s.toks+1)
 exact⟨φ,_,a,E',ry.step E'.st (ae _ _),q⟩
end
theorem Runs.size{M:Model}{Γ:PySem.Ctx}{p:Pos}{t:Sem Fin}{fs:List Frame}{s s':Shared}{e:End}(h:Runs M Γ p t fs s e s'):s.heap.objs.size≤s'.heap.objs.size:=by
 induction h with
 | done=>exact Nat.le_refl _
 | raise=>exact Nat.le_refl _
 | yield=>exact Nat.le_refl _
 | update _ _ ih=>rw[Heap.size_update] at ih;exact ih
 | alloc _ ih=>rw[Heap.size_push] at ih;exact Nat.le_of_succ_le ih
 | call _ _ ih1 ih2=>exact a9 ih1 ih2
 | resumeFresh _ _ _ _ ih1 ih2=>exact a9 ih1 ih2
 | resumeSuspended _ _ _ _ ih1 ih2=>exact a9 ih1 ih2
 | segRet _ _ ih1 ih2=>exact a9 ih1 ih2
 | segGen _ _ ih1 ih2=>exact a9 ih1 ih2
 | segSuspGen _ _ _ _ ih1 ih2=>exact a9 ih1 ih2
 | _=>assumption
theorem Wakes.size{M:Model}{Γ:PySem.Ctx}{p:Pos}{g:Nat}{r:Resume}{s s':Shared}{res:GenResult}(h:Wakes M Γ p g r s res s'):s.heap.objs.size≤s'.heap.objs.size:=by
 unfold Wakes at h
 split at h
 ·exact h.elim
 ·split at h
  ·refine ia h ?_;clear h;intro e s₁ hr _ _ z5;subst z5;have:=Runs.size hr;exact this
  ·refine a2 h ?_;clear h;intro _ z1;subst z1;exact Nat.le_refl _
  ·refine a2 h ?_;clear h;intro _ z1;subst z1;exact Nat.le_refl _
 ·refine ia h ?_;clear h;intro e s₁ hr _ _ z5;subst z5;have:=Runs.size hr;exact this
 ·refine a2 h ?_;clear h;intro _ z1;subst z1;exact Nat.le_refl _
 ·refine a2 h ?_;clear h;intro _ z1;subst z1;exact Nat.le_refl _
theorem ve{α:Type}{M:Model}{Γ:PySem.Ctx}:∀ (t:Sem α) (Q:α->Pos->Shared->Prop) (E:Value->Pos->Shared->Prop) (p:Pos) (s:Shared) (z:Nat),z≤s.heap.objs.size->Sem.wp M Γ t Q E p s->Sem.wp M Γ t (fun a p' s'=>z≤s'.heap.objs.size∧Q a p' s') E p s:=by
 intro t
 induction t with
 | pure a=>intro Q E p s z hz h;exact⟨hz,h⟩
 | raise e=>intro Q E p s z hz h;exact h
 | unsupported _=>intro Q E p s z hz h;exact h
 | finish _=>intro Q E p s z hz h;exact h
 | rule _ k ih=>intro Q E p s z hz h;exact ih () Q E p s z hz h
 | «at» p' k ih=>intro Q E p s z hz h;exact ih () Q E p' s z hz h
 | load a _ k ih=>intro Q E p s z hz h;refine a7 h fun o h1 h2=>?_;exact a6 o h1 (ih o Q E p s z hz h2)
 | update a _ f k ih=>intro Q E p s z hz h;exact⟨h.1,ih () Q E p _ z (by refine a0 (Heap.size_update ..) ?_;exact hz) h.2⟩
 | loadIfAlive a k ih=>intro Q E p s z hz h;exact ih _ Q E p s z hz h
 | point _ k ih=>intro Q E p s z hz h;exact ih () Q E p s z hz h
 | register _ _=>intro Q E p s z hz h;exact h
 | alloc o k ih=>intro Q E p s z hz h;exact ih _ Q E p _ z (by refine a0 (Heap.size_push ..) ?_;exact Nat.le_succ_of_le hz) h
 | fresh k ih=>intro Q E p s z hz h;exact ih _ Q E p {s with toks:=s.toks+1} z hz h
 | ask k ih=>intro Q E p s z hz h;exact ih _ Q E p s z hz h
 | choose src n k ih=>intro Q E p s z hz h;exact⟨h.1,ih _ Q E p {s with drawn:=s.drawn.bump src} z hz h.2⟩
 | os q _ k ih=>intro Q E p s z hz h;exact ih _ Q E p {s with os:=(Os.step s.os q).1} z hz h
 | call c hh _ _ k ih=>intro Q E p s z hz h;refine cW h fun r s' hr h2=>?_;exact cN r s' hr (ih r Q E p s' z (a9 hz (Runs.size hr)) h2)
 | handled own k ih=>intro Q E p s z hz h;exact ih _ Q E p s z hz h
 | genState g k ih=>intro Q E p s z hz h;refine a7 h fun st h1 h2=>?_;exact a6 st h1 (ih _ Q E p s z hz h2)
 | newGen c k ih=>intro Q E p s z hz h;exact ih _ Q E p {s with gens:=s.gens.push (.fresh c)} z hz h
 | resume g r _ k ih=>intro Q E p s z hz h;refine cW h fun res s' hr h2=>?_;exact cN res s' hr (ih res Q E p s' z (a9 hz (Wakes.size hr)) h2)
 | yield _ _ _ _ _=>intro Q E p s z hz h;exact h
 | stack k ih=>intro Q E p s z hz h;exact ih _ Q E p s z hz h
 | fork _ _ _=>intro Q E p s z hz h;exact h
 | thread k ih=>intro Q E p s z hz h;exact ih _ Q E p s z hz h
 | await _ _ _ _=>intro Q E p s z hz h;exact h
theorem aB{α:Type}{M:Model}{A:Around}{t:Sem α}{Q:α->Shared->Prop}{E:Value->Shared->Prop}{s:Shared}(h:wpAny M A t (fun v s'=>s.heap.objs.size≤s'.heap.objs.size->Q v s') E s):wpAny M A t Q E s:=fun Γ p hΓ=>
 Sem.wp_mono M Γ t (post:=fun a Z s'=>s.heap.objs.size≤s'.heap.objs.size∧(s.heap.objs.size≤s'.heap.objs.size->Q a s')) (fun a p' s' q=>q.2 q.1) (fun Z Z Z e=>e) p s (ve t _ _ p s _ (Nat.le_refl _) (h Γ p hΓ))
noncomputable abbrev aL(ns:List Int):List a5:=ns.map .int
theorem ad.toInts{φ:aj}{h:Heap}:∀ {ns:List Int} {vs:List Value},ad φ h vs (aL ns)->IntsAre vs ns
 | [],_,r=>r.nil_el .nil
 | n::ns,_,r=>r.cons_el fun Z Z a b=>a.int_el fun t=>.cons n t b.toInts
theorem ad.ofInts{φ:aj}{h:Heap}{vs:List Value}{ns:List Int}(r:IntsAre vs ns):ad φ h vs (aL ns):=by
 induction r with
 | nil=>exact .nil
 | cons n t _ ih=>exact .cons (.int n t) ih
theorem ad.of_get{φ:aj}{h:Heap}:∀ {xs:List a5} {vs:List Value},vs.length=xs.length->(∀ (i:Nat) v x,vs[i]? =some v->xs[i]? =some x->aa φ h v x)->ad φ h vs xs
 | [],[],_,_=>.nil
 | [],_::_,e,_=>nomatch e
 | _::_,[],e,_=>nomatch e
 | x::xs,v::vs,e,k=>.cons (k 0 v x rfl rfl) (ad.of_get (Nat.succ.inj e) fun i v' x' e1 e2=>k (i+1) v' x' (by simpa using e1) (by simpa using e2))
theorem ad.range{φ:aj}{h:Heap}{acc:Array Value}{k:Nat}(e:acc.size=k)(hi:∀ (j:Nat) v,acc[j]? =some v->∃ t,v=.int (0+(j:Int)*1) t):ad φ h acc.toList (aL ((List.range k).map Int.ofNat)):=by
 refine ad.of_get (by simp[e]) fun i v x e1 e2=>?_
 refine aH (hi i v (by simpa using e1)) fun t z1=>?_;subst z1
 have hx:x=.int (i:Int):=by
  simp only[List.getElem?_map,Option.map_eq_some_iff] at e2
  refine a7 e2 ?_;clear e2;intro y z1 z2;rcases z1 with⟨z,hz,rfl⟩;subst z2
  refine aH (List.getElem?_eq_some_iff.mp hz) fun hz1 hz2=>?_
  simp at hz2
  subst hz2
  rfl
 subst hx
 have:(0+(i:Int)*1)=i:=by lia
 refine a0 this ?_
 exact .int _ _
section
variable{W:Wd}{n:Nat}{sc:ah}{ρ:ai}{V:St}
theorem aq.grown{φ:aj}{s:Shared}{h':Heap}(N:aO W φ V s.heap)(k:∀ b o,s.heap.get? b=some o->h'.get? b=some o)(hs:s.heap.objs.size≤h'.objs.size)(tk:Nat):aq W (fun Z=>False) φ s φ V {s with heap:=h',toks:=tk}:=
 ⟨.quiet (fun b o e Z=>k b o e) hs,N.grown hs k,rfl,rfl⟩
theorem aq.adopt{φ:aj}{s:Shared}{h':Heap}{p:Nat×Nat}{o:af}(N:aO W φ V s.heap)(k:∀ b o,s.heap.get? b=some o->h'.get? b=some o)(hs:s.heap.objs.size≤h'.objs.size)(h1:s.heap.objs.size≤p.1)(h2:s.heap.objs.size≤p.2)
 (r:dB φ s.heap (φ.add p) h'->bp W (φ.add p) h' p o)(tk:Nat):aq W (fun Z=>False) φ s (φ.add p) (V++[o]) {s with heap:=h',toks:=tk}∧aa (φ.add p) h' (.ref p.1) (.ref V.length):=by
 have st:dB φ s.heap (φ.add p) h':=⟨(a6 ([p]) rfl (fun q hq=>by refine a0 (List.mem_singleton.mp hq) ?_;exact⟨h1,h2⟩)),rfl,fun b o e Z Z=>k b o e,hs⟩
 refine a2 (N.adopt h1 h2 hs k (r st)) fun N' S'=>?_
 refine⟨⟨S',N',rfl,rfl⟩,.ref (p:=p) ?_⟩
 show(φ.pl++[p])[V.length]? =some p
 refine aX N.len ?_;exact List.getElem?_concat_length ..
theorem iF{h h':Heap}(k:∀ b o,h.get? b=some o->h'.get? b=some o){a:Nat}{o:Obj}(e:h'.get? a=some o)(ha:h.objs.size≤a):h.objs.size≤h'.objs.size:=Nat.le_of_lt (Nat.lt_of_le_of_lt ha (Heap.lt_size e))
theorem aq.newList{φ:aj}{s:Shared}{h':Heap}{a m:Nat}{its:Array Value}{xs:List a5}(N:aO W φ V s.heap)(k:∀ b o,s.heap.get? b=some o->h'.get? b=some o)(ha:s.heap.objs.size≤a)(e:h'.get? a=some (seqObj "list" its m))(r:ad φ s.heap its.toList xs)(tk:Nat):
 aq W (fun Z=>False) φ s (φ.add (a,a)) (V++[.list xs]) {s with heap:=h',toks:=tk}∧aa (φ.add (a,a)) h' (.ref a) (.ref V.length):=
 aq.adopt N k (iF k e ha) ha ha (fun S=>.list (vs:=its.toList) (by refine a0 Array.toArray_toList ?_;exact e) rfl (r.step S (ae _ _))) tk
theorem qx{a:a5}{xs:List a5}{Q:a5->St->Prop}(e:cK V a=some xs)(hl:xs.length≤1000000000)(q:Q (.int xs.length) V):CT W n (.builtin "len") [a] V Q:=by
 refine cw fun A φ s v R N r=>?_
 refine r.isSeq_el N e fun b vs hs rs=>?_
 have e1:=rs.length
 simp only[Array.length_toList] at e1
 rcases hs with hs | hs
 ·exact len_tuple hs (by lia) (by refine a0 e1 ?_;exact TT.val N _ (.int _ _) q)
 ·exact call_len_list hs (by lia) (by refine a0 e1 ?_;exact TT.val N _ (.int _ _) q)
theorem qw{x:Str}{Q:a5->St->Prop}(hl:x.length≤1000000000)(q:Q (.int x.length) V):CT W n (.builtin "len") [.str x] V Q:=by
 refine cw fun A φ s v R N r=>?_
 exact r.str_el fun Z=>PyProof.Rows.len_str (by lia) (TT.val N _ (.int _ _) q)
theorem uY{a:a5}{ns:List Int}{Q:a5->St->Prop}(e:bn V a=some (aL ns))(h0:0<ns.length)(q:∀ M,M∈ns->(∀ x∈ns,x≤M)->Q (.int M) V):CT W n (.builtin "max") [a] V Q:=by
 refine cw fun A φ s v R N r=>?_
 refine r.asList_el N e fun b vs hl rs=>?_
 have hi:=rs.toInts
 refine aH hi.allInts.items fun xs ex=>?_
 have hns:ns=xs.toList.map (fun x=>x.1):=by refine aX hi.numsOf ?_;refine aX (nums_intItems ..) ?_;refine aX ex ?_;rfl
 have hsz:0<xs.size:=by
  have h3:=h0;rw[hns,List.length_map,Array.length_toList] at h3;exact h3
 rw[Array.toArray_toList] at ex
 rw[ex] at hl
 refine aB (max_intList R.handled hl hsz fun v h' tk hv hk gr=>?_)
 refine aH (intItems_at hv) fun t z1=>?_;subst z1
 refine a2 (argBest_gt (numAt xs) (xs.size - 1)) fun h1 h2=>?_
 refine⟨φ,V,_,aq.grown N hk gr tk,.int _ _,q _ ?_ fun a ha=>?_⟩
 ·refine a0 hns ?_;refine a0 (numAt_eq ..) ?_;exact getD_mem (by refine a0 (List.length_map ..) ?_;refine a0 Array.length_toList ?_;lia)
 ·rw[hns] at ha
  refine a7 (mem_getD ha) fun j hj z2=>?_;subst z2
  rw[List.length_map,Array.length_toList] at hj
  refine aX (numAt_eq ..) ?_;exact h2 j (by lia)
theorem wJ{i j:Int}{Q:a5->St->Prop}(q:Q (.int (if j<i then j else i)) V):CT W n (.builtin "min") [.int i,.int j] V Q:=by
 refine iQ fun A φ s v w R N r1 r2=>?_
 refine r1.int_el fun Z=>r2.int_el fun Z=>?_
 refine aB (min_two_ints R.handled fun h' tk hk gr=>?_)
 refine⟨φ,V,_,aq.grown N hk gr tk,?_,q⟩
 split
 ·exact .int _ _
 ·exact .int _ _
theorem uV{a:a5}{ns:List Int}{Q:a5->St->Prop}(e:bn V a=some (aL ns))(q:Q (.int ns.sum) V):CT W n (.builtin "sum") [a] V Q:=by
 refine cw fun A φ s v R N r=>?_
 refine r.asList_el N e fun b vs hl rs=>?_
 have hi:=rs.toInts
 refine aH hi.allInts.items fun xs ex=>?_
 have hns:ns=xs.toList.map (fun x=>x.1):=by refine aX hi.numsOf ?_;refine aX (nums_intItems ..) ?_;refine aX ex ?_;rfl
 rw[Array.toArray_toList] at ex
 rw[ex] at hl
 refine aB (sum_intListG R.handled hl fun h' tk t' hk gr=>?_)
 refine⟨φ,V,_,aq.grown N hk gr tk,.int _ _,?_⟩
 refine a0 (preSum_eq ..) ?_;refine a0 (List.take_of_length_le (by simp)) ?_;refine aX hns ?_
 exact q
theorem sT{a:a5}{ns:List Int}{Q:a5->St->Prop}(e:bn V a=some (aL ns))(h64:ns.length<64)(q:∀ ns':List Int,ns'.Perm ns->ns'.Pairwise (fun x y=>x≤y)->Q (.frz (aL ns')) V):CT W n (.builtin "sorted") [a] V Q:=by
 refine cw fun A φ s v R N r=>?_
 refine r.asList_el N e fun b vs hl rs=>?_
 have hi:=rs.toInts
 have e1:=rs.length
 rw[List.length_map] at e1
 refine aB (sorted_ints (vs:=vs.toList) (by refine a0 Array.toArray_toList ?_;exact hl) hi (by lia) fun out ns' h1 h2 h3 gr=>?_)
 refine aH (sortedAll_at s.heap vs.toList out) fun c hc=>?_
 have E':=aq.grown (h':=sortedAll s.heap vs.toList out) N (fun b o e=>sortedAll_old e) gr s.toks
 refine⟨φ,V,_,E',?_,q ns' h2 h3⟩
 exact .frz ⟨_,hc,rfl,_,rfl⟩ (fun x=>absurd (N.ownLt x) (Nat.not_lt.mpr (Nat.le_succ _))) (ad.ofInts h1)
theorem ta{l:Addr}{o:Obj}{items:Array Value}{m:Nat}(hc:o.cls=.type "list")(hd:o.data=.seq items m)(hsz:items.size≤sizeLine):
 PySem.Meets (Builtin.«tuple.__new__» ⟨[.type "tuple",.ref l],[]⟩)
  (fun Z R s=>s.heap.get? l=some o∧∀ h':Heap,(∀ b o',s.heap.get? b=some o'->h'.get? b=some o')->s.heap.objs.size≤h'.objs.size->R (.ok (.ret (.ref h'.objs.size))) {s with heap:=h'.push {cls:=.type "tuple",data:=.seq items}}):=
 .of_wp fun prog w A R s h=>by
  obtain⟨hp,g,d,tk,os⟩:=s
  refine a2 h fun ht h=>?_
  have hsub:=sub_tuple_self
  have hinit:=init_tuple_lookup
  have hmh:=madeHere_tuple
  have hT:Shared.TypeIs ⟨hp,g,d,tk,os⟩ (.ref l) "list":=a6 o ht hc
  wp_walk using AutoSeq1.wpAny_loadPart' ht,wpAny_typeOf hT,(fun hQ=>aB (wpAny_collect_seq (hsz:=hsz) l (.inl rfl) ht hc hd hQ))
  intro h' hk gr
  show wpAny _ _ (Builtin.Tuple.tupleExact items.toList.toArray >>= fun v=>ret v) _ _ _
  unfold Builtin.Tuple.tupleExact
  refine wpAny_bind (wpAny_newObj_type ?_ (by show items.toList.toArray.size≤sizeLine;simpa using hsz))
  refine wpAny_pure (a6 _ rfl ?_)
  have e:items.toList.toArray=items:=by exact rfl
  refine a0 e ?_
  exact h h' hk gr
theorem cZ{a:a5}{xs:List a5}{Q:a5->St->Prop}(e:bn V a=some xs)(hl:xs.length≤1000000)(q:Q (.tup xs) V):CT W n (.type "tuple") [a] V Q:=by
 refine cw fun A φ s v R N r=>?_
 refine r.asList_el N e fun b vs hb rs=>?_
 have e1:=rs.length
 simp only[Array.length_toList] at e1
 obtain⟨o,ho,hc,m,hd⟩:=hb
 refine callType_new F.called_tuple (by decide) (F.typeCall_tuple_1 _) (F.newCall_tuple_1 _) (fun obj=>F.args_object_init_2 obj _) F.entry_tuple_new
  (ta hc hd (by refine a0 e1 ?_;refine a0 sizeLine_eq ?_;exact a9 hl (by decide))) ⟨ho,fun h' hk le=>⟨(a6 _ (Heap.get?_push_size _ rfl) rfl),?_⟩⟩
 have k2:∀ b o,s.heap.get? b=some o->(h'.push (seqObj "tuple" vs 0)).get? b=some o:=fun b o e=>Heap.get?_push_of_some _ (hk b o e)
 have E':=aq.grown (h':=h'.push (seqObj "tuple" vs 0)) N k2 (by refine a0 (Heap.size_push ..) ?_;exact Nat.le_succ_of_le le) s.toks
 exact⟨φ,V,_,E',.tup ⟨_,Heap.get?_push_size _ rfl,rfl,_,rfl⟩ (fun x=>absurd (N.ownLt x) (Nat.not_lt.mpr le)) (rs.step E'.st (ae _ _)),q⟩
theorem ec{k:Nat}{Q:a5->St->Prop}(hk:k≤1000)(q:Q (.rng k) V):CT W n (.type "range") [.int k] V Q:=by
 refine cw fun A φ s v R N r=>?_
 refine r.int_el fun Z=>call_range_1 ?_
 exact⟨φ,V,.rng k,aq.push N _ _,.rng (Heap.get?_push_size _ rfl) hk (iC N),q⟩
theorem r8{a:a5}{xs:List a5}{Q:a5->St->Prop}(e:cK V a=some xs)(hl:xs.length≤1000000)(q:Q (.ref V.length) (V++[.list xs])):CT W n (.type "list") [a] V Q:=by
 refine cw fun A φ s v R N r=>?_
 refine r.isSeq_el N e fun b vs hs rs=>?_
 have e1:=rs.length
 simp only[Array.length_toList] at e1
 have fin:∀ h' c',(∀ b o',s.heap.get? b=some o'->h'.get? b=some o')->h'.get? s.heap.objs.size=some (seqObj "list" vs c')->kC W (fun Z=>False) φ s aa Q (.ref s.heap.objs.size) {s with heap:=h'}:=by
  intro h' c' hk hg
  refine a2 (aq.newList N hk (Nat.le_refl _) hg rs s.toks) fun E' r'=>?_
  exact⟨_,_,_,E',r',q⟩
 rcases hs with⟨o,ho,hc,k,hd⟩ | ⟨o,ho,hc,k,hd⟩
 ·exact call_list_seq b (.inr rfl) ho hc hd (fun h' c' hk hg=>fin h' c' hk hg) (by refine a0 e1 ?_;refine a0 sizeLine_eq ?_;exact a9 hl (by decide))
 ·exact call_list_seq b (.inl rfl) ho hc hd (fun h' c' hk hg=>fin h' c' hk hg) (by refine a0 e1 ?_;refine a0 sizeLine_eq ?_;exact a9 hl (by decide))
theorem lv{k:Nat}{Q:a5->St->Prop}(q:Q (.ref V.length) (V++[.list (aL ((List.range k).map Int.ofNat))])):CT W n (.type "list") [.rng k] V Q:=by
 refine cw fun A φ s v R N r=>?_
 refine r.rng_el fun Z Z Z Z hr hn no=>?_
 refine aB (call_list_range R.handled hr (small_one (by lia) (by lia) (by lia) (by lia)) (n:=k) (by refine a0 (rangeSize_nat ..) ?_;exact rfl) (by lia) fun h' tk acc' c' hk hg hi gr=>?_)
 refine a2 (aq.newList (xs:=aL ((List.range k).map Int.ofNat)) N hk (Nat.le_refl _) hg (ad.range hi.1 hi.2) tk) fun E' r'=>?_
 exact⟨_,_,_,E',r',q⟩
theorem wL{l:Nat}{es:List (Int×a5)}{Q:a5->St->Prop}(ho:V[l]? =some (.idict es))(hl:es.length≤1000000)(q:Q (.ref V.length) (V++[.idict es])):CT W n (.type "dict") [.ref l] V Q:=by
 refine cw fun A φ s v R N r=>?_
 refine r.idict_el N ho fun p kvs hp g hq rs=>?_
 ·refine kt_call_dict (eC N hp) g (by refine a0 rs.length ?_;refine a0 sizeLine_eq ?_;exact a9 hl (by decide)) fun h' hg hs=>?_
  have hk:∀ b o,s.heap.get? b=some o->h'.get? b=some o:=fun b o e=>(hs.2 b (Nat.ne_of_lt (Heap.lt_size e))).trans (Heap.get?_push_of_some _ e)
  have gr:s.heap.objs.size≤h'.objs.size:=by refine a0 hs.1 ?_;refine a0 (Heap.size_push ..) ?_;exact Nat.le_succ _
  refine a2 (aq.adopt (p:=(s.heap.objs.size,s.heap.objs.size)) (o:=.idict es) N hk gr (Nat.le_refl _) (Nat.le_refl _) (fun S=>.idict hg rfl (rs.step S (ae _ _))) s.toks) fun E' r'=>?_
  exact⟨_,_,_,E',r',q⟩
theorem qy{x:Str}{Q:a5->St->Prop}(q:Q (.bool (Txt.isspace x)) V):CT W n (.builtin "str.isspace") [.str x] V Q:=by
 exact cw fun A φ s v R N r=>r.str_el fun Z=>PySem.SC.isspace (TT.val N s.toks (.bool _) q)
theorem lr{l:Nat}{es:List (List aT×a5)}{xs:List a5}{k:List aT}{a:a5}{Q:a5->St->Prop}(ho:V[l]? =some (.tdict es))(hk:skeys xs=some k)(hl:es.length≤1000000)
 (q1:∀ b,bb es k=some b->Q b V)(q2:bb es k=none->Q a (V.set l (.tdict (cX es k a)))):CT W n (.builtin "dict.setdefault") [.ref l,.tup xs,a] V Q:=by
 refine uU fun A φ s v w va R N r0 r1 r2=>?_
 refine r0.tdict_el N ho fun p kvs hp g hq rs=>r1.tkey_el (prog:=W.prog) (w:=W.w) hk fun b hb lt no=>?_
 obtain⟨o,ds,ep,h1,hc,hd,he,his,hn⟩:=id g
 have hu:(tupleKind (aM W.prog W.w)).room A.in1:=R.under
 refine wpAny_call_entry PySem.F.slot_dict_setdefault (a6 _ h1 hc.1) PySem.F.entry_dict_setdefault ?_ (PySem.F.args_dict_setdefault_3 _ _ _)
 unfold Builtin.«dict.setdefault»
 refine wpAny_bind ?_
 unfold Builtin.Dict.keyAndDefault
 refine wpAny_bind (wpAny_notOrdered_dict (a6 _ h1 hc.1) ?_)
 show wpAny _ _ (Pure.pure (p.1,Value.ref b,some va)) _ _ s
 refine wpAny_pure ?_
 show wpAny _ _ (if(p.1==sysModules)=true then _ else(dictSetDefault p.1 (.ref b) va >>= _)) _ _ s
 refine a0 (if_neg (by rw[eC N hp];exact Bool.false_ne_true)) ?_
 refine wpAny_bind ?_
 unfold dictSetDefault
 refine wpAny_holding ?_
 refine wpAny_bind ((tupleKind (aM W.prog W.w)).pyHash hu hb ?_)
 refine wpAny_bind (wpAny_dictFind_heap (knd:=tupleKind (aM W.prog W.w)) (s:={s with toks:=s.toks+(tupleKind (aM W.prog W.w)).draws k}) hu hb h1 hd he his hn ?_ ?_)
 ·intro hno
  have hnone:bb es k=none:=by
   have z:=rs.some k
   rw[atKey_none_of_get hno] at z
   cases e:bb es k with
   | none=>rfl
   | some a=>rw[e] at z;cases z
  have hnot:k∉kvs.map (fun x=>x.1):=not_mem_keys_of_get hno
  have len:=rs.length
  refine wpAny_bind (wpAny_rule (wpAny_bind (wpAny_updateDictKeys (hz:=by have e:=size_of_entries he;refine a0 sizeLine_eq ?_;exact a9 (Nat.le_of_eq e) (a9 (Nat.le_of_eq len) (a9 hl (by decide)))) (s:={s with toks:=s.toks+(tupleKind (aM W.prog W.w)).draws k}) h1 hd (wpAny_pure (wpAny_pure (a6 va rfl ?_))))))
  have nd:(s.heap.update p.1 (Obj.mapDictKeys (·.push ⟨(tupleKind (aM W.prog W.w)).hash k,.ref b,va⟩))).DictOfH (tupleKind (aM W.prog W.w)) p.1 (storedH kvs k b va):=by
   refine vT _ _ (ep+1) (Heap.get?_update_self _ h1 (Obj.isFreed_of_dict (Obj.data_mapDictKeys hd _))) (hc.mapDictKeys _) (Obj.data_mapDictKeys hd _) ?_ ?_ ?_
   ·rw[storedH_new (atKey_none_of_get hno)]
    simp[he,entryOfKey]
   ·rw[storedH_new (atKey_none_of_get hno)]
    intro x hx
    rcases List.mem_append.mp hx with hx | hx
    ·exact(tupleKind (aM W.prog W.w)).keeps (his x hx) h1 hd (Heap.SameBut.update ..)
    ·simp only[List.mem_singleton] at hx
     subst hx
     exact(tupleKind (aM W.prog W.w)).keeps hb h1 hd (Heap.SameBut.update ..)
   ·rw[storedH_new (atKey_none_of_get hno)]
    refine a0 List.map_append ?_;refine bt List.nodup_append ?_
    refine i3 hn (by simp) ?_
    intro x hx y hy
    simp only[List.map_cons,List.map_nil,List.mem_singleton] at hy
    subst hy
    exact fun e=>hnot (e▸hx)
  have E':=aq.same (V:=V) (o:=.tdict (cX es k a)) N hp (Heap.SameBut.update ..) (fun S=>.tdict nd hq ((rs.step S (ae _ _)).put (Nat.lt_of_lt_of_le lt S.size) (S.notOwn lt no) (r2.step S (ae _ _)))) (s.toks+(tupleKind (aM W.prog W.w)).draws k)
  exact⟨φ,_,a,E',r2.step E'.st (ae _ _),q2 hnone⟩
 ·intro j x hj
  have z:=atKey_of_get hn hj
  refine wpAny_bind (wpAny_dictEntries (s:={s with toks:=s.toks+(tupleKind (aM W.prog W.w)).draws k}) h1 hd ?_)
  refine a0 (entry_at he j) ?_;refine a0 hj ?_
  refine wpAny_bind (wpAny_rule (wpAny_pure (wpAny_pure (a6 _ rfl ?_))))
  cases e:bb es k with
  | none=>rw[(rs.get k).2 e] at z;cases z
  | some c=>
    refine cW ((rs.get k).1 c e) fun b' v' e' rv=>?_
    rw[e'] at z
    cases z
    exact⟨φ,V,c,aq.toks N _,rv,q1 c e⟩
end
section
variable{W:Wd}{n:Nat}{sc:ah}{ρ:ai}{V:St}
noncomputable abbrev wX(W:Wd)(env:Env)(sc:ah)(φ:aj)(s:Shared)(Q:cH->ai->St->Prop)(f:Flow)(s':Shared):Prop:=uN W env sc φ s na Q f s'
theorem bz.mark{A:Around}(r:bz n A):bz n (A.mark none):=⟨by show(none.or A.handled)=none;refine a0 r.handled ?_;rfl,r.depth,r.units⟩
theorem oQ{ι:Type}{r:ι->ι->Prop}(wf:WellFounded r)(I:ι->ai->St->Prop){test:Expr}{body:List Stmt}{pos:Pos}{Q:cH->ai->St->Prop}
 (turn:∀ i ρ V,I i ρ V->BT W n sc test ρ V (fun c V'=>if c=true then df W n sc body ρ V' (fun f ρ' V''=>match f with
  | .next | .cont=>∃ j,r j i∧I j ρ' V''
  | .brk=>Q .next ρ' V''
  | .ret v=>Q (.ret v) ρ' V'')else Q .next ρ V')) {i:ι} (h:I i ρ V):ST W n sc (.While test body [] pos) ρ V Q:=by
 intro A env φ₀ s₀ R N₀ F₀
 refine wpAny_While ?_
 have main:∀ i (ρ:ai) (V:St) (φ:aj) (s:Shared),I i ρ V->aq W (FX env) φ₀ s₀ φ V s->az W φ s.heap env sc ρ->
  codeAny (model W.prog W.w) (A.mark none) (.whileLoop test body [] env) (fun r s'=>match r with | .ok f=>wX W env sc φ₀ s₀ Q f s' | .error e=>cameBackBy (model W.prog W.w) A env (fun Z Z=>False) e s') s:=by
  intro i
  induction i using wf.induction with
  | _ i ih=>
    intro ρ V φ s hI E₀ F
    refine codeAny_loop' rfl (fun Z s'=>s'=s) (fun m s' hs=>?_) 0 rfl
    subst hs
    show wpAny _ (A.mark none) ((whileTurn test body [] env).onRaise (fun x=>do noteFrame x env;theTreesLotGoes x)) _ _ s'
    refine wpAny_noted ?_
    simp only[whileTurn]
    refine wpAny_bind (wpAny_mono (turn i ρ V hI (A.mark none) env φ s' R.mark E₀.now F) (fun b s₁ h₁=>?_) fun Z Z z=>z.elim)
    obtain⟨φ₁,V₁,c,E₁,rfl,q⟩:=h₁
    have E1:=E₀.trans ⟨dB.toX E₁.st,E₁.now,E₁.gens,E₁.os⟩
    have F1:=F.step E₁.st
    cases b with
    | false=>
      refine wpAny_bind (wpAny_pure (wpAny_pure ?_))
      exact⟨φ₁,V₁,ρ,.next,E1,F1,.next,q⟩
    | true=>
      refine wpAny_bind (wpAny_mono (q (A.mark none) env φ₁ s₁ R.mark E₁.now F1) (fun f s₂ h₂=>?_) fun Z Z z=>z.elim)
      obtain⟨φ₂,V₂,ρ₂,g,E₂,F₂,rf,q⟩:=h₂
      have E2:=E1.trans E₂
      cases rf with
      | next=>refine a7 q fun j hj hI'=>?_;exact wpAny_pure (.inr ⟨rfl,ih j hj ρ₂ V₂ φ₂ s₂ hI' E2 F₂⟩)
      | cont=>refine a7 q fun j hj hI'=>?_;exact wpAny_pure (.inr ⟨rfl,ih j hj ρ₂ V₂ φ₂ s₂ hI' E2 F₂⟩)
      | brk=>exact wpAny_pure ⟨φ₂,V₂,ρ₂,.next,E2,F₂,.next,q⟩
      | ret rv=>exact wpAny_pure ⟨φ₂,V₂,ρ₂,_,E2,F₂,.ret rv,q⟩
 exact main i ρ V φ₀ s₀ h ⟨.refl,N₀,rfl,rfl⟩ F₀
noncomputable def aI(V:St):a5->Option (List a5)
 | .rng n=>some (aL ((List.range n).map Int.ofNat))
 | .str x=>some (x.cps.toList.map fun c=>.str ⟨#[c]⟩)
 | a=>cK V a
inductive dD(h:Heap)(it:Addr):a5->Value->Nat->Prop
 | frz {ys:List a5} {l:Addr} {i:Nat}:h.IsListIter it l i->dD h it (.frz ys) (.ref l) i
 | place {k:Nat} {l:Addr} {i:Nat}:h.IsListIter it l i->dD h it (.ref k) (.ref l) i
 | tup {ys:List a5} {l:Addr} {i:Nat}:h.IsTupleIter it l i->dD h it (.tup ys) (.ref l) i
 | rng {l:Addr} {n i:Nat}:IsRangeIter h it (i:Int) ((n:Int) - i) 1->dD h it (.rng n) (.ref l) i
 | asc {x:Str} {t:Tok} {i:Nat}:h.IsStrIter it "str_ascii_iterator" x t i->dD h it (.str x) (.str x t) i
 | wide {x:Str} {t:Tok} {i:Nat}:h.IsStrIter it "str_iterator" x t i->dD h it (.str x) (.str x t) i
theorem dD.keep{h h':Heap}{it:Addr}{a:a5}{v:Value}{i:Nat}(x:dD h it a v i)(k1:∀ o,h.get? it=some o->h'.get? it=some o):dD h' it a v i:=by
 cases x with
 | frz x=>refine a7 x fun o e r=>?_;exact .frz (a6 o (k1 _ e) r)
 | place x=>refine a7 x fun o e r=>?_;exact .place (a6 o (k1 _ e) r)
 | tup x=>refine a7 x fun o e r=>?_;exact .tup (a6 o (k1 _ e) r)
 | rng y=>exact .rng (k1 _ y)
 | asc x=>refine a7 x fun o e r=>?_;exact .asc (a6 o (k1 _ e) r)
 | wide x=>refine a7 x fun o e r=>?_;exact .wide (a6 o (k1 _ e) r)
theorem kX{k:Nat}(h:k≤1000):Builtin.Range.small 0 (k:Int) 1=true:=small_one (by lia) (by lia) (by lia) (by lia)
set_option tactic.hygienic true in
theorem jV{A:Around}{φ:aj}{s:Shared}{v:Value}{a:a5}{xs:List a5}{E:Value->Shared->Prop}{Q:Value->Shared->Prop}(N:aO W φ V s.heap)(r:aa φ s.heap v a)(e:aI V a=some xs)
 (q:∀ o:Obj,dD (s.heap.push o) s.heap.objs.size a v 0->Q (.ref s.heap.objs.size) {s with heap:=s.heap.push o}):wpAny (model W.prog W.w) A (pyIter v) Q E s:=by
 cases a with
 | rng k=>
   revert q
   refine r.rng_el fun b t u w hr hn no q=>?_
   ·refine wpAny_pyIter_range hr (kX hn) (q _ ?_)
    refine .rng (n:=k) (i:=0) ?_
    have hz:Builtin.Range.rangeSize 0 (k:Int) 1=(k:Int) - (0:Nat):=by refine a0 (rangeSize_nat ..) ?_;lia
    refine a0 hz ?_
    exact Heap.get?_push_size _ rfl
 | str x=>
   revert q
   refine r.str_el fun t q=>?_
   ·cases ha:x.cps.all (· <128)
    ·exact wpAny_pyIter_wide ha (q _ (.wide (aP _ (Heap.get?_push_size _ rfl) rfl rfl)))
    ·exact wpAny_pyIter_ascii ha (q _ (.asc (aP _ (Heap.get?_push_size _ rfl) rfl rfl)))
 | tup ys=>
   revert q
   refine r.tup_el fun b vs ht no rs q=>?_
   exact wpAny_pyIter_tuple ht (q _ (.tup (aP _ (Heap.get?_push_size _ rfl) rfl rfl)))
 | frz ys=>
   revert q
   refine r.frz_el fun b vs ht no rs q=>?_
   exact wpAny_pyIter_list ht (q _ (.frz (aP _ (Heap.get?_push_size _ rfl) rfl rfl)))
 | ref l=>
   refine bR (r.list N e) fun b vs z2 hs rs=>?_;subst z2
   exact wpAny_pyIter_list hs (q _ (.place (aP _ (Heap.get?_push_size _ rfl) rfl rfl)))
 | _=>cases e
theorem lL{A:Around}{φ:aj}{s:Shared}{it:Addr}{v:Value}{a x:a5}{xs:List a5}{i:Nat}{E:Value->Shared->Prop}{Q:Option Value->Shared->Prop}(N:aO W φ V s.heap)(r:aa φ s.heap v a)(I:dD s.heap it a v i)(e:aI V a=some xs)(hx:xs[i]? =some x)
 (q:∀ y h' tk,aa φ s.heap y x->dD h' it a v (i+1)->Heap.SameBut it s.heap h'->Q (some y) {s with heap:=h',toks:=tk}):wpAny (model W.prog W.w) A (pyNext (.ref it)) Q E s:=by
 cases I with
 | frz I=>
   refine bR (r.list N e) fun b vs eb hs rs=>?_
   have eb:=Value.ref.inj eb
   subst eb
   refine a7 (rs.get hx) fun y hy ry=>?_
   exact wpAny_pyNext_list_item I hs (by simpa using hy) fun h' hi sb=>q y h' s.toks ry (.frz hi) sb
 | place I=>
   refine bR (r.list N e) fun b vs eb hs rs=>?_
   have eb:=Value.ref.inj eb
   subst eb
   refine a7 (rs.get hx) fun y hy ry=>?_
   exact wpAny_pyNext_list_item I hs (by simpa using hy) fun h' hi sb=>q y h' s.toks ry (.place hi) sb
 | tup I=>
   cases e
   refine ia r.tup_inv fun b vs eb ht no rs=>?_
   have eb:=Value.ref.inj eb
   subst eb
   ·refine a7 (rs.get hx) fun y hy ry=>?_
    exact wpAny_pyNext_tuple_item I ht (by simpa using hy) fun h' hi sb=>q y h' s.toks ry (.tup hi) sb
 | @rng l k _ I=>
   have e':aL ((List.range k).map Int.ofNat)=xs:=Option.some.inj e
   subst e'
   have lt:i<k:=by have:=(List.getElem?_eq_some_iff.mp hx).1;simpa using this
   have hxv:x=.int (i:Int):=by
    rw[List.getElem?_map,List.getElem?_map,List.getElem?_range lt] at hx
    cases hx;rfl
   subst hxv
   refine wpAny_pyNext_range_item I (by lia) fun h' hi sb=>q _ h' _ (.int _ _) (.rng ?_) sb
   have e1:((i:Int)+1)=((i+1:Nat):Int):=by lia
   have e2:((k:Int) - i - 1)=(k:Int) - ((i+1:Nat):Int):=by lia
   rw[e1,e2] at hi
   exact hi
 | @asc z t _ I=>
   have e':(z.cps.toList.map fun c=>a5.str ⟨#[c]⟩)=xs:=Option.some.inj e
   subst e'
   rw[List.getElem?_map] at hx
   refine a7 (Option.map_eq_some_iff.mp hx) fun c hc z2=>?_;subst z2
   exact wpAny_pyNext_ascii_item I (by simpa using hc) fun h' hi sb=>q _ h' _ (.str _ _) (.asc hi) sb
 | @wide z t _ I=>
   have e':(z.cps.toList.map fun c=>a5.str ⟨#[c]⟩)=xs:=Option.some.inj e
   subst e'
   rw[List.getElem?_map] at hx
   refine a7 (Option.map_eq_some_iff.mp hx) fun c hc z2=>?_;subst z2
   exact wpAny_pyNext_wide_item I (by simpa using hc) fun h' hi sb=>q _ h' _ (.str _ _) (.wide hi) sb
theorem ad.stop{φ:aj}{h:Heap}{vs:Array Value}{xs:List a5}{i:Nat}(rs:ad φ h vs.toList xs)(hx:xs[i]? =none):vs[i]? =none:=
 Array.getElem?_eq_none_iff.mpr (a9 (Nat.le_of_eq (Array.length_toList.symm.trans rs.length)) (List.getElem?_eq_none_iff.mp hx))
theorem om{A:Around}{φ:aj}{s:Shared}{it:Addr}{v:Value}{a:a5}{xs:List a5}{i:Nat}{E:Value->Shared->Prop}{Q:Option Value->Shared->Prop}(hh:A.handled=none)(N:aO W φ V s.heap)(r:aa φ s.heap v a)(I:dD s.heap it a v i)(e:aI V a=some xs)(hx:xs[i]? =none)
 (q:∀ h',Heap.ExtBut it s.heap h'->s.heap.objs.size≤h'.objs.size->Q none {s with heap:=h'}):wpAny (model W.prog W.w) A (pyNext (.ref it)) Q E s:=by
 cases I with
 | frz I=>
   refine bR (r.list N e) fun b vs eb hs rs=>?_
   have eb:=Value.ref.inj eb
   subst eb
   exact aB (wpAny_pyNext_list_end hh I hs (rs.stop hx) fun h' sb gr=>q h' sb gr)
 | place I=>
   refine bR (r.list N e) fun b vs eb hs rs=>?_
   have eb:=Value.ref.inj eb
   subst eb
   exact aB (wpAny_pyNext_list_end hh I hs (rs.stop hx) fun h' sb gr=>q h' sb gr)
 | tup I=>
   cases e
   refine ia r.tup_inv fun b vs eb ht no rs=>?_
   have eb:=Value.ref.inj eb
   subst eb
   ·exact aB (wpAny_pyNext_tuple_end hh I ht (rs.stop hx) fun h' sb gr=>q h' sb gr)
 | @rng l k _ I=>
   have e':aL ((List.range k).map Int.ofNat)=xs:=Option.some.inj e
   subst e'
   rw[List.getElem?_eq_none_iff] at hx
   simp at hx
   exact aB (wpAny_pyNext_range_end hh I (by lia) fun h' sb gr=>q h' sb gr)
 | @asc z t _ I=>
   have e':(z.cps.toList.map fun c=>a5.str ⟨#[c]⟩)=xs:=Option.some.inj e
   subst e'
   exact aB (wpAny_pyNext_ascii_end hh I (by rw[List.getElem?_map] at hx;simpa using hx) fun h' sb gr=>q h' sb gr)
 | @wide z t _ I=>
   have e':(z.cps.toList.map fun c=>a5.str ⟨#[c]⟩)=xs:=Option.some.inj e
   subst e'
   exact aB (wpAny_pyNext_wide_end hh I (by rw[List.getElem?_map] at hx;simpa using hx) fun h' sb gr=>q h' sb gr)
theorem s6{A:Around}{s:Shared}{it:Addr}{v:Value}{a:a5}{i:Nat}{E:Value->Shared->Prop}{Q:Value->Shared->Prop}(I:dD s.heap it a v i)(q:Q (.ref it) s):wpAny (model W.prog W.w) A (pyIter (.ref it)) Q E s:=by
 cases I with
 | frz I=>exact wpAny_pyIter_listiter I q
 | place I=>exact wpAny_pyIter_listiter I q
 | tup I=>exact wpAny_pyIter_tupleiter I q
 | rng I=>exact wpAny_pyIter_rangeiter I q
 | asc I=>exact wpAny_pyIter_striter_ascii I q
 | wide I=>exact wpAny_pyIter_striter_wide I q
end
section
variable{W:Wd}{n:Nat}{sc:ah}{ρ:ai}{V:St}
theorem FX.lt{φ:aj}{h:Heap}{env:Env}(F:az W φ h env sc ρ){b:Addr}(f:FX env b):b<h.objs.size:=let ⟨_,e⟩:=F.there b f;Heap.lt_size e
theorem az.reserve{φ:aj}{h:Heap}{env:Env}(F:az W φ h env sc ρ)(o:Obj):az W (φ.res h.objs.size) (h.push o) env sc ρ:=
 F.map .res (fun b o' Z e=>Heap.get?_push_of_some _ e) fun b f=>(fv.res (o:=o)).own b (FX.lt F f) (F.off b f)
theorem az.release{pl:List (Nat×Nat)}{b:Nat}{rs:List Nat}{h:Heap}{env:Env}(F:az W ⟨pl,b::rs⟩ h env sc ρ):az W ⟨pl,rs⟩ h env sc ρ:=
 F.map (.less rfl fun Z hb=>List.mem_cons_of_mem _ hb) (fun Z Z Z=>id) fun c f x=>F.off c f (x.imp id (List.mem_cons_of_mem _))
theorem az.poke{φ:aj}{h h':Heap}{env:Env}(F:az W φ h env sc ρ)(X:Addr->Prop)(hX:∀ b,X b->b∈φ.rs)(hs:h.objs.size≤h'.objs.size)(k:∀ b o,h.get? b=some o->¬X b->h'.get? b=some o):az W φ h' env sc ρ:=
 F.stepX (.quiet k hs) (fun b Z Z x=>.inl (hX b x)) fun b f x=>F.off b f (.inr (hX b x))
theorem aO.poke{φ:aj}{h h':Heap}(N:aO W φ V h)(X:Addr->Prop)(hX:∀ b,X b->b∈φ.rs)(hs:h.objs.size≤h'.objs.size)(k:∀ b o,h.get? b=some o->¬X b->h'.get? b=some o):aO W φ V h':=
 N.quiet X (fun b Z Z x=>.inl (hX b x)) (fun b p x=>(N.rsOk b (hX b x)).2.2 p) (fun b o e x=>absurd (Heap.lt_size e) (Nat.not_lt.mpr (N.rsOk b (hX b x)).1)) hs k
structure gc(W:Wd)(X:Addr->Prop)(φ₀:aj)(s₀:Shared)(ex:List Nat)(φ:aj)(s:Shared):Prop where
 ext:∃ t:List (Nat×Nat),φ.pl=φ₀.pl++t∧∀ p∈t,s₀.heap.objs.size≤p.1∧s₀.heap.objs.size≤p.2
 rs:φ.rs=ex++φ₀.rs
 exs:∀ b∈ex,s₀.heap.objs.size≤b
 keep:∀ b o,s₀.heap.get? b=some o->¬Pl φ₀ b->¬X b->s.heap.get? b=some o
 size:s₀.heap.objs.size≤s.heap.objs.size
 gens:s.gens=s₀.gens
 os:s.os=s₀.os
theorem gc.refl{X:Addr->Prop}{φ:aj}{s:Shared}:gc W X φ s [] φ s:=⟨(a6 ([]) (by exact(List.append_nil ..).symm) (fun Z h=>nomatch h)),rfl,(fun Z h=>nomatch h),fun Z Z e Z Z=>e,Nat.le_refl _,rfl,rfl⟩
theorem gc.step{X Y:Addr->Prop}{φ₀ φ φ':aj}{s₀ s s':Shared}{ex:List Nat}{V':St}(M:gc W X φ₀ s₀ ex φ s)(E:aq W Y φ s φ' V' s')(hY:∀ b,Y b->X b∨s₀.heap.objs.size≤(b:Nat)):gc W X φ₀ s₀ ex φ' s':=by
 refine a7 M.ext fun t e1 h1=>?_
 refine a7 E.st.ext fun u e2 h2=>?_
 refine⟨(a6 (t++u) (by refine a0 e2 ?_;refine a0 e1 ?_;refine a0 (List.append_assoc ..) ?_;rfl) (fun p hp=>?_)),E.st.rs.trans M.rs,M.exs,fun b o e np nx=>?_,a9 M.size E.st.size,E.gens.trans M.gens,E.os.trans M.os⟩
 ·rcases List.mem_append.mp hp with hp | hp
  ·exact h1 p hp
  ·exact⟨a9 M.size (h2 p hp).1,a9 M.size (h2 p hp).2⟩
 ·refine E.st.keep b o (M.keep b o e np nx) (fun⟨p,hp,q⟩=>?_) (fun y=>(hY b y).elim nx fun z=>absurd (Heap.lt_size e) (Nat.not_lt.mpr z))
  rw[e1] at hp
  rcases List.mem_append.mp hp with hp | hp
  ·exact np (a6 p hp q)
  ·have:=h1 p hp
   have lt:(b:Nat)<s₀.heap.objs.size:=Heap.lt_size e
   rcases q with q | q
   ·rw[← q] at lt;exact absurd lt (Nat.not_lt.mpr this.1)
   ·rw[← q] at lt;exact absurd lt (Nat.not_lt.mpr this.2)
theorem gc.poke{X Y:Addr->Prop}{φ₀ φ:aj}{s₀ s:Shared}{ex:List Nat}{h':Heap}(M:gc W X φ₀ s₀ ex φ s)(hY:∀ b,Y b->b∈ex)(hs:s.heap.objs.size≤h'.objs.size)(k:∀ b o,s.heap.get? b=some o->¬Y b->h'.get? b=some o)(tk:Nat):gc W X φ₀ s₀ ex φ {s with heap:=h',toks:=tk}:=
 ⟨M.ext,M.rs,M.exs,fun b o e np nx=>k b o (M.keep b o e np nx) (fun y=>absurd (Heap.lt_size e) (Nat.not_lt.mpr (M.exs b (hY b y)))),a9 M.size hs,M.gens,M.os⟩
theorem gc.reserve{X:Addr->Prop}{φ₀ φ:aj}{s₀ s:Shared}{ex:List Nat}(M:gc W X φ₀ s₀ ex φ s)(o:Obj)(tk:Nat):gc W X φ₀ s₀ (s.heap.objs.size::ex) (φ.res s.heap.objs.size) {s with heap:=s.heap.push o,toks:=tk}:=
 ⟨M.ext,by show _::φ.rs=_;refine a0 M.rs ?_;rfl,fun b hb=>(List.mem_cons.mp hb).elim (fun e=>e▸M.size) (M.exs b),fun b o e np nx=>Heap.get?_push_of_some _ (M.keep b o e np nx),by show _≤(s.heap.push o).objs.size;refine a0 (Heap.size_push ..) ?_;exact Nat.le_succ_of_le M.size,M.gens,M.os⟩
theorem gc.release{X:Addr->Prop}{φ₀:aj}{s₀ s:Shared}{b:Nat}{ex:List Nat}{pl:List (Nat×Nat)}{rs:List Nat}(M:gc W X φ₀ s₀ (b::ex) ⟨pl,rs⟩ s):∃ rs',rs=b::rs'∧gc W X φ₀ s₀ ex ⟨pl,rs'⟩ s:=
 ⟨ex++φ₀.rs,M.rs,M.ext,rfl,fun c hc=>M.exs c (.tail _ hc),M.keep,M.size,M.gens,M.os⟩
theorem gc.ends{X:Addr->Prop}{φ₀ φ:aj}{s₀ s:Shared}(M:gc W X φ₀ s₀ [] φ s)(N:aO W φ V s.heap):aq W X φ₀ s₀ φ V s:=
 ⟨⟨M.ext,M.rs,M.keep,M.size⟩,N,M.gens,M.os⟩
theorem na.less{φ φ':aj}{h:Heap}{f:Flow}{g:cH}(e:φ'.pl=φ.pl)(l:∀ b∈φ'.rs,b∈φ.rs)(r:na φ h f g):na φ' h f g:=by
 cases r with
 | next=>exact .next
 | brk=>exact .brk
 | cont=>exact .cont
 | ret r=>exact .ret (r.less e l)
noncomputable def n6(W:Wd)(n:Nat)(sc:ah)(target:Expr)(body:List Stmt)(a:a5)(all:List a5)(Q:cH->ai->St->Prop):List a5->ai->St->Prop
 | [],ρ,V=>Q .next ρ V
 | x::xs,ρ,V=>AT W n sc target x ρ V (fun ρ₁ V₁=>df W n sc body ρ₁ V₁ (fun f ρ₂ V₂=>match f with
    | .next | .cont=>aI V₂ a=some all∧n6 W n sc target body a all Q xs ρ₂ V₂
    | .brk=>Q .next ρ₂ V₂
    | .ret v=>Q (.ret v) ρ₂ V₂))
noncomputable def mH(e:Expr):Bool:= !(e.ctorIdx==7)
theorem eI{e:Expr}(h:mH e=true)(env:Env)(x:Value):foldedSetIterable e env x=Pure.pure x:=by
 cases e<;>first | rfl | cases h
theorem nR{A:Around}{s:Shared}{target:Expr}{it:Addr}{a:a5}{v y:Value}{i:Nat}{E:Value->Shared->Prop}{Q:Unit->Shared->Prop}(I:dD s.heap it a v i)(q:Q () s):wpAny (model W.prog W.w) A (letOwnedTupleGo target (.ref it) y) Q E s:=by
 have go:∀ o,s.heap.get? it=some o->(∃ T,o.cls=.type T∧(["enumerate","zip","dict_itemiterator","dict_reverseitemiterator","odict_iterator","itertools.zip_longest","itertools.pairwise"].contains T)=false)->wpAny (model W.prog W.w) A (letOwnedTupleGo target (.ref it) y) Q E s:=by
  rintro⟨oc,od,oda,os⟩ ho ⟨T,hT,hc⟩
  simp only at hT
  subst hT
  have main:wpAny (model W.prog W.w) A (do
   let (.ref r,.ref a):=(Value.ref it,y) | return
   let o ← load r
   match o.cls,o.data with
   | .type n,.fields vs=>
     if["enumerate","zip","dict_itemiterator","dict_reverseitemiterator","odict_iterator","itertools.zip_longest","itertools.pairwise"].contains n&&vs[0]? ==some (rawInt a)then
      rule "for.unpacks-the-owned-tuple"
      updateField r 0 .none
   | _,_=>Pure.pure ()) Q E s:=by
   cases y with
   | ref a=>
     refine wpAny_bind (wpAny_load ho ?_)
     cases oda with
     | fields vs=>dsimp only;refine a0 hc ?_;refine a0 (Bool.false_and ..) ?_;refine a0 (if_neg (by decide)) ?_;exact wpAny_pure q
     | _=>exact wpAny_pure q
   | _=>exact wpAny_pure q
  cases target<;>first | exact main | exact wpAny_pure q
 cases I with
 | frz x=>refine bw x fun o e c Z=>?_;exact go o e (a6 _ c (by decide))
 | place x=>refine bw x fun o e c Z=>?_;exact go o e (a6 _ c (by decide))
 | tup x=>refine bw x fun o e c Z=>?_;exact go o e (a6 _ c (by decide))
 | rng y=>exact go _ y (a6 _ rfl (by decide))
 | asc x=>refine bw x fun o e c Z=>?_;exact go o e (a6 _ c (by decide))
 | wide x=>refine bw x fun o e c Z=>?_;exact go o e (a6 _ c (by decide))
structure wy(W:Wd)(sc:ah)(env:Env)(it:Nat)(φ₁:aj)(s₁:Shared)(v:Value)(a:a5)(m:Nat)(φ:aj)(V:St)(ρ:ai)(s:Shared):Prop where
 M:gc W (FX env) φ₁ s₁ [it] φ s
 N:aO W φ V s.heap
 F:az W φ s.heap env sc ρ
 rv:aa φ s.heap v a
 I:dD s.heap it a v m
section
variable{env:Env}{it:Nat}{φ φ₁ φ':aj}{s s₁ s':Shared}{v:Value}{a:a5}{m:Nat}{V':St}{ρ':ai}
theorem wy.mem(C:wy W sc env it φ₁ s₁ v a m φ V ρ s):it∈φ.rs:=C.M.rs▸.head _
theorem wy.poke(C:wy W sc env it φ₁ s₁ v a m φ V ρ s){h':Heap}(tk:Nat)(gr:s.heap.objs.size≤h'.objs.size)(k':∀ b o,s.heap.get? b=some o->¬b=it->h'.get? b=some o){m':Nat}(I:dD h' it a v m'):wy W sc env it φ₁ s₁ v a m' φ V ρ {s with heap:=h',toks:=tk}:=
 have hin:∀ b,b=it->b∈φ.rs:=fun b hb=>hb▸C.mem
 ⟨C.M.poke (Y:=fun b=>b=it) (fun b hb=>hb▸.head _) gr k' tk,C.N.poke _ hin gr k',C.F.poke _ hin gr k',C.rv.step (.quiet k' gr) fun b Z Z hb=>.inl (hin b hb),I⟩
theorem wy.step(C:wy W sc env it φ₁ s₁ v a m φ V ρ s)(E:aq W (FX env) φ s φ' V' s')(F':az W φ' s'.heap env sc ρ'):wy W sc env it φ₁ s₁ v a m φ' V' ρ' s':=
 ⟨C.M.step E fun b f=>.inl f,E.now,F',C.rv.step E.st C.F.xfree,C.I.keep fun o e=>E.st.keep _ o e (C.N.rsOk _ C.mem).2.2 fun f=>C.F.off _ f (.inr C.mem)⟩
theorem gc.fin{Q:cH->ai->St->Prop}(M:gc W (FX env) φ₁ s₁ [it] φ s)(N:aO W φ V s.heap)(F:az W φ s.heap env sc ρ){f:Flow}{g:cH}(rf:na φ s.heap f g)(q:Q g ρ V):wX W env sc φ₁ s₁ Q f s:=by
 obtain⟨pl,rs⟩:=φ
 refine a7 M.release fun rs' z1 M'=>?_;subst z1
 exact⟨⟨pl,rs'⟩,V,ρ,g,M'.ends N.release,F.release,rf.less (φ:=⟨pl,it::rs'⟩) (φ':=⟨pl,rs'⟩) rfl (fun Z hb=>.tail _ hb),q⟩
end
inductive zN(W:Wd)(n:Nat)(sc:ah)(env:Env)(it:Nat)(φ₁:aj)(s₁:Shared)(v:Value)(target:Expr)(body:List Stmt)(a:a5)(xs:List a5)(Q:cH->ai->St->Prop)(k:Nat)(s:Shared):Prop
 | mk (m:Nat) (φ:aj) (V:St) (ρ:ai) (hk:k+m=xs.length) (C:wy W sc env it φ₁ s₁ v a m φ V ρ s) (hx:aI V a=some xs) (q:n6 W n sc target body a xs Q (xs.drop m) ρ V)
theorem lR{α:Type}{l:List α}{m:Nat}(h:l[m]? =none):l.drop m=[]:=List.drop_eq_nil_iff.mpr (List.getElem?_eq_none_iff.mp h)
theorem fN{α:Type}{l:List α}{m:Nat}{x:α}(h:l[m]? =some x):m<l.length∧l.drop m=x::l.drop (m+1):=
 have ⟨lt,e⟩:=List.getElem?_eq_some_iff.mp h
 ⟨lt,e▸List.drop_eq_getElem_cons lt⟩
theorem jA{k m l:Nat}(hk:k+m=l)(h:m<l):k - 1<k∧k - 1+(m+1)=l:=by lia
set_option tactic.hygienic true in
theorem xK{target iter:Expr}{body:List Stmt}{pos:Pos}{Q:cH->ai->St->Prop}
 (h:ET W n sc iter ρ V (fun a V'=>∃ xs,aI V' a=some xs∧n6 W n sc target body a xs Q xs ρ V'))(hs:mH iter=true:=by rfl):ST W n sc (.For target iter body [] pos) ρ V Q:=by
 intro A env φ₀ s₀ R N₀ F₀
 refine a0 (arm_exec_For ..) ?_
 refine wpAny_bind (wpAny_standAt ?_)
 refine d9.bind ((h A env φ₀ s₀ R N₀ F₀).inS F₀) fun v φ₁ V₁ ρ₁ s₁ a E₁ F₁ ra q=>?_
 obtain⟨rfl,xs,hx,q⟩:=q
 rw[eI hs]
 refine wpAny_bind (wpAny_pure (wpAny_bind (wpAny_standAt ?_)))
 refine wpAny_bind (wpAny_holding (jV E₁.now ra hx fun o I=>?_))
 refine wpAny_runOwn (codeAny_forLoop_any (zN W n sc env s₁.heap.objs.size φ₁ s₁ v target body a xs Q) (fun k s hI=>?_) xs.length ⟨0,φ₁.res s₁.heap.objs.size,V₁,ρ₁,rfl,⟨gc.refl.reserve o s₁.toks,E₁.now.reserve,F₁.reserve o,ra.map .res,I⟩,hx,q⟩)
 obtain⟨m,φ,V,ρ',hk,C,hx,q⟩:=hI
 cases hd:xs[m]? with
 | none=>
   rw[lR hd] at q
   exact om R.mark.handled C.N C.rv C.I hx hd fun h' sb gr=>
    have k':∀ b o,s.heap.get? b=some o->¬b=s₁.heap.objs.size->h'.get? b=some o:=fun b o e ne=>sb b o ne e
    have hin:∀ b,b=s₁.heap.objs.size->b∈φ.rs:=fun b hb=>hb▸C.mem
    wpAny_pure ((C.M.poke (Y:=fun b=>b=s₁.heap.objs.size) (fun b hb=>hb▸.head _) gr k' s.toks).fin (C.N.poke _ hin gr k') (C.F.poke _ hin gr k') .next q)
 | some x=>
   rw[(fN hd).2] at q
   have k1:=jA hk (fN hd).1
   refine lL C.N C.rv C.I hx hd fun y h' tk ry I' sb=>nR (s:={s with heap:=h',toks:=tk}) I' ?_
   have gr:s.heap.objs.size≤h'.objs.size:=Nat.le_of_eq sb.1.symm
   have k':∀ b o,s.heap.get? b=some o->¬b=s₁.heap.objs.size->h'.get? b=some o:=fun b o e ne=>(sb.2 b ne).trans e
   replace ry:=ry.step (.quiet k' gr) fun b Z Z hb=>.inl (hb▸C.mem)
   replace C:=C.poke tk gr k' I'
   refine wpAny_mono (q (A.mark none) env φ _ y R.mark C.N C.F ry) (fun Z s₂ h₂=>?_) fun Z Z z=>z.elim
   obtain⟨φ₂,V₂,ρ₂,_,E₂,F₂,_,q⟩:=h₂
   refine wpAny_mono (q (A.mark none) env φ₂ s₂ R.mark E₂.now F₂) (fun f s₃ h₃=>?_) fun Z Z z=>z.elim
   obtain⟨φ₃,V₃,ρ₃,g,E₃,F₃,rf,q⟩:=h₃
   replace C:=C.step (E₂.trans E₃) F₃
   cases rf with
   | next=>exact⟨k - 1,k1.1,m+1,φ₃,V₃,ρ₃,k1.2,C,q.1,q.2⟩
   | cont=>exact⟨k - 1,k1.1,m+1,φ₃,V₃,ρ₃,k1.2,C,q.1,q.2⟩
   | brk=>exact C.M.fin C.N C.F .next q
   | ret r=>exact C.M.fin C.N C.F (.ret r) q
end
section
variable{W:Wd}{n:Nat}{sc:ah}{ρ:ai}{V:St}
inductive aY where
 | list (elt:Expr)
 | dict (k v:Expr)
noncomputable def aY.expr(c:aY)(gens:List Comprehension)(scope:Scope)(pos:Pos):Expr:=match c with
 | .list elt=>.ListComp elt gens scope pos
 | .dict k v=>.DictComp k v gens scope pos
noncomputable def p7(W:Wd)(n:Nat)(sc:ah):List Expr->ai->St->(Bool->St->Prop)->Prop
 | [],_,V,Q=>Q true V
 | c::cs,ρ,V,Q=>BT W n sc c ρ V (fun b V'=>if b=true then p7 W n sc cs ρ V' Q else Q false V')
noncomputable def xa(W:Wd)(n:Nat)(sc:ah):aY->af->ai->St->(af->St->Prop)->Prop
 | .list elt,acc,ρ,V,Q=>∃ xs,acc=.list xs∧xs.length≤1000000∧ET W n sc elt ρ V (fun v V'=>Q (.list (xs++[v])) V')
 | .dict k v,acc,ρ,V,Q=>∃ es,acc=.idict es∧es.length≤1000000∧ET W n sc k ρ V (fun kv V₁=>∃ i,kv=.int i∧ET W n sc v ρ V₁ (fun vv V₂=>Q (.idict (cX es i vv)) V₂))
noncomputable def kB(body:a5->af->ai->St->(af->ai->St->Prop)->Prop)(st:St->Prop):List a5->af->ai->St->(af->ai->St->Prop)->Prop
 | [],acc,ρ,V,Q=>Q acc ρ V
 | x::xs,acc,ρ,V,Q=>body x acc ρ V (fun acc' ρ' V'=>st V'∧kB body st xs acc' ρ' V' Q)
noncomputable def dt:Expr->Option Str
 | .Name x _=>some x
 | _=>none
noncomputable def kH(W:Wd)(n:Nat)(sc:ah)(c:aY):List Comprehension->af->ai->St->(af->ai->St->Prop)->Prop
 | [],acc,ρ,V,Q=>xa W n sc c acc ρ V (fun acc' V'=>Q acc' ρ V')
 | g::gs,acc,ρ,V,Q=>ET W n sc g.iter ρ V (fun a V'=>∃ ys,aI V' a=some ys∧kB (fun x acc ρ V Q=>∃ nm,dt g.target=some nm∧p7 W n sc g.ifs (aJ ρ nm x) V (fun ok V₂=>if ok=true then kH W n sc c gs acc (aJ ρ nm x) V₂ Q else Q acc (aJ ρ nm x) V₂))
    (fun V=>aI V a=some ys) ys acc ρ V' Q)
noncomputable abbrev qV(W:Wd)(n:Nat)(sc:ah)(c:aY)(g:Comprehension)(gs:List Comprehension)(x:a5)(acc:af)(ρ:ai)(V:St)(Q:af->ai->St->Prop):Prop:=
 ∃ nm,dt g.target=some nm∧p7 W n sc g.ifs (aJ ρ nm x) V (fun ok V₂=>if ok=true then kH W n sc c gs acc (aJ ρ nm x) V₂ Q else Q acc (aJ ρ nm x) V₂)
noncomputable def i7(sc:ah)(g:Comprehension):Bool:=g.is_async==0&&mH g.iter&&(match dt g.target with | some x=>sc.lookup x==some .local | none=>false)
noncomputable def XC(env:Env)(D:Nat)(b:Addr):Prop:=b=env.locals∨b=D
inductive dL(W:Wd)(env:Env)(sc:ah)(D:Nat)(X:Addr->Prop)(φ:aj)(s:Shared)(Q:af->ai->St->Prop)(s':Shared):Prop
 | mk (φ':aj) (V':St) (ρ':ai) (acc':af) (e:aq W X φ s φ' V' s') (f:az W φ' s'.heap env sc ρ') (r:bp W φ' s'.heap (D,D) acc') (q:Q acc' ρ' V'):dL W env sc D X φ s Q s'
theorem aq.mono{X Y:Addr->Prop}{φ φ':aj}{s s':Shared}{V':St}(E:aq W X φ s φ' V' s')(h:∀ b,X b->Y b):aq W Y φ s φ' V' s':=⟨E.st.mono h,E.now,E.gens,E.os⟩
theorem dL.mono{env:Env}{D:Nat}{X Y:Addr->Prop}{φ φ₁:aj}{s s₁ s':Shared}{V₁:St}{Q:af->ai->St->Prop}(E:aq W Y φ s φ₁ V₁ s₁)(hX:∀ b,X b->Y b)(h:dL W env sc D X φ₁ s₁ Q s'):dL W env sc D Y φ s Q s':=by
 obtain⟨φ',V',ρ',acc',E',F',O',q⟩:=h
 exact⟨φ',V',ρ',acc',E.trans (E'.mono hX),F',O',q⟩
theorem vS{A:Around}{env:Env}{φ:aj}{s:Shared}(R:bz n A):∀ {ifs:List Expr} {ρ:ai} {V:St} {φ:aj} {s:Shared} {Q:Bool->St->Prop},aO W φ V s.heap->az W φ s.heap env sc ρ->p7 W n sc ifs ρ V Q->
 wpAny (model W.prog W.w) A (forIn ifs true fun c r=>if r=true then do let ok ← isTrue c env (eval c env);Pure.pure (ForInStep.yield ok)else Pure.pure (ForInStep.yield r)) (fun b s'=>∃ φ' V',aq W (fun Z=>False) φ s φ' V' s'∧Q b V') (fun Z Z=>False) s:=by
 have stuck:∀ (l:List Expr) (s:Shared) (P:Bool->Shared->Prop),P false s->wpAny (model W.prog W.w) A (forIn l false fun c r=>if r=true then do let ok ← isTrue c env (eval c env);Pure.pure (ForInStep.yield ok)else Pure.pure (ForInStep.yield r)) P (fun Z Z=>False) s:=by
  intro l
  induction l with
  | nil=>intro s P h;exact wpAny_pure h
  | cons c cs ih=>
    intro s P h
    refine a0 (List.forIn_cons ..) ?_
    refine wpAny_bind ?_
    refine a0 (if_neg (by decide)) ?_
    exact wpAny_pure (ih s P h)
 intro ifs
 induction ifs with
 | nil=>intro ρ V φ s Q N F h;exact wpAny_pure (cN φ V ⟨.refl,N,rfl,rfl⟩ h)
 | cons c cs ih=>
   intro ρ V φ s Q N F h
   refine a0 (List.forIn_cons ..) ?_
   refine wpAny_bind ?_
   refine a0 (if_pos rfl) ?_
   refine wpAny_bind (wpAny_mono (h A env φ s R N F) (fun b s₁ h₁=>?_) fun Z Z z=>z)
   obtain⟨φ₁,V₁,b',E₁,rfl,q⟩:=h₁
   refine wpAny_pure ?_
   cases b with
   | true=>
     refine wpAny_mono (ih E₁.now (F.step E₁.st) q) (fun b s₂ h₂=>?_) fun Z Z z=>z
     refine cW h₂ fun φ₂ V₂ E₂ q=>?_
     exact cN φ₂ V₂ (E₁.trans E₂) q
   | false=>exact stuck cs s₁ _ (cN φ₁ V₁ E₁ q)
noncomputable def aY.emit(c:aY)(acc:Value)(env:Env):Sem Unit:=match c with
 | .list elt=>do let _ ← call (.builtin "list.append") [acc,← eval elt env]
 | .dict k v=>do
   let kv ← eval k env
   let vv ← PySem.holding [kv] (eval v env)
   match acc with
   | .ref d=>do
     standAt {k.pos with endLine:=v.pos.endLine,endCol:=v.pos.endCol}
     PySem.holding [kv,vv] (dictSet d kv vv)
   | _=>unsupported "internal:dictcomp"
theorem ur{A:Around}{env:Env}{c:aY}{D:Nat}{φ:aj}{s:Shared}{acc:af}{Q:af->ai->St->Prop}(R:bz n A)(N:aO W φ V s.heap)(F:az W φ s.heap env sc ρ)(hD:D∈φ.rs)(O:bp W φ s.heap (D,D) acc)
 (h:xa W n sc c acc ρ V (fun acc' V'=>Q acc' ρ V')):wpAny (model W.prog W.w) A (c.emit (.ref D) env) (fun Z s'=>dL W env sc D (XC env D) φ s Q s') (fun Z Z=>False) s:=by
 have step:∀ {φ₁:aj} {V₁:St} {s₁:Shared},aq W (fun Z=>False) φ s φ₁ V₁ s₁->az W φ₁ s₁.heap env sc ρ∧D∈φ₁.rs∧bp W φ₁ s₁.heap (D,D) acc:=by
  intro φ₁ V₁ s₁ E₁
  have nD:¬Pl φ D:=(N.rsOk D hD).2.2
  exact i3 (F.step E₁.st) (by refine a0 E₁.st.rs ?_;exact hD) (O.step E₁.st (ae _ _) (fun o e=>E₁.st.keep _ o e nD fun x=>x) (fun o e=>E₁.st.keep _ o e nD fun x=>x))
 have fin:∀ {φ₁:aj} {V₁:St} {s₁:Shared} {h':Heap} {tk:Nat} {acc':af},aq W (fun Z=>False) φ s φ₁ V₁ s₁->Heap.SameBut D s₁.heap h'->(b6 (fun b=>b=D) φ₁ s₁.heap φ₁ h'->bp W φ₁ h' (D,D) acc')->Q acc' ρ V₁->dL W env sc D (XC env D) φ s Q {s₁ with heap:=h',toks:=tk}:=by
  intro φ₁ V₁ s₁ h' tk acc' E₁ sb O' q
  refine a3 (step E₁) fun F₁ hD₁ Z=>?_
  have gr:s₁.heap.objs.size≤h'.objs.size:=Nat.le_of_eq sb.1.symm
  have k':∀ b o,s₁.heap.get? b=some o->¬b=D->h'.get? b=some o:=fun b o e ne=>(sb.2 b ne).trans e
  have E':aq W (fun b=>b=D) φ₁ s₁ φ₁ V₁ {s₁ with heap:=h',toks:=tk}:=⟨.quiet k' gr,E₁.now.poke _ (fun b hb=>by refine a0 hb ?_;exact hD₁) gr k',rfl,rfl⟩
  exact⟨φ₁,V₁,ρ,acc',(E₁.mono (fun Z x=>x.elim)).trans (E'.mono fun b x=>.inr x),F₁.poke _ (fun b hb=>by refine a0 hb ?_;exact hD₁) gr k',O' E'.st,q⟩
 cases c with
 | list elt=>
   refine bw h ?_;clear h;intro xs z1 hl h;subst z1
   refine wpAny_bind (wpAny_mono (h A env φ s R N F) (fun v s₁ h₁=>?_) fun Z Z z=>z)
   obtain⟨φ₁,V₁,x,E₁,rv,q⟩:=h₁
   refine a3 (step E₁) fun F₁ hD₁ O₁=>?_
   cases O₁ with
   | @list us k _ g _ rs=>
     refine wpAny_bind (wpAny_list_append_plain (hsz:=by refine a0 List.size_toArray ?_;refine a0 rs.length ?_;refine a0 sizeLine_eq ?_;exact a9 hl (by decide)) ⟨k,g⟩ fun h' hl' sb=>wpAny_pure ?_)
     refine aH hl' fun k' g'=>?_
     refine fin (tk:=s₁.toks) E₁ sb (fun S=>?_) q
     have xf:c9 (fun b=>b=D) φ₁ s₁.heap:=fun b Z Z hb=>.inl (by refine a0 hb ?_;exact hD₁)
     exact .list (vs:=us++[v]) (by simpa using g') rfl ((rs.append (.cons rv .nil)).step S xf)
 | dict k v=>
   refine bw h ?_;clear h;intro es z1 hl h;subst z1
   refine wpAny_bind (wpAny_mono (h A env φ s R N F) (fun kv s₁ h₁=>?_) fun Z Z z=>z)
   obtain⟨φ₁,V₁,x,E₁,rv,i,rfl,h⟩:=h₁
   refine wpAny_bind (wpAny_holding (wpAny_mono (h A env φ₁ s₁ R E₁.now (F.step E₁.st)) (fun vv s₂ h₂=>?_) fun Z Z z=>z))
   obtain⟨φ₂,V₂,y,E₂,rv',q⟩:=h₂
   have E12:=E₁.trans E₂
   refine a3 (step E12) fun F₂ hD₂ O₂=>?_
   cases rv
   cases O₂ with
   | idict g _ rs=>
     refine wpAny_bind (wpAny_standAt (wpAny_holding ?_))
     refine wpAny_dictSet_pairs (knd:=intKind W.prog W.w) (k:=i) (hsz:=by refine a0 rs.length ?_;refine a0 sizeLine_eq ?_;exact a9 hl (by decide)) (by exact decide_eq_true rfl) g fun h' hm sb=>?_
     refine fin (tk:=s₂.toks+1) E12 sb (fun S=>?_) q
     have xf:c9 (fun b=>b=D) φ₂ s₂.heap:=fun b Z Z hb=>.inl (by refine a0 hb ?_;exact hD₂)
     exact .idict hm rfl ((rs.step S xf).put (rv'.step S xf))
theorem aa.reserve{φ:aj}{h:Heap}{v:Value}{a:a5}(o:Obj)(rv:aa φ h v a):aa (φ.res h.objs.size) (h.push o) v a:=rv.map .res
theorem bp.reserve{φ:aj}{h:Heap}{D:Nat}{acc:af}(o:Obj)(O:bp W φ h (D,D) acc):bp W (φ.res h.objs.size) (h.push o) (D,D) acc:=O.map .res (fun Z e=>Heap.get?_push_of_some _ e) fun Z e=>Heap.get?_push_of_some _ e
end
section
variable{W:Wd}{n:Nat}{sc:ah}{ρ:ai}{V:St}
noncomputable def cM(c:aY)(gens:List Comprehension)(scope:Scope)(pos:Pos)(depth:Nat)(acc:Value)(env:Env):Sem Unit:=
 match gens[depth]? with
 | some g'=>do
   let x ← eval g'.iter env
   standAt g'.iter.pos
   let x ← foldedSetIterable g'.iter env x
   let _ ← runOwn (.compStart (c.expr gens scope pos) depth (← PySem.holding [x] (pyIter x)) acc env) env
 | none=>c.emit acc env
theorem vh(c:aY)(gens:List Comprehension)(scope:Scope)(pos:Pos)(depth:Nat)(it acc:Value)(env:Env)(g:Comprehension)(hg:gens[depth]? =some g)(ha:g.is_async=0)(hn:∀ g',gens[depth+1]? =some g'->g'.is_async=0):
 compTurn (c.expr gens scope pos) depth it acc env=(do
  standAt g.iter.pos
  match ← pyNext it with
  | none=>Pure.pure (.done .next)
  | some v=>do
    letOwnedTupleGo g.target it v
    assign g.target env v
    let ok ← forIn g.ifs true fun c r=>if r=true then do let ok ← isTrue c env (eval c env);Pure.pure (ForInStep.yield ok)else Pure.pure (ForInStep.yield r)
    if ok=true then cM c gens scope pos (depth+1) acc env
    again (.compLoop (c.expr gens scope pos) depth it acc env)):=by
 have h0:(g.is_async != 0)=false:=by refine a0 ha ?_;rfl
 cases c with
 | list elt=>
   unfold compTurn aY.expr
   dsimp only
   refine a0 hg ?_
   dsimp only
   refine a0 h0 ?_
   simp only[Bool.false_eq_true,if_false]
   refine bind_congr fun Z=>bind_congr fun r=>?_
   cases r with
   | none=>rfl
   | some v=>
     refine bind_congr fun Z=>bind_congr fun Z=>bind_congr fun ok=>?_
     cases ok with
     | false=>rfl
     | true=>
       simp only[if_true]
       unfold cM aY.emit aY.expr
       cases hg':gens[depth+1]? with
       | none=>simp only[bind_assoc]
       | some g'=>
         have h1:(g'.is_async != 0)=false:=by refine a0 (hn g' hg') ?_;rfl
         simp only[h1,Bool.false_eq_true,if_false,bind_assoc,pure_bind]
 | dict k v=>
   unfold compTurn aY.expr
   dsimp only
   refine a0 hg ?_
   dsimp only
   refine a0 h0 ?_
   simp only[Bool.false_eq_true,if_false]
   refine bind_congr fun Z=>bind_congr fun r=>?_
   cases r with
   | none=>rfl
   | some v=>
     refine bind_congr fun Z=>bind_congr fun Z=>bind_congr fun ok=>?_
     cases ok with
     | false=>rfl
     | true=>
       simp only[if_true]
       unfold cM aY.emit aY.expr
       cases hg':gens[depth+1]? with
       | none=>simp only[bind_assoc];rfl
       | some g'=>
         have h1:(g'.is_async != 0)=false:=by refine a0 (hn g' hg') ?_;rfl
         simp only[h1,Bool.false_eq_true,if_false,bind_assoc,pure_bind]
theorem aY.loop_quiet(c:aY)(gens:List Comprehension)(scope:Scope)(pos:Pos)(depth:Nat)(it acc:Value)(env:Env):(Code.compLoop (c.expr gens scope pos) depth it acc env).quiet=true:=by cases c<;>rfl
structure sW(W:Wd)(sc:ah)(env:Env)(D it:Nat)(φ:aj)(s:Shared)(v:Value)(a:a5)(m:Nat)(acc:af)(φ':aj)(V':St)(ρ':ai)(s':Shared):Prop where
 E:aq W (fun b=>XC env D b∨b=it) φ s φ' V' s'
 F:az W φ' s'.heap env sc ρ'
 hD:D∈φ'.rs
 hI:it∈φ'.rs
 O:bp W φ' s'.heap (D,D) acc
 rv:aa φ' s'.heap v a
 I:dD s'.heap it a v m
section
variable{W:Wd}{sc:ah}{env:Env}{D it:Nat}{φ φ' φ'':aj}{s s' s'':Shared}{v:Value}{a:a5}{m:Nat}{acc:af}{V' V'':St}{ρ' ρ'':ai}
theorem sW.pokeI(C:sW W sc env D it φ s v a m acc φ' V' ρ' s')(hne:it≠D){h₁:Heap}{tk:Tok}(gr:s'.heap.objs.size≤h₁.objs.size)(k':∀ b o,s'.heap.get? b=some o->¬b=it->h₁.get? b=some o){m':Nat}(I:dD h₁ it a v m'):sW W sc env D it φ s v a m' acc φ' V' ρ' {s' with heap:=h₁,toks:=tk}:=
 have hin:∀ b,b=it->b∈φ'.rs:=fun b hb=>hb▸C.hI
 have E₁:aq W (fun b=>b=it) φ' s' φ' V' {s' with heap:=h₁,toks:=tk}:=⟨.quiet k' gr,C.E.now.poke _ hin gr k',rfl,rfl⟩
 have xf:c9 (fun b=>b=it) φ' s'.heap:=fun b Z Z hb=>.inl (hin b hb)
 ⟨C.E.trans (E₁.mono fun b x=>.inr x),C.F.poke _ hin gr k',C.hD,C.hI,C.O.step E₁.st xf (fun o e=>k' _ o e hne.symm) (fun o e=>k' _ o e hne.symm),C.rv.step E₁.st xf,I⟩
theorem sW.local(C:sW W sc env D it φ s v a m acc φ' V' ρ' s')(E₂:aq W (fun b=>b=env.locals) φ' s' φ' V' s'')(F₂:az W φ' s''.heap env sc ρ''):sW W sc env D it φ s v a m acc φ' V' ρ'' s'':=
 have xl:c9 (fun b=>b=env.locals) φ' s'.heap:=fun b o e hb=>(C.F.free.any φ') b o e (.inl hb)
 have lD:D≠env.locals:=fun e=>C.F.off _ (.inl rfl) (.inr (e▸C.hD))
 have lI:it≠env.locals:=fun e=>C.F.off _ (.inl rfl) (.inr (e▸C.hI))
 have nD:¬Pl φ' D:=(C.E.now.rsOk D C.hD).2.2
 have nI:¬Pl φ' it:=(C.E.now.rsOk it C.hI).2.2
 ⟨C.E.trans (E₂.mono fun b x=>.inl (.inl x)),F₂,C.hD,C.hI,C.O.step E₂.st xl (fun o e=>E₂.st.keep _ o e nD lD) (fun o e=>E₂.st.keep _ o e nD lD),C.rv.step E₂.st xl,C.I.keep fun o e=>E₂.st.keep _ o e nI lI⟩
theorem sW.next(C:sW W sc env D it φ s v a m acc φ' V' ρ' s'){X:Addr->Prop}(E₄:aq W X φ' s' φ'' V'' s'')(hX:∀ b,X b->XC env D b)(hne:it≠D)(F₄:az W φ'' s''.heap env sc ρ''){acc':af}(O₄:bp W φ'' s''.heap (D,D) acc'):sW W sc env D it φ s v a m acc' φ'' V'' ρ'' s'':=
 have nI:¬Pl φ' it:=(C.E.now.rsOk it C.hI).2.2
 have nx:¬X it:=fun x=>(hX _ x).elim (fun e=>C.F.off _ (.inl rfl) (.inr (e▸C.hI))) hne
 have xx:c9 X φ' s'.heap:=fun b o e hb=>(hX b hb).elim (fun hb=>(C.F.free.any φ') b o e (.inl hb)) fun hb=>.inl (hb▸C.hD)
 ⟨C.E.trans (E₄.mono fun b x=>.inl (hX b x)),F₄,by refine a0 E₄.st.rs ?_;exact C.hD,by refine a0 E₄.st.rs ?_;exact C.hI,O₄,C.rv.step E₄.st xx,C.I.keep fun o e=>E₄.st.keep _ o e nI nx⟩
theorem sW.step(C:sW W sc env D it φ s v a m acc φ' V' ρ' s')(hne:it≠D)(E₃:aq W (fun Z=>False) φ' s' φ'' V'' s''):sW W sc env D it φ s v a m acc φ'' V'' ρ' s'':=
 have nD:¬Pl φ' D:=(C.E.now.rsOk D C.hD).2.2
 C.next E₃ (fun Z x=>x.elim) hne (C.F.step E₃.st) (C.O.step E₃.st (ae _ _) (fun o e=>E₃.st.keep _ o e nD fun x=>x) (fun o e=>E₃.st.keep _ o e nD fun x=>x))
end
inductive yZ(W:Wd)(n:Nat)(sc:ah)(env:Env)(c:aY)(g:Comprehension)(gs:List Comprehension)(D it:Nat)(φ:aj)(s:Shared)(v:Value)(a:a5)(ys:List a5)(Q:af->ai->St->Prop)(k:Nat)(s':Shared):Prop
 | mk (m:Nat) (φ':aj) (V':St) (ρ':ai) (acc':af) (hk:k+m=ys.length) (C:sW W sc env D it φ s v a m acc' φ' V' ρ' s') (hy:aI V' a=some ys) (h:kB (qV W n sc c g gs) (fun V=>aI V a=some ys) (ys.drop m) acc' ρ' V' Q)
noncomputable def ij(M:Model)(A:Around)(c:Code)(R:Result->Shared->Prop)(I:Nat->Shared->Prop)(k:Nat)(fin:Fin)(s':Shared):Prop:=match fin with
 | .done f=>R (.ok f) s'
 | .again c'=>(c'=c∧∃ m,m<k∧I m s')∨(c'.quiet=true∧codeAny M A c' R s')
theorem ij.done{M:Model}{A:Around}{c:Code}{R:Result->Shared->Prop}{I:Nat->Shared->Prop}{k:Nat}{f:Flow}{s':Shared}(h:R (.ok f) s'):ij M A c R I k (.done f) s':=h
theorem ij.again{M:Model}{A:Around}{c:Code}{R:Result->Shared->Prop}{I:Nat->Shared->Prop}{k:Nat}{s':Shared}(m:Nat)(h:m<k)(hI:I m s'):ij M A c R I k (.again c) s':=.inl ⟨rfl,m,h,hI⟩
theorem l7{M:Model}{A:Around}{s:Shared}{c:Code}{R:Result->Shared->Prop}(hq:c.quiet=true)(I:Nat->Shared->Prop)(turn:∀ n s,I n s->wpAny M (A.under c) (M.den c) (ij M A c R I n) (fun e s'=>R (.error e) s') s)(n:Nat)(h:I n s):codeAny M A c R s:=codeAny_loop' hq I turn n h
theorem vC{nm:Str}{g:Prop}(h:(none:Option Str)=some nm):g:=nomatch h
theorem nW{e:Expr}{nm:Str}(h:dt e=some nm):∃ p,e=.Name nm p:=by
 cases e with
 | Name x p=>exact⟨p,congrArg (Expr.Name · p) (Option.some.inj h)⟩
 | _=>exact vC h
theorem lT{A:Around}{env:Env}{c:aY}{gens:List Comprehension}{scope:Scope}{pos:Pos}{depth:Nat}{g:Comprehension}{gs:List Comprehension}{D it:Nat}(R:bz n A)
 (hg:gens[depth]? =some g)(ok:i7 sc g=true)(hn:∀ g',gens[depth+1]? =some g'->g'.is_async=0)(hne:it≠D)
 (ih:∀ {φ:aj} {V:St} {ρ:ai} {s:Shared} {acc:af} {Q:af->ai->St->Prop},aO W φ V s.heap->az W φ s.heap env sc ρ->D∈φ.rs->bp W φ s.heap (D,D) acc->kH W n sc c gs acc ρ V Q->
  wpAny (model W.prog W.w) A (cM c gens scope pos (depth+1) (.ref D) env) (fun Z s'=>dL W env sc D (XC env D) φ s Q s') (fun Z Z=>False) s)
 {φ:aj} {s:Shared} {acc:af} {v:Value} {a:a5} {ys:List a5} {Q:af->ai->St->Prop} (N:aO W φ V s.heap) (F:az W φ s.heap env sc ρ) (hD:D∈φ.rs) (hI:it∈φ.rs) (O:bp W φ s.heap (D,D) acc) (rv:aa φ s.heap v a)
 (I:dD s.heap it a v 0) (hy:aI V a=some ys) (h:kB (qV W n sc c g gs) (fun V=>aI V a=some ys) ys acc ρ V Q):
 codeAny (model W.prog W.w) A (.compLoop (c.expr gens scope pos) depth (.ref it) (.ref D) env) (fun r s'=>r=.ok .next∧dL W env sc D (fun b=>XC env D b∨b=it) φ s Q s') s:=by
 unfold i7 at ok
 simp only[Bool.and_eq_true,beq_iff_eq] at ok
 refine a2 ok ?_;clear ok;intro z0 hnm;rcases z0 with⟨ha,hs⟩
 refine l7 (c.loop_quiet ..) (yZ W n sc env c g gs D it φ s v a ys Q) (fun k s' hI=>?_) ys.length ⟨0,φ,V,ρ,acc,rfl,⟨⟨.refl,N,rfl,rfl⟩,F,hD,hI,O,rv,I⟩,hy,h⟩
 obtain⟨m,φ',V',ρ',acc',hk,C,hy',h'⟩:=hI
 have tree:wpAny (model W.prog W.w) A (compTurn (c.expr gens scope pos) depth (.ref it) (.ref D) env) (ij (model W.prog W.w) A (.compLoop (c.expr gens scope pos) depth (.ref it) (.ref D) env) (fun r s'=>r=.ok .next∧dL W env sc D (fun b=>XC env D b∨b=it) φ s Q s') (yZ W n sc env c g gs D it φ s v a ys Q) k) (fun Z Z=>False) s':=by
  refine a0 (vh c gens scope pos depth _ _ env g hg ha hn) ?_
  refine wpAny_bind (wpAny_standAt ?_)
  cases hd:ys[m]? with
  | none=>
    rw[lR hd] at h'
    refine wpAny_bind (om R.handled C.E.now C.rv C.I hy' hd fun h₁ sb gr=>?_)
    have k':∀ b o,s'.heap.get? b=some o->¬b=it->h₁.get? b=some o:=fun b o e ne=>sb b o ne e
    have hin:∀ b,b=it->b∈φ'.rs:=fun b hb=>hb▸C.hI
    have E₁:aq W (fun b=>b=it) φ' s' φ' V' {s' with heap:=h₁}:=⟨.quiet k' gr,C.E.now.poke _ hin gr k',rfl,rfl⟩
    exact wpAny_pure (ij.done ⟨rfl,φ',V',ρ',acc',C.E.trans (E₁.mono fun b x=>.inr x),C.F.poke _ hin gr k',C.O.step E₁.st (fun b Z Z hb=>.inl (hin b hb)) (fun o e=>k' _ o e hne.symm) (fun o e=>k' _ o e hne.symm),h'⟩)
  | some x=>
    have k1:=jA hk (fN hd).1
    rw[(fN hd).2] at h'
    refine a7 h' fun nm hnm' h'=>?_
    rw[hnm'] at hnm
    have hloc:sc.lookup nm=some .local:=by simpa using hnm
    refine aH (nW hnm') fun tp ht=>?_
    refine wpAny_bind (lL C.E.now C.rv C.I hy' hd fun y h₁ tk ry I₁ sb=>?_)
    have gr:s'.heap.objs.size≤h₁.objs.size:=Nat.le_of_eq sb.1.symm
    have k':∀ b o,s'.heap.get? b=some o->¬b=it->h₁.get? b=some o:=fun b o e ne=>(sb.2 b ne).trans e
    have S₁:b6 (fun b=>b=it) φ' s'.heap φ' h₁:=.quiet k' gr
    have ry₁:=ry.step S₁ fun b Z Z hb=>.inl (hb▸C.hI)
    replace C:=C.pokeI hne (tk:=tk) gr k' I₁
    refine wpAny_bind (nR (s:={s' with heap:=h₁,toks:=tk}) I₁ ?_)
    clear I₁ sb k' ry S₁ gr
    refine a0 ht ?_;refine a0 (arm_assign_Name ..) ?_
    refine wpAny_bind (wpAny_bind (wpAny_standAt ?_))
    unfold bindName
    refine wpAny_bind (wpAny_holding (wpAny_point ?_))
    refine wpAny_bind (jE C.E.now C.F ry₁ hloc fun s₂ E₂ F₂=>wpAny_point ?_)
    replace C:=C.local E₂ F₂
    clear E₂ F₂ ry₁
    refine wpAny_bind (wpAny_mono (vS (s:=s₂) (φ:=φ') R C.E.now C.F h') (fun b s₃ h₃=>?_) fun Z Z z=>z)
    refine cW h₃ fun φ₃ V₃ E₃ q=>?_
    replace C:=C.step hne E₃
    clear E₃
    cases b with
    | false=>
      rw[if_neg (by decide)] at q ⊢
      exact wpAny_pure (ij.again (k - 1) k1.1 ⟨m+1,φ₃,V₃,_,acc',k1.2,C,q.1,q.2⟩)
    | true=>
      rw[if_pos rfl] at q ⊢
      refine wpAny_bind (wpAny_mono (ih C.E.now C.F C.hD C.O q) (fun Z s₄ h₄=>?_) fun Z Z z=>z)
      obtain⟨φ₄,V₄,ρ₄,acc₄,E₄,F₄,O₄,q⟩:=h₄
      exact wpAny_pure (ij.again (k - 1) k1.1 ⟨m+1,φ₄,V₄,ρ₄,acc₄,k1.2,C.next E₄ (fun Z x=>x) hne F₄ O₄,q.1,q.2⟩)
 cases c with
 | list elt=>
   show wpAny _ A ((compTurn ((aY.list elt).expr gens scope pos) depth (.ref it) (.ref D) env).onRaise (fun x=>do noteFrame x env;theTreesLotGoes x)) _ _ s'
   exact wpAny_noted (wpAny_mono tree (fun Z Z z=>z) fun Z Z z=>z.elim)
 | dict k v=>
   show wpAny _ A ((compTurn ((aY.dict k v).expr gens scope pos) depth (.ref it) (.ref D) env).onRaise (fun x=>do noteFrame x env;theTreesLotGoes x)) _ _ s'
   exact wpAny_noted (wpAny_mono tree (fun Z Z z=>z) fun Z Z z=>z.elim)
theorem kt{A:Around}{env:Env}{c:aY}{gens:List Comprehension}{scope:Scope}{pos:Pos}{depth:Nat}{g:Comprehension}{it:Addr}{a:a5}{v:Value}{acc:Value}{P:Result->Shared->Prop}{s:Shared}
 (hg:gens[depth]? =some g)(ha:g.is_async=0)(I:dD s.heap it a v 0)(h:codeAny (model W.prog W.w) A (.compLoop (c.expr gens scope pos) depth (.ref it) acc env) P s):
 codeAny (model W.prog W.w) A (.compStart (c.expr gens scope pos) depth (.ref it) acc env) P s:=by
 have h0:(g.is_async != 0)=false:=by refine a0 ha ?_;rfl
 have tree:∀ E,wpAny (model W.prog W.w) A (compStart (c.expr gens scope pos) depth (.ref it) acc env) (fun fin s''=>match fin with
  | .done f=>P (.ok f) s''
  | .again c'=>c'.quiet=true∧codeAny (model W.prog W.w) A c' P s'') E s:=by
  intro E
  unfold compStart
  have hcl:(clausesOf (c.expr gens scope pos))[depth]? =some g:=by cases c<;>exact hg
  refine a0 hcl ?_
  simp only[Option.elim,h0,Bool.false_eq_true,if_false]
  refine wpAny_bind (wpAny_askSetting (wpAny_ite ?_))
  split
  ·exact wpAny_pure ⟨c.loop_quiet ..,h⟩
  ·refine wpAny_bind (wpAny_rule (wpAny_bind (wpAny_standAt (wpAny_bind (s6 I (wpAny_pure ⟨c.loop_quiet ..,h⟩))))))
 refine codeAny_of_tree ?_
 cases c with
 | list elt=>
   show wpAny _ _ ((compStart ((aY.list elt).expr gens scope pos) depth (.ref it) acc env).onRaise (fun x=>do noteFrame x env;standAt theWindowsPlace)) _ _ s
   exact wpAny_notedAt (tree _)
 | dict k v=>
   show wpAny _ _ ((compStart ((aY.dict k v).expr gens scope pos) depth (.ref it) acc env).onRaise (fun x=>do noteFrame x env;standAt theWindowsPlace)) _ _ s
   exact wpAny_notedAt (tree _)
end
section
variable{W:Wd}{n:Nat}{sc:ah}{ρ:ai}{V:St}
theorem uu{α:Type}{l:List α}{k:Nat}{x:α}{r:List α}(h:l.drop k=x::r):l[k]? =some x∧l.drop (k+1)=r:=by
 have lt:k<l.length:=by
  refine Classical.byContradiction fun q=>?_
  rw[List.drop_eq_nil_of_le (Nat.le_of_not_lt q)] at h
  cases h
 rw[List.drop_eq_getElem_cons lt] at h
 cases h
 exact⟨List.getElem?_eq_getElem lt,rfl⟩
theorem dL.release{env:Env}{D it:Nat}{φ:aj}{s s':Shared}{o:Obj}{tk:Nat}{Q:af->ai->St->Prop}(N:aO W φ V s.heap)(hit:it=s.heap.objs.size)
 (h:dL W env sc D (fun b=>XC env D b∨b=it) (φ.res s.heap.objs.size) {s with heap:=s.heap.push o,toks:=tk} Q s'):dL W env sc D (XC env D) φ s Q s':=by
 obtain⟨φ',V',ρ',acc',E,F,O,q⟩:=h
 have M:=((gc.refl (W:=W) (X:=XC env D) (φ:=φ) (s:=s)).reserve o tk).step E (fun b x=>x.imp id fun y=>by refine a0 y ?_;refine a0 hit ?_;exact Nat.le_refl _)
 obtain⟨pl,rs⟩:=φ'
 refine a7 M.release fun rs' z1 M'=>?_;subst z1
 refine⟨⟨pl,rs'⟩,V',ρ',acc',M'.ends E.now.release,F.release,O.less (φ:=⟨pl,_::rs'⟩) (φ':=⟨pl,rs'⟩) rfl (fun Z hb=>List.mem_cons_of_mem _ hb),q⟩
theorem q9{env:Env}{c:aY}{gens:List Comprehension}{scope:Scope}{pos:Pos}{D:Nat}:∀ (gs:List Comprehension) (depth:Nat),gens.drop depth=gs->gs.all (i7 sc)=true->
 ∀ {A:Around},bz n A->∀ {φ:aj} {V:St} {ρ:ai} {s:Shared} {acc:af} {Q:af->ai->St->Prop},aO W φ V s.heap->az W φ s.heap env sc ρ->D∈φ.rs->bp W φ s.heap (D,D) acc->kH W n sc c gs acc ρ V Q->
   wpAny (model W.prog W.w) A (cM c gens scope pos depth (.ref D) env) (fun Z s'=>dL W env sc D (XC env D) φ s Q s') (fun Z Z=>False) s:=by
 intro gs
 induction gs with
 | nil=>
   intro depth hd _ A R φ V ρ s acc Q N F hD O h
   have:gens[depth]? =none:=by
    refine bt List.getElem?_eq_none_iff ?_
    exact List.drop_eq_nil_iff.mp hd
   unfold cM
   refine a0 this ?_
   exact ur R N F hD O h
 | cons g gs ih=>
   intro depth hd hok A R φ V ρ s acc Q N F hD O h
   rw[List.all_cons,Bool.and_eq_true] at hok
   refine a2 (uu hd) fun hg hd'=>?_
   have hok1:=hok.1
   unfold i7 at hok1
   simp only[Bool.and_eq_true,beq_iff_eq] at hok1
   have hn:∀ g',gens[depth+1]? =some g'->g'.is_async=0:=by
    intro g' hg'
    have hm:g'∈gs:=by refine aX hd' ?_;exact List.mem_of_getElem? (i:=0) (by refine a0 List.getElem?_drop ?_;simpa using hg')
    have:=List.all_eq_true.mp hok.2 g' hm
    unfold i7 at this
    simp only[Bool.and_eq_true,beq_iff_eq] at this
    exact this.1.1
   unfold cM
   refine a0 hg ?_
   dsimp only
   refine wpAny_bind (wpAny_mono (h A env φ s R N F) (fun v s₁ h₁=>?_) fun Z Z z=>z)
   obtain⟨φ₁,V₁,a,E₁,ra,ys,hy,q⟩:=h₁
   have F₁:=F.step E₁.st
   have nD:¬Pl φ D:=(N.rsOk D hD).2.2
   have hD₁:D∈φ₁.rs:=by refine a0 E₁.st.rs ?_;exact hD
   have O₁:bp W φ₁ s₁.heap (D,D) acc:=O.step E₁.st (ae _ _) (fun o e=>E₁.st.keep _ o e nD fun x=>x) (fun o e=>E₁.st.keep _ o e nD fun x=>x)
   refine wpAny_bind (wpAny_standAt ?_)
   rw[eI hok1.1.2]
   refine wpAny_bind (wpAny_pure ?_)
   refine wpAny_bind (wpAny_holding (jV E₁.now ra hy fun o I=>?_))
   refine wpAny_bind (wpAny_runOwn ?_)
   have lt:D<s₁.heap.objs.size:=(E₁.now.rsOk D hD₁).2.1
   refine kt hg hok1.1.1 I ?_
   refine codeAny_mono (lT (A:=A.mark none) R.mark hg hok.1 hn (Nat.ne_of_gt lt) (fun N F hD O h=>ih (depth+1) hd' hok.2 R.mark N F hD O h) E₁.now.reserve (F₁.reserve o) (List.mem_cons_of_mem _ hD₁) (.head _) (O₁.reserve o) (ra.reserve o) I hy q) fun r s₂ hr=>?_
   refine a2 hr ?_;clear hr;intro z0 hr;subst z0
   exact wpAny_pure ((dL.release (tk:=s₁.toks) E₁.now rfl hr).mono (E₁.mono fun Z x=>x.elim) fun Z x=>x)
noncomputable def aw(names sc:ah):ah:=names.map fun(x:Str×NameKind)=>if(x.2== .free&&sc.lookup x.1==some .cell)then(x.1,.cell)else(x.1,x.2)
noncomputable def aR(names sc:ah)(ρ:ai):ai:=ρ.filter fun p=>(aw names sc).lookup p.1 != some .local
noncomputable def ku(scope:Scope):Bool:=scope.kind== .function&&scope.names.all (fun x=>x.2 != .cell&&(x.2 != .local||scope.names.lookup x.1==some .local))
theorem oI{scope:Scope}{env:Env}(h:∀ x∈scope.names,x.2=.free->∃ c,env.cells.lookup x.1=some c):
 ∃ cl,closureFor scope env=Pure.pure cl∧(∀ x∈scope.names,x.2=.free->cl.lookup x.1=env.cells.lookup x.1)∧(∀ x c,cl.lookup x=some c->env.cells.lookup x=some c)∧∀ p∈cl,env.cells.lookup p.1=some p.2:=by
 unfold closureFor
 generalize scope.names=names at h
 have main:∀ (names:ah) (cs:List (Str×Addr)),(∀ x∈names,x.2=NameKind.free->∃ c,env.cells.lookup x.1=some c)->(∀ x c,cs.lookup x=some c->env.cells.lookup x=some c)->(∀ p∈cs,env.cells.lookup p.1=some p.2)->
  ∃ cl,(forIn names cs fun x r=>(match x with | (name,kind)=>if(kind==NameKind.free)=true then do let c ← cellOf env name;Pure.pure (ForInStep.yield ((name,c)::r))else Pure.pure (ForInStep.yield r)):Sem (List (Str×Addr)))=Pure.pure cl∧
    (∀ x∈names,x.2=NameKind.free->cl.lookup x.1=env.cells.lookup x.1)∧(∀ x c,cl.lookup x=some c->env.cells.lookup x=some c)∧(∀ x,(cs.lookup x).isSome=true->cl.lookup x=env.cells.lookup x)∧∀ p∈cl,env.cells.lookup p.1=some p.2:=by
  intro names
  induction names with
  | nil=>
    intro cs _ hc hm
    refine vV cs rfl (fun x hx=>nomatch hx) hc (fun x hx=>?_) hm
    refine aH (Option.isSome_iff_exists.mp hx) fun c e=>?_
    refine a0 e ?_;refine a0 (hc x c e) ?_;rfl
  | cons y r ih=>
    intro cs h hc hm
    obtain⟨nm,kd⟩:=y
    by_cases hk:kd=NameKind.free
    ·subst hk
     refine aH (h _ (.head _) rfl) fun c e=>?_
     have hc':∀ x d,List.lookup x ((nm,c)::cs)=some d->env.cells.lookup x=some d:=by
      intro x d hx
      rw[List.lookup_cons] at hx
      by_cases q:x=nm
      ·subst q;simp at hx;subst hx;exact e
      ·rw[beq_eq_false_iff_ne.mpr q] at hx;exact hc x d hx
     obtain⟨cl,h1,h2,h3,h4,h5⟩:=ih ((nm,c)::cs) (fun x hx=>h x (.tail _ hx)) hc' (fun p hp=>(List.mem_cons.mp hp).elim (fun z=>by refine a0 z ?_;exact e) (hm p))
     refine vV cl ?_ (fun x hx hf=>?_) h3 (fun x hx=>h4 x ?_) h5
     ·refine a0 (List.forIn_cons ..) ?_
      have:cellOf env nm=Pure.pure c:=by unfold cellOf;refine a0 e ?_;rfl
      simp only[beq_self_eq_true,if_true,this,pure_bind]
      exact h1
     ·rcases List.mem_cons.mp hx with rfl | hx
      ·exact h4 _ (by simp[List.lookup_cons])
      ·exact h2 x hx hf
     ·refine a0 List.lookup_cons ?_
      cases x==nm<;>simp[hx]
    ·obtain⟨cl,h1,h2,h3,h4,h5⟩:=ih cs (fun x hx=>h x (.tail _ hx)) hc hm
     refine vV cl ?_ (fun x hx hf=>?_) h3 h4 h5
     ·refine a0 (List.forIn_cons ..) ?_
      have:(kd==NameKind.free)=false:=by simpa using hk
      simp only[this,Bool.false_eq_true,if_false,pure_bind]
      exact h1
     ·rcases List.mem_cons.mp hx with rfl | hx
      ·exact absurd hf hk
      ·exact h2 x hx hf
 obtain⟨cl,h1,h2,h3,_,h5⟩:=main names [] h (fun x c hx=>by cases hx) (fun p hp=>nomatch hp)
 refine fh cl ?_ h2 h3 h5
 simp only[bind_pure]
 exact h1
theorem dJ(names sc:ah)(x:Str)(k:NameKind)(h:(aw names sc).lookup x=some k):(names.lookup x=some k)∨(k=.cell∧names.lookup x=some .free∧sc.lookup x=some .cell):=by
 unfold aw at h
 induction names with
 | nil=>cases h
 | cons y r ih=>
   obtain⟨nm,kd⟩:=y
   rw[List.map_cons] at h
   by_cases hc:(kd== .free&&sc.lookup nm==some .cell)=true
   ·simp only[hc,if_true] at h
    rw[List.lookup_cons] at h ⊢
    by_cases q:x=nm
    ·subst q
     simp only[beq_self_eq_true] at h ⊢
     cases h
     simp only[Bool.and_eq_true,beq_iff_eq] at hc
     exact .inr (i3 rfl (by refine a0 hc.1 ?_;rfl) hc.2)
    ·rw[beq_eq_false_iff_ne.mpr q] at h ⊢;exact ih h
   ·simp only[hc,Bool.false_eq_true,if_false] at h
    rw[List.lookup_cons] at h ⊢
    by_cases q:x=nm
    ·subst q
     simp only[beq_self_eq_true] at h ⊢
     exact .inl h
    ·rw[beq_eq_false_iff_ne.mpr q] at h ⊢;exact ih h
theorem kT{φ:aj}{h:Heap}{scope:Scope}{env:Env}(F:az W φ h env sc ρ):(relabel scope env).names=aw scope.names sc:=by
 unfold relabel aw
 dsimp only
 refine List.map_congr_left fun x Z=>?_
 obtain⟨nm,kd⟩:=x
 dsimp only
 have:(env.scope.kind==ScopeKind.function)=true:=by refine a0 F.kind ?_;rfl
 refine a0 this ?_
 unfold Env.kindOf
 refine a0 F.names ?_
 simp
theorem lH{l:ah}{x:Str}{k:NameKind}(e:l.lookup x=some k):(x,k)∈l:=by
 induction l with
 | nil=>cases e
 | cons y r ih=>
   obtain⟨a,b⟩:=y
   rw[List.lookup_cons] at e
   by_cases q:x=a
   ·subst q;simp at e;subst e;exact .head _
   ·rw[beq_eq_false_iff_ne.mpr q] at e;exact .tail _ (ih e)
theorem g9{l:ai}{f:Str->Bool}{x:Str}{a:a5}(h:(l.filter fun p=>f p.1).lookup x=some a):l.lookup x=some a∧f x=true:=by
 induction l with
 | nil=>cases h
 | cons y r ih=>
   obtain⟨k,v⟩:=y
   rw[List.filter_cons] at h
   refine a0 List.lookup_cons ?_
   by_cases hf:f k=true
   ·simp only[hf,if_true] at h
    rw[List.lookup_cons] at h
    by_cases q:x=k
    ·subst q;simp at h ⊢;exact⟨h,hf⟩
    ·rw[beq_eq_false_iff_ne.mpr q] at h ⊢;exact ih h
   ·simp only[hf] at h
    have h':=ih h
    by_cases q:x=k
    ·subst q;exact absurd h'.2 hf
    ·refine a0 (beq_eq_false_iff_ne.mpr q) ?_;exact h'
theorem az.child{φ:aj}{h h':Heap}{scope:Scope}{env:Env}{cl:List (Str×Addr)}{C:Addr}(F:az W φ h env sc ρ)(N:aO W φ V h)(hC:h.objs.size=C)(hn:h'.Ns C (fun Z=>none))(k:∀ b o,h.get? b=some o->h'.get? b=some o)(hs:h.objs.size≤h'.objs.size)
 (ok:ku scope=true)(h2:∀ x∈scope.names,x.2=.free->cl.lookup x.1=env.cells.lookup x.1)(h3:∀ x c,cl.lookup x=some c->env.cells.lookup x=some c)(h5:∀ p∈cl,env.cells.lookup p.1=some p.2)
 (hfree:∀ x∈scope.names,x.2=.free->sc.lookup x.1=some .cell∨sc.lookup x.1=some .free):
 az W φ h' (compEnvC scope cl C env) (aw scope.names sc) (aR scope.names sc ρ):=by
 have S:dB φ h φ h':=.quiet (fun b o e Z=>k b o e) hs
 unfold ku at ok
 rw[Bool.and_eq_true] at ok
 have ok2:=List.all_eq_true.mp ok.2
 have fx:∀ b,FX (compEnvC scope cl C env) b->b=C∨FX env b:=by
  rintro b (f | ⟨x,hx⟩)
  ·exact .inl f
  ·exact .inr (.of_lookup (h5 _ hx))
 have hCge:∀ b:Nat,dO φ b->b≠C:=fun b x e=>by
  have:=N.ownLt x
  rw[e,← hC] at this
  exact Nat.lt_irrefl _ this
 refine⟨(show scope.kind=_ from by simpa using ok.1),kT F,F.globals,F.builtins,fun b f x=>?_,fun b f=>?_,fun b f=>?_,fun b o e f=>?_,(a6 _ hn (fun x a e1 e2=>?_)),fun x hx=>?_,fun x y c e1 e2=>F.inj x y c (h3 _ _ e1) (h3 _ _ e2)⟩
 ·rcases fx b f with e | f
  ·exact hCge b x e
  ·exact F.off b f x
 ·rcases fx b f with e | f
  ·refine a0 e ?_;refine aX hC ?_;exact N.size
  ·exact F.above b f
 ·rcases fx b f with e | f
  ·obtain⟨o,_,_,e',_⟩:=hn;refine a0 e ?_;exact⟨o,e'⟩
  ·refine aH (F.there b f) fun o e'=>?_;exact⟨o,k _ _ e'⟩
 ·rcases fx b f with q | f
  ·subst q
   obtain⟨o',es,ep,e',d,_⟩:=hn
   rw[e'] at e;cases e
   exact .inr ⟨fun xs k z=>(by rw[d] at z;cases z),fun vs z=>(by rw[d] at z;cases z)⟩
  ·refine aH (F.there b f) fun o2 e2=>?_
   rw[k b o2 e2] at e;cases e
   exact F.free b _ e2 f
 ·have:=(g9 (f:=fun x=>(aw scope.names sc).lookup x != some .local) e2).2
  rw[e1] at this
  simp at this
 ·have hf:scope.names.lookup x=some .free:=by
   rcases hx with hx | hx
   ·rcases dJ _ _ _ _ hx with hx | hx
    ·have:=ok2 _ (lH hx)
     simp at this
    ·exact hx.2.1
   ·rcases dJ _ _ _ _ hx with hx | hx
    ·exact hx
    ·cases hx.1
  have hm:=lH hf
  obtain⟨c,v,e1,ne,⟨o,ho,hd⟩,e3⟩:=F.cells x (hfree _ hm rfl)
  refine jg c v ((h2 _ hm rfl).trans e1) (fun e=>?_) (a6 o (k _ _ ho) hd) (fun a ha=>?_)
  ·have:=Heap.lt_size ho
   have e':c=C:=e
   rw[e',← hC] at this
   exact Nat.lt_irrefl _ this
  ·refine a7 (e3 a (g9 (f:=fun x=>(aw scope.names sc).lookup x != some .local) ha).1) fun u e r=>?_
   exact a6 u e (r.step S (ae _ _))
end
section
variable{W:Wd}{n:Nat}{sc:ah}{ρ:ai}{V:St}
theorem fv.same{φ φ':aj}{h:Heap}(e:∀ (l:Nat) p,φ.pl[l]? =some p->φ'.pl[l]? =some p)(l:∀ b,dO φ' b->dO φ b):fv φ h φ' h:=⟨fun{i p}=>e i p,fun Z Z e Z Z=>e,fun b Z n x=>n (l b x),Nat.le_refl _⟩
theorem bp.same{φ φ':aj}{h:Heap}{p:Nat×Nat}{o:af}(e:∀ (l:Nat) p,φ.pl[l]? =some p->φ'.pl[l]? =some p)(l:∀ b,dO φ' b->dO φ b)(r:bp W φ h p o):bp W φ' h p o:=r.map (.same e l) (fun Z=>id) fun Z=>id
theorem az.same{φ φ':aj}{h:Heap}{env:Env}(e:∀ (l:Nat) p,φ.pl[l]? =some p->φ'.pl[l]? =some p)(l:∀ b,dO φ' b->dO φ b)(F:az W φ h env sc ρ):az W φ' h env sc ρ:=F.map (.same e l) (fun Z Z Z=>id) fun b f x=>F.off b f (l b x)
theorem gP{pl:List (Nat×Nat)}{D:Nat}{rs:List Nat}(b:Nat)(h:dO ⟨pl++[(D,D)],rs⟩ b):dO ⟨pl,D::rs⟩ b:=by
 rcases h with⟨p,hp,q⟩ | h
 ·rcases List.mem_append.mp hp with hp | hp
  ·exact .inl (a6 p hp q)
  ·rw[List.mem_singleton.mp hp] at q
   exact .inr (by rcases q with q | q<;>rw[← q]<;>exact .head _)
 ·exact .inr (.tail _ h)
theorem mw{pl:List (Nat×Nat)}{D:Nat}(l:Nat)(p:Nat×Nat)(h:pl[l]? =some p):(pl++[(D,D)])[l]? =some p:=by
 refine a0 (List.getElem?_append_left (List.getElem?_eq_some_iff.mp h).1) ?_;exact h
theorem aO.take{pl:List (Nat×Nat)}{D:Nat}{rs:List Nat}{h:Heap}{o:af}(N:aO W ⟨pl,D::rs⟩ V h)(hD:D∉rs)(O:bp W ⟨pl,D::rs⟩ h (D,D) o):aO W ⟨pl++[(D,D)],rs⟩ (V++[o]) h:=by
 refine a3 (N.rsOk D (.head _)) fun r1 r2 r3=>?_
 refine⟨N.ok,by simp[N.len],fun l q o' e1 e2=>?_,N.base,N.size,fun p hp=>?_,fun b hb=>?_,?_⟩
 ·change (pl++[(D,D)])[l]? =some q at e1
  have len:pl.length=V.length:=N.len
  by_cases hl:l<pl.length
  ·rw[List.getElem?_append_left hl] at e1
   rw[List.getElem?_append_left (len▸hl)] at e2
   exact(N.objs l q o' e1 e2).same (φ:=⟨pl,D::rs⟩) (φ':=⟨pl++[(D,D)],rs⟩) mw gP
  ·have hl':l=pl.length:=by
    have:=(List.getElem?_eq_some_iff.mp e1).1
    simp at this;lia
   subst hl'
   simp at e1
   have e2':(V++[o])[pl.length]? =some o:=by refine a0 len ?_;exact List.getElem?_concat_length ..
   rw[e2'] at e2
   cases e1;cases e2
   exact O.same (φ:=⟨pl,D::rs⟩) (φ':=⟨pl++[(D,D)],rs⟩) mw gP
 ·rcases List.mem_append.mp hp with hp | hp
  ·exact N.above p hp
  ·refine a0 (List.mem_singleton.mp hp) ?_;exact⟨r1,r1⟩
 ·refine a3 (N.rsOk b (.tail _ hb)) fun c d e=>?_
  refine i3 c d (fun⟨p,hp,q⟩=>?_)
  rcases List.mem_append.mp hp with hp | hp
  ·exact e (a6 p hp q)
  ·rw[List.mem_singleton.mp hp] at q
   have:D=b:=by rcases q with q | q<;>exact q
   exact hD (this▸hb)
 ·show(pl++[(D,D)]).Pairwise _
  refine bt List.pairwise_append ?_
  refine i3 N.apart (List.pairwise_singleton _ _) (fun a ha b hb=>?_)
  refine a0 (List.mem_singleton.mp hb) ?_
  exact i4 (fun q=>r3 (a6 a ha (.inl q))) (fun q=>r3 (a6 a ha (.inl q))) (fun q=>r3 (a6 a ha (.inr q))) (fun q=>r3 (a6 a ha (.inr q)))
noncomputable def CK(new:Bool)(Q:a5->St->Prop)(acc:af)(V':St):Prop:=if new=true then Q (.ref V'.length) (V'++[acc])else ∃ xs,acc=.list xs∧Q (.frz xs) V'
noncomputable def aY.start:aY->af
 | .list _=>.list []
 | .dict .. =>.idict []
noncomputable def aY.newAcc:aY->Sem Value
 | .list _=>PySem.newList []
 | .dict .. =>newDict
noncomputable def dZ(W:Wd)(n:Nat)(sc:ah)(new:Bool)(c:aY)(g:Comprehension)(gs:List Comprehension)(scope:Scope)(ρ:ai)(V:St)(Q:a5->St->Prop):Prop:=
 ET W n sc g.iter ρ V (fun a V'=>∃ ys,aI V' a=some ys∧kB (qV W n (aw scope.names sc) c g gs) (fun V=>aI V a=some ys) ys c.start (aR scope.names sc ρ) V' (fun acc Z V'=>CK new Q acc V'))
noncomputable def cr(scope:Scope)(sc:ah)(g:Comprehension)(gs:List Comprehension):Bool:=
 ku scope&&(g::gs).all (i7 (aw scope.names sc))&&scope.names.all (fun x=>x.2 != .free||(sc.lookup x.1==some .cell||sc.lookup x.1==some .free))
structure qA(φ₀:aj)(s₀:Shared)(C:Nat)(φ:aj)(s:Shared):Prop where
 ge:s₀.heap.objs.size≤C
 off:¬dO φ C
 ns:∃ m,s.heap.Ns C m
theorem pX{A:Around}{E:Value->Shared->Prop}{c:aY}{s:Shared}{Q:Value->Shared->Prop}(h:∀ o:Obj,bp W ⟨[],[]⟩ (s.heap.push o) (s.heap.objs.size,s.heap.objs.size) c.start->Q (.ref s.heap.objs.size) {s with heap:=s.heap.push o}):wpAny (model W.prog W.w) A c.newAcc Q E s:=by
 cases c with
 | list e=>exact wpAny_newObj_type (h _ (.list (vs:=[]) (n:=0) (Heap.get?_push_size _ rfl) rfl .nil))
 | dict k v=>exact wpAny_newObj_type (h _ (.idict (Heap.DictOf.new s.heap) rfl .nil))
theorem oG{A:Around}{env:Env}{φ:aj}{s:Shared}{new:Bool}{c:aY}{g:Comprehension}{gs:List Comprehension}{scope:Scope}{pos cpos:Pos}{use:Option (Value->Sem Unit)}{Q:a5->St->Prop}{P:Value->Shared->Prop}(R:bz n A)(N:aO W φ V s.heap)(F:az W φ s.heap env sc ρ)
 (ok:cr scope sc g gs=true)(h:dZ W n sc new c g gs scope ρ V Q)
 (fin:∀ D C φ' V' s' a,gc W (fun Z=>False) φ s [] φ' s'->aO W φ' V' s'.heap->az W φ' s'.heap env sc ρ->aa φ' s'.heap (.ref D) a->qA φ s C φ' s'->Q a V'->compPost (model W.prog W.w) A (fun Z Z=>False) use P (.ref D) C (.ok .next) s'):
 wpAny (model W.prog W.w) A (comprehension (c.expr (g::gs) scope pos) scope env cpos c.newAcc false (eval g.iter env) use) P (fun Z Z=>False) s:=by
 unfold cr at ok
 simp only[Bool.and_eq_true] at ok
 refine a2 ok ?_;clear ok;intro z0 ok3;rcases z0 with⟨ok1,ok2⟩
 have hg2:=ok2
 rw[List.all_cons,Bool.and_eq_true] at hg2
 have hg3:=hg2.1
 unfold i7 at hg3
 simp only[Bool.and_eq_true,beq_iff_eq] at hg3
 have hfree:∀ x∈scope.names,x.2=.free->sc.lookup x.1=some .cell∨sc.lookup x.1=some .free:=by
  intro x hx hf
  have:=List.all_eq_true.mp ok3 x hx
  rw[hf] at this
  simpa using this
 have hck:scope.kind=.function:=by
  unfold ku at ok1;rw[Bool.and_eq_true] at ok1;simpa using ok1.1
 have hcn:=ok1
 unfold ku at hcn
 rw[Bool.and_eq_true] at hcn
 have hcn2:=List.all_eq_true.mp hcn.2
 obtain⟨cl,hcl,h2,h3,h5⟩:=oI (scope:=scope) (env:=env) (fun x hx hf=>by
  refine cW (F.cells x.1 (hfree x hx hf)) fun c v e1 Z=>?_
  exact⟨c,e1⟩)
 refine wpAny_comprehension_free (g:=g) (gs:=gs) (by cases c<;>rfl) (eI hg3.1.2 env) hcl hck (fun x hx hl=>?_) ?_
 ·have:=hcn2 x hx
  rw[hl] at this
  simpa using this
 refine wpAny_mono (h A env φ s R N F) (fun v s₁ h₁=>?_) fun Z Z z=>z
 obtain⟨φ₁,V₁,a,E₁,ra,ys,hy,q⟩:=h₁
 have F₁:=F.step E₁.st
 refine jV E₁.now ra hy fun oi I=>?_
 let s₂:Shared:={s₁ with heap:=s₁.heap.push oi}
 let φ₂:=φ₁.res s₁.heap.objs.size
 have N₂:aO W φ₂ V₁ s₂.heap:=E₁.now.reserve
 have F₂:az W φ₂ s₂.heap env sc ρ:=F₁.reserve oi
 have r₂:aa φ₂ s₂.heap v a:=ra.reserve oi
 have M₀:gc W (fun Z=>False) φ s [] φ₁ s₁:=(gc.refl (W:=W) (φ:=φ) (s:=s)).step E₁ (fun Z x=>x.elim)
 have M₂:gc W (fun Z=>False) φ s [s₁.heap.objs.size] φ₂ s₂:=M₀.reserve oi s₁.toks
 refine pX fun oD O=>?_
 let s₃:Shared:={s₂ with heap:=s₂.heap.push oD}
 let φ₃:=φ₂.res s₂.heap.objs.size
 have N₃:aO W φ₃ V₁ s₃.heap:=N₂.reserve
 have F₃:az W φ₃ s₃.heap env sc ρ:=F₂.reserve oD
 have r₃:aa φ₃ s₃.heap v a:=r₂.reserve oD
 have I₃:dD s₃.heap s₁.heap.objs.size a v 0:=I.keep fun o e=>Heap.get?_push_of_some _ e
 have M₃:gc W (fun Z=>False) φ s [s₂.heap.objs.size,s₁.heap.objs.size] φ₃ s₃:=M₂.reserve oD s₂.toks
 have O₃:bp W φ₃ s₃.heap (s₂.heap.objs.size,s₂.heap.objs.size) c.start:=by
  cases c with
  | list e=>cases O with | list g q r=>cases r;exact .list g q .nil
  | dict k v=>cases O with | idict g q r=>cases r;exact .idict g q .nil
 refine wpAny_newFunctionEnv (fun x hx hf=>?_) (fun x hx=>nomatch hx) (fun h₄ hn hsb=>?_) hck
 ·have:=hcn2 x hx
  rw[hf] at this
  simp at this
 have gr:s₃.heap.objs.size≤h₄.objs.size:=a9 (Nat.le_succ _) (Nat.le_of_eq (Eq.symm (hsb.1.trans (Heap.size_push ..))))
 have k₄:∀ b o,s₃.heap.get? b=some o->h₄.get? b=some o:=fun b o e=>(hsb.2 b (Nat.ne_of_lt (Heap.lt_size e))).trans (Heap.get?_push_of_some _ e)
 have E₄:aq W (fun Z=>False) φ₃ s₃ φ₃ V₁ {s₃ with heap:=h₄,toks:=s₃.toks+0}:=aq.grown N₃ k₄ gr _
 have N₄:=E₄.now
 have F₄:=F₃.step E₄.st
 have r₄:=r₃.step E₄.st (ae _ _)
 have I₄:dD h₄ s₁.heap.objs.size a v 0:=I₃.keep fun o e=>k₄ _ _ e
 have nD₃:¬Pl φ₃ s₂.heap.objs.size:=(N₃.rsOk _ (.head _)).2.2
 have O₄:bp W φ₃ h₄ (s₂.heap.objs.size,s₂.heap.objs.size) c.start:=O₃.step E₄.st (ae _ _) (fun o e=>k₄ _ _ e) (fun o e=>k₄ _ _ e)
 have M₄:gc W (fun Z=>False) φ s [s₂.heap.objs.size,s₁.heap.objs.size] φ₃ {s₃ with heap:=h₄,toks:=s₃.toks+0}:=M₃.step E₄ (fun Z x=>x.elim)
 have FC:az W φ₃ h₄ (compEnvC scope cl s₃.heap.objs.size env) (aw scope.names sc) (aR scope.names sc ρ):=F₃.child N₃ rfl hn k₄ gr ok1 h2 h3 h5 hfree
 have hCge:s.heap.objs.size≤s₃.heap.objs.size:=M₃.size
 have hCoff:¬dO φ₃ s₃.heap.objs.size:=fun x=>Nat.lt_irrefl _ (N₃.ownLt x)
 have lt12:s₁.heap.objs.size<s₂.heap.objs.size:=Nat.lt_of_lt_of_eq (Nat.lt_succ_self _) (Eq.symm (Heap.size_push (h:=s₁.heap) ..))
 have lt23:s₂.heap.objs.size<s₃.heap.objs.size:=Nat.lt_of_lt_of_eq (Nat.lt_succ_self _) (Eq.symm (Heap.size_push (h:=s₂.heap) ..))
 have hn1:∀ g',(g::gs)[0+1]? =some g'->g'.is_async=0:=by
  intro g' hg'
  have hm:g'∈gs:=List.mem_of_getElem? (i:=0) (by simpa using hg')
  have:=List.all_eq_true.mp hg2.2 g' hm
  unfold i7 at this
  simp only[Bool.and_eq_true,beq_iff_eq] at this
  exact this.1.1
 show codeAny (model W.prog W.w) A (.compStart (c.expr (g::gs) scope pos) 0 (.ref s₁.heap.objs.size) (.ref s₂.heap.objs.size) (compEnvC scope cl s₃.heap.objs.size env)) (compPost (model W.prog W.w) A (fun Z Z=>False) use P (.ref s₂.heap.objs.size) s₃.heap.objs.size) {s₃ with heap:=h₄,toks:=s₃.toks+0}
 refine kt rfl hg3.1.1 I₄ ?_
 refine codeAny_mono (lT (s:={s₃ with heap:=h₄,toks:=s₃.toks+0}) (it:=s₁.heap.objs.size) (D:=s₂.heap.objs.size) R rfl hg2.1 hn1 (Nat.ne_of_lt lt12)
  (fun N F hD O h=>q9 gs 1 rfl hg2.2 R N F hD O h) N₄ FC (.head _) (.tail _ (.head _)) O₄ r₄ I₄ hy q) fun r s₅ hr=>?_
 obtain⟨rfl,φ₅,V₅,ρ₅,acc₅,E₅,F₅,O₅,q⟩:=hr
 have xx:c9 (fun b=>XC (compEnvC scope cl s₃.heap.objs.size env) s₂.heap.objs.size b∨b=s₁.heap.objs.size) φ₃ h₄:=by
  intro b o e hb
  rcases hb with(hb | hb) | hb
  ·exact(FC.free.any φ₃) b o e (.inl hb)
  ·exact .inl (by refine a0 hb ?_;exact .head _)
  ·exact .inl (by refine a0 hb ?_;exact .tail _ (.head _))
 have FP:az W φ₅ s₅.heap env sc ρ:=F₄.stepX E₅.st xx (fun b f hb=>by
  have lt:(b:Nat)<s₁.heap.objs.size:=FX.lt F₁ f
  rcases hb with(hb | hb) | hb
  ·rw[hb] at lt;exact absurd lt (Nat.not_lt.mpr (Nat.le_of_lt (Nat.lt_trans lt12 lt23)))
  ·rw[hb] at lt;exact absurd lt (Nat.not_lt.mpr (Nat.le_of_lt lt12))
  ·rw[hb] at lt;exact absurd lt (Nat.lt_irrefl _))
 have M₅:gc W (fun Z=>False) φ s [s₂.heap.objs.size,s₁.heap.objs.size] φ₅ s₅:=M₄.step E₅ (fun b hb=>by
  rcases hb with(hb | hb) | hb
  ·exact .inr (by refine a0 hb ?_;exact hCge)
  ·exact .inr (by refine a0 hb ?_;exact M₂.size)
  ·exact .inr (by refine a0 hb ?_;exact M₀.size))
 have hCoff5:¬dO φ₅ s₃.heap.objs.size:=F₅.off _ (.inl rfl)
 have hCns:∃ m,s₅.heap.Ns s₃.heap.objs.size m:=let ⟨m,hm,_⟩:=F₅.locals;⟨m,hm⟩
 obtain⟨pl,rs⟩:=φ₅
 refine a7 M₅.release fun rs' z1 M₆=>?_;subst z1
 have hDn:s₂.heap.objs.size∉rs':=by
  have:=M₆.rs
  change rs'=[s₁.heap.objs.size]++φ.rs at this
  refine a0 this ?_
  intro hm
  rcases List.mem_append.mp hm with hm | hm
  ·rw[List.mem_singleton.mp hm] at lt12;exact Nat.lt_irrefl _ lt12
  ·have:=(N.rsOk _ hm).2.1
   exact absurd this (Nat.not_lt.mpr M₂.size)
 cases new with
 | true=>
   have q':Q (.ref V₅.length) (V₅++[acc₅]):=by simpa [CK]using q
   have N₆:=E₅.now.take hDn O₅
   have F₆:az W ⟨pl++[(s₂.heap.objs.size,s₂.heap.objs.size)],rs'⟩ s₅.heap env sc ρ:=FP.same (φ:=⟨pl,s₂.heap.objs.size::rs'⟩) (φ':=⟨pl++[(s₂.heap.objs.size,s₂.heap.objs.size)],rs'⟩) mw gP
   have M₇:gc W (fun Z=>False) φ s [s₁.heap.objs.size] ⟨pl++[(s₂.heap.objs.size,s₂.heap.objs.size)],rs'⟩ s₅:=by
    refine a7 M₆.ext fun t e ht=>?_
    refine⟨(a6 (t++[(s₂.heap.objs.size,s₂.heap.objs.size)]) ?_ (fun p hp=>?_)),M₆.rs,M₆.exs,M₆.keep,M₆.size,M₆.gens,M₆.os⟩
    ·show pl++_=_
     refine a0 (show pl=φ.pl++t from e) ?_;refine a0 (List.append_assoc ..) ?_;rfl
    ·rcases List.mem_append.mp hp with hp | hp
     ·exact ht p hp
     ·refine a0 (List.mem_singleton.mp hp) ?_;exact⟨M₂.size,M₂.size⟩
   refine a7 M₇.release fun rs'' z1 M₈=>?_;subst z1
   refine fin _ s₃.heap.objs.size _ _ s₅ (.ref V₅.length) M₈ N₆.release F₆.release (.ref (p:=(s₂.heap.objs.size,s₂.heap.objs.size)) ?_) ⟨hCge,fun x=>?_,hCns⟩ q'
   ·show(pl++[_])[V₅.length]? =_
    have:pl.length=V₅.length:=E₅.now.len
    refine aX this ?_;exact List.getElem?_concat_length ..
   ·exact hCoff5 (gP _ (x.imp (fun y=>y) (List.mem_cons_of_mem _)))
 | false=>
   have q':∃ xs,acc₅=.list xs∧Q (.frz xs) V₅:=by simpa [CK]using q
   refine a7 q' ?_;clear q';intro xs z1 q';subst z1
   refine a7 M₆.release fun rs'' z1 M₈=>?_;subst z1
   have nPl:=(E₅.now.rsOk _ (.head _)).2.2
   refine fin _ s₃.heap.objs.size _ _ s₅ (.frz xs) M₈ E₅.now.release.release FP.release.release ?_ ⟨hCge,fun x=>hCoff5 (x.imp (fun y=>y) fun y=>.tail _ (.tail _ y)),hCns⟩ q'
   cases O₅ with
   | list g' _ rs2=>
     refine .frz (h:=s₅.heap) (a:=s₂.heap.objs.size) ⟨_,g',rfl,_,rfl⟩ (fun x=>?_) ?_
     ·rcases x with x | x
      ·exact nPl x
      ·exact hDn (.tail _ x)
     ·have:=ad.less (φ:=⟨pl,s₂.heap.objs.size::s₁.heap.objs.size::rs''⟩) (φ':=⟨pl,rs''⟩) rfl (fun Z hb=>.tail _ (.tail _ hb)) rs2
      simpa using this
end
section
variable{W:Wd}{n:Nat}{sc:ah}{ρ:ai}{V:St}
theorem jO{φ:aj}{h:Heap}{C:Addr}(hn:∃ m,h.Ns C m):c9 (fun b=>b=C) φ h:=by
 obtain⟨m,o',es,ep,e',d,_⟩:=hn
 intro b o e hb
 subst hb
 rw[e'] at e;cases e
 exact .inr ⟨fun xs k z=>(by rw[d] at z;cases z),fun vs z=>(by rw[d] at z;cases z)⟩
theorem wT{φ₀ φ':aj}{s₀ s':Shared}{C:Nat}{h':Heap}{V':St}(hbase:W.H.objs.size≤C)(c:qA φ₀ s₀ C φ' s')(N:aO W φ' V' s'.heap)(hs:Heap.SameBut C s'.heap h'):aq W (fun b=>b=C) φ' s' φ' V' {s' with heap:=h'}:=by
 have gr:s'.heap.objs.size≤h'.objs.size:=Nat.le_of_eq hs.1.symm
 have k':∀ b o,s'.heap.get? b=some o->¬b=C->h'.get? b=some o:=fun b o e ne=>(hs.2 b ne).trans e
 exact⟨.quiet k' gr,N.quiet _ (jO c.ns) (fun b p hb=>c.off (hb▸.inl p)) (fun b o e hb=>absurd (Heap.lt_size e) (Nat.not_lt.mpr (by refine a0 hb ?_;exact hbase))) gr k',rfl,rfl⟩
theorem kr{A:Around}{env:Env}{φ:aj}{s:Shared}{new:Bool}{c:aY}{g:Comprehension}{gs:List Comprehension}{scope:Scope}{pos cpos:Pos}{Q:a5->St->Prop}(R:bz n A)(N:aO W φ V s.heap)(F:az W φ s.heap env sc ρ)
 (h:dZ W n sc new c g gs scope ρ V Q)(ok:cr scope sc g gs=true):
 TT W (fun Z=>False) A φ s (comprehension (c.expr (g::gs) scope pos) scope env cpos c.newAcc false (eval g.iter env)) aa Q:=by
 refine oG R N F ok h fun D C φ' V' s' a M N' F' r c q=>?_
 refine a6 _ c.ns.choose_spec (fun h' hs=>?_)
 have E:=wT (a9 N.size c.ge) c N' hs
 exact⟨φ',V',a,(M.step E (fun b hb=>.inr (by refine a0 hb ?_;exact c.ge))).ends E.now,r.step E.st (jO c.ns),q⟩
theorem ox{scope:Scope}{g:Comprehension}{gs:List Comprehension}(ok:cr scope sc g gs=true):(g.is_async != 0)=false:=by
 unfold cr at ok
 simp only[Bool.and_eq_true] at ok
 have:=ok.1.2
 rw[List.all_cons,Bool.and_eq_true] at this
 have h:=this.1
 unfold i7 at h
 simp only[Bool.and_eq_true,beq_iff_eq] at h
 refine a0 h.1.1 ?_;rfl
theorem fk(g:Comprehension)(gs:List Comprehension):firstAsync (g::gs)=(g.is_async != 0):=by cases g;rfl
theorem gz(g:Comprehension)(gs:List Comprehension)(env:Env):firstIter (g::gs) env=eval g.iter env:=by cases g;rfl
theorem aW{new:Bool}{elt:Expr}{g:Comprehension}{gs:List Comprehension}{scope:Scope}{pos:Pos}{Q:a5->St->Prop}(h:dZ W n sc new (.list elt) g gs scope ρ V Q)(ok:cr scope sc g gs=true:=by rfl):ET W n sc (.ListComp elt (g::gs) scope pos) ρ V Q:=by
 intro A env φ s R N F
 refine a0 (arm_eval_ListComp ..) ?_;refine a0 (fk ..) ?_;refine a0 (gz ..) ?_;refine a0 (ox ok) ?_
 exact kr (pos:=pos) (cpos:=firstIterPos (g::gs) pos) R N F h ok
set_option tactic.hygienic true in
theorem cg{new:Bool}{c:aY}{x:Str}{np:Pos}{g:Comprehension}{gs:List Comprehension}{scope:Scope}{cpos pos:Pos}{Q:cH->ai->St->Prop}(h:dZ W n sc new c g gs scope ρ V (fun a V'=>Q .next (aJ ρ x a) V'))(ok:cr scope sc g gs=true:=by rfl)(hx:i5 sc x=true:=by rfl):
 ST W n sc (.Assign [.Name x np] (c.expr (g::gs) scope cpos) pos) ρ V Q:=by
 intro A env φ s R N F
 refine a0 (arm_exec_Assign ..) ?_
 refine wpAny_bind (wpAny_standAt ?_)
 have ho:=dX hx
 obtain⟨b,hb⟩:∃ b,swapsWithSole [.Name x np] (c.expr (g::gs) scope cpos) pos.line env=Pure.pure b:=by
  cases c<;>exact⟨_,rfl⟩
 refine a0 hb ?_
 refine wpAny_bind (wpAny_pure ?_)
 have sync:=ox ok
 cases b with
 | true=>
   refine a0 (if_pos rfl) ?_
   have eq:∀ u,evalThenUse (c.expr (g::gs) scope cpos) env u=(do let _ ← comprehension (c.expr (g::gs) scope cpos) scope env (firstIterPos (g::gs) cpos) c.newAcc (g.is_async != 0) (eval g.iter env) (some u)):=by
    intro u
    refine aX (fk g gs) ?_;refine aX (gz g gs env) ?_
    cases c<;>rfl
   refine a0 (eq ..) ?_;refine a0 sync ?_
   refine wpAny_bind (wpAny_bind (oG R N F ok h fun D C φ' V' s' a M N' F' r cf q=>?_))
   have hst:=n8 (n:=n) (pos:=np) (a:=a) (Q:=fun ρ' V''=>ρ'=aJ ρ x a∧V''=V') ⟨rfl,rfl⟩ hx A env φ' s' (.ref D) R N' F' r
   show wpAny (model W.prog W.w) A (assign (.Name x np) env (.ref D)) _ _ s'
   refine wpAny_mono hst (fun Z s₂ h₂=>?_) fun Z Z z=>z
   obtain⟨φ₂,V₂,ρ₂,_,E₂,F₂,_,rfl,rfl⟩:=h₂
   have lt:∀ b,FX env b->(b:Nat)<s.heap.objs.size:=fun b f=>FX.lt F f
   have nfx:¬FX env C:=fun f=>Nat.lt_irrefl _ (Nat.lt_of_lt_of_le (lt _ f) cf.ge)
   have ns₂:∃ m,s₂.heap.Ns C m:=by
    obtain⟨m,o',es,ep,e',d⟩:=cf.ns
    exact⟨m,o',es,ep,E₂.st.keep _ _ e' (fun p=>cf.off (.inl p)) nfx,d⟩
   have lC:C<s'.heap.objs.size:=by obtain⟨m,o',es,ep,e',d⟩:=cf.ns;exact Heap.lt_size e'
   have cf₂:qA φ s C φ₂ s₂:=⟨cf.ge,E₂.st.notOwn lC cf.off,ns₂⟩
   refine a6 _ ns₂.choose_spec (fun h' hs=>wpAny_pure (wpAny_pure ?_))
   have E:=wT (a9 N.size cf.ge) cf₂ E₂.now hs
   have M₂:gc W (FX env) φ s [] φ₂ s₂:=(gc.mk M.ext M.rs M.exs (fun b o e np Z=>M.keep b o e np fun x=>x) M.size M.gens M.os:gc W (FX env) φ s [] φ' s').step E₂ (fun b f=>.inl f)
   exact⟨φ₂,_,_,.next,(M₂.step E (fun b hb=>.inr (by refine a0 hb ?_;exact cf.ge))).ends E.now,F₂.stepX E.st (jO ns₂) (fun b f hb=>nfx (hb▸f)),.next,q⟩
 | false=>
   refine a0 (if_neg (by decide)) ?_
   have eq:eval (c.expr (g::gs) scope cpos) env=comprehension (c.expr (g::gs) scope cpos) scope env (firstIterPos (g::gs) cpos) c.newAcc (g.is_async != 0) (eval g.iter env):=by
    refine aX (fk g gs) ?_;refine aX (gz g gs env) ?_
    cases c<;>rfl
   refine a0 eq ?_;refine a0 sync ?_
   refine d9.bind ((kr R N F h ok).inS F) fun v φ₁ V₁ ρ₁ s₁ a E₁ F₁ r q=>?_
   refine a2 q ?_;clear q;intro z0 q;subst z0
   have e1:swappedStores [.Name x np] (c.expr (g::gs) scope cpos) env=Pure.pure none:=by cases c<;>rfl
   refine a0 e1 ?_
   refine wpAny_bind (wpAny_pure ?_)
   show d9 W A env sc φ₁ s₁ (assign (.Name x np) env v >>= fun Z=>Pure.pure Flow.next) na Q
   refine d9.bind (n8 (n:=n) (pos:=np) (Q:=fun ρ' V''=>Q .next ρ' V'') q hx A env φ₁ s₁ v R E₁.now F₁ r) fun Z φ₂ V₂ ρ₂ s₂ Z E₂ F₂ Z q=>?_
   exact d9.pure E₂.now F₂ .next q
theorem kK{es:List Expr}{pos:Pos}{Q:a5->St->Prop}(h:lq W n sc es ρ V (fun as V'=>as.length≤1000000∧Q (.ref V'.length) (V'++[.list as]))):ET W n sc (.List es pos) ρ V Q:=by
 intro A env φ s R N F
 refine a0 (arm_eval_List ..) ?_
 refine wpAny_bind (wpAny_standAt (TT.bind (h A env φ s pos R N F) fun vs φ₁ V₁ s₁ as E₁ r q=>?_))
 refine wpAny_newList ?_ (by refine a0 r.length ?_;refine a0 sizeLine_eq ?_;have:=q.1;exact a9 q.1 (by decide))
 refine a2 (aq.newList (its:=vs.toArray) (m:=0) E₁.now (fun b o e=>Heap.get?_push_of_some _ e) (Nat.le_refl _) (Heap.get?_push_size _ rfl) (by simpa using r) s₁.toks) fun E' r'=>?_
 exact⟨_,_,_,E',r',q.2⟩
theorem fU{pos:Pos}{Q:a5->St->Prop}(q:Q (.ref V.length) (V++[.idict []])):ET W n sc (.Dict [] [] pos) ρ V Q:=by
 intro A env φ s R N F
 refine a0 (arm_eval_Dict ..) ?_
 refine wpAny_bind (wpAny_standAt ?_)
 show wpAny (model W.prog W.w) A (newDict) _ _ s
 refine wpAny_newObj_type ?_
 refine a2 (aq.adopt (p:=(s.heap.objs.size,s.heap.objs.size)) (o:=.idict []) (h':=s.heap.push {cls:=.type "dict",data:=.dict #[]}) N (fun b o e=>Heap.get?_push_of_some _ e) (by rw[Heap.size_push];exact Nat.le_succ _) (Nat.le_refl _) (Nat.le_refl _) (fun S=>.idict (Heap.DictOf.new s.heap) rfl .nil) s.toks) fun E' r'=>?_
 exact⟨_,_,_,E',r',q⟩
theorem sN{pos:Pos}{Q:a5->St->Prop}(q:Q (.ref V.length) (V++[.tdict []])):ET W n sc (.Dict [] [] pos) ρ V Q:=by
 intro A env φ s R N F
 refine a0 (arm_eval_Dict ..) ?_
 refine wpAny_bind (wpAny_standAt ?_)
 show wpAny (model W.prog W.w) A (newDict) _ _ s
 refine wpAny_newObj_type ?_
 obtain⟨E',r'⟩:=aq.adopt (p:=(s.heap.objs.size,s.heap.objs.size)) (o:=.tdict []) (h':=s.heap.push {cls:=.type "dict",data:=.dict #[]}) N (fun b o e=>Heap.get?_push_of_some _ e) (by refine a0 (Heap.size_push ..) ?_;exact Nat.le_succ _) (Nat.le_refl _) (Nat.le_refl _)
  (fun S=>.tdict (kvs:=[]) (vT _ _ _ (Heap.get?_push_size _ rfl) (i3 rfl rfl rfl) rfl rfl (fun x hx=>nomatch hx) List.nodup_nil) rfl .nil) s.toks
 exact⟨_,_,_,E',r',q⟩
end
section
variable{W:Wd}{n:Nat}{sc:ah}{ρ:ai}{V:St}
theorem jG{A:Around}{env:Env}{s:Shared}{i:Int}{k:Nat}{cp p:Pos}{E:Value->Shared->Prop}{Q:Value->Shared->Prop}(h:∀ t tk,Q (.ref s.heap.objs.size) {s with heap:=s.heap.push {cls:=.type "slice",data:=.fields #[.int i t,.none,.none]},toks:=tk}):wpAny (model W.prog W.w) A (eval (.Slice (some (.Constant (.int i) k cp)) none none p) env) Q E s:=by
 refine wpAny_Slice ?_
 refine a0 (evalPart_some ..) ?_
 refine wpAny_Constant_int ?_
 exact wpAny_pure (wpAny_pure (h _ _))
theorem nJ{A:Around}{env:Env}{s:Shared}{i:Int}{k:Nat}{cp p:Pos}{E:Value->Shared->Prop}{Q:Value->Shared->Prop}(h:∀ t tk,Q (.ref s.heap.objs.size) {s with heap:=s.heap.push {cls:=.type "slice",data:=.fields #[.none,.int i t,.none]},toks:=tk}):wpAny (model W.prog W.w) A (eval (.Slice none (some (.Constant (.int i) k cp)) none p) env) Q E s:=by
 refine wpAny_Slice ?_
 refine wpAny_pure ?_
 refine a0 (evalPart_some ..) ?_
 exact wpAny_Constant_int (wpAny_pure (h _ _))
theorem pH{A:Around}{env:Env}{s:Shared}{k:Nat}{cp p q:Pos}{E:Value->Shared->Prop}{Q:Value->Shared->Prop}(h:∀ t tk,Q (.ref s.heap.objs.size) {s with heap:=s.heap.push {cls:=.type "slice",data:=.fields #[.none,.none,.int (-1) t]},toks:=tk}):wpAny (model W.prog W.w) A (eval (.Slice none none (some (.UnaryOp .USub (.Constant (.int 1) k cp) q)) p) env) Q E s:=by
 refine wpAny_Slice ?_
 refine wpAny_pure (wpAny_pure ?_)
 refine a0 (evalPart_some ..) ?_;refine a0 (arm_eval_UnaryOp ..) ?_
 refine wpAny_bind (wpAny_Constant_int ?_)
 exact wpAny_bind (wpAny_standAt (wpAny_holding (PyProof.Rows.neg_int (h _ _))))
noncomputable def bq(x:Str)(lo hi:Option Int):Str:=
 if((slicePicked x (lo.map (fun x=>(x,0))) (hi.map (fun x=>(x,0))) none).length==x.length)=true then x else⟨((slicePicked x (lo.map (fun x=>(x,0))) (hi.map (fun x=>(x,0))) none).filterMap (x.cps[·]?)).toArray⟩
set_option tactic.hygienic true in
theorem ik{o:Expr}{i:Int}{k:Nat}{cp p pos:Pos}{Q:a5->St->Prop}(h:ET W n sc o ρ V (fun a V'=>∃ x,a=.str x∧(bq x (some i) none).length≤1000000∧Q (.str (bq x (some i) none)) V')):ET W n sc (.Subscript o (.Slice (some (.Constant (.int i) k cp)) none none p) pos) ρ V Q:=by
 intro A env φ s R N F
 refine a0 (arm_eval_Subscript ..) ?_
 refine TT.bind (h A env φ s R N F) fun v φ₁ V₁ s₁ a E₁ ra q=>?_
 refine bw q ?_;clear q;intro x z1 hl q;subst z1
 refine ra.str_el fun t=>?_
 ·refine wpAny_bind (wpAny_holding (jG fun t' tk=>wpAny_bind (wpAny_standAt ?_)))
  have hs:Heap.IsSlice (s₁.heap.push {cls:=.type "slice",data:=.fields #[.int i t',.none,.none]}) s₁.heap.objs.size (some (i,t')) none none:=aP _ (Heap.get?_push_size _ rfl) rfl rfl
  have E':∀ tk,aq W (fun Z=>False) φ₁ s₁ φ₁ V₁ {s₁ with heap:=s₁.heap.push {cls:=.type "slice",data:=.fields #[.int i t',.none,.none]},toks:=tk}:=fun tk=>aq.push E₁.now _ tk
  refine tail_any (T:="str") rfl PyProof.Rows.slot_str_getitem.lookup ?_ rfl
  refine wpAny_getItem_str_slice hs rfl ?_
  unfold sliceMade
  unfold bq at q hl
  have e1:(((none:Option (Int×Tok)).map (fun x=>x.1)).getD 1==1)=true:=rfl
  refine a0 e1 ?_;refine a0 (Bool.true_and ..) ?_
  have e2:slicePicked x (some (i,t')) none none=slicePicked x ((some i).map (fun x=>(x,0))) ((none:Option Int).map (fun x=>(x,0))) none:=rfl
  refine a0 e2 ?_
  split
  ·rename_i hc
   rw[if_pos hc] at q
   exact⟨φ₁,V₁,_,E' _,.str _ _,q⟩
  ·rename_i hc
   rw[if_neg hc] at q hl
   exact⟨by refine a0 sizeLine_eq ?_;exact a9 hl (by decide),φ₁,V₁,_,E' _,.str _ _,q⟩
set_option tactic.hygienic true in
theorem gI{o:Expr}{i:Int}{k:Nat}{cp p pos:Pos}{Q:a5->St->Prop}(h:ET W n sc o ρ V (fun a V'=>∃ x,a=.str x∧(bq x none (some i)).length≤1000000∧Q (.str (bq x none (some i))) V')):ET W n sc (.Subscript o (.Slice none (some (.Constant (.int i) k cp)) none p) pos) ρ V Q:=by
 intro A env φ s R N F
 refine a0 (arm_eval_Subscript ..) ?_
 refine TT.bind (h A env φ s R N F) fun v φ₁ V₁ s₁ a E₁ ra q=>?_
 refine bw q ?_;clear q;intro x z1 hl q;subst z1
 refine ra.str_el fun t=>?_
 ·refine wpAny_bind (wpAny_holding (nJ fun t' tk=>wpAny_bind (wpAny_standAt ?_)))
  have hs:Heap.IsSlice (s₁.heap.push {cls:=.type "slice",data:=.fields #[.none,.int i t',.none]}) s₁.heap.objs.size none (some (i,t')) none:=aP _ (Heap.get?_push_size _ rfl) rfl rfl
  have E':∀ tk,aq W (fun Z=>False) φ₁ s₁ φ₁ V₁ {s₁ with heap:=s₁.heap.push {cls:=.type "slice",data:=.fields #[.none,.int i t',.none]},toks:=tk}:=fun tk=>aq.push E₁.now _ tk
  refine tail_any (T:="str") rfl PyProof.Rows.slot_str_getitem.lookup ?_ rfl
  refine wpAny_getItem_str_slice hs rfl ?_
  unfold sliceMade
  unfold bq at q hl
  have e1:(((none:Option (Int×Tok)).map (fun x=>x.1)).getD 1==1)=true:=rfl
  refine a0 e1 ?_;refine a0 (Bool.true_and ..) ?_
  have e2:slicePicked x none (some (i,t')) none=slicePicked x ((none:Option Int).map (fun x=>(x,0))) ((some i).map (fun x=>(x,0))) none:=rfl
  refine a0 e2 ?_
  split
  ·rename_i hc
   rw[if_pos hc] at q
   exact⟨φ₁,V₁,_,E' _,.str _ _,q⟩
  ·rename_i hc
   rw[if_neg hc] at q hl
   exact⟨by refine a0 sizeLine_eq ?_;exact a9 hl (by decide),φ₁,V₁,_,E' _,.str _ _,q⟩
theorem bG{o:Expr}{i:Nat}{k:Nat}{cp p pos:Pos}{Q:a5->St->Prop}(h:ET W n sc o ρ V (fun a V'=>∃ xs,a=.tup xs∧i≤xs.length∧xs.length≤1000000∧Q (.tup (xs.drop i)) V'))(h1:1≤i:=by decide):ET W n sc (.Subscript o (.Slice (some (.Constant (.int i) k cp)) none none p) pos) ρ V Q:=by
 intro A env φ s R N F
 refine a0 (arm_eval_Subscript ..) ?_
 refine TT.bind (h A env φ s R N F) fun v φ₁ V₁ s₁ a E₁ ra q=>?_
 refine mO q ?_;clear q;intro xs z1 hi hl q;subst z1
 refine ra.tup_el fun b vs ht no rs=>?_
 ·have e1:=rs.length
  simp only[Array.length_toList] at e1
  refine wpAny_bind (wpAny_holding (jG fun t' tk=>wpAny_bind (wpAny_standAt ?_)))
  let s₂:Shared:={s₁ with heap:=s₁.heap.push {cls:=.type "slice",data:=.fields #[.int i t',.none,.none]},toks:=tk}
  have E':aq W (fun Z=>False) φ₁ s₁ φ₁ V₁ s₂:=aq.push E₁.now _ tk
  have ht':IsTup s₂.heap b vs:=let ⟨o,e,r⟩:=ht;(a6 o (Heap.get?_push_of_some _ e) r)
  have hs:s₂.heap.IsSliceOf s₁.heap.objs.size (.int i t') .none .none:=aP _ (Heap.get?_push_size _ rfl) rfl rfl
  refine tail_any (s:=s₂) (T:="tuple") ht'.typeIs slot_tuple_getitem.lookup ?_ rfl
  refine PyProof.Rows.getItem_tuple_from ht' hs h1 (by exact a9 hi (fX e1)) ?_ (by refine a0 e1 ?_;refine a0 sizeLine_eq ?_;exact a9 hl (by decide))
  have r2:ad φ₁ s₂.heap (vs.toList.drop i) (xs.drop i):=(rs.step E'.st (ae _ _)).drop i
  exact⟨φ₁,V₁,_,E'.trans (aq.push E'.now _ tk),jk (s:=s₂) E'.now (vs:=(vs.toList.drop i).toArray) (by simpa using r2),q⟩
theorem pick_sub(items:Array Value)(lo hi st:Option Int):∀ v∈(slicePick items lo hi st).toList,v∈items.toList:=by
 intro v hv
 unfold slicePick at hv
 simp only[List.mem_filterMap] at hv
 refine a7 hv fun k Z hk=>?_
 exact Array.mem_toList_iff.mpr (Array.mem_of_getElem? hk)
theorem u5{φ:aj}{h:Heap}{vs:List Value}{ns:List Int}(r:IntsAre vs ns):∀ ws:List Value,(∀ v∈ws,v∈vs)->∃ ms,IntsAre ws ms:=by
 have one:∀ v∈vs,∃ i t,v=Value.int i t:=by
  clear h
  induction r with
  | nil=>intro v hv;cases hv
  | cons i t r ih=>
    intro v hv
    rcases List.mem_cons.mp hv with rfl | hv
    ·exact jZ i t rfl
    ·exact ih v hv
 intro ws
 induction ws with
 | nil=>intro _;exact⟨[],.nil⟩
 | cons v ws ih=>
   intro hw
   refine jh (one v (hw v (.head _))) fun i t z2=>?_;subst z2
   refine aH (ih fun v hv=>hw v (.tail _ hv)) fun ms hm=>?_
   exact⟨i::ms,.cons i t hm⟩
theorem qu{o:Expr}{i:Int}{k:Nat}{cp p pos:Pos}{Q:a5->St->Prop}(h:ET W n sc o ρ V (fun a V'=>∃ ns,bn V' a=some (aL ns)∧ns.length≤1000000∧∀ ms:List Int,ms.length≤ns.length->Q (.frz (aL ms)) V')):ET W n sc (.Subscript o (.Slice none (some (.Constant (.int i) k cp)) none p) pos) ρ V Q:=by
 intro A env φ s R N F
 refine a0 (arm_eval_Subscript ..) ?_
 refine TT.bind (h A env φ s R N F) fun v φ₁ V₁ s₁ a E₁ ra q=>?_
 refine bw q fun ns ha hl q=>?_
 refine bR (ra.list E₁.now ha) fun b vs z2 hb rs=>?_;subst z2
 have e1:=rs.length
 simp only[Array.length_toList,List.length_map] at e1
 refine wpAny_bind (wpAny_holding (nJ fun t' tk=>wpAny_bind (wpAny_standAt ?_)))
 let s₂:Shared:={s₁ with heap:=s₁.heap.push {cls:=.type "slice",data:=.fields #[.none,.int i t',.none]},toks:=tk}
 have E':aq W (fun Z=>False) φ₁ s₁ φ₁ V₁ s₂:=aq.push E₁.now _ tk
 have hb':s₂.heap.IsList b vs:=hb.push _
 have hs:s₂.heap.IsSliceOf s₁.heap.objs.size .none (.int i t') .none:=aP _ (Heap.get?_push_size _ rfl) rfl rfl
 refine tail_any (s:=s₂) (T:="list") hb'.typeIs list_getitem_lookup ?_ rfl
 refine wpAny_getItem_list_slice hb' hs .none (.int i t') .none (by exact fun z=>nomatch z) ?_ (by refine a0 e1 ?_;refine a0 sizeLine_eq ?_;exact a9 hl (by decide))
 refine aH (u5 (φ:=φ₁) (h:=s₂.heap) rs.toInts (slicePick vs none (some i) none).toList (pick_sub _ _ _ _)) fun ms hm=>?_
 have rm:ad φ₁ s₂.heap (slicePick vs none (some i) none).toList (aL ms):=ad.ofInts hm
 have lm:=rm.length
 rw[Array.length_toList,List.length_map] at lm
 have:=slicePick_size_le vs none (some i) none
 exact⟨φ₁,V₁,_,E'.trans (aq.push E'.now _ tk),mI (s:=s₂) E'.now rm,q ms (by exact a9 (fX lm) (a9 this (Nat.le_of_eq e1)))⟩
theorem wD{x:Str}{k:Nat}{cp pos fp:Pos}{e:Expr}{Q:a5->St->Prop}(h:ET W n sc e ρ V (fun a V'=>∃ i:Int,a=.int i∧i.natAbs.log2<1920∧(x++Str.ofString (toString i)).length≤1000000∧Q (.str (x++Str.ofString (toString i))) V'))(hx:x.length≤1000000:=by decide):
 ET W n sc (.JoinedStr [.Constant (.str x) k cp,.FormattedValue e (-1) none fp] pos) ρ V Q:=by
 intro A env φ s R N F
 have e0:∀ y:Str,Str.empty++y=y:=by
  intro y
  show(⟨(#[]:Array Nat)++y.cps⟩:Str)=y
  cases y;simp
 refine wpAny_JoinedStr ?_
 refine Joins_cons (wpAny_Constant_str ?_)
 refine d7 x _ rfl (by refine a0 (e0 ..) ?_;refine a0 sizeLine_eq ?_;exact a9 hx (by decide)) ?_
 refine a0 (e0 ..) ?_
 refine Joins_cons (wpAny_FormattedValue_plain (wpAny_mono (h A env φ _ R (by exact N) (by exact F)) (fun v s₁ h₁=>?_) fun Z Z z=>z))
 obtain⟨φ₁,V₁,a,E₁,ra,i,rfl,hi,hl,q⟩:=h₁
 refine ra.int_el fun t=>?_
 refine wpAny_formatField_int hi ?_
 refine d7 (Str.ofString (toString i)) _ rfl (by refine a0 sizeLine_eq ?_;exact a9 hl (by decide)) (Joins_nil ⟨by refine a0 sizeLine_eq ?_;exact a9 hl (by decide),?_⟩)
 exact⟨φ₁,V₁,_,⟨E₁.st,E₁.now,E₁.gens,E₁.os⟩,.str _ _,q⟩
theorem qz{x:Str}{i:Int}{Q:a5->St->Prop}(hx:PySem.intText? x=some i)(hl:x.length≤640)(q:Q (.int i) V):CT W n (.type "int") [.str x] V Q:=by
 refine cw fun A φ s v R N r=>?_
 refine r.str_el fun t=>?_
 exact PySem.W.KIN.call_text hx hl (TT.val N _ (.int _ _) q)
end
section
variable{W:Wd}{n:Nat}{sc:ah}{ρ:ai}{V:St}
theorem lS{prog:Program}{w:World}{A:Around}{E:Value->Shared->Prop}{it t:Addr}{items:Array Value}(hne:t≠it):∀ (k i:Nat) (s:Shared) (Q:List Value->Shared->Prop),s.heap.IsListIter it t i->s.heap.IsList t items->i+k≤items.size->
 (∀ h',h'.IsListIter it t (i+k)->Heap.SameBut it s.heap h'->Q ((items.toList.drop i).take k) {s with heap:=h'})->wpAny (model prog w) A (draw (.ref it) k) Q E s
 | 0,i,s,Q,hit,_,_,hQ=>wpAny_pure (by simpa using hQ s.heap hit (Heap.SameBut.refl ..))
 | k+1,i,s,Q,hit,ht,hle,hQ=>by
   have hlt:i<items.size:=by lia
   show wpAny _ _ (pyNext (.ref it) >>= _) Q E s
   refine wpAny_bind (wpAny_pyNext_list_item hit ht (x:=items[i]) (by simp[hlt]) fun h₁ hit₁ hs₁=>?_)
   refine wpAny_bind (wpAny_holding (lS hne k (i+1) _ _ hit₁ (ht.extBut hs₁.extBut hne) (by lia) fun h₂ hit₂ hs₂=>wpAny_pure ?_))
   have hd:items.toList.drop i=items[i]::items.toList.drop (i+1):=by simp[List.drop_eq_getElem_cons,hlt]
   have:=hQ h₂ (by refine a0 (show i+(k+1)=i+1+k by lia) ?_;exact hit₂) (hs₁.trans hs₂)
   rw[hd,List.take_succ_cons] at this
   exact this
theorem nr{prog:Program}{w:World}{A:Around}{E:Value->Shared->Prop}{s:Shared}{t:Addr}{items:Array Value}{Q:List Value->Shared->Prop}(hh:A.handled=none)(ht:s.heap.IsList t items)
 (hQ:∀ h',Heap.ExtBut s.heap.objs.size s.heap h'->Q items.toList {s with heap:=h'}):wpAny (model prog w) A (unpackItems (.ref t) items.size none) Q E s:=by
 have hlt:t≠s.heap.objs.size:=by refine a7 ht fun o ho Z=>?_;exact Nat.ne_of_lt (Heap.lt_size ho)
 unfold unpackItems
 refine wpAny_bind ?_
 unfold notIterableAtAll
 refine wpAny_bind (wpAny_specialOf ht.typeIs PySem.slot_list_iter.lookup ?_)
 refine wpAny_pure ?_
 simp only[Bool.false_eq_true,if_false]
 refine wpAny_bind (wpAny_holding (wpAny_pyIter_list ht ?_))
 refine wpAny_bind (wpAny_holding (lS hlt items.size 0 _ _ (aP _ (Heap.get?_push_size _ rfl) rfl rfl) (ht.push _) (by lia) fun h₁ hit₁ hs₁=>?_))
 have hall:List.take items.size (List.drop 0 items.toList)=items.toList:=by
  refine a0 List.drop_zero ?_;exact List.take_of_length_le (by exact Nat.le_refl _)
 refine a0 hall ?_
 refine a0 (if_neg (by simp)) ?_
 have ht₁:h₁.IsList t items:=(ht.push _).extBut hs₁.extBut hlt
 refine wpAny_bind (wpAny_holding (wpAny_pyNext_list_end hh hit₁ ht₁ (by simp) fun h₂ he₂=>?_))
 simp only[Option.isSome_none,Bool.false_eq_true,if_false]
 exact wpAny_pure (hQ h₂ fun b o hb e=>he₂ b o hb (hs₁.extBut b o hb (Heap.get?_push_of_some _ e)))
theorem gU{φ:aj}{s:Shared}{v:Value}{a:a5}{xs:List a5}{A:Around}{E:Value->Shared->Prop}{Q:List Value->Shared->Prop}(hh:A.handled=none)(N:aO W φ V s.heap)(r:aa φ s.heap v a)(e:cK V a=some xs)
 (q:∀ vs h',ad φ h' vs xs->aq W (fun Z=>False) φ s φ V {s with heap:=h'}->Q vs {s with heap:=h'}):wpAny (model W.prog W.w) A (unpackItems v xs.length none) Q E s:=by
 refine bR (r.isSeq N e) fun b vs z2 hs rs=>?_;subst z2
 have e1:=rs.length
 rw[Array.length_toList] at e1
 refine aX e1 ?_
 have fin:∀ h',Heap.ExtBut s.heap.objs.size s.heap h'->s.heap.objs.size≤h'.objs.size->Q vs.toList {s with heap:=h'}:=by
  intro h' hk gr
  have E':=aq.grown (h':=h') N (fun b o e=>hk b o (Nat.ne_of_lt (Heap.lt_size e)) e) gr s.toks
  exact q _ h' (rs.step E'.st (ae _ _)) E'
 rcases hs with hs | hs
 ·exact aB (wpAny_unpackItems_tuple hh hs fun h' hk gr=>fin h' hk gr)
 ·exact aB (nr hh hs fun h' hk gr=>fin h' hk gr)
noncomputable def zb(W:Wd)(n:Nat)(sc:ah):List Expr->List a5->ai->St->(ai->St->Prop)->Prop
 | [],[],ρ,V,Q=>Q ρ V
 | t::ts,x::xs,ρ,V,Q=>AT W n sc t x ρ V (fun ρ' V'=>zb W n sc ts xs ρ' V' Q)
 | _,_,_,_,_=>False
theorem pD{A:Around}{env:Env}(R:bz n A):∀ {ts:List Expr} {xs:List a5} {vs:List Value} {ρ:ai} {V:St} {φ:aj} {s:Shared} {Q:ai->St->Prop},aQ ts=true->aO W φ V s.heap->az W φ s.heap env sc ρ->ad φ s.heap vs xs->zb W n sc ts xs ρ V Q->
 d9 W A env sc φ s (assignInOrder ((assignEach ts env).map (fun x=>x.2)) vs) (fun _ _ (_:Unit) (_:Unit)=>True) (fun Z ρ' V'=>Q ρ' V'):=by
 intro ts
 induction ts with
 | nil=>
   intro xs vs ρ V φ s Q _ N F r h
   cases xs with
   | nil=>refine r.nil_el ?_;exact d9.pure (x:=()) N F trivial h
   | cons x xs=>exact h.elim
 | cons t ts ih=>
   intro xs vs ρ V φ s Q hs N F r h
   cases xs with
   | nil=>exact h.elim
   | cons x xs=>
     refine r.cons_el fun v vs rv rs=>?_
     ·replace hs:=eZ hs
      refine a0 (j8 hs.1) ?_
      show d9 W A env sc φ s (do PySem.holding vs (assign t env v);assignInOrder ((assignEach ts env).map (fun x=>x.2)) vs) _ _
      have hb:d9 W A env sc φ s (PySem.holding vs (assign t env v)) (fun _ _ (_:Unit) (_:Unit)=>True) (fun Z ρ' V'=>zb W n sc ts xs ρ' V' Q):=wpAny_holding (h A env φ s v R N F rv)
      refine d9.bind hb fun Z φ₁ V₁ ρ₁ s₁ Z E₁ F₁ Z q=>?_
      exact ih hs.2 E₁.now F₁ (rs.step E₁.st F.xfree) q
theorem nV{ts:List Expr}(h:aQ ts=true)(env:Env):(assignEach ts env).findIdx? (fun x=>x.1)=none∧(assignEach ts env).length=ts.length:=by
 induction ts with
 | nil=>exact⟨rfl,rfl⟩
 | cons t ts ih=>
   unfold aQ at h
   rw[List.all_cons,Bool.and_eq_true] at h
   have ih:=ih h.2
   have e:assignEach (t::ts) env=(false,assign t env)::assignEach ts env:=by
    cases t<;>first | rfl | cases h.1
   refine a0 e ?_
   refine⟨?_,by simp[ih.2]⟩
   refine a0 List.findIdx?_cons ?_
   simp[ih.1]
theorem fy{ts:List Expr}{k:Nat}{pos:Pos}{a:a5}{xs:List a5}{Q:ai->St->Prop}(ha:cK V a=some xs)(hl:ts.length=xs.length)(h:zb W n sc ts xs ρ V Q)(hs:aQ ts=true:=by rfl):AT W n sc (.Tuple ts k pos) a ρ V Q:=by
 intro A env φ s v R N F r
 refine a0 (arm_assign_Tuple ..) ?_
 refine wpAny_bind (wpAny_standAt ?_)
 unfold unpack
 refine a2 (nV hs env) fun h1 h2=>?_
 refine a0 h1 ?_;refine a0 h2 ?_;refine a0 hl ?_
 refine wpAny_bind (wpAny_holding (gU R.handled N r ha fun vs h' rs E=>?_))
 refine wpAny_mono (pD R hs E.now (F.step E.st) rs h) (fun Z s' z=>?_) fun Z Z z=>z
 obtain⟨φ',V',ρ',x,E',F',r',q⟩:=z
 exact⟨φ',V',ρ',x,(E.mono (fun Z x=>x.elim)).trans E',F',r',q⟩
theorem sy{A:Around}{env:Env}(R:bz n A):∀ {ns:List Str} {xs:List a5} {vs:List Value} {ρ:ai} {V:St} {φ:aj} {s:Shared} {Q:ai->St->Prop},aO W φ V s.heap->az W φ s.heap env sc ρ->ad φ s.heap vs xs->ns.length=xs.length->(ns.all (i5 sc)=true)->
 Q ((ns.zip xs).foldl (fun ρ p=>aJ ρ p.1 p.2) ρ) V->
 d9 W A env sc φ s (assignInOrder (ns.map fun x=>bindName env x) vs) (fun _ _ (_:Unit) (_:Unit)=>True) (fun Z ρ' V'=>Q ρ' V'):=by
 intro ns
 induction ns with
 | nil=>
   intro xs vs ρ V φ s Q N F r hl ho h
   cases xs with
   | nil=>refine r.nil_el ?_;exact d9.pure (x:=()) N F trivial h
   | cons x xs=>cases hl
 | cons x ns ih=>
   intro xs vs ρ V φ s Q N F r hl ho h
   cases xs with
   | nil=>cases hl
   | cons a xs=>
     refine r.cons_el fun v vs rv rs=>?_
     ·rw[List.all_cons,Bool.and_eq_true] at ho
      show d9 W A env sc φ s (do PySem.holding vs (bindName env x v);assignInOrder (ns.map fun x=>bindName env x) vs) _ _
      have hb:d9 W A env sc φ s (PySem.holding vs (bindName env x v)) (fun _ _ (_:Unit) (_:Unit)=>True) (fun Z ρ' V'=>ρ'=aJ ρ x a∧V'=V):=by
       refine wpAny_holding ?_
       unfold bindName
       refine wpAny_bind (wpAny_holding (wpAny_point ?_))
       exact wpAny_bind (wpAny_mono (iT N F rv (dX ho.1).1 (dX ho.1).2 (Q:=fun Z ρ' V'=>ρ'=aJ ρ x a∧V'=V) ⟨rfl,rfl⟩) (fun Z Z z=>wpAny_point z) fun Z Z z=>z)
      refine d9.bind hb fun Z φ₁ V₁ ρ₁ s₁ Z E₁ F₁ Z q=>?_
      refine a2 q ?_;clear q;intro z0 z1;subst z0;subst z1
      exact ih E₁.now F₁ (rs.step E₁.st F.xfree) (Nat.succ.inj hl) ho.2 h
theorem uD{es:List Expr}(h:aQ es=true):(es.any fun | .Starred .. =>true | _=>false)=false:=by
 induction es with
 | nil=>rfl
 | cons e es ih=>
   unfold aQ at h
   rw[List.all_cons,Bool.and_eq_true] at h
   refine a0 List.any_cons ?_;refine a0 (ih h.2) ?_;refine a0 (Bool.or_false ..) ?_
   cases e<;>first | rfl | cases h.1
set_option tactic.hygienic true in
theorem ii{x y:Str}{p q tp vp pos:Pos}{k k':Nat}{e₁ e₂:Expr}{Q:cH->ai->St->Prop}(h:lq W n sc [e₁,e₂] ρ V (fun as V'=>∃ a b,as=[a,b]∧Q .next (aJ (aJ ρ y b) x a) V'))
 (hx:sc.lookup x=some .local:=by rfl)(hy:sc.lookup y=some .local:=by rfl)(hne:x≠y:=by decide)(hl:p.line=q.line:=by rfl)(hf:(foldedForSure 8 e₁&&foldedForSure 8 e₂)=false:=by rfl)(hc:(constantsAlone 8 e₁&&constantsAlone 8 e₂)=false:=by rfl)(hs:aQ [e₁,e₂]=true:=by rfl):
 ST W n sc (.Assign [.Tuple [.Name x p,.Name y q] k tp] (.Tuple [e₁,e₂] k' vp) pos) ρ V Q:=by
 intro A env φ s R N F
 refine a0 (arm_exec_Assign ..) ?_
 refine wpAny_bind (wpAny_standAt ?_)
 have e1:swapsWithSole [.Tuple [.Name x p,.Name y q] k tp] (.Tuple [e₁,e₂] k' vp) pos.line env=Pure.pure false:=rfl
 refine a0 e1 ?_
 refine wpAny_bind (wpAny_pure ?_)
 refine a0 (if_neg (by decide)) ?_
 have kn:∀ x k,sc.lookup x=some k->env.kindOf x=some k:=fun x k e=>by unfold Env.kindOf;refine a0 F.names ?_;exact e
 have he:ET W n sc (.Tuple [e₁,e₂] k' vp) ρ V (fun v V'=>∃ a b,v=.tup [a,b]∧Q .next (aJ (aJ ρ y b) x a) V'):=by
  refine p9 ?_
  intro A env φ s pos R N F
  refine(h A env φ s pos R N F).mono fun as V' z=>?_
  refine cW z ?_;clear z;intro a b z2 q;subst z2
  exact⟨by simp,a,b,rfl,q⟩
 refine d9.bind ((he A env φ s R N F).inS F) fun v φ₁ V₁ ρ₁ s₁ a E₁ F₁ r z=>?_
 obtain⟨rfl,a,b,rfl,qq⟩:=z
 have bk:env.blockKind=.function:=by unfold Env.blockKind;refine a0 F.kind ?_;rfl
 have hsw:swappedStores [.Tuple [.Name x p,.Name y q] k tp] (.Tuple [e₁,e₂] k' vp) env=Pure.pure (some [x,y]):=by
  have hst:=uD hs
  have hnames:([Expr.Name x p,Expr.Name y q].filterMap fun
   | .Name id pos=>if env.kindOf id==some .local&&pos.line==p.line then some id else none
   | _=>none)=[x,y]:=by
   have cx:(env.kindOf x==some .local&&p.line==p.line)=true:=by rw[kn x _ hx];exact beq_self_eq_true p.line
   have cy:(env.kindOf y==some .local&&q.line==p.line)=true:=by rw[kn y _ hy];exact beq_iff_eq.mpr hl.symm
   refine(List.filterMap_cons_some (b:=x) ?_).trans (congrArg (x:: ·) ((List.filterMap_cons_some (b:=y) ?_).trans rfl))
   ·exact if_pos cx
   ·exact if_pos cy
  have hdd:([x,y].eraseDups.length != [x,y].length)=false:=by
   have:(y==x)=false:=beq_eq_false_iff_ne.mpr (Ne.symm hne)
   simp[List.eraseDups_cons,this]
  refine(if_neg (fun hh=>by rw[bk] at hh;exact nomatch hh)).trans ?_
  have c2:(([e₁,e₂]:List Expr).all (foldedForSure 8))=false:=by simpa using hf
  have c3:(([e₁,e₂]:List Expr).all (constantsAlone 8))=false:=by simpa using hc
  refine(if_neg (fun hh=>Bool.noConfusion (hh.symm.trans hst))).trans ?_
  refine(if_neg (fun hh=>?_)).trans ?_
  ·have h2:(([x,y].length != 2||[x,y].eraseDups.length != [x,y].length))=true:=by refine aX hnames ?_;exact hh
   rw[hdd] at h2
   exact absurd h2 (by exact fun z=>nomatch z)
  refine(if_neg (fun hh=>by rw[c2] at hh;cases hh)).trans ?_
  refine(if_neg (fun hh=>by rw[c3] at hh;cases hh)).trans ?_
  exact congrArg (fun l=>(Pure.pure (some l):Sem (Option (List Str)))) hnames
 refine a0 hsw ?_
 refine wpAny_bind (wpAny_pure ?_)
 show d9 W A env sc φ₁ s₁ (do rule "assign.swapped-stores";let items ← unpackItems v 2 none;assignInOrder ([y,x].map fun n=>bindName env n) items.reverse;Pure.pure Flow.next) na Q
 refine wpAny_bind (wpAny_rule ?_)
 refine wpAny_bind (gU (xs:=[a,b]) R.handled E₁.now r rfl fun vs h' rs E=>?_)
 have hxo:i5 sc x=true:=by unfold i5;refine a0 hx ?_;rfl
 have hyo:i5 sc y=true:=by unfold i5;refine a0 hy ?_;rfl
 have rr:ad φ₁ h' vs.reverse [b,a]:=rs.reverse
 have go:d9 W A env sc φ₁ {s₁ with heap:=h'} (do assignInOrder (List.map (fun n=>bindName env n) [y,x]) vs.reverse;Pure.pure Flow.next) na Q:=by
  refine d9.bind (sy (Q:=fun ρ' V'=>Q .next ρ' V') (ns:=[y,x]) R E.now (F₁.step E.st) rr rfl (by simp[hxo,hyo]) qq) fun Z φ₂ V₂ ρ₂ s₂ Z E₂ F₂ Z q=>?_
  exact d9.pure E₂.now F₂ na.next q
 refine wpAny_mono go (fun Z s' z=>?_) fun Z Z z=>z
 obtain⟨φ',V',ρ',x,E',F',r',q⟩:=z
 exact⟨φ',V',ρ',x,(E.mono (fun Z x=>x.elim)).trans E',F',r',q⟩
end
section
variable{W:Wd}{n:Nat}{sc:ah}{ρ:ai}{V:St}
theorem bz.make{A:Around}{C:Addr}{rest:List Value}(r:bz (n+1) A):bz n (A.under (.builtin "type.__call__" ⟨.ref C::rest,[]⟩)):=by
 refine⟨r.handled,?_,?_⟩
 ·have:=r.depth
  show A.depth+1+4*n≤950
  lia
 ·have:=r.units
  show A.units+1+40*n≤9500
  lia
theorem aq.obj{φ:aj}{s:Shared}{C:Addr}(N:aO W φ V s.heap):
 let s':Shared:={s with heap:=(s.heap.push emptyDict).push (instObj C s.heap.objs.size)}
 aq W (fun Z=>False) φ s (φ.add (s.heap.objs.size+1,s.heap.objs.size)) (V++[.inst C []]) s'∧aa (φ.add (s.heap.objs.size+1,s.heap.objs.size)) s'.heap (.ref (s.heap.objs.size+1)) (.ref V.length):=by
 intro s'
 have k:∀ b o,s.heap.get? b=some o->s'.heap.get? b=some o:=fun b o e=>Heap.get?_push_of_some _ (Heap.get?_push_of_some _ e)
 have e2:s'.heap.get? s.heap.objs.size=some (dictOf [] 0):=Heap.get?_push_of_some _ (Heap.get?_push_size _ rfl)
 have e1:s'.heap.get? (s.heap.objs.size+1)=some (instObj C s.heap.objs.size):=by
  have:=Heap.get?_push_size (s.heap.push emptyDict) (o:=instObj C s.heap.objs.size) rfl
  rw[Heap.size_push] at this
  exact this
 have gr:s.heap.objs.size≤s'.heap.objs.size:=by
  have:=Heap.lt_size e2
  exact Nat.le_of_lt this
 exact aq.adopt (p:=(s.heap.objs.size+1,s.heap.objs.size)) (o:=.inst C []) N k gr (Nat.le_succ _) (Nat.le_refl _) (fun S=>.inst e1 e2 (Nat.ne_of_lt (Nat.lt_succ_self _)) (by exact Nat.zero_le _) .nil) s.toks
theorem io{C f:Addr}{args:List a5}{Q:a5->St->Prop}(hm:makesIn W.K C=true)(hi:findIn W.K (.ref C) "__init__"=some (some (.ref f)))(hf:typeIn W.K (.ref f)=some (.type "function"))
 (h:CC W n (.ref f) (.ref V.length::args) (V++[.inst C []]) (fun r V'=>r=.none∧Q (.ref V.length) V')):CT W (n+1) (.ref C) args V Q:=by
 intro A φ s vs R N r
 refine a2 (aq.obj (C:=C) N) fun E rv=>?_
 obtain⟨hh,g,d,t,os⟩:=s
 refine wpAny_call ?_
 refine make_core (makes_of N.X hm) (looks_findIn N.X hi) (fun self=>bind_fn N.X self hf) (.inl rfl) ?_
 refine codeAny_mono (h _ _ _ (.ref (hh.objs.size+1)::vs) R.make E.now (.cons rv (r.step E.st (ae _ _)))) fun r s' hr=>?_
 cases r with
 | error e=>exact hr.elim
 | ok fl=>
   cases fl with
   | ret v=>
     obtain⟨φ',V',x,E',rx,rfl,q⟩:=hr
     cases rx
     exact⟨rfl,φ',V',_,E.trans E',rv.step E'.st (ae _ _),q⟩
   | _=>exact hr.elim
theorem im{C:Addr}{Q:a5->St->Prop}(hm:makesIn W.K C=true)(hi:findIn W.K (.ref C) "__init__"=some (some (.builtin "object.__init__")))(q:Q (.ref V.length) (V++[.inst C []])):CT W n (.ref C) [] V Q:=by
 intro A φ s vs R N r
 refine r.nil_el ?_
 refine a2 (aq.obj (C:=C) N) fun E rv=>?_
 obtain⟨hh,g,d,t,os⟩:=s
 have Y:=makes_of (M:=model W.prog W.w) N.X hm
 refine wpAny_call ?_
 refine make_core Y (looks_findIn N.X hi) (fun self=>Looks.of_pure (oi_bind self)) (.inr ⟨rfl,rfl⟩) ?_
 have e1:((hh.push emptyDict).push (instObj C hh.objs.size)).get? (hh.objs.size+1)=some (instObj C hh.objs.size):=by
  have:=Heap.get?_push_size (hh.push emptyDict) (o:=instObj C hh.objs.size) rfl
  rw[Heap.size_push] at this
  exact this
 have t1:Looks (model W.prog W.w) ((hh.push emptyDict).push (instObj C hh.objs.size)) (typeOf (.ref (hh.objs.size+1))) (.ref C):=(Looks.ld e1).andThen .now
 have t2:Looks (model W.prog W.w) ((hh.push emptyDict).push (instObj C hh.objs.size)) (isInstance (.ref (hh.objs.size+1)) (.type "object")) true:=t1.andThen (Y.top.keeps fun b o e=>Heap.get?_push_of_some _ (Heap.get?_push_of_some _ e))
 refine codeAny_call_builtin oi_plain entry_oi (@check_slot (model W.prog W.w) _ _ _ "object.__init__" "object" "__init__" (.ref (hh.objs.size+1)) [] [] _ oi_kind oi_split t2 (oi_args (.ref (hh.objs.size+1))) ?_)
 refine a0 (oi_run ..) ?_
 exact wpAny_pure (And.intro rfl ⟨_,_,_,E,rv,q⟩)
end
noncomputable abbrev aU:=List (Nat×af)
noncomputable def aU.keys(l:aU):List Nat:=l.map (fun x=>x.1)
structure b8(V:St)(l:aU):Prop where
 at':∀ p∈l,V[p.1]? =some p.2
 nodup:(aU.keys l).Nodup
theorem b8.get{V:St}{l:aU}(h:b8 V l){i:Nat}{p:Nat}{o:af}(e:l[i]? =some (p,o)):V[p]? =some o:=h.at' (p,o) (List.mem_of_getElem? e)
theorem b8.ne{V:St}{l:aU}(h:b8 V l){i j p q:Nat}{o o':af}(e:l[i]? =some (p,o))(e':l[j]? =some (q,o'))(d:i≠j):p≠q:=fun x=>
 have k:∀ {i p o},l[i]? =some (p,o)->(aU.keys l)[i]? =some p:=fun{i p o} e=>(List.getElem?_map ..).trans (congrArg (Option.map _) e)
 d ((List.getElem?_inj (List.getElem?_eq_some_iff.mp (k e)).1 h.nodup).mp ((k e).trans (x▸(k e').symm)))
theorem mV{α:Type}{P:α->Prop}{a:α}{l:List α}(h:P a)(k:∀ x∈l,P x):∀ x∈a::l,P x:=fun x m=>(List.mem_cons.mp m).elim (fun e=>e▸h) (k x)
theorem zq{α:Type}{P:α->Prop}:∀ x∈([]:List α),P x:=fun Z m=>nomatch m
theorem b8.lt{V:St}{l:aU}(h:b8 V l){q:Nat}(hq:q∈aU.keys l):q<V.length:=by
 refine a7 (List.mem_map.mp hq) fun p hp z2=>?_;subst z2
 exact(List.getElem?_eq_some_iff.mp (h.at' p hp)).1
set_option tactic.hygienic true in
theorem oa(l:aU)(i:Nat)(p:Nat)(o o':af)(e:l[i]? =some (p,o)):aU.keys (l.set i (p,o'))=aU.keys l:=by
 unfold aU.keys
 refine a0 List.map_set ?_
 refine List.ext_getElem? fun j=>?_
 refine a0 List.getElem?_set ?_
 split
 ·rename_i h
  subst h
  refine a0 List.getElem?_map ?_;refine a0 e ?_
  simp
  have:=(List.getElem?_eq_some_iff.mp e).1
  simpa using this
 ·rfl
set_option tactic.hygienic true in
theorem b8.set{V:St}{l:aU}(h:b8 V l){i p:Nat}{o:af}(o':af)(e:l[i]? =some (p,o)):b8 (V.set p o') (l.set i (p,o')):=by
 have hp:p<V.length:=(List.getElem?_eq_some_iff.mp (h.get e)).1
 refine⟨fun q hq=>?_,by refine a0 (oa l i p o o' e) ?_;exact h.nodup⟩
 refine aH (List.getElem?_of_mem hq) fun j hj=>?_
 rw[List.getElem?_set] at hj
 split at hj
 ·split at hj
  ·cases hj
   show(V.set p o')[p]? =some o'
   refine a0 (List.getElem?_set_self hp) ?_;rfl
  ·cases hj
 ·rename_i hne
  have hq':q.1≠p:=by
   intro eq
   have h1:(aU.keys l)[j]? =some q.1:=by unfold aU.keys;refine a0 List.getElem?_map ?_;refine a0 hj ?_;rfl
   have h2:(aU.keys l)[i]? =some p:=by unfold aU.keys;refine a0 List.getElem?_map ?_;refine a0 e ?_;rfl
   rw[eq] at h1
   have:=(List.getElem?_inj (List.getElem?_eq_some_iff.mp h2).1 h.nodup).mp (h2.trans h1.symm)
   exact hne this
  refine a0 (List.getElem?_set_ne hq'.symm) ?_
  exact h.at' q (List.mem_of_getElem? hj)
theorem b8.grow{V:St}{l:aU}(h:b8 V l)(o:af):b8 (V++[o]) l:=
 ⟨fun p hp=>by refine a0 (List.getElem?_append_left (h.lt (List.mem_map_of_mem hp))) ?_;exact h.at' p hp,h.nodup⟩
theorem b8.push{V:St}{l:aU}(h:b8 V l)(o:af):b8 (V++[o]) (l++[(V.length,o)]):=by
 refine⟨fun p hp=>?_,?_⟩
 ·rcases List.mem_append.mp hp with hp | hp
  ·exact h.grow o |>.at' p hp
  ·refine a0 (List.mem_singleton.mp hp) ?_;exact List.getElem?_concat_length ..
 ·unfold aU.keys
  refine a0 List.map_append ?_;refine bt List.nodup_append ?_
  refine i3 h.nodup (by simp) (fun a ha b hb=>?_)
  have:a<V.length:=h.lt ha
  simp at hb
  exact Nat.ne_of_lt (a9 this (fX hb))
structure aK(V:St)(fp:List Nat)(V':St)(fp':List Nat):Prop where
 len:V.length≤V'.length
 keep:∀ q,q<V.length->q∉fp->V'[q]? =V[q]?
 fresh:∀ q∈fp',q∈fp∨V.length≤q
theorem aK.refl{V:St}{fp:List Nat}:aK V fp V fp:=⟨Nat.le_refl _,fun Z Z Z=>rfl,fun Z h=>.inl h⟩
theorem aK.trans{V₀ V₁ V₂:St}{a b c:List Nat}(x:aK V₀ a V₁ b)(y:aK V₁ b V₂ c):aK V₀ a V₂ c:=
 ⟨a9 x.len y.len,fun q h1 h2=>(y.keep q (Nat.lt_of_lt_of_le h1 x.len) fun h=>(x.fresh q h).elim h2 fun h3=>absurd h1 (Nat.not_lt.mpr h3)).trans (x.keep q h1 h2),
  fun q h=>(y.fresh q h).elim (fun h=>(x.fresh q h)) fun h=>.inr (a9 x.len h)⟩
theorem aK.set{V:St}{fp:List Nat}{p:Nat}(h:p∈fp)(o:af):aK V fp (V.set p o) fp:=
 ⟨by simp,fun q Z hq=>List.getElem?_set_ne (fun(e:p=q)=>hq (by refine aX e ?_;exact h)),fun Z h=>.inl h⟩
theorem aK.grow{V:St}{fp:List Nat}(o:af):aK V fp (V++[o]) fp:=⟨by simp,fun q h Z=>List.getElem?_append_left h,fun Z h=>.inl h⟩
theorem aK.push{V:St}{fp:List Nat}(o:af):aK V fp (V++[o]) (fp++[V.length]):=
 ⟨by simp,fun q h Z=>List.getElem?_append_left h,fun q h=>(List.mem_append.mp h).imp id fun h=>by refine a0 (List.mem_singleton.mp h) ?_;exact Nat.le_refl _⟩
theorem b8.other{V V':St}{fp fp':List Nat}{l:aU}(h:b8 V l)(x:aK V fp V' fp')(d:∀ q∈aU.keys l,q∉fp):b8 V' l:=
 ⟨fun p hp=>(x.keep p.1 (h.lt (List.mem_map_of_mem hp)) (d _ (List.mem_map_of_mem hp))).trans (h.at' p hp),h.nodup⟩
theorem aK.apart{V V':St}{fp fp':List Nat}{l:aU}(h:b8 V l)(x:aK V fp V' fp')(d:∀ q∈aU.keys l,q∉fp):∀ q∈aU.keys l,q∉fp':=fun q hq hf=>
 (x.fresh q hf).elim (d q hq) fun h2=>absurd (h.lt hq) (Nat.not_lt.mpr h2)
theorem aK.more{V V':St}{fp fp' gp:List Nat}(x:aK V fp V' fp')(h:∀ q∈fp,q∈gp)(h':∀ q∈gp,q∈fp'∨q∈gp):aK V gp V' gp:=⟨x.len,fun q a b=>x.keep q a fun c=>b (h q c),fun Z h=>.inl h⟩
noncomputable abbrev nats(l:List Nat):List a5:=l.map fun n=>.int (Int.ofNat n)
theorem fP{V:St}{l:Nat}{xs:List a5}(h:V[l]? =some (.list xs)):cK V (.ref l)=some xs:=by unfold cK;dsimp only;refine a0 h ?_;rfl
theorem dy{V:St}{l:Nat}{xs:List a5}(h:V[l]? =some (.list xs)):bn V (.ref l)=some xs:=by unfold bn;dsimp only;refine a0 h ?_;rfl
section
variable{W:Wd}{n:Nat}{sc:ah}{ρ:ai}{V:St}
theorem bE{l i:Nat}{xs:List a5}{x:a5}{Q:a5->St->Prop}(h:V[l]? =some (.list xs))(hi:i≤1000000000)(hx:xs[i]? =some x)(q:Q x V):n4 W n (.ref l) (.int (Int.ofNat i)) V Q:=
 bC (fP h) (Int.natCast_nonneg i) (Int.lt_of_lt_of_le (show Int.ofNat i<1000000001 from by show(i:Int)<_;lia) (by decide)) hx q
theorem cS{i:Nat}{xs:List a5}{x:a5}{Q:a5->St->Prop}(hi:i≤1000000000)(hx:xs[i]? =some x)(q:Q x V):n4 W n (.tup xs) (.int (Int.ofNat i)) V Q:=
 bC (o:=.tup xs) rfl (Int.natCast_nonneg i) (Int.lt_of_lt_of_le (show Int.ofNat i<1000000001 from by show(i:Int)<_;lia) (by decide)) hx q
theorem hF{l:List Nat}{i p:Nat}(h:l[i]? =some p):(nats l)[i]? =some (.int (Int.ofNat p)):=by
 refine a0 List.getElem?_map ?_;refine a0 h ?_;rfl
theorem aN{i j:Int}:cu W n .Eq (.int i) (.int j) V (decide (i=j)):=gE (W:=W) (n:=n) (V:=V) (a:=.int i) (b:=.int j) rfl rfl
theorem dv{i j:Int}:cu W n .NotEq (.int i) (.int j) V (!decide (i=j)):=gD (W:=W) (n:=n) (V:=V) (a:=.int i) (b:=.int j) rfl rfl
end
theorem fQ{body:a5->af->ai->St->(af->ai->St->Prop)->Prop}{st:St->Prop}{Q:af->ai->St->Prop}(I:List a5->af->ai->St->Prop)(h0:∀ acc ρ V,I [] acc ρ V->Q acc ρ V)
 (h1:∀ x xs acc ρ V (K:af->ai->St->Prop),I (x::xs) acc ρ V->(∀ acc' ρ' V',st V'->I xs acc' ρ' V'->K acc' ρ' V')->body x acc ρ V K):∀ xs acc ρ V,I xs acc ρ V->kB body st xs acc ρ V Q
 | [],acc,ρ,V,h=>h0 acc ρ V h
 | x::xs,acc,ρ,V,h=>h1 x xs acc ρ V _ h fun acc' ρ' V' hs h'=>⟨hs,fQ I h0 h1 xs acc' ρ' V' h'⟩
theorem p8{W:Wd}{n:Nat}{sc:ah}{target:Expr}{body:List Stmt}{a:a5}{all:List a5}{Q:cH->ai->St->Prop}(I:List a5->ai->St->Prop)(h0:∀ ρ V,I [] ρ V->Q .next ρ V)
 (h1:∀ x xs ρ V (K:ai->St->Prop),I (x::xs) ρ V->(∀ ρ' V',I xs ρ' V'->K ρ' V')->AT W n sc target x ρ V (fun ρ₁ V₁=>df W n sc body ρ₁ V₁ (fun f ρ₂ V₂=>match f with
  | .next | .cont=>aI V₂ a=some all∧K ρ₂ V₂
  | .brk=>Q .next ρ₂ V₂
  | .ret v=>Q (.ret v) ρ₂ V₂))):∀ xs ρ V,I xs ρ V->n6 W n sc target body a all Q xs ρ V
 | [],ρ,V,h=>h0 ρ V h
 | x::xs,ρ,V,h=>h1 x xs ρ V _ h fun ρ' V' h'=>p8 I h0 h1 xs ρ' V' h'
section
variable{W:Wd}{n:Nat}{sc:ah}{ρ:ai}{V:St}
theorem f0(l:List Nat):nats l=aL (l.map Int.ofNat):=by exact(List.map_map ..).symm
theorem kL{a:a5}{l:List Nat}{Q:a5->St->Prop}(e:bn V a=some (nats l))(h64:l.length<64)(q:∀ l':List Nat,l'.Perm l->l'.Pairwise (fun x y=>x≤y)->Q (.frz (nats l')) V):CT W n (.builtin "sorted") [a] V Q:=by
 refine sT (ns:=l.map Int.ofNat) (by refine a0 e ?_;refine a0 (f0 ..) ?_;rfl) (by simpa using h64) fun ns' hp ho=>?_
 have e1:(ns'.map Int.toNat).map Int.ofNat=ns':=by
  refine a0 List.map_map ?_
  have:∀ x∈ns',(Int.ofNat ∘ Int.toNat) x=x:=by
   intro x hx
   have:=hp.mem_iff.mp hx
   refine a7 (List.mem_map.mp this) fun k Z z2=>?_;subst z2
   rfl
  conv=>rhs;rw[← List.map_id ns']
  exact List.map_congr_left this
 have hp':(ns'.map Int.toNat).Perm l:=by
  have:=hp.map Int.toNat
  rw[List.map_map] at this
  have e2:l.map (Int.toNat ∘ Int.ofNat)=l:=by
   conv=>rhs;rw[← List.map_id l]
   exact List.map_congr_left fun x Z=>rfl
  rw[e2] at this
  exact this
 have ho':(ns'.map Int.toNat).Pairwise (fun x y=>x≤y):=by
  refine bt List.pairwise_map ?_
  refine ho.imp fun{x y} h=>?_
  lia
 have:=q _ hp' ho'
 rw[f0,e1] at this
 exact this
end
theorem iJ(ρ:ai)(x:Str)(a b:a5):aJ (aJ ρ x a) x b=aJ ρ x b:=by
 induction ρ with
 | nil=>simp[aJ]
 | cons y r ih=>
   obtain⟨k,v⟩:=y
   have e:∀ c,aJ ((k,v)::r) x c=if k=x then(x,c)::r else(k,v)::aJ r x c:=fun c=>rfl
   refine a0 (e ..) ?_;refine a0 (e ..) ?_
   by_cases h:k=x
   ·refine a0 (if_pos h) ?_;refine a0 (if_pos h) ?_
    show(if x=x then(x,b)::r else _)=_
    refine a0 (if_pos rfl) ?_;rfl
   ·refine a0 (if_neg h) ?_;refine a0 (if_neg h) ?_
    show(if k=x then _ else(k,v)::aJ (aJ r x a) x b)=_
    refine a0 (if_neg h) ?_;refine a0 ih ?_;rfl
section
variable{W:Wd}{n:Nat}{sc:ah}{ρ:ai}{V:St}
set_option tactic.hygienic true in
theorem sn{new:Bool}{elt:Expr}{g:Comprehension}{scope:Scope}{nm:Str}{Q:a5->St->Prop}(hn:dt g.target=some nm)
 (h:ET W n sc g.iter ρ V (fun a V'=>∃ ys,aI V' a=some ys∧ys.length≤1000000∧∃ (p:a5->Bool) (f:a5->a5),
  (∀ x∈ys,∀ K:Bool->St->Prop,K (p x) V'->p7 W n (aw scope.names sc) g.ifs (aJ (aR scope.names sc ρ) nm x) V' K)∧
  (∀ x∈ys,p x=true->∀ K:a5->St->Prop,K (f x) V'->ET W n (aw scope.names sc) elt (aJ (aR scope.names sc ρ) nm x) V' K)∧
  ∃ out,(ys.filter p).map f=out∧CK new Q (.list out) V')):dZ W n sc new (.list elt) g [] scope ρ V Q:=by
 unfold dZ
 intro A env φ s R N F
 refine(h A env φ s R N F).mono fun a V' z=>bw z fun ys h1 hl z=>bR z fun p f hp hf z=>a7 z fun out ho hq=>a6 ys h1 ?_
 refine fQ (I:=fun xs acc ρ' V''=>V''=V'∧(∃ done,ys=done++xs∧acc=.list ((done.filter p).map f))∧∀ x,aJ ρ' nm x=aJ (aR scope.names sc ρ) nm x) ?_ ?_ _ _ _ _ (i3 rfl (a6 ([]) rfl rfl) (fun Z=>rfl))
 ·rintro acc ρ' V'' ⟨rfl,⟨done,h2,rfl⟩,_⟩
  rw[List.append_nil] at h2
  subst h2
  refine a0 ho ?_
  exact hq
 ·rintro x xs acc ρ' V'' K ⟨rfl,⟨done,h2,rfl⟩,hρ⟩ hK
  have hx:x∈ys:=by refine a0 h2 ?_;exact List.mem_append_right _ (.head _)
  refine a6 nm hn ?_
  refine a0 (hρ ..) ?_
  refine hp x hx _ ?_
  have next:∀ acc',acc'=.list (((done++[x]).filter p).map f)->K acc' (aJ (aR scope.names sc ρ) nm x) V'':=by
   rintro acc' rfl
   refine hK _ _ _ h1 (i3 rfl (a6 (done++[x]) (by refine a0 h2 ?_;simp) rfl) (fun y=>iJ _ _ _ _))
  by_cases hpx:p x=true
  ·refine a0 (if_pos hpx) ?_
   refine aP _ rfl ?_ (hf x hx hpx _ (next _ ?_))
   ·refine a0 (List.length_map ..) ?_
    refine a9 (List.length_filter_le _ _) (a9 ?_ hl)
    refine a0 h2 ?_;simp
   ·refine a0 (List.filter_append ..) ?_;refine a0 List.map_append ?_
    simp[List.filter_cons,hpx]
  ·refine a0 (if_neg hpx) ?_
   refine next _ ?_
   refine a0 (List.filter_append ..) ?_;refine a0 List.map_append ?_
   simp[List.filter_cons,hpx]
theorem cD{Q:Bool->St->Prop}(q:Q true V):p7 W n sc [] ρ V Q:=q
theorem eH{c:Expr}{Q:Bool->St->Prop}(h:BT W n sc c ρ V (fun b V'=>if b=true then Q true V' else Q false V')):p7 W n sc [c] ρ V Q:=h
end
theorem sf{α:Type}(l:List α):(l.filter fun Z=>true)=l:=by simp
section
variable{W:Wd}{n:Nat}{sc:ah}{ρ:ai}{V:St}
noncomputable def xV(W:Wd)(n:Nat)(op:Operator)(a b:a5)(V:St)(Q:a5->St->Prop):Prop:=
 ∀ (A:Around) (φ:aj) (s:Shared) (v w:Value),bz n A->aO W φ V s.heap->aa φ s.heap v a->aa φ s.heap w b->TT W (fun Z=>False) A φ s (binaryOp op v w) aa Q
theorem wG{l r:Expr}{op:Operator}{pos:Pos}{Q:a5->St->Prop}(h:ET W n sc l ρ V (fun a V'=>ET W n sc r ρ V' (fun b V''=>xV W n op a b V'' Q))):ET W n sc (.BinOp l op r pos) ρ V Q:=by
 intro A env φ s R N F
 refine a0 (arm_eval_BinOp ..) ?_
 refine TT.bind (h A env φ s R N F) fun v φ₁ V₁ s₁ a E₁ ra q=>?_
 refine TT.bind (q A env φ₁ s₁ R E₁.now (F.step E₁.st)).holding fun w φ₂ V₂ s₂ b E₂ rb q=>?_
 exact wpAny_bind (wpAny_standAt (TT.operate (q A φ₂ s₂ v w R E₂.now (ra.step E₂.st (ae _ _)) rb)))
theorem lU{a b:a5}{xs ys:List a5}{Q:a5->St->Prop}(o:af)(ea:bn V a=some xs)(eb:bn V b=some ys)(hl:xs.length+ys.length≤1000000)(he:af.list (xs++ys)=o)(q:Q (.ref V.length) (V++[o])):xV W n .Add a b V Q:=by
 intro A φ s v w R N ra rb
 refine bR (ra.list N ea) fun t vs z2 ht rs=>?_;subst z2
 refine bR (rb.list N eb) fun b ws z2 hb ts=>?_;subst z2
 obtain⟨⟨cls,dd,data,sl⟩,ho,hc,k,hd⟩:=id ht
 obtain⟨⟨cls2,dd2,data2,sl2⟩,ho2,hc2,k2,hd2⟩:=id hb
 simp only at hc hd hc2 hd2
 subst hc hd hc2 hd2
 have l1:=rs.length
 have l2:=ts.length
 simp only[Array.length_toList] at l1 l2
 refine concat_meets (a6 _ ho rfl) (a6 _ ho2 rfl) noFill_list_add seq_list_add PySem.F.slot_list_add PySem.F.entry_list_add (PySem.F.args_list_add_2 _ _) (list_addW t b vs ws k k2 dd dd2 sl sl2 (by refine a0 l1 ?_;refine a0 l2 ?_;refine a0 sizeLine_eq ?_;exact a9 hl (by decide))) (i3 ho ho2 ?_)
 refine a2 (aq.newList (its:=vs++ws) (m:=0) N (fun b o e=>Heap.get?_push_of_some (seqObj "list" (vs++ws) 0) e) (Nat.le_refl _) (Heap.get?_push_size _ rfl) (by rw[Array.toList_append];exact rs.append ts) s.toks) fun E' r'=>?_
 rw[he] at E'
 exact⟨_,_,_,E',r',q⟩
end
theorem b8.of{V:St}{l:aU}(h1:∀ p∈l,V[p.1]? =some p.2)(h2:(aU.keys l).Nodup):b8 V l:=⟨h1,h2⟩
end
section
open PySem
noncomputable def lY(xs:Array Nat):Prop:=∀ i j,i<j->j<xs.size->xs.getD i 0<xs.getD j 0
theorem lY.lt{xs:Array Nat}(h:lY xs){i j:Nat}(hij:i<j)(hj:j<xs.size):xs.getD i 0<xs.getD j 0:=h i j hij hj
theorem uB{xs:Array Nat}(h:lY xs)(j:Nat):∀ aS lo hi,hi≤xs.size->lo≤hi->hi - lo≤aS->(∀ k,k<lo->xs.getD k 0<j)->(∀ k,hi≤k->k<xs.size->j≤xs.getD k 0)->
 ∀ b,SetTable.below.go xs j aS lo hi=b->b≤xs.size∧(∀ k,k<b->xs.getD k 0<j)∧(∀ k,b≤k->k<xs.size->j≤xs.getD k 0):=by
 intro aS
 induction aS with
 | zero=>
   intro lo hi h1 h2 h3 h4 h5 b e
   have:b=lo:=e.symm
   subst this
   exact i3 (by exact a9 h2 h1) h4 (fun k hk=>h5 k (by lia))
 | succ aS ih=>
   intro lo hi h1 h2 h3 h4 h5 b e
   by_cases hl:lo<hi
   ·replace e:=(if_pos hl).symm.trans e
    have m1:lo≤(lo+hi) / 2:=(Nat.le_div_iff_mul_le (by decide)).mpr (Nat.mul_two lo▸Nat.add_le_add_left h2 _)
    have m2:(lo+hi) / 2<hi:=Nat.div_lt_of_lt_mul (Nat.two_mul hi▸Nat.add_lt_add_right hl _)
    dsimp only at e
    generalize (lo+hi) / 2=m at e m1 m2
    have ge:xs.getD m j=xs.getD m 0:=by simp[Array.getD,Nat.lt_of_lt_of_le m2 h1]
    rw[ge] at e
    by_cases hm:xs.getD m 0<j
    ·rw[if_pos hm] at e
     refine ih _ _ h1 m2 (by lia) (fun k hk=>?_) h5 b e
     rcases Nat.lt_or_ge k m with z | z
     ·exact Nat.lt_trans (h k _ z (Nat.lt_of_lt_of_le m2 h1)) hm
     ·rw[Nat.le_antisymm (Nat.le_of_lt_succ hk) z];exact hm
    ·rw[if_neg hm] at e
     refine ih _ _ (a9 (Nat.le_of_lt m2) h1) m1 (by lia) h4 (fun k hk hk'=>?_) b e
     rcases Nat.lt_or_ge m k with z | z
     ·exact a9 (Nat.not_lt.mp hm) (Nat.le_of_lt (h _ k z hk'))
     ·rw[Nat.le_antisymm z hk];exact Nat.not_lt.mp hm
   ·have:b=lo:=((if_neg hl).symm.trans e).symm
    subst this
    exact i3 (a9 h2 h1) h4 fun k hk=>h5 k (a9 (Nat.not_lt.mp hl) hk)
theorem dw{xs:Array Nat}(h:lY xs)(j:Nat):SetTable.below xs j≤xs.size∧(∀ k,k<SetTable.below xs j->xs.getD k 0<j)∧(∀ k,SetTable.below xs j≤k->k<xs.size->j≤xs.getD k 0):=
 uB h j xs.size 0 xs.size (Nat.le_refl _) (Nat.zero_le _) (by exact a9 (Nat.sub_le ..) (Nat.le_refl _)) (fun k hk=>by exact absurd (Nat.lt_of_lt_of_le hk (Nat.zero_le _)) (Nat.lt_irrefl _)) (fun k h1 h2=>by lia) _ rfl
theorem fL{xs:Array Nat}{k j:Nat}(h:xs[k]? =some j):xs.getD k 0=j∧k<xs.size:=by
 refine aH (Array.getElem?_eq_some_iff.mp h) fun h1 h2=>?_
 exact⟨by simp[Array.getD,h1,h2],h1⟩
theorem fE{xs:Array Nat}{k:Nat}(h:k<xs.size):xs[k]? =some (xs.getD k 0):=by simp[Array.getD,h]
theorem sB{xs:Array Nat}(h:lY xs){j:Nat}(hj:j∈xs.toList):xs[SetTable.below xs j]? =some j:=by
 refine a3 (dw h j) fun h1 h2 h3=>?_
 refine aH (List.getElem?_of_mem hj) fun k hk=>?_
 rw[Array.getElem?_toList] at hk
 refine a2 (fL hk) fun e1 e2=>?_
 have a:¬k<SetTable.below xs j:=fun z=>by have:=h2 k z;exact absurd (Nat.lt_of_lt_of_le this (fX e1)) (Nat.lt_irrefl _)
 rcases Nat.lt_or_ge (SetTable.below xs j) k with z | z
 ·have q:=h3 _ (Nat.le_refl _) (by exact a9 z (Nat.le_of_lt e2))
  have:=h _ k z e2
  lia
 ·have:k=SetTable.below xs j:=by exact Nat.le_antisymm z (Nat.not_lt.mp a)
  refine aX this ?_;exact hk
theorem sA{xs:Array Nat}(h:lY xs){j:Nat}(hj:j∉xs.toList):xs[SetTable.below xs j]? ≠some j:=fun e=>hj (by
 have:xs.toList[SetTable.below xs j]? =some j:=by refine a0 Array.getElem?_toList ?_;exact e
 exact List.mem_of_getElem? this)
theorem lY.empty:lY #[]:=fun i j Z h=>by simp at h
theorem above{k p:Nat}(h:¬k<p)(e:k≠p):∃ c,k=c+1∧p≤c:=⟨k - 1,by lia,by lia⟩
theorem mL{xs:Array Nat}{p x k:Nat}(hp:p≤xs.size):(SetTable.insertAt xs p x)[k]? =if k<p then xs[k]? else if k=p then some x else xs[k - 1]? :=by
 refine aX Array.getElem?_toList ?_;refine a0 (SetTable.toList_insertAt ..) ?_
 refine a0 List.getElem?_append ?_
 have l1:(xs.toList.take p).length=p:=List.length_take_of_le hp
 refine a0 l1 ?_
 by_cases h:k<p
 ·refine a0 (if_pos h) ?_;refine a0 (if_pos h) ?_;refine a0 List.getElem?_take ?_;refine a0 (if_pos h) ?_;refine a0 Array.getElem?_toList ?_;rfl
 ·refine a0 (if_neg h) ?_;refine a0 (if_neg h) ?_
  by_cases e:k=p
  ·subst e;simp
  ·refine a0 (if_neg e) ?_
   refine a7 (above h e) fun c z pc=>?_;subst z
   refine a0 (Nat.succ_sub pc) ?_;refine a0 List.getElem?_cons_succ ?_;refine a0 List.getElem?_drop ?_;refine a0 Array.getElem?_toList ?_
   exact congrArg (fun z=>xs[z]?) (Nat.add_sub_of_le pc)
theorem cR{α:Type}{xs:Array α}{p:Nat}{x:α}:(SetTable.insertAt xs p x).size=xs.size+1:=by
 have:=(SetTable.insertAt_perm xs p x).length_eq
 simpa using this
theorem lY.insert{xs:Array Nat}(h:lY xs){j:Nat}(hj:j∉xs.toList):lY (SetTable.insertAt xs (SetTable.below xs j) j):=by
 refine a3 (dw h j) fun h1 h2 h3=>?_
 have h3':∀ k,SetTable.below xs j≤k->k<xs.size->j<xs.getD k 0:=fun k a b=>Nat.lt_of_le_of_ne (h3 k a b) fun e=>hj (by
  have:xs.toList[k]? =some j:=by refine a0 Array.getElem?_toList ?_;refine a0 (fE b) ?_;refine aX e ?_;rfl
  exact List.mem_of_getElem? this)
 generalize SetTable.below xs j=p at h1 h2 h3'
 intro a b hab hb
 rw[cR] at hb
 have g:∀ k,k<xs.size+1->(SetTable.insertAt xs p j).getD k 0=if k<p then xs.getD k 0 else if k=p then j else xs.getD (k - 1) 0:=by
  intro k hk
  have e:=mL (x:=j) (k:=k) h1
  by_cases c1:k<p
  ·rw[if_pos c1] at e ⊢
   rw[fE (xs:=xs) (k:=k) (by exact a9 c1 h1)] at e
   exact(fL e).1
  ·rw[if_neg c1] at e ⊢
   by_cases c2:k=p
   ·rw[if_pos c2] at e ⊢;exact(fL e).1
   ·rw[if_neg c2] at e ⊢
    refine a7 (above c1 c2) fun c z Z=>?_;subst z
    rw[fE (xs:=xs) (k:=c+1 - 1) (Nat.lt_of_succ_lt_succ hk)] at e
    exact(fL e).1
 refine a0 (g a (by exact a9 hab (Nat.le_of_lt hb))) ?_;refine a0 (g b hb) ?_
 by_cases a1:a<p
 ·refine a0 (if_pos a1) ?_
  by_cases b1:b<p
  ·refine a0 (if_pos b1) ?_;exact h a b hab (by exact a9 b1 h1)
  ·refine a0 (if_neg b1) ?_
   by_cases b2:b=p
   ·refine a0 (if_pos b2) ?_;exact h2 a a1
   ·refine a0 (if_neg b2) ?_
    refine a7 (above b1 b2) fun c z pc=>?_;subst z
    exact h a c (Nat.lt_of_lt_of_le a1 pc) (Nat.lt_of_succ_lt_succ hb)
 ·have b1:¬b<p:=Nat.not_lt.mpr (a9 (Nat.not_lt.mp a1) (Nat.le_of_lt hab))
  have b2:¬b=p:=Nat.ne_of_gt (Nat.lt_of_le_of_lt (Nat.not_lt.mp a1) hab)
  refine a0 (if_neg a1) ?_;refine a0 (if_neg b1) ?_;refine a0 (if_neg b2) ?_
  refine a7 (above b1 b2) fun c z pc=>?_;subst z
  by_cases a2:a=p
  ·refine a0 (if_pos a2) ?_;exact h3' c pc (Nat.lt_of_succ_lt_succ hb)
  ·refine a0 (if_neg a2) ?_
   refine a7 (above a1 a2) fun d z Z=>?_;subst z
   exact h d c (Nat.lt_of_succ_lt_succ hab) (Nat.lt_of_succ_lt_succ hb)
theorem my{t:SetTable}(h:lY t.place)(hd:t.dummies= #[])(j:Nat):(j∈t.place.toList∧t.slot j=.live (SetTable.below t.place j)∧t.place[SetTable.below t.place j]? =some j)∨(j∉t.place.toList∧t.slot j=.empty):=by
 unfold SetTable.slot
 dsimp only
 by_cases hj:j∈t.place.toList
 ·have:=sB h hj
  refine .inl (i3 hj ?_ this)
  refine a0 (if_pos (by rw[this];exact decide_eq_true rfl)) ?_;rfl
 ·have:=sA h hj
  refine .inr ⟨hj,?_⟩
  refine a0 (if_neg (by simpa using this)) ?_;refine a0 hd ?_
  rfl
noncomputable def uG(t:SetTable):Nat->SetTable.Probe->SetTable.Probe
 | 0,p=>p
 | r+1,p=>uG t r (t.advance p)
theorem wi(t:SetTable)(a b:Nat)(p:SetTable.Probe):uG t (a+b) p=uG t b (uG t a p):=by
 induction a generalizing p with
 | zero=>simp[uG]
 | succ a ih=>refine a0 (Nat.succ_add ..) ?_;exact ih (t.advance p)
noncomputable def lO(mask:Nat):Nat->Nat×Nat->Nat×Nat
 | 0,p=>p
 | n+1,p=>lO mask n (SetTable.leap mask p.1 p.2)
theorem vW(mask a b:Nat)(p:Nat×Nat):lO mask (a+b) p=lO mask b (lO mask a p):=by
 induction a generalizing p with
 | zero=>simp[lO]
 | succ a ih=>refine a0 (Nat.succ_add ..) ?_;exact ih _
noncomputable def ow(mask:Nat)(p:Nat×Nat):SetTable.Probe:={j:=p.1,more:=SetTable.runEnd mask p.1 - p.1,i:=p.1,perturb:=p.2,dummy:=none}
theorem wh(t:SetTable):∀ (m j i pp:Nat),uG t (m+1) {j:=j,more:=m,i:=i,perturb:=pp,dummy:=none}=ow t.mask (SetTable.leap t.mask i pp):=by
 intro m
 induction m with
 | zero=>intro j i pp;rfl
 | succ m ih=>
   intro j i pp
   show uG t (m+1) (t.advance _)=_
   have:t.advance {j:=j,more:=m+1,i:=i,perturb:=pp,dummy:=none}={j:=j+1,more:=m,i:=i,perturb:=pp,dummy:=none}:=by
    unfold SetTable.advance
    refine a0 (if_pos (Nat.succ_pos m)) ?_
    rfl
   refine a0 this ?_;exact ih (j+1) i pp
theorem xj(mask i:Nat):SetTable.runEnd mask i - i≤9:=by
 unfold SetTable.runEnd
 split<;>lia
theorem sE(t:SetTable):∀ (n:Nat) (p:Nat×Nat),∃ r,r≤10*n∧uG t r (ow t.mask p)=ow t.mask (lO t.mask n p):=by
 intro n
 induction n with
 | zero=>intro p;exact a6 0 (by exact Nat.le_refl _) rfl
 | succ n ih=>
   intro p
   refine a7 (ih (SetTable.leap t.mask p.1 p.2)) fun r h1 h2=>?_
   have:=xj t.mask p.1
   refine a6 ((SetTable.runEnd t.mask p.1 - p.1+1)+r) (by lia) ?_
   refine a0 (wi ..) ?_
   show uG t r (uG t _ _)=_
   unfold ow
   refine a0 (wh ..) ?_
   exact h2
noncomputable def rP(mask:Nat):Nat->Nat
 | 0=>0
 | n+1=>(rP mask n*5+1) % (mask+1)
noncomputable def xq(mask:Nat):Nat->Nat->List Nat
 | 0,_=>[]
 | n+1,x=>x::xq mask n ((x*5+1) % (mask+1))
theorem jM{mask:Nat}:∀ {n a s:Nat},s∈xq mask n (rP mask a)->∃ k,k<n∧rP mask (a+k)=s
 | 0,a,s,h=>by cases h
 | n+1,a,s,h=>by
   rcases List.mem_cons.mp h with h | h
   ·exact a6 0 (by lia) h.symm
   ·refine a7 (jM (n:=n) (a:=a+1) h) fun k h1 h2=>?_
    exact a6 (k+1) (by lia) (by refine aX h2 ?_;congr 1;lia)
noncomputable def d6(mask:Nat):Bool:=(List.range (mask+1)).all (fun s=>(xq mask (mask+1) 0).contains s)&&rP mask (mask+1)==0
theorem tH:d6 7=true:=by decide+kernel
theorem lF:d6 31=true:=by decide+kernel
theorem jN:d6 127=true:=by decide+kernel
theorem jL{mask:Nat}(h:rP mask (mask+1)=0):∀ n,rP mask (n+(mask+1))=rP mask n
 | 0=>by refine a0 (Nat.zero_add ..) ?_;exact h
 | n+1=>by
   refine a0 (Nat.succ_add ..) ?_
   show(rP mask (n+(mask+1))*5+1) % (mask+1)=_
   refine a0 (jL h n) ?_;rfl
theorem mM{mask:Nat}:∀ (n a:Nat),lO mask n (rP mask a,0)=(rP mask (a+n),0)
 | 0,a=>rfl
 | n+1,a=>by
   show lO mask n (SetTable.leap mask (rP mask a) 0)=_
   have:SetTable.leap mask (rP mask a) 0=(rP mask (a+1),0):=by
    unfold SetTable.leap;exact rfl
   refine a0 this ?_;refine a0 (mM n (a+1)) ?_
   congr 2;lia
theorem rO{mask:Nat}(h:d6 mask=true){i s:Nat}(hi:i≤mask)(hs:s≤mask):∃ n,n≤mask∧(lO mask n (i,0)).1=s:=by
 unfold d6 at h
 simp only[Bool.and_eq_true,List.all_eq_true,List.mem_range,List.contains_iff_mem,beq_iff_eq] at h
 refine a2 h fun h1 h2=>?_
 refine a7 (jM (a:=0) (h1 i (Nat.lt_succ_of_le hi))) fun a a1 a2=>?_
 refine a7 (jM (a:=0) (h1 s (Nat.lt_succ_of_le hs))) fun b b1 b2=>?_
 rw[Nat.zero_add] at a2 b2
 subst a2
 subst b2
 rcases Nat.lt_or_ge b a with z | z
 ·refine a6 (b+(mask+1) - a) (Nat.sub_le_of_le_add (by rw[Nat.add_left_comm];exact Nat.add_le_add_left z _)) ?_
  refine a0 (mM ..) ?_
  refine a0 (Nat.add_sub_of_le (by lia)) ?_;exact jL h2 b
 ·refine a6 (b - a) (a9 (Nat.sub_le ..) (by lia)) ?_
  refine a0 (mM ..) ?_
  refine a0 (Nat.add_sub_of_le z) ?_;rfl
theorem iY{mask:Nat}:∀ (n i p:Nat),(lO mask n (i,p)).2=p / 32 ^ n
 | 0,i,p=>by simp[lO]
 | n+1,i,p=>by
   show(lO mask n (SetTable.leap mask i p)).2=_
   unfold SetTable.leap
   rewrite[iY n];refine a0 (Nat.div_div_eq_div_mul ..) ?_;refine a0 (Nat.pow_succ ..) ?_;refine a0 (Nat.mul_comm ..) ?_;rfl
theorem uc{mask:Nat}:∀ (n:Nat) (q:Nat×Nat),q.1≤mask->(lO mask n q).1≤mask
 | 0,q,h=>h
 | n+1,q,h=>uc n _ (by
    show(q.1*5+1+q.2 / 32) % (mask+1)≤mask
    exact Nat.le_of_lt_succ (Nat.mod_lt _ (Nat.succ_pos _)))
theorem k8{mask:Nat}(h:d6 mask=true){q:Nat×Nat}(hi:q.1≤mask)(hp:q.2<2 ^ 64){s:Nat}(hs:s≤mask):∃ n,n≤mask+13∧(lO mask n q).1=s:=by
 have h0:(lO mask 13 q).2=0:=by
  have e:=iY (mask:=mask) 13 q.1 q.2
  have e2:(lO mask 13 q).2=q.2 / 32 ^ 13:=e
  refine a0 e2 ?_
  exact Nat.div_eq_of_lt (Nat.lt_of_lt_of_le hp (by decide))
 have h1:=uc 13 q hi
 refine a7 (rO h h1 hs) fun n n1 n2=>?_
 refine a6 (13+n) (by lia) ?_
 refine a0 (vW ..) ?_
 have:lO mask 13 q=((lO mask 13 q).1,0):=Prod.ext rfl h0
 refine a0 this ?_;exact n2
theorem qT(h:Int):SetTable.bits h<2 ^ 64:=by
 unfold SetTable.bits
 have h1:(0:Int)≤h % (2 ^ 64:Int):=Int.emod_nonneg _ (by decide)
 have h2:h % (2 ^ 64:Int)<2 ^ 64:=Int.emod_lt_of_pos _ (by decide)
 lia
theorem je(t:SetTable)(h:Int):t.probeStart h=ow t.mask (SetTable.bits h % (t.mask+1),SetTable.bits h):=rfl
theorem jP{α:Type}[DecidableEq α]:∀ {l m:List α},l.Nodup->(∀ a∈l,a∈m)->l.length≤m.length
 | [],m,_,_=>Nat.zero_le _
 | a::l,m,h,s=>by
   have ha:=s a (.head _)
   have h1:=List.nodup_cons.mp h
   have:=jP (l:=l) (m:=m.erase a) h1.2 fun b hb=>(List.mem_erase_of_ne (fun e=>h1.1 (by subst e;exact hb))).mpr (s b (.tail _ hb))
   rw[List.length_erase_of_mem ha] at this
   have:0<m.length:=List.length_pos_of_mem ha
   simp;lia
structure b5(t:SetTable)(n:Nat):Prop where
 ris:lY t.place
 dum:t.dummies= #[]
 size:t.place.size=n
 fill:n≤t.mask
theorem b5.fits{t:SetTable}{n:Nat}(h:b5 t n):t.fits n=true:=by
 unfold SetTable.fits SetTable.fill
 refine a0 h.size ?_;refine a0 h.dum ?_
 simpa using h.fill
theorem b5.gap{t:SetTable}{n:Nat}(h:b5 t n):∃ s,s≤t.mask∧s∉t.place.toList:=by
 refine Classical.byContradiction fun no=>?_
 have all:∀ s∈List.range (t.mask+1),s∈t.place.toList:=fun s hs=>Classical.byContradiction fun z=>no (a6 s (by have:=List.mem_range.mp hs;lia) z)
 have:=jP List.nodup_range all
 rw[List.length_range,Array.length_toList,h.size] at this
 have:=h.fill
 lia
theorem b5.slotE{t:SetTable}{n:Nat}(h:b5 t n){j:Nat}(hj:j∉t.place.toList):t.slot j=.empty:=by
 rcases my h.ris h.dum j with⟨a,_⟩ | ⟨_,b⟩
 ·exact absurd a hj
 ·exact b
noncomputable def m9(t:SetTable)(r:Nat)(p:SetTable.Probe):Prop:=p.dummy=none∧(uG t r p).j∉t.place.toList
theorem dN(t:SetTable){p:SetTable.Probe}(h:p.dummy=none):(t.advance p).dummy=none:=by
 unfold SetTable.advance
 split
 ·exact h
 ·exact h
theorem tG{t:SetTable}{n:Nat}(ok:b5 t n)(hashAt:Nat->Int)(h:Int):∀ (r aS:Nat) (p:SetTable.Probe),m9 t r p->r<aS->
 (∃ j,SetTable.probe.go t hashAt h aS p=some (.empty j none)∧j∉t.place.toList)∨(∃ j i r' p',SetTable.probe.go t hashAt h aS p=some (.candidate j i p')∧t.slot j=.live i∧t.place[i]? =some j∧hashAt i=h∧r'<r∧m9 t r' p'):=by
 intro r
 induction r with
 | zero=>
   intro aS p hp hf
   obtain⟨f,rfl⟩:∃ f,aS=f+1:=⟨aS - 1,by lia⟩
   unfold SetTable.probe.go
   have hp2:p.j∉t.place.toList:=hp.2
   refine a0 (ok.slotE hp2) ?_
   exact .inl (a6 p.j (by refine a0 hp.1 ?_;rfl) hp.2)
 | succ r ih=>
   intro aS p hp hf
   obtain⟨f,rfl⟩:∃ f,aS=f+1:=⟨aS - 1,by lia⟩
   unfold SetTable.probe.go
   rcases my ok.ris ok.dum p.j with⟨a,b,c⟩ | ⟨a,b⟩
   ·refine a0 b ?_
    dsimp only
    by_cases q:hashAt (SetTable.below t.place p.j)=h
    ·refine a0 (if_pos (by simpa using q)) ?_
     exact .inr ⟨p.j,_,r,t.advance p,rfl,b,c,q,Nat.lt_succ_self _,dN t hp.1,hp.2⟩
    ·refine a0 (if_neg (by simpa using q)) ?_
     rcases ih f (t.advance p) ⟨dN t hp.1,hp.2⟩ (by lia)with⟨j,e1,e2⟩ | ⟨j,i,r',p',e1,e2,e3,e4,e5,e6⟩
     ·exact .inl (a6 j e1 e2)
     ·exact .inr (yu j i r' p' e1 e2 e3 e4 (by lia) e6)
   ·refine a0 b ?_
    exact .inl (a6 p.j (by refine a0 hp.1 ?_;rfl) a)
theorem pE{t:SetTable}{n:Nat}(ok:b5 t n)(hm:d6 t.mask=true)(h:Int):∃ r,r≤10*(t.mask+13)∧m9 t r (t.probeStart h):=by
 refine a7 ok.gap fun s s1 s2=>?_
 refine a7 (k8 hm (q:=(SetTable.bits h % (t.mask+1),SetTable.bits h)) (Nat.le_of_lt_succ (Nat.mod_lt _ (Nat.succ_pos _))) (qT h) s1) fun k k1 k2=>?_
 refine a7 (sE t k (SetTable.bits h % (t.mask+1),SetTable.bits h)) fun r r1 r2=>?_
 refine aP r (by lia) rfl ?_
 refine a0 (je ..) ?_;refine a0 r2 ?_
 show(lO t.mask k _).1∉_
 refine a0 k2 ?_;exact s2
theorem tF{t:SetTable}{n:Nat}(ok:b5 t n)(hashAt:Nat->Int)(h:Int){r:Nat}{p:SetTable.Probe}(hp:m9 t r p)(hr:r≤10*(t.mask+13)):
 (∃ j,t.probe hashAt h p=some (.empty j none)∧j∉t.place.toList)∨(∃ j i r' p',t.probe hashAt h p=some (.candidate j i p')∧t.slot j=.live i∧t.place[i]? =some j∧hashAt i=h∧r'<r∧m9 t r' p'):=
 tG ok hashAt h r _ p hp (by unfold SetTable.turns;lia)
theorem b5.put{t:SetTable}{n:Nat}(ok:b5 t n){j:Nat}(hj:j∉t.place.toList)(hn:n+1≤t.mask):b5 (t.put j).1 (n+1)∧(t.put j).1.mask=t.mask∧(t.put j).1.led=t.led∧(t.put j).1.plain=t.plain∧(t.put j).2≤n:=by
 have hd:SetTable.has t.dummies j=false:=by refine a0 ok.dum ?_;rfl
 refine⟨⟨ok.ris.insert hj,?_,?_,hn⟩,rfl,rfl,rfl,?_⟩
 ·show(if SetTable.has t.dummies j=true then _ else t.dummies)= #[]
  refine a0 hd ?_;exact ok.dum
 ·show(SetTable.insertAt t.place _ j).size=n+1
  refine a0 cR ?_;refine a0 ok.size ?_;rfl
 ·have:=(dw ok.ris j).1
  rw[ok.size] at this
  exact this
theorem lY.range(n:Nat):lY (Array.range n):=fun i j hij hj=>by
 have hj':j<n:=by simpa using hj
 have hi':i<n:=by exact a9 hij (Nat.le_of_lt hj')
 simp[Array.getD,hj',hi',hij]
theorem b5.standIn{t:SetTable}(n:Nat):b5 (t.standIn n) n:=⟨.range n,rfl,by simp[SetTable.standIn],by show n≤4*n+4;lia⟩
theorem kc{owner:Array (Option Nat)}{i len:Nat}{k:Nat}(h:(List.range len).find? (fun k=>(owner.getD (i+k) (some 0)).isNone)=some k):owner.getD (i+k) (some 0)=none:=by
 have:=List.find?_some h
 simpa using this
set_option tactic.hygienic true in
theorem se{mask:Nat}{owner:Array (Option Nat)}:∀ (n aS i p:Nat),owner.getD (lO mask n (i,p)).1 (some 0)=none->n<aS->∃ j,SetTable.layClean.free mask owner aS i p=some j∧owner.getD j (some 0)=none:=by
 intro n
 induction n with
 | zero=>
   intro aS i p h hf
   obtain⟨f,rfl⟩:∃ f,aS=f+1:=⟨aS - 1,by lia⟩
   unfold SetTable.layClean.free
   have h':owner.getD i (some 0)=none:=h
   split
   ·rename_i k hk
    exact a6 (i+k) rfl (kc hk)
   ·rename_i hk
    rw[List.find?_eq_none] at hk
    have:=hk 0 (List.mem_range.mpr (by have:i≤SetTable.runEnd mask i:=by unfold SetTable.runEnd;split<;>lia
                                       lia))
    rw[Nat.add_zero,h'] at this
    simp at this
 | succ n ih=>
   intro aS i p h hf
   obtain⟨f,rfl⟩:∃ f,aS=f+1:=⟨aS - 1,by lia⟩
   unfold SetTable.layClean.free
   split
   ·rename_i k hk
    exact a6 (i+k) rfl (kc hk)
   ·exact ih f _ _ h (by lia)
theorem kZ{l:List (Option Nat)}{j k:Nat}(h:l[j]? =some none):(l.set j (some k)).filterMap id |>.Perm (k::l.filterMap id):=by
 induction l generalizing j with
 | nil=>simp at h
 | cons a l ih=>
   cases j with
   | zero=>
     simp at h
     subst h
     simp
   | succ j=>
     simp at h
     have:=ih h
     cases a with
     | none=>simpa using this
     | some b=>
       simp only[List.set_cons_succ,List.filterMap_cons,id_eq]
       exact(this.cons b).trans (List.Perm.swap k b _)
structure eM(mask k:Nat)(owner:Array (Option Nat)):Prop where
 size:owner.size=mask+1
 perm:(owner.toList.filterMap id).Perm (List.range k)
theorem eM.gap{mask k:Nat}{owner:Array (Option Nat)}(h:eM mask k owner)(hk:k≤mask):∃ s,s≤mask∧owner.getD s (some 0)=none:=by
 refine Classical.byContradiction fun no=>?_
 have all:∀ x∈owner.toList,x≠none:=by
  intro x hx e
  refine aH (List.getElem?_of_mem hx) fun s hs=>?_
  rw[Array.getElem?_toList] at hs
  refine aH (Array.getElem?_eq_some_iff.mp hs) fun a b=>?_
  refine no (a6 s (by have:=h.size;lia) ?_)
  simp[Array.getD,a,b,e]
 have e:(owner.toList.filterMap id).length=owner.toList.length:=by
  generalize owner.toList=l at all
  induction l with
  | nil=>rfl
  | cons a l ih=>
    cases a with
    | none=>exact absurd rfl (all none (.head _))
    | some b=>simp[ih fun x hx=>all x (.tail _ hx)]
 have:=h.perm.length_eq
 rw[e,List.length_range,Array.length_toList,h.size] at this
 exact absurd (Nat.lt_of_lt_of_le (Nat.le_of_eq this) hk) (Nat.lt_irrefl _)
theorem eM.step{mask k j:Nat}{owner:Array (Option Nat)}(h:eM mask k owner)(hj:owner.getD j (some 0)=none):eM mask (k+1) (owner.setIfInBounds j (some k)):=by
 have e:owner.toList[j]? =some none:=by
  refine a0 Array.getElem?_toList ?_
  by_cases q:j<owner.size
  ·simp[Array.getD,q] at hj
   simp[q,hj]
  ·simp[Array.getD,q] at hj
 refine⟨by simp[h.size],?_⟩
 refine a0 Array.toList_setIfInBounds ?_;refine a0 List.range_succ ?_
 exact(kZ e).trans ((h.perm.cons k).trans (List.perm_append_singleton k _).symm)
theorem tR{mask:Nat}(hm:d6 mask=true):∀ (hs:List Int) (k:Nat) (owner:Array (Option Nat)),eM mask k owner->k+hs.length≤mask->
 ∃ owner',hs.foldl (init:=some (owner,k)) (fun(acc:Option (Array (Option Nat)×Nat)) (h:Int)=>do
   let (owner,k) ← acc
   let j ← SetTable.layClean.free mask owner (SetTable.turns mask) (SetTable.bits h % (mask+1)) (SetTable.bits h)
   pure (owner.setIfInBounds j (some k),k+1))=some (owner',k+hs.length)∧eM mask (k+hs.length) owner':=by
 intro hs
 induction hs with
 | nil=>intro k owner L _;exact a6 owner rfl L
 | cons h hs ih=>
   intro k owner L hk
   rw[List.length_cons] at hk
   refine a7 (L.gap (by lia)) fun s s1 s2=>?_
   refine a7 (k8 hm (q:=(SetTable.bits h % (mask+1),SetTable.bits h)) (Nat.le_of_lt_succ (Nat.mod_lt _ (Nat.succ_pos _))) (qT h) s1) fun n n1 n2=>?_
   refine a7 (se (mask:=mask) (owner:=owner) n (SetTable.turns mask) (SetTable.bits h % (mask+1)) (SetTable.bits h) (by rw[n2];exact s2) (by unfold SetTable.turns;lia)) fun j j1 j2=>?_
   refine a7 (ih (k+1) (owner.setIfInBounds j (some k)) (L.step j2) (by lia)) fun o' o1 o2=>?_
   refine⟨o',?_,by refine a0 List.length_cons ?_;have:k+(hs.length+1)=k+1+hs.length:=by lia
                   refine a0 this ?_;exact o2⟩
   refine a0 List.foldl_cons ?_;refine a0 List.length_cons ?_
   simp only[Option.bind_eq_bind,Option.bind_some,j1,Option.pure_def] at o1 ⊢
   have:k+(hs.length+1)=k+1+hs.length:=by lia
   refine a0 this ?_;exact o1
theorem o8{mask:Nat}(hm:d6 mask=true){hs:Array Int}(hk:hs.size≤mask):∃ owner,SetTable.layClean mask hs=some owner∧eM mask hs.size owner:=by
 have L0:eM mask 0 (Array.replicate (mask+1) none):=⟨by simp,by simp⟩
 refine a7 (tR hm hs.toList 0 _ L0 (by simpa using hk)) fun o o1 o2=>?_
 rw[Nat.zero_add,Array.length_toList] at o1 o2
 refine a6 o ?_ o2
 unfold SetTable.layClean
 refine aX (Array.foldl_toList ..) ?_;refine a0 o1 ?_
 rfl
theorem eO{l:List Nat}(h:l.Pairwise (fun x y=>x<y)):lY l.toArray:=by
 intro i j hij hj
 have hj':j<l.length:=by simpa using hj
 have hi':i<l.length:=by exact a9 hij (Nat.le_of_lt hj')
 have:=List.pairwise_iff_getElem.mp h i j hi' hj' hij
 simp[Array.getD,hi',hj',this]
theorem vM{mask finger moves:Nat}{led plain:Bool}(hm:d6 mask=true){hs:Array Int}(hk:hs.size≤mask):
 ∃ t order,SetTable.laid mask finger moves led plain hs=some (t,order)∧b5 t hs.size∧t.mask=mask∧t.led=led∧t.plain=plain∧order.toList.Perm (List.range hs.size):=by
 refine a7 (o8 hm hk) fun owner o1 o2=>?_
 have e2:((List.range (mask+1)).filterMap fun j=>(owner.getD j none).map (j,·)).map (fun x=>x.2)=owner.toList.filterMap id:=by
  refine a0 List.map_filterMap ?_
  have:owner.toList=(List.range (mask+1)).map fun j=>owner.getD j none:=by
   refine List.ext_getElem? fun m=>?_
   refine a0 Array.getElem?_toList ?_;refine a0 List.getElem?_map ?_
   by_cases q:m<mask+1
   ·have q':m<owner.size:=by refine a0 o2.size ?_;exact q
    simp[Array.getD,q,q']
   ·have q':¬m<owner.size:=by refine a0 o2.size ?_;exact q
    refine a0 (List.getElem?_eq_none (by exact a9 (Nat.le_of_eq (List.length_range ..)) (Nat.not_lt.mp q))) ?_;refine a0 (Array.getElem?_eq_none (by exact Nat.not_lt.mp q')) ?_;rfl
  refine a0 this ?_;refine a0 List.filterMap_map ?_
  congr 1
  funext j
  show Option.map _ (Option.map _ (owner.getD j none))=owner.getD j none
  generalize owner.getD j none=z
  cases z<;>rfl
 have e1:(((List.range (mask+1)).filterMap fun j=>(owner.getD j none).map (j,·)).map (fun x=>x.1)).Pairwise (fun x y=>x<y):=by
  refine bt List.pairwise_map ?_
  refine List.Pairwise.filterMap _ (fun a b hab x hx y hy=>?_) List.pairwise_lt_range
  refine a7 (Option.map_eq_some_iff.mp hx) fun x' Z z2=>?_;subst z2
  refine a7 (Option.map_eq_some_iff.mp hy) fun y' Z z2=>?_;subst z2
  exact hab
 have e3:=o2.perm.length_eq
 rw[← e2,List.length_map,List.length_range] at e3
 unfold SetTable.laid
 refine a0 o1 ?_
 refine⟨_,_,rfl,⟨eO e1,rfl,?_,hk⟩,rfl,rfl,rfl,?_⟩
 ·show(List.toArray _).size=_
  refine a0 List.size_toArray ?_;refine a0 (List.length_map ..) ?_;exact e3
 ·show(List.toArray _).toList.Perm _
  refine a0 List.toList_toArray ?_;refine a0 e2 ?_;exact o2.perm
theorem jK{order:Array Nat}{α:Type}{es:Array α}(h:order.toList.Perm (List.range es.size)):(order.filterMap (es[·]?)).toList.Perm es.toList:=by
 refine a0 Array.toList_filterMap ?_
 exact(h.filterMap _).trans (by refine a0 (filterMap_getElem?_range ..) ?_;rfl)
end
section
open PySem PySem.Spec PySem.W
theorem jf(n:Nat){v:Value}(h:carriedByValue v=true):ofAClassStatement n v=pure false:=by
 cases n<;>cases v<;>first | rfl | exact nomatch h
section
variable{prog:Program}{w:World}{A:Around}{E:Value->Shared->Prop}{s:Shared}{K:Type}[DecidableEq K]{knd:KeyKind prog w K}
structure uK(knd:KeyKind prog w K)(h:Heap)(a:Addr)(zs:List ((Int×Value)×List K))(t:SetTable):Prop where
 at':∃ o ep,h.get? a=some o∧o.ExactSet∧o.data=.set (zs.map (fun x=>x.1)).toArray ep t
 tab:b5 t zs.length
 el:∀ z∈zs,∃ b,z.1.2=.ref b∧IsTupleKey knd h z.2 b∧z.1.1=tupleKeyHash knd z.2
theorem fz{α:Type}{M:Model}{A:Around}{c:Prop}[Decidable c]{x y:Sem α}{Q:α->Shared->Prop}{E:Value->Shared->Prop}{s:Shared}(h:c)(q:wpAny M A x Q E s):wpAny M A (if c then x else y) Q E s:=(if_pos h).symm▸q
theorem bZ{α:Type}{M:Model}{A:Around}{c:Prop}[Decidable c]{x y:Sem α}{Q:α->Shared->Prop}{E:Value->Shared->Prop}{s:Shared}(h:¬c)(q:wpAny M A y Q E s):wpAny M A (if c then x else y) Q E s:=(if_neg h).symm▸q
theorem notClass{ks:List K}{a:Addr}{Q:Bool->Shared->Prop}(hk:IsTupleKey knd s.heap ks a)(h:Q false s):wpAny (model prog w) A (ofAClassStatement 8 (.ref a)) Q E s:=by
 have hT:=hk.typeIs
 refine oz hk fun o items n ho Z hd hi=>?_
 unfold ofAClassStatement
 refine wpAny_bind (wpAny_typeOf hT ?_)
 dsimp only
 refine wpAny_bind (wpAny_pure ?_)
 simp only[beq_self_eq_true,if_true,Bool.not_true,Bool.false_eq_true,if_false]
 refine wpAny_bind (wpAny_seqItems ho hd ?_)
 dsimp only
 refine wpAny_bind ?_
 show wpAny _ _ (forIn items _ _) _ _ s
 refine aX Array.forIn_toList ?_
 refine wpAny_forIn_list _ (fun rest r s'=>r.1=none∧s'=s∧∀ v∈rest,carriedByValue v=true) _ ?_ ?_ _ _ (i3 rfl rfl hi.byValue)
 ·rintro v rest r s' ⟨hr,rfl,hall⟩
  refine a0 (jf _ (hall v List.mem_cons_self)) ?_
  refine wpAny_bind (wpAny_pure ?_)
  simp only[Bool.false_eq_true,if_false]
  exact wpAny_pure (i3 rfl rfl (fun u hu'=>hall u (List.mem_cons_of_mem _ hu')))
 ·rintro⟨r1,r2⟩ s' ⟨hr,rfl,_⟩
  simp only at hr
  subst hr
  exact wpAny_pure h
theorem vw{ks:List K}{x:Addr}{stored:List Value}{Q:Bool->Shared->Prop}(hk:IsTupleKey knd s.heap ks x)(hs:∀ v∈stored,∃ b ys,v=.ref b∧IsTupleKey knd s.heap ys b)(h:Q false s):wpAny (model prog w) A (searchCouldBeSeen (.ref x) stored) Q E s:=by
 unfold searchCouldBeSeen
 refine wpAny_bind ?_
 refine wpAny_forIn_list _ (fun rest r s'=>r.1=none∧s'=s∧∀ v∈rest,∃ b ys,v=.ref b∧IsTupleKey knd s.heap ys b) _ ?_ ?_ _ _ (i3 rfl rfl hs)
 ·rintro v rest r s' ⟨hr,rfl,hall⟩
  refine cW (hall v List.mem_cons_self) fun b ys z2 hb=>?_;subst z2
  have rest':=fun u (hu:u∈rest)=>hall u (List.mem_cons_of_mem _ hu)
  dsimp only
  have cv:carriedByValue (.ref x)=false:=rfl
  refine a0 cv ?_
  simp only[Bool.false_and,Bool.or_false]
  by_cases e:(x==b)=true
  ·refine a0 (if_pos e) ?_
   exact wpAny_pure (i3 rfl rfl rest')
  ·refine a0 (if_neg e) ?_
   refine wpAny_bind (wpAny_eqIsQuiet_tuple hk ?_)
   simp only[Bool.not_true,Bool.false_eq_true,if_false]
   refine wpAny_bind (wpAny_eqIsQuiet_tuple hb ?_)
   simp only[Bool.not_true,Bool.false_eq_true,if_false]
   refine wpAny_bind (notClass hk ?_)
   simp only[Bool.false_eq_true,if_false]
   refine wpAny_bind (notClass hb ?_)
   simp only[Bool.false_eq_true,if_false]
   exact wpAny_pure (i3 rfl rfl rest')
 ·rintro⟨r1,r2⟩ s' ⟨hr,rfl,_⟩
  simp only at hr
  subst hr
  exact wpAny_pure h
theorem nc{α:Type}{M:Model}{A:Around}{c:Prop}[Decidable c]{m:Sem Bool}{u k:Sem α}{Q:α->Shared->Prop}{E:Value->Shared->Prop}{s:Shared}(h:wpAny M A m (fun b s'=>b=false∧s'=s) E s)(q:wpAny M A k Q E s):wpAny M A (if c then(m >>= fun b=>if b=true then u else k)else k) Q E s:=by
 by_cases e:c
 ·refine a0 (if_pos e) ?_
  refine wpAny_bind (wpAny_mono h (fun b s' z=>?_) fun Z Z z=>z)
  refine a2 z ?_;clear z;intro z0 z1;subst z0;subst z1
  exact q
 ·refine a0 (if_neg e) ?_;exact q
theorem fV{x a:Addr}{v:Value}{xs ys:List K}{Q:Bool->Shared->Prop}(e:v=.ref x)(hA:A.units<cLine)(hx:IsTupleKey knd s.heap xs x)(hy:IsTupleKey knd s.heap ys a)(h:Q (decide (xs=ys)) s):wpAny (model prog w) A (eqBool v (.ref a)) Q E s:=e▸wpAny_eqBool_tuple hA hx hy h
theorem rL{a x:Addr}{k:List K}{zs:List ((Int×Value)×List K)}{t:SetTable}{Q:SetFound->Shared->Prop}(G:uK knd s.heap a zs t)(odd:t.gaveWay=false)(hx:IsTupleKey knd s.heap k x)(hu:A.units<cLine)
 (there:k∈zs.map (fun x=>x.2)->Q (.there none) s)(free:∀ j,j∉t.place.toList->Q (.free j false) s):∀ (r aS:Nat) (p:SetTable.Probe) (stand:Option SetTable.Probe),stand.getD (t.probeStart (tupleKeyHash knd k))=p->m9 t r p->r≤10*(t.mask+13)->r<aS->
 wpAny (model prog w) A (setSearchFrom a (.ref x) (tupleKeyHash knd k) true aS stand) Q E s:=by
 refine bR G.at' fun o ep ho hex hd=>?_
 have hf:t.fits (zs.map (fun x=>x.1)).toArray.size=true:=by
  have:=G.tab.fits
  simpa using this
 intro r
 induction r using Nat.strongRecOn with
 | _ r ih=>
   intro aS p stand hp hends hr hfuel
   cases aS with
   | zero=>cases hfuel
   | succ f=>
   refine wpAny_bind (m:=setState a) (wpAny_setState_of ho hd hf ?_)
   refine bZ (fun e=>nomatch odd.symm.trans e) ?_
   subst hp
   rcases tF G.tab _ (tupleKeyHash knd k) hends hr with⟨j,e1,e2⟩ | ⟨j,i,r',p',e1,e2,e3,e4,e5,e6⟩
   ·refine a0 e1 ?_
    exact wpAny_pure (free j e2)
   ·refine a0 e1 ?_
    have il:i<zs.length:=G.tab.size▸(Array.getElem?_eq_some_iff.mp e3).1
    have hz:zs[i]? =some zs[i]:=List.getElem?_eq_getElem il
    generalize zs[i]=z at hz
    have hes:(zs.map (fun x=>x.1)).toArray[i]? =some z.1:=by simp[hz]
    refine bw (G.el z (List.mem_of_getElem? hz)) fun b hb1 hb2 hb3=>?_
    refine nc (vw hx ?_ ⟨rfl,rfl⟩) ?_
    ·intro v hv
     refine a7 (List.mem_map.mp hv) fun y hy z2=>?_;subst z2
     refine a7 (List.mem_map.mp (show y∈zs.map (fun x=>x.1) by simpa using(Array.mem_filter.mp (Array.mem_toList_iff.mp hy)).1)) fun z' hz' z2=>?_;subst z2
     refine bw (G.el z' hz') fun c c1 c2 Z=>?_
     exact cN c z'.2 c1 c2
    ·refine a0 hes ?_
     refine wpAny_bind (wpAny_holding (fV hb1 hu hb2 hx ?_))
     refine wpAny_bind (m:=setState a) (wpAny_setState_of ho hd hf ?_)
     by_cases e:z.2=k
     ·exact fz (by simp[e]) (wpAny_pure (there (e▸List.mem_map_of_mem (List.mem_of_getElem? hz))))
     ·refine bZ (by simp[e]) ?_
      refine a0 (show t.sameMemory t.moves t.mask=some true from if_pos (beq_self_eq_true _)) ?_
      dsimp only
      refine a0 (if_pos rfl) ?_;refine a0 e2 ?_
      dsimp only
      refine a0 hes ?_
      refine wpAny_bind (m:=isSame z.1.2 z.1.2) ?_
      refine a0 hb1 ?_
      refine fz (beq_self_eq_true b) (wpAny_pure (wpAny_bind (wpAny_pure ?_)))
      exact bZ (by simp[e]) (ih r' e5 f p' (some p') rfl e6 (by exact a9 (Nat.le_of_lt e5) hr) (by lia))
end
theorem fW(n:Nat){v:Value}(h:carriedByValue v=true):∃ b,hashByValue n v=pure b:=by
 cases n<;>cases v<;>first | exact⟨_,rfl⟩ | (simp_all [carriedByValue])
structure n0(t:SetTable)(n:Nat):Prop where
 mask:t.mask=7∨t.mask=31∨t.mask=127
 room:n*5<t.mask*3
theorem n0.ok{t:SetTable}{n:Nat}(h:n0 t n):d6 t.mask=true:=by
 rcases h.mask with e | e | e<;>rw[e]
 ·exact tH
 ·exact lF
 ·exact jN
theorem n0.odd{t:SetTable}{n:Nat}(h:n0 t n):t.gaveWay=false:=by
 unfold SetTable.gaveWay
 rcases h.mask with e | e | e<;>rw[e]<;>rfl
theorem n0.le{t:SetTable}{n:Nat}(h:n0 t n):t.mask≤127:=by
 rcases h.mask with e | e | e<;>lia
noncomputable def pO(es:Array (Int×Value))(laid:Option (SetTable×Array Nat)):Sem (Array (Int×Value)×SetTable):=do
 let some (t,order):=laid | unsupported "internal:set-table-without-room"
 let es':=order.filterMap (es[·]?)
 if es'.size != es.size then unsupported "internal:set-table-lost-an-element"
 pure (es',t)
theorem dT{α β:Type}{f:α->β}:∀ {zs:List α} {ys:List β},ys.Perm (zs.map f)->∃ zs':List α,zs'.Perm zs∧zs'.map f=ys:=by
 intro zs ys h
 generalize hm:zs.map f=ms at h
 induction h generalizing zs with
 | nil=>exact a6 zs (.refl _) hm
 | cons x _ ih=>
   cases zs with
   | nil=>cases hm
   | cons z zs=>
     rw[List.map_cons] at hm
     injection hm with h1 h2
     refine a7 (ih h2) fun zs' p e=>?_
     exact a6 (z::zs') (p.cons z) (by refine a0 List.map_cons ?_;refine a0 e ?_;refine a0 h1 ?_;rfl)
 | swap x y l=>
   cases zs with
   | nil=>cases hm
   | cons z zs=>
     cases zs with
     | nil=>cases hm
     | cons z' zs=>
       rw[List.map_cons,List.map_cons] at hm
       injection hm with h1 h2
       injection h2 with h2 h3
       exact a6 (z'::z::zs) (.swap _ _ _) (by refine a0 List.map_cons ?_;refine a0 List.map_cons ?_;refine a0 h1 ?_;refine a0 h2 ?_;refine a0 h3 ?_;rfl)
 | trans _ _ ih1 ih2=>
   refine a7 (ih2 hm) fun zs2 p2 e2=>?_
   refine a7 (ih1 e2) fun zs1 p1 e1=>?_
   exact a6 zs1 (p1.trans p2) e1
section
variable{prog:Program}{w:World}{A:Around}{E:Value->Shared->Prop}{s:Shared}{K:Type}[DecidableEq K]{knd:KeyKind prog w K}
theorem i6{ks:List K}{a:Addr}{Q:Bool->Shared->Prop}(hk:IsTupleKey knd s.heap ks a)(h:∀ b,Q b s):wpAny (model prog w) A (hashByValue 8 (.ref a)) Q E s:=by
 have hT:=hk.typeIs
 refine oz hk fun o items n ho Z hd hi=>?_
 unfold hashByValue
 refine wpAny_bind (wpAny_specialOf hT F.slot_tuple_hash.lookup ?_)
 dsimp only
 refine wpAny_bind (wpAny_seqItems ho hd ?_)
 refine wpAny_bind ?_
 show wpAny _ _ (forIn items _ _) _ _ s
 refine aX Array.forIn_toList ?_
 refine wpAny_forIn_list _ (fun rest r s'=>r.1=none∧s'=s∧∀ v∈rest,carriedByValue v=true) _ ?_ ?_ _ _ (i3 rfl rfl hi.byValue)
 ·rintro v rest r s' ⟨hr,rfl,hall⟩
  refine aH (fW 7 (hall v List.mem_cons_self)) fun b hb=>?_
  refine a0 hb ?_
  refine wpAny_bind (wpAny_pure ?_)
  cases b
  ·simp only[Bool.not_false,if_true]
   exact wpAny_pure (wpAny_pure (h _))
  ·simp only[Bool.not_true,Bool.false_eq_true,if_false]
   exact wpAny_pure (i3 rfl rfl (fun u hu'=>hall u (List.mem_cons_of_mem _ hu')))
 ·rintro⟨r1,r2⟩ s' ⟨hr,rfl,_⟩
  simp only at hr
  subst hr
  exact wpAny_pure (h _)
structure z6(knd:KeyKind prog w K)(h h':Heap)(a x:Addr)(zs:List ((Int×Value)×List K))(t:SetTable)(k:List K)(zs':List ((Int×Value)×List K))(t':SetTable):Prop where
 same:Heap.SameBut a h h'
 set:uK knd h' a zs' t'
 good:n0 t' zs'.length
 mem:∀ y,y∈zs'.map (fun x=>x.2)↔(y∈zs.map (fun x=>x.2)∨y=k)
 len:zs'.length≤zs.length+1
 led:t'.led=t.led
 src:∀ z∈zs',z∈zs∨(z.1.2=.ref x∧z.2=k)
theorem tW{h h':Heap}{ks:List K}{a d:Addr}{o:Obj}{es ep t}(x:IsTupleKey knd h ks a)(ho:h.get? d=some o)(hd:o.data=.set es ep t)(hs:Heap.SameBut d h h'):IsTupleKey knd h' ks a:=by
 refine oz x fun o' items n ho' hc hd' hi=>?_
 have hne:a≠d:=by
  rintro rfl
  obtain rfl:o'=o:=Option.some.inj (ho'.symm.trans ho)
  rw[hd] at hd';exact nomatch hd'
 exact vU o' items n ((hs.2 a hne).trans ho') hc hd' hi
theorem jD{h:Heap}{a:Addr}{o:Obj}{es:Array (Int×Value)}{ep:Nat}{t t1:SetTable}{zs1:List ((Int×Value)×List K)}{es1:Array (Int×Value)}(ho:h.get? a=some o)(hex:o.ExactSet)(hd:o.data=.set es ep t)
 (e1:zs1.map (fun x=>x.1)=es1.toList)(tab:b5 t1 zs1.length)(el:∀ z∈zs1,∃ b,z.1.2=.ref b∧IsTupleKey knd h z.2 b∧z.1.1=tupleKeyHash knd z.2):
 uK knd (h.update a (Obj.putSet es1 t1)) a zs1 t1:=by
 have hg:(h.update a (Obj.putSet es1 t1)).get? a=some {o with data:=.set es1 (ep+1) t1}:=by
  have:=Heap.get?_update_self (Obj.putSet es1 t1) ho (by refine a0 (putSet_of es1 t1 hd) ?_;rfl)
  rw[putSet_of es1 t1 hd] at this;exact this
 refine⟨(d7 _ (ep+1) hg hex ?_),tab,fun z hz=>?_⟩
 ·show Data.set es1 (ep+1) t1=_
  refine a0 e1 ?_;refine a0 Array.toArray_toList ?_;rfl
 ·refine bw (el z hz) fun b b1 b2 b3=>?_
  exact aP b b1 (tW b2 ho hd (Heap.SameBut.update h a _)) b3
theorem sF{a x:Addr}{k:List K}{zs:List ((Int×Value)×List K)}{t:SetTable}{Q:Bool->Shared->Prop}(G:uK knd s.heap a zs t)(g:n0 t zs.length)(hl:zs.length≤60)(hx:IsTupleKey knd s.heap k x)(hu:A.units<cLine)
 (q:∀ h' zs' t' b,z6 knd s.heap h' a x zs t k zs' t'->Q b {s with heap:=h'}):
 wpAny (model prog w) A (setAddHashed a (.ref x) (tupleKeyHash knd k)) Q E s:=by
 refine bR G.at' fun o ep ho hex hd=>?_
 have hf:t.fits (zs.map (fun x=>x.1)).toArray.size=true:=by
  have:=G.tab.fits
  simpa using this
 refine a7 (pE G.tab g.ok (tupleKeyHash knd k)) fun r r1 r2=>?_
 have ml:=g.le
 refine wpAny_holding (wpAny_bind (m:=setState a) (wpAny_setState_of ho hd hf ?_))
 refine bZ (fun e=>nomatch (show false=true from e)) ?_
 refine wpAny_bind (rL G g.odd hx hu (fun hm=>?_) (fun j hj=>?_) r 100000 _ none rfl r2 r1 (by lia))
 ·exact wpAny_pure (q s.heap zs t false ⟨.refl a s.heap,G,g,fun y=>⟨.inl,fun z=>z.elim id fun e=>e▸hm⟩,Nat.le_succ _,rfl,fun z hz=>.inl hz⟩)
 ·refine wpAny_bind (m:=setState a) (wpAny_setState_of ho hd hf ?_)
  obtain⟨T1,m1,l1,p1,p2⟩:=G.tab.put hj (by have:=g.room;rcases g.mask with e | e | e<;>lia)
  have perm:=SetTable.insertAt_perm (zs.map (fun x=>x.1)).toArray (t.put j).2 (tupleKeyHash knd k,Value.ref x)
  have perm':(SetTable.insertAt (zs.map (fun x=>x.1)).toArray (t.put j).2 (tupleKeyHash knd k,Value.ref x)).toList.Perm ((zs++[((tupleKeyHash knd k,Value.ref x),k)]).map (fun x=>x.1)):=by simpa using perm
  refine a7 (dT perm') fun zs1 z1 z2=>?_
  have zl:zs1.length=zs.length+1:=by have:=z1.length_eq;simpa using this
  have zm:∀ y,y∈zs1.map (fun x=>x.2)↔(y∈zs.map (fun x=>x.2)∨y=k):=fun y=>by
   rw[(z1.map (fun x=>x.2)).mem_iff];simp
  have el1:∀ z∈zs1,∃ b,z.1.2=.ref b∧IsTupleKey knd s.heap z.2 b∧z.1.1=tupleKeyHash knd z.2:=fun z hz=>by
   rcases List.mem_append.mp (z1.mem_iff.mp hz)with hz | hz
   ·exact G.el z hz
   ·cases List.mem_singleton.mp hz;exact aP x rfl hx rfl
  have esz:(SetTable.insertAt (zs.map (fun x=>x.1)).toArray (t.put j).2 (tupleKeyHash knd k,Value.ref x)).size=zs.length+1:=by refine a0 cR ?_;simp
  have src1:∀ z∈zs1,z∈zs∨(z.1.2=.ref x∧z.2=k):=fun z hz=>by
   rcases List.mem_append.mp (z1.mem_iff.mp hz)with hz | hz
   ·exact .inl hz
   ·cases List.mem_singleton.mp hz;exact .inr ⟨rfl,rfl⟩
  have tail:∀ t1:SetTable,b5 t1 (zs.length+1)->t1.mask=t.mask->t1.led=t.led->wpAny (model prog w) A (do
   storeSet a (SetTable.insertAt (zs.map (fun x=>x.1)).toArray (t.put j).2 (tupleKeyHash knd k,Value.ref x)) t1
   if(!false&&t1.tooFull)=true then do
    setRelay a (SetTable.grown ((zs.map (fun x=>x.1)).toArray.size+1))
    pure true
   else pure true) Q E s:=by
   intro t1 T1 m1 l1
   refine wpAny_bind (wpAny_storeSet_of ho hd ?_ (by refine a0 esz ?_;refine a0 sizeLine_eq ?_;exact a9 (a9 (fX zl) (a9 (Nat.le_of_eq zl) (a9 (fX esz) (a9 (Nat.le_of_eq esz) (Nat.add_le_add_right hl _))))) (by decide)))
   have G1:=jD (knd:=knd) (t1:=t1) ho hex hd z2 (by refine a0 zl ?_;exact T1) el1
   have sb1:=Heap.SameBut.update s.heap a (Obj.putSet (SetTable.insertAt (zs.map (fun x=>x.1)).toArray (t.put j).2 (tupleKeyHash knd k,Value.ref x)) t1)
   generalize s.heap.update a (Obj.putSet (SetTable.insertAt (zs.map (fun x=>x.1)).toArray (t.put j).2 (tupleKeyHash knd k,Value.ref x)) t1)=h1 at G1 sb1 ⊢
   have tf:t1.tooFull=decide ((zs.length+1)*5 ≥ t.mask*3):=by
    unfold SetTable.tooFull SetTable.fill
    refine a0 T1.dum ?_;refine a0 T1.size ?_;refine a0 m1 ?_;exact rfl
   by_cases full:(zs.length+1)*5 ≥ t.mask*3
   ·refine fz (tf.trans (decide_eq_true full)) ?_
    have num:∃ m',(m'=31∨m'=127)∧SetTable.sizeAbove (SetTable.grown ((zs.map (fun x=>x.1)).toArray.size+1))=m'+1∧(zs.length+1)*5<m'*3:=by
     have sz:(zs.map (fun x=>x.1)).toArray.size=zs.length:=by exact List.length_map ..
     refine a0 sz ?_
     have room:=g.room
     rcases g.mask with e | e | e
     ·have:zs.length=4:=by lia
      exact aP 31 (.inl rfl) (by refine a0 this ?_;decide) (by lia)
     ·have:zs.length=18:=by lia
      exact aP 127 (.inr rfl) (by refine a0 this ?_;decide) (by lia)
     ·lia
    refine bw num fun m' mm sz' room'=>?_
    have okm:d6 m'=true:=by
     rcases mm with rfl | rfl
     ·exact lF
     ·exact jN
    refine wpAny_bind ?_
    refine bR G1.at' fun o1 ep1 ho1 hex1 hd1=>?_
    have hf1:t1.fits (zs1.map (fun x=>x.1)).toArray.size=true:=by
     have:=G1.tab.fits
     simpa using this
    refine wpAny_bind (m:=setState a) (wpAny_setState_of ho1 hd1 hf1 ?_)
    refine bZ (by refine a0 sz' ?_;refine a0 sizeLine_eq ?_;rcases mm with rfl | rfl<;>lia) ?_
    obtain⟨t2,order,l1',l2,l3,l4,l5,l6⟩:=vM (mask:=m') (finger:=t1.finger) (moves:=t1.movedTo m') (led:=t1.led) (plain:=t1.plain) okm (hs:=(zs1.map (fun x=>x.1)).toArray.map (fun x=>x.1)) (by simp;lia)
    have hsz:((zs1.map (fun x=>x.1)).toArray.map (fun x=>x.1)).size=(zs1.map (fun x=>x.1)).toArray.size:=by simp
    rw[hsz] at l2 l6
    have op:=jK l6
    have rl:t1.relaid ((zs1.map (fun x=>x.1)).toArray.map (fun x=>x.1)) (SetTable.grown ((zs.map (fun x=>x.1)).toArray.size+1))=some (t2,order):=by
     unfold SetTable.relaid
     refine a0 sz' ?_
     exact l1'
    refine a0 rl ?_
    show wpAny _ _ (pO _ (some (t2,order)) >>= _) _ _ _
    have osz:(order.filterMap ((zs1.map (fun x=>x.1)).toArray[·]?)).size=(zs1.map (fun x=>x.1)).toArray.size:=by
     refine aX Array.length_toList ?_;refine a0 op.length_eq ?_;refine a0 Array.length_toList ?_;rfl
    refine wpAny_bind (bZ (by refine a0 osz ?_;simp) (wpAny_pure ?_))
    refine a7 (dT (f:=(fun x=>x.1)) (zs:=zs1) (ys:=(order.filterMap ((zs1.map (fun x=>x.1)).toArray[·]?)).toList) (by simpa using op)) fun zs2 y1 y2=>?_
    have y3:zs2.length=zs1.length:=y1.length_eq
    refine wpAny_storeSet_of ho1 hd1 ?_ (by refine a0 osz ?_;refine a0 sizeLine_eq ?_;simp;exact a9 (a9 (Nat.le_of_eq zl) (a9 (fX esz) (a9 (Nat.le_of_eq esz) (Nat.add_le_add_right hl _)))) (by decide))
    have G2:=jD (knd:=knd) (t1:=t2) ho1 hex1 hd1 y2 (by refine a0 y3 ?_;simpa using l2) (fun z hz=>G1.el z (y1.mem_iff.mp hz))
    have sb2:=Heap.SameBut.update h1 a (Obj.putSet (order.filterMap ((zs1.map (fun x=>x.1)).toArray[·]?)) t2)
    refine wpAny_pure (q _ zs2 t2 true ⟨sb1.trans sb2,G2,⟨by refine a0 l3 ?_;exact .inr mm,by refine a0 y3 ?_;refine a0 zl ?_;refine a0 l3 ?_;exact room'⟩,fun y=>?_,by exact a9 (Nat.le_of_eq y3) (Nat.le_of_eq zl),by refine a0 l4 ?_;exact l1,fun z hz=>src1 z (y1.mem_iff.mp hz)⟩)
    rw[(y1.map (fun x=>x.2)).mem_iff];exact zm y
   ·refine bZ (fun e=>full (of_decide_eq_true (tf.symm.trans e))) ?_
    exact wpAny_pure (q h1 zs1 t1 true ⟨sb1,G1,⟨by refine a0 m1 ?_;exact g.mask,by refine a0 zl ?_;refine a0 m1 ?_;lia⟩,zm,by exact Nat.le_of_eq zl,l1,src1⟩)
  refine wpAny_ite_split (c:=(t.put j).1.plain=true) (fun Z=>wpAny_bind (m:=hashByValue 8 (.ref x)) (i6 hx fun b=>?_)) fun Z=>wpAny_bind (m:=Pure.pure true) (wpAny_pure (tail _ T1 m1 l1))
  cases b
  ·exact tail _ ⟨T1.ris,T1.dum,T1.size,T1.fill⟩ m1 l1
  ·exact tail _ T1 m1 l1
end
structure jr(prog:Program)(w:World)(S B:Nat)(v:Nat->Value)(n:Nat)(P:Nat->Heap->Prop):Prop where
 keep:∀ i (h h':Heap),P i h->(∀ (b:Nat) o,(b<B∨b=S)->h.get? b=some o->h'.get? b=some o)->P i h'
 add:∀ (A:Around) (E:Value->Shared->Prop) (i:Nat) (s:Shared) (Q:Bool->Shared->Prop),A.units<cLine->i<n->P i s.heap->
  (∀ b h' tk,s.toks≤tk->P (i+1) h'->(∀ (c:Nat) o,c≠S->s.heap.get? c=some o->h'.get? c=some o)->Q b {s with heap:=h',toks:=tk})->wpAny (model prog w) A (setAdd S (v i)) Q E s
section
variable{prog:Program}{w:World}{A:Around}{R:Result->Shared->Prop}{I:Addr}{fp wr:List Addr}{Gn:Array GenState->Array GenState->Prop}{n:Nat}{Pv:Nat->Value->Prop}{Stt:Nat->Shared->Prop}{v:Nat->Value}{P:Nat->Heap->Prop}{B:Nat}
theorem mq(W:WalksS prog w A.in1 I fp wr Gn n Pv Stt)(S:Addr)(hSf:S∉fp)(X:jr prog w S B v n P)(hval:∀ i u,Pv i u->u=v i)(hB:B≤S)(hwB:∀ b∈wr,B≤b)(hu:A.units+1<cLine):
 ∀ (k i:Nat) (s:Shared),n - i=k->i≤n->Stt i s->P i s.heap->
   (∀ s',Moved (S::wr) Gn s s'->P n s'.heap->R (.ok (.ret .none)) s')->
   codeAny (model prog w) A (.builtin "set.update.loop" ⟨[.ref S,.ref I],[]⟩) R s:=by
 have hSw:S∉wr:=fun h=>hSf (W.sub _ h)
 have hsub:∀ b∈wr,b∈S::wr:=fun b hb=>List.mem_cons_of_mem _ hb
 have kp:∀ {s s':Shared},Moved wr Gn s s'->∀ (b:Nat) o,(b<B∨b=S)->s.heap.get? b=some o->s'.heap.get? b=some o:=fun hm b o hb e=>hm.heap b o (fun hw=>hb.elim (fun z=>absurd (hwB b hw) (Nat.not_le.mpr z)) fun z=>hSw (z▸hw)) e
 intro k
 induction k with
 | zero=>
   intro i s hk hi hst hS hR
   have hin:i=n:=Nat.le_antisymm hi (Nat.le_of_sub_eq_zero hk)
   subst hin
   refine codeAny_builtin PyProof.Rows.F.entry_set_update_loop ?_
   refine a0 (Around.under_plainId PyProof.Rows.F.plain_set_update_loop _) ?_
   show wpAny _ A.in1 (pyNext (.ref I) >>= _) _ _ s
   refine wpAny_bind (W.done s _ _ hst fun s' hm=>?_)
   show wpAny _ A.in1 (ret Value.none) _ _ s'
   exact wpAny_pure (hR s' (hm.mono hsub) (X.keep _ _ _ hS (kp hm)))
 | succ k ih=>
   intro i s hk hi hst hS hR
   have hlt:i<n:=Nat.lt_of_sub_eq_succ hk
   refine codeAny_builtin PyProof.Rows.F.entry_set_update_loop ?_
   refine a0 (Around.under_plainId PyProof.Rows.F.plain_set_update_loop _) ?_
   show wpAny _ A.in1 (pyNext (.ref I) >>= _) _ _ s
   refine wpAny_bind (W.item i s _ _ hlt hst fun u s' hP hst' hm=>?_)
   have hv:=hval i u hP
   subst hv
   have hS':=X.keep _ _ _ hS (kp hm)
   show wpAny _ A.in1 (holding [v i] (setAdd S (v i)) >>= _) _ _ s'
   refine wpAny_bind (wpAny_holding ?_)
   refine X.add A.in1 _ i s' _ hu hlt hS' fun b h' tk htk hSi keep'=>?_
   refine wpAny_pure ⟨plainId_quiet PyProof.Rows.F.plain_set_update_loop _,ih (i+1) _ (by rw[Nat.sub_add_eq,hk];rfl) hlt (W.frame _ s' _ _ hst' htk fun b hb o e=>keep' b o (fun h=>hSf (by refine aX h ?_;exact hb)) e) hSi fun s'' hm'' hS''=>?_⟩
   refine hR s'' (Moved.trans W.gtrans ((hm.mono hsub).then_heap htk fun b o hb e=>?_) hm'') hS''
   exact keep' b o (fun h=>hb (by refine a0 h ?_;exact List.mem_cons_self)) e
end
section
variable{prog:Program}{w:World}{A:Around}{E:Value->Shared->Prop}{s:Shared}
noncomputable def dW(w:World):Bool:= !(w.params.followText "set-order")
theorem mP(a:Value){Q₁:Value->Shared->Prop}
 (h:Q₁ (.ref s.heap.objs.size) {s with heap:=s.heap.push {cls:=.type "set",dict:=none,data:=.set #[] 0 (.fresh 0 0 (dW w))}}):
 codeAny (model prog w) A (.call (.builtin "set.__new__") ⟨[.type "set",a],[]⟩) (wants Q₁ E) s:=by
 refine codeAny_of_tree ?_
 show wpAny _ A.in1 (do checkBuiltinCall "set.__new__" ⟨[.type "set",a],[]⟩;again (.builtin "set.__new__" ⟨[.type "set",a],[]⟩)) _ _ s
 refine wpAny_bind (wpAny_of_eq (PySem.F.newCall_set_1 a) (wpAny_pure ⟨plainId_quiet F.plain_set_new _,codeAny_builtin F.entry_set_new ?_⟩))
 refine a0 (Around.under_plainId F.plain_set_new _) ?_
 unfold Builtin.«set.__new__» Builtin.Frozenset.newClass
 have hsub:=sub_set_self
 obtain⟨hp,g,d,tk,os⟩:=s
 dsimp only
 wp_walk
 refine wpAny_askSetting (wpAny_pure ?_)
 dsimp only
 simp only[newObj]
 refine wpAny_bind (wpAny_alloc (wpAny_pure ?_))
 exact wpAny_pure h
set_option maxHeartbeats 3200000 in
theorem ky{l:Addr}{items:Array Value}{v:Nat->Value}{P:Nat->Heap->Prop}{Q:Value->Shared->Prop}
 (hh:A.handled=none)(hl:s.heap.IsList l items)(hi:∀ j,j<items.size->items[j]? =some (v j))(X:jr prog w s.heap.objs.size s.heap.objs.size v items.size P)(hu:A.units+10<cLine)
 (h0:∀ h':Heap,(∀ b o,s.heap.get? b=some o->h'.get? b=some o)->h'.get? s.heap.objs.size=some {cls:=.type "set",dict:=none,data:=.set #[] 0 (.fresh 0 0 (dW w))}->P 0 h')
 (h:∀ (h':Heap) (tk:Nat),P items.size h'->(∀ (b:Nat) o,b<s.heap.objs.size->s.heap.get? b=some o->h'.get? b=some o)->Q (.ref s.heap.objs.size) {s with heap:=h',toks:=tk}):
 wpAny (model prog w) A (call (.type "set") [.ref l]) Q E s:=by
 refine jh PySem.F.called_set.mro fun c tl hmro=>?_
 have hmade:=PySem.F.called_set.made
 have hsub:=PySem.F.called_set.sub
 refine wpAny_call (codeAny_of_tree ?_)
 show wpAny _ _ (callAny (.type "set") _) _ _ _
 refine wpAny_pure ⟨Code.quiet_builtin _ (by decide+kernel),codeAny_builtin F.entry_type_call ?_⟩
 refine a0 (Around.under_plain (weight_type_call_type "set" [.ref l] []) rfl) ?_
 have h1:=PySem.F.called_set.notType
 have h2:=PySem.F.called_set.canCreate
 have hct:=PySem.F.typeCall_set_1 (.ref l)
 repeat (any_goals (first | assumption | wp_step))
 refine codeAny_mono (mP (.ref l) (E:=E) (Q₁:=fun obj s₁=>obj=.ref s.heap.objs.size∧s₁={s with heap:=s.heap.push {cls:=.type "set",dict:=none,data:=.set #[] 0 (.fresh 0 0 (dW w))}}) ⟨rfl,rfl⟩) fun r s₁ hr=>?_
 cases r with
 | error e=>exact hr
 | ok fl=>
   cases fl with
   | ret obj=>
     refine a2 hr ?_;clear hr;intro z0 z1;subst z0;subst z1
     generalize hled:dW w=led at*
     have hS:(s.heap.push {cls:=.type "set",dict:=none,data:=.set #[] 0 (.fresh 0 0 led)}).get? s.heap.objs.size=some {cls:=.type "set",dict:=none,data:=.set #[] 0 (.fresh 0 0 led)}:=Heap.get?_push_size _ rfl
     have hT:Shared.TypeIs {s with heap:=s.heap.push {cls:=.type "set",dict:=none,data:=.set #[] 0 (.fresh 0 0 led)}} (.ref s.heap.objs.size) "set":=a6 _ hS rfl
     have hli:=PySem.F.called_set.init.lookup
     have hbi:=PySem.F.called_set.init.bind (.ref s.heap.objs.size)
     repeat (any_goals (first | assumption | wp_step))
     refine codeAny_mono (codeAny_call_builtin (R:=wants (fun r s₂=>r=.none∧∃ h' tk,s₂={s with heap:=h',toks:=tk}∧
      P items.size h'∧
      (∀ b o,b<s.heap.objs.size->s.heap.get? b=some o->h'.get? b=some o)) E) PySem.F.called_set.init.plain F.entry_set_init (check_set_init_1 hT ?_)) fun r₂ s₂ hr₂=>?_
     ·obtain⟨ol,hol,hcl,nl,hdl⟩:=hl
      obtain⟨ocls,odict,odata,oslots⟩:=ol
      simp only at hcl hdl
      subst hcl;subst hdl
      have hol':(s.heap.push {cls:=.type "set",dict:=none,data:=.set #[] 0 (.fresh 0 0 led)}).get? l=some {cls:=.type "list",dict:=odict,data:=.seq items nl,slots:=oslots}:=Heap.get?_push_of_some _ hol
      have hsls:=PySem.F.sub_list_set
      have hslf:=PySem.F.sub_list_frozenset
      have hne:(Value.type "list"==Value.type "dict")=false:=by decide
      have hl1:(s.heap.push {cls:=.type "set",dict:=none,data:=.set #[] 0 (.fresh 0 0 led)}).IsList l items:=⟨_,hol',rfl,nl,rfl⟩
      unfold Builtin.«set.__init__» noKeywords Builtin.Frozenset.updateFrom
      generalize hPI:pyIter=PI
      wp_walk
      subst hPI
      refine wpAny_pyIter_list hl1 ?_
      refine wpAny_bind (wpAny_runValue ?_)
      have hlS:l<s.heap.objs.size:=Heap.lt_size hol
      have hh3:A.in1.in1.in1.handled=none:=by simp[hh]
      have hneI:l≠(s.heap.push {cls:=.type "set",dict:=none,data:=.set #[] 0 (.fresh 0 0 led)}).objs.size:=by
       refine a0 (Heap.size_push ..) ?_;exact Nat.ne_of_lt (Nat.lt_succ_of_lt hlS)
      have hSf:s.heap.objs.size∉[(s.heap.push {cls:=.type "set",dict:=none,data:=.set #[] 0 (.fresh 0 0 led)}).objs.size,l]:=by
       refine a0 (Heap.size_push ..) ?_;simp only[List.mem_cons,List.mem_singleton,List.not_mem_nil,or_false,not_or]
       exact⟨Nat.ne_of_lt (Nat.lt_succ_self _),Nat.ne_of_gt hlS⟩
      have hval:∀ (i:Nat) (u:Value),items[i]? =some u->u=v i:=fun i u hu'=>by
       refine aH (Array.getElem?_eq_some_iff.mp hu') fun il Z=>?_
       rw[hi i il] at hu';cases hu';rfl
      have hget:((s.heap.push {cls:=.type "set",dict:=none,data:=.set #[] 0 (.fresh 0 0 led)}).push {cls:=.type "list_iterator",data:=.fields #[.ref l,.int 0 0]}).get? s.heap.objs.size
       =some {cls:=.type "set",dict:=none,data:=.set #[] 0 (.fresh 0 0 led)}:=Heap.get?_push_of_some _ hS
      refine mq ((Walks.list hh3 _ l hneI items).toS) s.heap.objs.size
       hSf X hval (Nat.le_refl _) (fun b hb'=>?hwB) ?hu (items.size - 0) 0 _ (by exact rfl) (Nat.zero_le _)
       ⟨(aP _ (Heap.get?_push_size _ rfl) rfl rfl),(hl1.push _)⟩ (h0 _ (fun b o e=>Heap.get?_push_of_some _ (Heap.get?_push_of_some _ e)) hget) ?hR
      case hwB=>
       rw[List.mem_singleton] at hb'
       refine a0 hb' ?_;refine a0 (Heap.size_push ..) ?_;exact Nat.le_succ _
      case hu=>
       have u:∀ B:Around,B.in1.units=B.units+1:=fun Z=>rfl
       simp only[u]
       lia
      case hR=>
       intro s' hm hS'
       obtain⟨h',g',d',tk',os'⟩:=s'
       have eg:g'=s.gens:=hm.gens
       have ed:d'=s.drawn:=hm.drawn
       have eo:os'=s.os:=hm.os
       subst eg;subst ed;subst eo
       show wpAny _ _ _ _ _ _
       refine wpAny_pure ?_
       show wpAny _ _ (ret Value.none) _ _ _
       refine wpAny_pure ⟨rfl,h',tk',rfl,hS',fun b o hb e=>?_⟩
       have hb1:b≠s.heap.objs.size:=Nat.ne_of_lt hb
       have hb2:b≠(s.heap.push {cls:=.type "set",dict:=none,data:=.set #[] 0 (.fresh 0 0 led)}).objs.size:=by
        refine a0 (Heap.size_push ..) ?_;exact Nat.ne_of_lt (Nat.lt_succ_of_lt hb)
       exact hm.heap b o (by simp only[List.mem_cons,List.mem_singleton,List.not_mem_nil,or_false,not_or];exact⟨hb1,hb2⟩) (Heap.get?_push_of_some _ (Heap.get?_push_of_some _ e))
     ·cases r₂ with
      | error e=>exact hr₂
      | ok fl₂=>
        cases fl₂ with
        | ret r=>
          obtain⟨rfl,h',tk,rfl,hS',hk'⟩:=hr₂
          repeat (any_goals (first | assumption | wp_step))
          exact h _ _ hS' hk'
        | _=>exact hr₂.elim
   | _=>exact hr.elim
end
theorem gb{α:Type}{l:List α}{i:Nat}{x:α}(h:l[i]? =some x):(x::l.eraseIdx i).Perm l:=by
 induction l generalizing i with
 | nil=>simp at h
 | cons a l ih=>
   cases i with
   | zero=>simp at h;subst h;simp
   | succ i=>
     simp at h
     exact(List.Perm.swap a x _).trans ((ih h).cons a)
set_option tactic.hygienic true in
theorem vy{α:Type}(next:Nat->Nat):∀ (aS k:Nat) (left:List α) (out:Array α),left.length≤aS->(pickOrder.go next aS k left out).toList.Perm (out.toList++left):=by
 intro aS
 induction aS with
 | zero=>
   intro k left out h
   have:left=[]:=List.eq_nil_of_length_eq_zero (by exact Nat.le_antisymm h (Nat.zero_le _))
   subst this
   simp[pickOrder.go]
 | succ aS ih=>
   intro k left out h
   unfold pickOrder.go
   split
   ·rename_i x hx
    have p:=gb hx
    have hl:(left.eraseIdx (next k % left.length)).length≤aS:=by
     have:=p.length_eq
     simp at this;lia
    refine(ih (k+1) _ (out.push x) hl).trans ?_
    refine a0 Array.toList_push ?_;refine a0 (List.append_assoc ..) ?_
    exact List.Perm.append_left _ p
   ·rename_i hx
    have:left=[]:=by
     refine Classical.byContradiction fun ne=>?_
     have pos:0<left.length:=List.length_pos_iff.mpr ne
     have:=Nat.mod_lt (next k) pos
     rw[List.getElem?_eq_getElem this] at hx
     cases hx
    subst this;simp
set_option tactic.hygienic true in
theorem lE{α:Type}(next:Nat->Nat)(xs:Array α):(pickOrder next xs).toList.Perm xs.toList:=by
 have:=vy next xs.size 0 xs.toList #[] (by exact Nat.le_refl _)
 simpa [pickOrder]using this
section
variable{M:Model}{A:Around}{E:Value->Shared->Prop}{s:Shared}
theorem kP{src:Source}{n:Nat}{Q:Nat->Shared->Prop}(hn:n≠0)(h:∀ k d,k<n->Q k {s with drawn:=d}):wpAny M A (choose src n) Q E s:=fun Γ p hΓ=>by
 unfold choose
 refine a0 (Sem.wp_choose ..) ?_
 exact⟨hn,h _ _ (Nat.mod_lt _ (Nat.pos_of_ne_zero hn))⟩
theorem ko{α:Type}:∀ (n:Nat) (xs:List α) (s:Shared) {Q:List α->Shared->Prop},xs.length=n->(∀ ys d,ys.Perm xs->Q ys {s with drawn:=d})->wpAny M A (drawOrder n xs) Q E s:=by
 intro n
 induction n with
 | zero=>
   intro xs s Q hl h
   have:xs=[]:=List.eq_nil_of_length_eq_zero hl
   subst this
   exact wpAny_pure (h [] s.drawn (.refl _))
 | succ n ih=>
   intro xs s Q hl h
   cases xs with
   | nil=>cases hl
   | cons x xs=>
     refine wpAny_bind (m:=choose .order (x::xs).length) (kP (by exact fun z=>nomatch z) fun k d hk=>?_)
     have hx:(x::xs)[k]? =some ((x::xs)[k]'hk):=List.getElem?_eq_getElem hk
     have p:=gb hx
     refine a0 hx ?_
     dsimp only
     refine wpAny_bind (ih _ _ (by have:=p.length_eq;simp at this hl;exact Nat.le_antisymm (a9 (Nat.le_of_eq this) (Nat.le_of_eq hl)) (a9 (fX hl) (fX this))) fun ys d' py=>?_)
     exact wpAny_pure (h _ d' ((py.cons _).trans p))
end
theorem au:Slot "set_iterator" "__next__" "set_iterator.__next__":=
 .of (owner:="set_iterator") (n:="__next__") (by refine a0 (typeLookup_type ..) ?_;refine a0 builtinLookup_eq_fast ?_;kernel_rfl) (by decide+kernel) (by decide+kernel) (by decide+kernel)
  (by first | exact .inl (by decide+kernel) | exact .inr (by decide+kernel)) (by refine a0 (isSubtype_type ..) ?_;kernel_rfl)
theorem bH:entryFor table "set_iterator.__next__"=some Builtin.«set_iterator.__next__» :=entryFor_of_tree (by kernel_rfl)
theorem mx:Slot "set" "__len__" "set.__len__":=
 .of (owner:="set") (n:="__len__") (by refine a0 (typeLookup_type ..) ?_;refine a0 builtinLookup_eq_fast ?_;kernel_rfl) (by decide+kernel) (by decide+kernel) (by decide+kernel)
  (by first | exact .inl (by decide+kernel) | exact .inr (by decide+kernel)) (by refine a0 (isSubtype_type ..) ?_;kernel_rfl)
theorem bO(a:Value):argsOk "set_iterator.__next__" ⟨[a],[]⟩:=by
 unfold argsOk;refine a0 (signature?_of (rows:=Manifest.sig_set_iterator) (id:="set_iterator.__next__") (n:=['_','_','t','x','e','n','_','_']) (o:=['r','o','t','a','r','e','t','i','_','t','e','s']) (by kernel_rfl) (by kernel_rfl)) ?_;kernel_rfl
noncomputable def bg(h:Heap)(it S:Addr)(first:Value)(i n ep:Nat):Prop:=∃ o,h.get? it=some o∧o.cls=.type "set_iterator"∧o.data=.fields #[first,.int i 0,.ref S,.int n 0,.int ep 0]
theorem bg.at{h h':Heap}{it S first i n ep}(x:bg h it S first i n ep)(e:∀ o,h.get? it=some o->h'.get? it=some o):bg h' it S first i n ep:=let ⟨o,ho,r⟩:=x;(a6 o (e _ ho) r)
theorem bg.typeIs{s:Shared}{it S first i n ep}(x:bg s.heap it S first i n ep):s.TypeIs (.ref it) "set_iterator":=let ⟨o,ho,hc,_⟩:=x;(a6 o ho hc)
section
variable{prog:Program}{w:World}{A:Around}{E:Value->Shared->Prop}{s:Shared}
noncomputable def eQ(h:Heap)(S:Addr)(es:Array (Int×Value))(ep:Nat)(t:SetTable):Prop:=∃ o,h.get? S=some o∧o.data=.set es ep t
theorem gS{it S:Addr}{slot i n ep:Nat}{es:Array (Int×Value)}{t:SetTable}{x:Value}{slot':Nat}{Q:Option Value->Shared->Prop}(hit:bg s.heap it S (.int slot 0) i n ep)(hS:eQ s.heap S es ep t)(hf:t.fits es.size=true)(hn:es.size=n)
 (hx:∀ (A:Around) (E':Value->Shared->Prop) (Q':Option (Value×Nat)->Shared->Prop),Q' (some (x,slot')) s->wpAny (model prog w) A (setNext S slot i ep) Q' E' s)
 (hQ:∀ h',bg h' it S (.int slot' 0) (i+1) n ep->Heap.SameBut it s.heap h'->Q (some x) {s with heap:=h'}):
 wpAny (model prog w) A (pyNext (.ref it)) Q E s:=by
 refine bw (id hit) fun o ho hc hd=>?_
 refine a7 (id hS) fun os hos hds=>?_
 unfold pyNext
 refine wpAny_bind (wpAny_attempt (wpAny_callSpecial?_slot (name:=Str.ofString "__next__") hit.typeIs au
  (wpAny_call_entry au hit.typeIs bH ?_ (bO _))))
 unfold Builtin.«set_iterator.__next__»
 refine wpAny_bind (wpAny_pure ?_)
 refine wpAny_bind (wpAny_fieldsOf ho hd ?_)
 dsimp only
 refine wpAny_bind (wpAny_setEntries_of hos hds hf ?_)
 refine a0 (if_neg (by rw[hn];simp)) ?_
 simp only[Int.toNat_natCast]
 refine wpAny_bind (hx _ _ _ ?_)
 dsimp only
 refine wpAny_bind (wpAny_setField ho hd (by exact Nat.succ_pos _) ?_)
 have ho1:=Heap.get?_update_self (Obj.mapFields (·.setIfInBounds 0 (rawInt (slot':Int)))) ho (Obj.isFreed_of_fields (Obj.data_mapFields hd _))
 have hd1:=Obj.data_mapFields hd (·.setIfInBounds 0 (rawInt (slot':Int)))
 refine wpAny_bind (wpAny_setField ho1 hd1 (by simp) ?_)
 refine wpAny_pure (a6 x rfl (wpAny_pure (hQ _ ?_ ((Heap.SameBut.update ..).trans (Heap.SameBut.update ..)))))
 exact⟨_,Heap.get?_update_self _ ho1 (Obj.isFreed_of_fields (Obj.data_mapFields hd1 _)),(Obj.cls_mapFields ..).trans ((Obj.cls_mapFields ..).trans hc),by
  rw[Obj.data_mapFields hd1];exact rfl⟩
end
theorem dF:Slot "set_iterator" "__iter__" "set_iterator.__iter__":=
 .of (owner:="set_iterator") (n:="__iter__") (by refine a0 (typeLookup_type ..) ?_;refine a0 builtinLookup_eq_fast ?_;kernel_rfl) (by decide+kernel) (by decide+kernel) (by decide+kernel)
  (by first | exact .inl (by decide+kernel) | exact .inr (by decide+kernel)) (by refine a0 (isSubtype_type ..) ?_;kernel_rfl)
theorem kh:entryFor table "set.__iter__"=some Builtin.«frozenset.__iter__» :=
 entryFor_alias (id':="frozenset.__iter__") (by kernel_rfl) rfl (by decide+kernel) (by kernel_rfl)
theorem gB:entryFor table "set_iterator.__iter__"=some Builtin.«dict_keyiterator.__iter__» :=
 entryFor_alias (id':="dict_keyiterator.__iter__") (by kernel_rfl) rfl (by decide+kernel) (by kernel_rfl)
theorem ie(a:Value):argsOk "set_iterator.__iter__" ⟨[a],[]⟩:=by
 unfold argsOk;refine a0 (signature?_of (rows:=Manifest.sig_set_iterator) (id:="set_iterator.__iter__") (n:=['_','_','r','e','t','i','_','_']) (o:=['r','o','t','a','r','e','t','i','_','t','e','s']) (by kernel_rfl) (by kernel_rfl)) ?_;kernel_rfl
theorem l9(a:Value):argsOk "set.__iter__" ⟨[a],[]⟩:=PySem.F.args_set_iter_1 a
theorem nG:isSubtype (.type "StopIteration") (.type "StopIteration")=pure true:=by refine a0 (isSubtype_type ..) ?_;kernel_rfl
inductive pq(w:World)(h:Heap)(it S p:Addr)(ep:Nat)(es:Array (Int×Value))(t:SetTable):List (Int×Value)->Nat->Prop
 | text (slot i:Nat):w.params.followText "set-order"=true->bg h it S (.int slot 0) i es.size ep->pq w h it S p ep es t (pickOrder (w.params.setOrder S ep) es).toList i
 | place (slot i:Nat):w.params.followText "set-order"=false->t.led=true->(!t.plain&&decide (es.size > 1))=false->SetTable.below t.place slot=i->bg h it S (.int slot 0) i es.size ep->pq w h it S p ep es t es.toList i
 | drawn (ns:List Nat) (i:Nat):h.IsTuple p (ns.map fun(k:Nat)=>rawInt k).toArray->bg h it S (.ref p) i es.size ep->ns.Perm (List.range es.size)->pq w h it S p ep es t (ns.filterMap (es[·]?)) i
theorem pq.at{w:World}{h h':Heap}{it S p:Addr}{ep:Nat}{es:Array (Int×Value)}{t:SetTable}{ys:List (Int×Value)}{i:Nat}(x:pq w h it S p ep es t ys i)(e:∀ b,b=it∨b=p->∀ o,h.get? b=some o->h'.get? b=some o):pq w h' it S p ep es t ys i:=by
 cases x with
 | text slot _ a b=>exact .text slot i a (b.at (e it (.inl rfl)))
 | place slot _ a b c d f=>exact .place slot i a b c d (f.at (e it (.inl rfl)))
 | drawn ns _ a b c=>
   refine a7 a fun o ho r=>?_
   exact .drawn ns i (a6 o (e p (.inr rfl) _ ho) r) (b.at (e it (.inl rfl))) c
theorem pq.perm{w:World}{h:Heap}{it S p:Addr}{ep:Nat}{es:Array (Int×Value)}{t:SetTable}{ys:List (Int×Value)}{i:Nat}(x:pq w h it S p ep es t ys i):ys.Perm es.toList:=by
 cases x with
 | text slot _ a b=>exact lE _ es
 | place=>exact .refl _
 | drawn ns _ a b c=>exact(c.filterMap _).trans (by refine a0 (filterMap_getElem?_range ..) ?_;rfl)
theorem pq.iter{w:World}{h:Heap}{it S p:Addr}{ep:Nat}{es:Array (Int×Value)}{t:SetTable}{ys:List (Int×Value)}{i:Nat}(x:pq w h it S p ep es t ys i):∃ first,bg h it S first i es.size ep:=by
 cases x with
 | text slot _ a b=>exact⟨_,b⟩
 | place slot _ a b c d f=>exact⟨_,f⟩
 | drawn ns _ a b c=>exact⟨_,b⟩
theorem qi{xs:Array Nat}(h:lY xs){i:Nat}(hi:i<xs.size):SetTable.below xs (xs.getD i 0+1)=i+1:=by
 refine a3 (dw h (xs.getD i 0+1)) fun a b c=>?_
 rcases Nat.lt_trichotomy (SetTable.below xs (xs.getD i 0+1)) (i+1)with z | z | z
 ·have:=c i (by lia) hi;lia
 ·exact z
 ·have h1:=b (i+1) z
  have h2:=h.lt (i:=i) (j:=i+1) (by exact Nat.le_refl _) (by exact a9 z a)
  lia
theorem qh{xs:Array Nat}(h:lY xs):SetTable.below xs 0=0:=by
 refine a3 (dw h 0) fun a b c=>?_
 refine Classical.byContradiction fun z=>?_
 have:=b 0 (by lia)
 exact absurd (Nat.lt_of_lt_of_le this (Nat.zero_le _)) (Nat.lt_irrefl _)
section
variable{prog:Program}{w:World}{A:Around}{E:Value->Shared->Prop}{s:Shared}
theorem mS{Q:Bool->Shared->Prop}(h:Q (w.params.followText "set-order") s):wpAny (model prog w) A setsByText Q E s:=by
 unfold setsByText
 exact wpAny_bind (wpAny_askSetting (wpAny_pure h))
theorem gT{S:Addr}{slot i ep:Nat}{es:Array (Int×Value)}{t:SetTable}{Q:Option (Value×Nat)->Shared->Prop}(hS:eQ s.heap S es ep t)(hf:t.fits es.size=true)(ht:w.params.followText "set-order"=true)
 (h:Q (((pickOrder (w.params.setOrder S ep) es)[i]?).map fun e=>(e.2,slot)) s):wpAny (model prog w) A (setNext S slot i ep) Q E s:=by
 refine a7 hS fun o ho hd=>?_
 refine wpAny_bind (m:=setState S) (wpAny_setState_of ho hd hf ?_)
 refine wpAny_bind (m:=setsByText) (mS ?_)
 refine fz ht ?_
 refine bZ (by rw[bne_self_eq_false];exact Bool.false_ne_true) ?_
 unfold setWalk
 refine wpAny_bind ?_
 refine wpAny_bind (wpAny_setState_of ho hd hf ?_)
 dsimp only
 refine wpAny_bind (mS ?_)
 refine a0 ht ?_
 simp only[if_true]
 refine wpAny_bind (wpAny_askSetting ?_)
 refine wpAny_pure ?_
 exact wpAny_pure h
theorem g6{S:Addr}{slot i ep:Nat}{es:Array (Int×Value)}{t:SetTable}{Q:Option (Value×Nat)->Shared->Prop}(hS:eQ s.heap S es ep t)(hf:t.fits es.size=true)(ht:w.params.followText "set-order"=false)(hl:t.led=true)(hp:(!t.plain&&decide (es.size > 1))=false)
 (h:Q (match es[SetTable.below t.place slot]?,t.place[SetTable.below t.place slot]? with
  | some (_,x),some j=>some (x,j+1)
  | _,_=>none) s):wpAny (model prog w) A (setNext S slot i ep) Q E s:=by
 refine a7 hS fun o ho hd=>?_
 unfold setNext
 refine wpAny_bind (wpAny_setState_of ho hd hf ?_)
 dsimp only
 refine wpAny_bind (mS ?_)
 refine a0 ht ?_
 simp only[Bool.false_eq_true,if_false]
 refine wpAny_ite_split (fun hab=>absurd (show(!t.plain&&decide (es.size > 1))=true from hab) (by refine a0 hp ?_;decide)) (fun Z=>?_)
 refine wpAny_bind ?_
 show wpAny _ _ (if(!t.led&& !es.isEmpty)=true then unsupported "set:maker-not-led" else pure ()) _ _ _
 refine a0 hl ?_
 simp only[Bool.not_true,Bool.false_and,Bool.false_eq_true,if_false]
 refine wpAny_pure ?_
 exact wpAny_pure h
theorem nL{S:Addr}{ep:Nat}{es:Array (Int×Value)}{t:SetTable}{Q:Bool->Shared->Prop}(hS:eQ s.heap S es ep t)(hf:t.fits es.size=true)
 (h:Q (!(w.params.followText "set-order")&&(!t.plain&&decide (es.size > 1))) s):wpAny (model prog w) A (setDrawn S) Q E s:=by
 refine a7 hS fun o ho hd=>?_
 unfold setDrawn
 refine wpAny_bind (wpAny_setState_of ho hd hf ?_)
 dsimp only
 refine wpAny_bind (mS ?_)
 exact wpAny_pure h
theorem jd{S:Addr}{k ep:Nat}{es:Array (Int×Value)}{t:SetTable}{x:Int×Value}{Q:Value->Shared->Prop}(hS:eQ s.heap S es ep t)(hf:t.fits es.size=true)(hx:es[k]? =some x)(h:Q x.2 s):wpAny (model prog w) A (setNextDrawn S k ep) Q E s:=by
 refine a7 hS fun o ho hd=>?_
 refine wpAny_bind (m:=setState S) (wpAny_setState_of ho hd hf ?_)
 refine bZ (by rw[bne_self_eq_false];exact Bool.false_ne_true) ?_
 refine a0 hx ?_
 exact wpAny_pure h
theorem tw{it S p:Addr}{i ep:Nat}{es:Array (Int×Value)}{t:SetTable}{ys:List (Int×Value)}{x:Int×Value}{Q:Option Value->Shared->Prop}(I:pq w s.heap it S p ep es t ys i)(hS:eQ s.heap S es ep t)(ok:b5 t es.size)(hne:p≠it)(hx:ys[i]? =some x)
 (hQ:∀ h',pq w h' it S p ep es t ys (i+1)->Heap.SameBut it s.heap h'->Q (some x.2) {s with heap:=h'}):wpAny (model prog w) A (pyNext (.ref it)) Q E s:=by
 have hf:=ok.fits
 cases I with
 | text slot _ ht hit=>
   refine gS (x:=x.2) (slot':=slot) hit hS hf rfl (fun A E' Q' h=>gT hS hf ht ?_) fun h' hit' sb=>hQ h' (.text slot (i+1) ht hit') sb
   have:(pickOrder (w.params.setOrder S ep) es)[i]? =some x:=by refine aX Array.getElem?_toList ?_;exact hx
   refine a0 this ?_;exact h
 | place slot _ ht hl hp hb hit=>
   have hx':es[i]? =some x:=by refine aX Array.getElem?_toList ?_;exact hx
   have hi:i<t.place.size:=by refine a0 ok.size ?_;exact(Array.getElem?_eq_some_iff.mp hx').1
   have hpl:=fE hi
   refine gS (x:=x.2) (slot':=t.place.getD i 0+1) hit hS hf rfl (fun A E' Q' h=>g6 hS hf ht hl hp ?_) fun h' hit' sb=>hQ h' (.place _ (i+1) ht hl hp (qi ok.ris hi) hit') sb
   refine a0 hb ?_;refine a0 hx' ?_;refine a0 hpl ?_;exact h
 | drawn ns _ hp hit pm=>
   have hl:ns.length=es.size:=by have:=pm.length_eq;simpa using this
   have all:∀ k∈ns,k<es.size:=fun k hk=>by simpa using pm.mem_iff.mp hk
   have e:∀ (l:List Nat) (i:Nat),(∀ k∈l,k<es.size)->(l.filterMap (es[·]?))[i]? =(l[i]?).bind (es[·]?):=by
    intro l
    induction l with
    | nil=>intro i _;exact rfl
    | cons k l ih=>
      intro i hk
      have h1:=hk k (.head _)
      have e1:es[k]? =some es[k]:=Array.getElem?_eq_getElem h1
      refine a0 List.filterMap_cons ?_;refine a0 e1 ?_
      cases i with
      | zero=>simp
      | succ i=>simpa using ih i fun k' hk'=>hk k' (.tail _ hk')
   rw[e ns i all] at hx
   refine a7 (Option.bind_eq_some_iff.mp hx) fun k hk hkx=>?_
   refine bw (id hit) fun o ho hc hd=>?_
   refine a7 (id hS) fun os hos hds=>?_
   obtain⟨op,hop,hcp,np,hdp⟩:=id hp
   unfold pyNext
   refine wpAny_bind (wpAny_attempt (wpAny_callSpecial?_slot (name:=Str.ofString "__next__") hit.typeIs au
    (wpAny_call_entry au hit.typeIs bH ?_ (bO _))))
   unfold Builtin.«set_iterator.__next__»
   refine wpAny_bind (wpAny_pure ?_)
   refine wpAny_bind (wpAny_fieldsOf ho hd ?_)
   dsimp only
   refine wpAny_bind (wpAny_setEntries_of hos hds hf ?_)
   refine a0 (if_neg (by simp)) ?_
   simp only[Int.toNat_natCast]
   refine wpAny_bind (wpAny_seqItems hop hdp ?_)
   dsimp only
   have hpk:((ns.map fun(k:Nat)=>rawInt k).toArray)[i]? =some (.int k 0):=by
    refine a0 List.getElem?_toArray ?_;refine a0 List.getElem?_map ?_;refine a0 hk ?_;rfl
   refine a0 hpk ?_
   dsimp only
   simp only[Int.toNat_natCast]
   refine wpAny_bind (jd hS hf hkx ?_)
   refine wpAny_bind (wpAny_setField ho hd (by simp) ?_)
   have sb:=Heap.SameBut.update s.heap it (Obj.mapFields (·.setIfInBounds 1 (rawInt ((i:Int)+1))))
   refine wpAny_pure (a6 x.2 rfl (wpAny_pure (hQ _ (.drawn ns (i+1) ⟨op,(sb.2 p hne).trans hop,hcp,np,hdp⟩ ?_ pm) sb)))
   exact aP _ (Heap.get?_update_self _ ho (Obj.isFreed_of_fields (Obj.data_mapFields hd _))) ((Obj.cls_mapFields ..).trans hc) (by rw[Obj.data_mapFields hd];exact rfl)
theorem iU{α:Type}{A:Around}{Q:α->Shared->Prop}{E:Value->Shared->Prop}{s:Shared}(hh:A.handled=none)(h:∀ o1 o2:Obj,Shared.TypeIs {s with heap:=(s.heap.push o1).push o2} (.ref (s.heap.push o1).objs.size) "StopIteration"->E (.ref (s.heap.push o1).objs.size) {s with heap:=(s.heap.push o1).push o2}):
 wpAny (model prog w) A (newExc (.type "StopIteration") [] >>= fun e=>raiseNew e) Q E s:=by
 refine wpAny_bind ?_
 simp only[newExc,newTuple]
 refine wpAny_bind (wpAny_newObj_type ?_ (by size_fits))
 refine wpAny_bind (m:=firstArgMember _ _) (wpAny_of_eq (a:=Value.none) (by first | rfl | (simp only[firstArgMember];rfl)) ?_)
 refine wpAny_newObj_type ?_ (by size_fits)
 refine wpAny_bind (m:=handled) (wpAny_handled ?_)
 refine a0 hh ?_
 exact wpAny_bind (wpAny_pure (wpAny_throw (h _ _ (a6 _ (Heap.get?_push_size _ rfl) rfl))))
theorem vu{it S p:Addr}{i ep:Nat}{es:Array (Int×Value)}{t:SetTable}{ys:List (Int×Value)}{Q:Option Value->Shared->Prop}(hh:A.handled=none)(I:pq w s.heap it S p ep es t ys i)(hS:eQ s.heap S es ep t)(ok:b5 t es.size)(hi:es.size=i)
 (hQ:∀ h',Heap.ExtBut it s.heap h'->Q none {s with heap:=h'}):wpAny (model prog w) A (pyNext (.ref it)) Q E s:=by
 have hf:=ok.fits
 have stop:∀ {first:Value} {slot:Nat},first=.int slot 0->bg s.heap it S first i es.size ep->(∀ (A:Around) (E':Value->Shared->Prop) (Q':Option (Value×Nat)->Shared->Prop),Q' none s->wpAny (model prog w) A (setNext S slot i ep) Q' E' s)->wpAny (model prog w) A (pyNext (.ref it)) Q E s:=by
  intro first slot e hit hx
  subst e
  refine bw (id hit) fun o ho hc hd=>?_
  refine a7 (id hS) fun os hos hds=>?_
  unfold pyNext
  refine wpAny_bind (wpAny_attempt (wpAny_callSpecial?_slot (name:=Str.ofString "__next__") hit.typeIs au
   (wpAny_call_entry au hit.typeIs bH ?_ (bO _))))
  unfold Builtin.«set_iterator.__next__»
  refine wpAny_bind (wpAny_pure ?_)
  refine wpAny_bind (wpAny_fieldsOf ho hd ?_)
  dsimp only
  refine wpAny_bind (wpAny_setEntries_of hos hds hf ?_)
  refine a0 (if_neg (by simp)) ?_
  simp only[Int.toNat_natCast]
  refine wpAny_bind (hx _ _ _ ?_)
  dsimp only
  refine wpAny_bind (wpAny_setField ho hd (by simp) ?_)
  refine iU (A:=A.in1) hh fun o1 o2 ht=>wpAny_bind (wpAny_isInstance (T:="StopIteration") (b:=true) ht nG ?_)
  exact wpAny_pure (hQ _ (((Heap.SameBut.update ..).extBut.push _).push _))
 cases I with
 | text slot _ ht hit=>
   refine stop (slot:=slot) rfl hit fun A E' Q' h=>gT hS hf ht ?_
   have hl:(pickOrder (w.params.setOrder S ep) es).size=es.size:=by
    have:=(lE (w.params.setOrder S ep) es).length_eq
    simpa using this
   have:(pickOrder (w.params.setOrder S ep) es)[i]? =none:=Array.getElem?_eq_none (by exact a9 (Nat.le_of_eq hl) (Nat.le_of_eq hi))
   refine a0 this ?_;exact h
 | place slot _ ht hl hp hb hit=>
   refine stop (slot:=slot) rfl hit fun A E' Q' h=>g6 hS hf ht hl hp ?_
   have:es[i]? =none:=Array.getElem?_eq_none (by exact Nat.le_of_eq hi)
   refine a0 hb ?_;refine a0 this ?_;exact h
 | drawn ns _ hp hit pm=>
   have hl:ns.length=es.size:=by have:=pm.length_eq;simpa using this
   refine bw (id hit) fun o ho hc hd=>?_
   refine a7 (id hS) fun os hos hds=>?_
   obtain⟨op,hop,hcp,np,hdp⟩:=id hp
   unfold pyNext
   refine wpAny_bind (wpAny_attempt (wpAny_callSpecial?_slot (name:=Str.ofString "__next__") hit.typeIs au
    (wpAny_call_entry au hit.typeIs bH ?_ (bO _))))
   unfold Builtin.«set_iterator.__next__»
   refine wpAny_bind (wpAny_pure ?_)
   refine wpAny_bind (wpAny_fieldsOf ho hd ?_)
   dsimp only
   refine wpAny_bind (wpAny_setEntries_of hos hds hf ?_)
   refine a0 (if_neg (by simp)) ?_
   simp only[Int.toNat_natCast]
   refine wpAny_bind (wpAny_seqItems hop hdp ?_)
   dsimp only
   have hpk:((ns.map fun(k:Nat)=>rawInt k).toArray)[i]? =none:=Array.getElem?_eq_none (by simp;exact a9 (Nat.le_of_eq hl) (Nat.le_of_eq hi))
   refine a0 hpk ?_
   dsimp only
   refine wpAny_bind (wpAny_setField ho hd (by exact Nat.succ_pos _) ?_)
   have ho1:=Heap.get?_update_self (Obj.mapFields (·.setIfInBounds 0 (rawInt 0))) ho (Obj.isFreed_of_fields (Obj.data_mapFields hd _))
   have hd1:=Obj.data_mapFields hd (·.setIfInBounds 0 (rawInt 0))
   refine wpAny_bind (wpAny_setField ho1 hd1 (by simp) ?_)
   refine iU (A:=A.in1) hh fun o1 o2 ht=>wpAny_bind (wpAny_isInstance (T:="StopIteration") (b:=true) ht nG ?_)
   exact wpAny_pure (hQ _ ((((Heap.SameBut.update ..).trans (Heap.SameBut.update ..)).extBut.push _).push _))
theorem mz{it S:Addr}{first:Value}{i n ep:Nat}{Q:Value->Shared->Prop}(hit:bg s.heap it S first i n ep)(h:Q (.ref it) s):wpAny (model prog w) A (pyIter (.ref it)) Q E s:=by
 refine wpAny_pyIter_slot hit.typeIs dF (wpAny_call_entry dF hit.typeIs gB ?_ (ie _))
 show wpAny _ _ (ret (.ref it)) _ _ s
 exact wpAny_pure ⟨_,rfl,"set_iterator",_,hit.typeIs,au.lookup,h⟩
theorem rz(hh:A.handled=none){it S p:Addr}{ep:Nat}{es:Array (Int×Value)}{t:SetTable}{ys:List (Int×Value)}(ok:b5 t es.size)(hne:p≠it)(hSi:S≠it):
 Walks prog w A it [it,S,p] [it] es.size (fun i v=>(ys.map (fun x=>x.2))[i]? =some v) (fun i h=>pq w h it S p ep es t ys i∧eQ h S es ep t) where
 sub:=fun b hb=>by simp at hb;simp[hb]
 frame:=fun i h h' st hk=>⟨st.1.at fun b hb o e=>hk b (by rcases hb with rfl | rfl<;>simp) o e,let ⟨o,e,d⟩:=st.2;(a6 o (hk S (by simp) o e) d)⟩
 item:=fun i s Q E hi st hQ=>by
  have hl:ys.length=es.size:=by simpa using st.1.perm.length_eq
  obtain⟨x,hx⟩:∃ x,ys[i]? =some x:=⟨_,List.getElem?_eq_getElem (by exact a9 hi (fX hl))⟩
  refine tw st.1 st.2 ok hne hx fun h' I' sb=>?_
  refine a7 st.2 fun o e d=>?_
  exact hQ _ h' s.toks (by refine a0 List.getElem?_map ?_;refine a0 hx ?_;rfl) ⟨I',o,(sb.2 S hSi).trans e,d⟩ fun b o hb e=>sb.extBut b o (fun h=>hb (by simp[h])) e
 done:=fun s Q E st hQ=>vu hh st.1 st.2 ok rfl fun h' he=>hQ h' s.toks fun b o hb e=>he b o (fun h=>hb (by simp[h])) e
 self:=fun i s Q E st hQ=>by
  refine aH st.1.iter fun f hf=>?_
  exact mz hf hQ
theorem u4{S:Addr}{ep:Nat}{es:Array (Int×Value)}{t:SetTable}{Q:Value->Shared->Prop}(hT:s.TypeIs (.ref S) "set")(hS:eQ s.heap S es ep t)(ok:b5 t es.size)(hl:t.led=dW w)(hs:es.size≤1000)
 (hQ:∀ h' d it p ys,(∀ b o,s.heap.get? b=some o->h'.get? b=some o)->s.heap.objs.size≤it->(p=S∨s.heap.objs.size≤p)->p≠it->p<h'.objs.size->it<h'.objs.size->pq w h' it S p ep es t ys 0->Q (.ref it) {s with heap:=h',drawn:=d}):
 wpAny (model prog w) A (pyIter (.ref S)) Q E s:=by
 have hf:=ok.fits
 refine a7 (id hS) fun o ho hd=>?_
 refine wpAny_pyIter_slot hT PySem.F.slot_set_iter (wpAny_call_entry PySem.F.slot_set_iter hT kh ?_ (l9 _))
 unfold Builtin.«frozenset.__iter__» Builtin.Frozenset.slot0 slotArgs
 simp only[List.isEmpty_nil,Bool.not_true,Bool.false_eq_true,↓reduceIte,bind_assoc,List.length_nil,bne_self_eq_false]
 unfold Builtin.Frozenset.addrOf Builtin.Frozenset.sizeOf
 refine wpAny_bind (wpAny_pure ?_)
 try dsimp only
 refine wpAny_bind (wpAny_pure ?_)
 refine wpAny_bind (wpAny_bind (wpAny_setEntries_of ho hd hf (wpAny_pure ?_)))
 refine wpAny_bind (nL hS hf ?_)
 have hSl:S<s.heap.objs.size:=Heap.lt_size ho
 cases hw:w.params.followText "set-order" with
 | true=>
   simp only[Bool.not_true,Bool.false_and,Bool.false_eq_true,if_false]
   refine wpAny_bind (wpAny_pure ?_)
   refine wpAny_bind (wpAny_setEpoch_of ho hd hf ?_)
   unfold newFields
   refine wpAny_bind (wpAny_newObj_type (wpAny_pure ⟨_,rfl,"set_iterator",_,(a6 _ (Heap.get?_push_size _ rfl) rfl),au.lookup,?_⟩))
   exact hQ _ _ _ S _ (fun b o e=>Heap.get?_push_of_some _ e) (Nat.le_refl _) (.inl rfl) (Nat.ne_of_lt hSl) (by refine a0 (Heap.size_push ..) ?_;exact Nat.lt_succ_of_lt hSl) (by refine a0 (Heap.size_push ..) ?_;exact Nat.lt_succ_self _) (.text 0 0 hw (aP _ (Heap.get?_push_size _ rfl) rfl rfl))
 | false=>
   have hled:t.led=true:=by refine a0 hl ?_;unfold dW;refine a0 hw ?_;rfl
   by_cases dr:(!t.plain&&decide (es.size > 1))=true
   ·refine a0 dr ?_
    simp only[Bool.not_false,Bool.true_and,if_true]
    refine wpAny_bind (ko es.size (List.range es.size) s (by exact List.length_range ..) fun ns d pm=>?_)
    have hnl:ns.length=es.size:=by have:=pm.length_eq;simpa using this
    refine wpAny_bind (wpAny_newTuple ?_ (by refine a0 (List.length_map ..) ?_;refine a0 hnl ?_;refine a0 sizeLine_eq ?_;exact a9 hs (by decide)))
    have hS1:=Heap.get?_push_of_some {cls:=.type "tuple",data:=.seq (ns.map fun(i:Nat)=>rawInt i).toArray} ho
    refine wpAny_bind (wpAny_setEpoch_of hS1 hd hf ?_)
    unfold newFields
    refine wpAny_bind (wpAny_newObj_type (wpAny_pure ⟨_,rfl,"set_iterator",_,(a6 _ (Heap.get?_push_size _ rfl) rfl),au.lookup,?_⟩))
    have grow:∀ (h:Heap) (o:Obj),h.objs.size<(h.push o).objs.size:=fun h o=>by refine a0 (Heap.size_push ..) ?_;exact Nat.lt_succ_self _
    refine hQ _ d _ s.heap.objs.size _ (fun b o e=>Heap.get?_push_of_some _ (Heap.get?_push_of_some _ e)) (Nat.le_of_lt (grow s.heap _)) (.inr (Nat.le_refl _)) (Nat.ne_of_lt (grow s.heap _)) (Nat.lt_trans (grow s.heap _) (grow _ _)) (grow _ _)
     (.drawn ns 0 ⟨_,Heap.get?_push_of_some _ (Heap.get?_push_size _ rfl),rfl,0,rfl⟩ (aP _ (Heap.get?_push_size _ rfl) rfl rfl) pm)
   ·rw[Bool.not_eq_true] at dr
    refine a0 dr ?_
    simp only[Bool.and_false,Bool.false_eq_true,if_false]
    refine wpAny_bind (wpAny_pure ?_)
    refine wpAny_bind (wpAny_setEpoch_of ho hd hf ?_)
    unfold newFields
    refine wpAny_bind (wpAny_newObj_type (wpAny_pure ⟨_,rfl,"set_iterator",_,(a6 _ (Heap.get?_push_size _ rfl) rfl),au.lookup,?_⟩))
    exact hQ _ _ _ S _ (fun b o e=>Heap.get?_push_of_some _ e) (Nat.le_refl _) (.inl rfl) (Nat.ne_of_lt hSl) (by refine a0 (Heap.size_push ..) ?_;exact Nat.lt_succ_of_lt hSl) (by refine a0 (Heap.size_push ..) ?_;exact Nat.lt_succ_self _) (.place 0 0 hw hled dr (qh ok.ris) (aP _ (Heap.get?_push_size _ rfl) rfl rfl))
end
end
section
open PySem PySem.Spec PySem.W PyProof.Rows
inductive oX{α:Type}(n:Nat)(P:α->Prop):KasT α->Prop
 | ret {a:α}:P a->oX n P (.ret a)
 | ask {i j:Nat} {k:Bool->KasT α}:i<n->j<n->(∀ b,oX n P (k b))->oX n P (.ask i j k)
theorem oX.bind{α β:Type}{n:Nat}{P:α->Prop}{R:β->Prop}{t:KasT α}{f:α->KasT β}(h:oX n P t)(g:∀ a,P a->oX n R (f a)):oX n R (t.bind f):=by
 induction h with
 | ret p=>exact g _ p
 | ask h1 h2 _ ih=>exact .ask h1 h2 ih
theorem oX.wp{α:Type}{n:Nat}{P:α->Prop}{cmp:Nat->Nat->(Bool->Shared->Prop)->Shared->Prop}{I:Shared->Prop}(hc:∀ i j (C:Bool->Shared->Prop) s,i<n->j<n->I s->(∀ b s',I s'->C b s')->cmp i j C s){t:KasT α}(h:oX n P t):
 ∀ {Q:α->Shared->Prop} {s:Shared},I s->(∀ a s',P a->I s'->Q a s')->t.kasWp cmp Q s:=by
 induction h with
 | ret p=>intro Q s hi hq;exact hq _ _ p hi
 | ask h1 h2 _ ih=>intro Q s hi hq;exact hc _ _ _ s h1 h2 hi fun b s' hi'=>ih b hi' hq
noncomputable def iM(n:Nat)(p:Array Nat):Prop:=p.toList.Perm (List.range n)
theorem iM.lt{n:Nat}{p:Array Nat}(h:iM n p)(hn:0<n)(i:Nat):p.getD i 0<n:=by
 by_cases q:i<p.size
 ·have:p.getD i 0∈p.toList:=by
   simp[Array.getD,q]
  simpa using h.mem_iff.mp this
 ·simp[Array.getD,q];exact hn
theorem iM.of_perm{n:Nat}{p q:Array Nat}(h:iM n p)(e:q.Perm p):iM n q:=e.toList.trans h
theorem iM.rev{n:Nat}{p:Array Nat}(h:iM n p)(i j:Nat):iM n (kas_rev p i j):=h.of_perm (mirror_perm _ _ _ _)
theorem iM.bub{n:Nat}{p:Array Nat}(h:iM n p)(k d:Nat):iM n (bubble p k d):=h.of_perm (bubble_perm _ _ _)
section
variable{n:Nat}(hn:0<n)
include hn
theorem qm{p:Array Nat}(h:iM n p):∀ f k,oX n (fun Z=>True) (kas_asc p f k)
 | 0,k=>.ret trivial
 | f+1,k=>.ask (h.lt hn _) (h.lt hn _) fun c=>by
   cases c
   ·exact qm h f (k+1)
   ·exact .ret trivial
theorem jn:∀ (f:Nat) (p:Array Nat) (k q:Nat),iM n p->oX n (fun r=>iM n r.1) (kas_desc f p k q)
 | 0,p,k,q,h=>.ret h
 | f+1,p,k,q,h=>.ask (h.lt hn _) (h.lt hn _) fun c=>by
   cases c
   ·refine .ask (h.lt hn _) (h.lt hn _) fun d=>?_
    cases d
    ·exact jn f p _ _ h
    ·exact .ret h
   ·by_cases z:q > 0
    ·refine a0 (if_pos rfl) ?_;refine a0 (if_pos z) ?_;exact jn f _ _ _ (h.rev _ _)
    ·refine a0 (if_pos rfl) ?_;refine a0 (if_neg z) ?_;exact jn f _ _ _ h
theorem qE{k m:Nat}{p:Array Nat}(h:iM n p):oX n (fun r=>iM n r.2) (kas_tail3 k m p):=
 (qm hn (h.rev 0 k) _ _).bind fun Z Z=>.ret (h.rev 0 k)
theorem j4{k m:Nat}{p:Array Nat}(h:iM n p):oX n (fun r=>iM n r.2) (kas_descPart k m p):=by
 refine(jn hn _ p _ _ h).bind fun r hr=>?_
 split
 ·exact qE hn (hr.rev _ _)
 ·exact qE hn hr
theorem uv{m:Nat}{p:Array Nat}(h:iM n p):oX n (fun r=>iM n r.2) (kas_count m p):=by
 refine(qm hn h _ _).bind fun k Z=>?_
 split
 ·exact .ret h
 ·split
  ·refine .ask (h.lt hn _) (h.lt hn _) fun c=>?_
   cases c
   ·exact j4 hn (h.rev _ _)
   ·exact .ret h
  ·exact j4 hn h
theorem jI{p:Array Nat}(h:iM n p)(k:Nat):∀ f l r,oX n (fun Z=>True) (kas_place p k f l r)
 | 0,l,r=>.ret trivial
 | f+1,l,r=>by
   unfold kas_place
   split
   ·exact .ret trivial
   ·refine .ask (h.lt hn _) (h.lt hn _) fun c=>?_
    cases c
    ·exact jI h k f _ _
    ·exact jI h k f _ _
theorem uA:∀ (f:Nat) (p:Array Nat) (k:Nat),iM n p->oX n (iM n) (kas_bin f p k)
 | 0,p,k,h=>.ret h
 | f+1,p,k,h=>(jI hn h k _ _ _).bind fun l Z=>uA f _ _ (h.bub _ _)
theorem vo:oX n (iM n) (kas_sort n):=by
 refine(uv hn (m:=n) (p:=List.toArray (List.range n)) (.refl _)).bind fun r hr=>?_
 split
 ·exact uA hn _ _ _ hr
 ·exact .ret hr
end
theorem iM.vals{α:Type}{vs:List α}{p:Array Nat}(d:α)(h:iM vs.length p):(p.toList.map fun i=>vs.getD i d).Perm vs:=by
 refine(h.map _).trans ?_
 have:(List.range vs.length).map (fun i=>vs.getD i d)=vs:=by
  refine List.ext_getElem? fun m=>?_
  refine a0 List.getElem?_map ?_
  by_cases q:m<vs.length
  ·refine a0 (List.getElem?_range q) ?_;simp[q]
  ·refine a0 (List.getElem?_eq_none (by exact a9 (Nat.le_of_eq (List.length_range ..)) (Nat.not_lt.mp q))) ?_;refine a0 (List.getElem?_eq_none (by exact Nat.not_lt.mp q)) ?_;rfl
 refine a0 this ?_;rfl
noncomputable def kG(h:Heap)(v:Value):Prop:=∃ a o xs n x t,v=.ref a∧h.get? a=some o∧o.cls=.type "tuple"∧o.data=.seq xs n∧xs.toList.head?=some (.str x t)∧∀ u∈xs.toList.tail,∃ i t,u=Value.int i t
theorem kG.keep{h h':Heap}{v:Value}(x:kG h v)(k:∀ a o,v=.ref a->h.get? a=some o->h'.get? a=some o):kG h' v:=by
 obtain⟨a,o,xs,n,y,t,e,ho,r⟩:=x
 exact⟨a,o,xs,n,y,t,e,k a o e ho,r⟩
section
variable{prog:Program}{w:World}{A:Around}{E:Value->Shared->Prop}
theorem o7{s₀:Shared}{fin:Bool}{Q:Bool->Shared->Prop}(hq:∀ b tk,Q b {s₀ with toks:=tk}):∀ (l:List (Value×Value)) (i:Nat) (tk:Nat),0<i->(∀ p∈l,(∃ a t,p.1=.int a t)∧∃ b u,p.2=.int b u)->KatLex prog w A true fin Q l i {s₀ with toks:=tk}
 | [],i,tk,hi,_=>hq _ _
 | (p,q)::r,i,tk,hi,h=>by
   obtain⟨⟨a,t,e1⟩,b,u,e2⟩:=h _ (.head _)
   simp only at e1 e2
   subst e1;subst e2
   refine kat_cons (wpAny_eqBool_int ?_)
   have rest:=o7 (fin:=fin) hq r (i+1) tk (Nat.succ_pos _) fun p hp=>h p (.tail _ hp)
   by_cases c:(a==b)=true
   ·refine a0 c ?_;exact kat_yes rest
   ·rw[Bool.not_eq_true] at c
    refine a0 c ?_
    refine kat_no ?_
    have hi':(i==0)=false:=by simp;exact Nat.ne_of_gt hi
    refine a0 hi' ?_;refine a0 (Bool.and_false ..) ?_
    refine kat_one _ _ ?_
    exact PyProof.Rows.lt_int (hq _ _)
theorem yi{s₀:Shared}{v u:Value}{Q:Bool->Shared->Prop}{tk:Nat}(hv:kG s₀.heap v)(hu:kG s₀.heap u)(hq:∀ b tk,Q b {s₀ with toks:=tk}):wpAny (model prog w) A (keyLt' (tuples' true) v u) Q E {s₀ with toks:=tk}:=by
 obtain⟨a,o,xs,n,x,t,rfl,ho,hc,hd,h1,h2⟩:=hv
 obtain⟨b,p,ys,m,y,t',rfl,ho',hc',hd',h1',h2'⟩:=hu
 refine kat_lt (s:={s₀ with toks:=tk}) ho hd ho' hd' ?_
 obtain⟨xs⟩:=xs
 obtain⟨ys⟩:=ys
 cases xs with
 | nil=>cases h1
 | cons x0 xs=>
   cases ys with
   | nil=>cases h1'
   | cons y0 ys=>
     simp at h1 h1'
     subst h1;subst h1'
     refine kat_cons (wpAny_eqBool_str ?_)
     by_cases c:decide (x=y)=true
     ·refine a0 c ?_
      refine kat_yes (o7 hq _ _ _ (Nat.succ_pos _) fun p hp=>?_)
      have:=List.of_mem_zip hp
      exact⟨h2 _ this.1,h2' _ this.2⟩
     ·rw[Bool.not_eq_true] at c
      refine a0 c ?_
      exact kat_no (oneLt_str (hq _ _))
theorem lQ{h:Heap}:∀ vs:List Value,(∀ v∈vs,kG h v)->∃ fs,KatTups h vs fs∧fs.length=vs.length∧∀ f∈fs,∃ x t,f=Value.str x t
 | [],_=>aP ([]) trivial rfl (fun Z h=>nomatch h)
 | v::vs,hv=>by
   refine bw (lQ vs fun u hu=>hv u (.tail _ hu)) fun fs h1 h2 h3=>?_
   obtain⟨a,o,xs,n,x,t,rfl,ho,hc,hd,e1,e2⟩:=hv v (.head _)
   refine aP (.str x t::fs) (.cons ho hc hd ?_ h1) (by simp[h2]) (fun f hf=>?_)
   ·obtain⟨xs⟩:=xs
    cases xs with
    | nil=>cases e1
    | cons x0 xs=>simpa using e1
   ·rcases List.mem_cons.mp hf with rfl | hf
    ·exact jZ x t rfl
    ·exact h3 f hf
theorem pG{s:Shared}{a:Addr}{vs:List Value}{n:Nat}{P:PySem.Fin->Shared->Prop}(ho:s.heap.get? a=some (seqObj "list" vs.toArray n))(hv:∀ v∈vs,kG s.heap v)(h64:vs.length<64)
 (h:∀ h' tk out c,out.Perm vs->(∀ b o,b≠a->s.heap.get? b=some o->h'.get? b=some o)->h'.get? a=some (seqObj "list" (List.toArray out) c)->P (.done (.ret .none)) {s with heap:=h',toks:=tk}):
 wpAny (model prog w) A (Builtin.«list.sort» ⟨[.ref a],[]⟩) P E s:=by
 have ha:a<s.heap.objs.size:=Heap.lt_size ho
 have s1:=Heap.SameBut.update s.heap a (Obj.mapSeq fun Z=>(#[]:Array Value))
 obtain⟨e1,ho1⟩:∃ e1,(s.heap.update a (Obj.mapSeq fun Z=>(#[]:Array Value))).get? a=some (seqObj "list" #[] e1):=⟨_,get?_update_seq ho fun Z=> #[]⟩
 refine a0 (list_sort_plain ..) ?_
 refine wpAny_bind (listItems_at ho rfl ?_)
 refine wpAny_bind (listUpdate_at ho rfl ?_ (by refine a0 List.size_toArray ?_;refine a0 sizeLine_eq ?_;exact a9 (Nat.le_of_lt h64) (by decide)) (Nat.zero_le _))
 refine wpAny_bind (seqEpoch_at ho1 rfl ?_)
 refine wpAny_bind (wpAny_newTuple ?_ (by show vs.length≤_;refine a0 sizeLine_eq ?_;exact a9 (Nat.le_of_lt h64) (by decide)))
 refine wpAny_bind (wpAny_newList ?_ (Nat.zero_le _))
 refine wpAny_holding ?_
 have ho6:(((s.heap.update a (Obj.mapSeq fun Z=>(#[]:Array Value))).push (seqObj "tuple" vs.toArray 0)).push (seqObj "list" #[] 0)).get? a=some (seqObj "list" #[] e1):=Heap.get?_push_of_some _ (Heap.get?_push_of_some _ ho1)
 have old:∀ b o,b≠a->s.heap.get? b=some o->(((s.heap.update a (Obj.mapSeq fun Z=>(#[]:Array Value))).push (seqObj "tuple" vs.toArray 0)).push (seqObj "list" #[] 0)).get? b=some o:=fun b o hb e=>Heap.get?_push_of_some _ (Heap.get?_push_of_some _ ((s1.2 b hb).trans e))
 show wpAny (model prog w) A _ P E {s with heap:=((s.heap.update a (Obj.mapSeq fun Z=>(#[]:Array Value))).push (seqObj "tuple" vs.toArray 0)).push (seqObj "list" #[] 0)}
 generalize (((s.heap.update a (Obj.mapSeq fun Z=>(#[]:Array Value))).push (seqObj "tuple" vs.toArray 0)).push (seqObj "list" #[] 0))=h3 at ho6 old ⊢
 dsimp only
 have last:∀ (tk:Nat) (out:List Value),out.Perm vs->wpAny (model prog w) A (do
  let touched:=(← seqEpoch a) != e1
  Builtin.List.listUpdate (.ref a) fun Z=>List.toArray out
  if touched then rule "list.sort.modified";raiseError "ValueError" "list modified during sort"
  ret .none) P E {s with heap:=h3,toks:=tk}:=by
  intro tk out hp
  have hz:=hp.length_eq
  refine wpAny_bind (seqEpoch_at (s:={s with heap:=h3,toks:=tk}) ho6 rfl ?_)
  refine wpAny_bind (listUpdate_at (s:={s with heap:=h3,toks:=tk}) ho6 rfl ?_ (Nat.zero_le _) (by refine a0 List.size_toArray ?_;refine a0 sizeLine_eq ?_;exact a9 (Nat.le_of_eq hz) (a9 (Nat.le_of_lt h64) (by decide))))
  simp only[bne_self_eq_false,Bool.false_eq_true,if_false]
  have s2:=Heap.SameBut.update h3 a (Obj.mapSeq fun Z=>List.toArray out)
  obtain⟨c2,hc2⟩:∃ c2,(h3.update a (Obj.mapSeq fun Z=>List.toArray out)).get? a=some (seqObj "list" (List.toArray out) c2):=⟨_,get?_update_seq ho6 fun Z=>List.toArray out⟩
  exact wpAny_pure (h _ tk out c2 hp (fun b o hb e=>(s2.2 b hb).trans (old b o hb e)) hc2)
 by_cases h2:vs.toArray.size<2
 ·refine a0 (if_pos h2) ?_;refine a0 (if_pos h2) ?_
  refine wpAny_bind (wpAny_pure ?_)
  refine a0 (StateT.run_pure ..) ?_
  refine wpAny_bind (wpAny_pure ?_)
  dsimp only
  have e:((arrOf (SortSt.mk' general' (vs.toArray.zip vs.toArray) #[] 7 none)).map (fun x=>x.2))=List.toArray vs:=by
   show((vs.toArray.zip vs.toArray).map (fun x=>x.2))=_
   apply Array.toList_inj.mp
   simp[List.map_snd_zip]
  refine a0 e ?_
  exact last s.toks vs (.refl _)
 ·refine a0 (if_neg h2) ?_;refine a0 (if_neg h2) ?_
  have h2':2≤vs.length:=by simpa using h2
  have nd3:∀ v∈vs,kG h3 v:=fun v hv'=>(hv v hv').keep fun b o e eo=>old b o (fun q=>by
   subst q
   obtain⟨b',o',_,_,_,_,e',ho',hc',_⟩:=hv v hv'
   rw[e] at e';cases e'
   rw[ho] at ho';cases ho'
   exact absurd hc' (by simp)) eo
  obtain⟨fs,tf,fl,fT⟩:∃ fs,KatTups h3 vs fs∧fs.length=vs.length∧∀ f∈fs,∃ x t,f=Value.str x t:=by
   exact lQ vs nd3
  have hsz:vs.toArray.size=vs.length:=by exact rfl
  refine wpAny_bind (kat_kind (s:={s with heap:=h3}) (T:=.type "str") tf (by lia) (fun v hv'=>?_) (by decide) ?_)
  ·refine jh (fT v hv') fun x t z2=>?_;subst z2
   exact .now
  have hT:(Value.type "str" != Value.type "tuple")=true:=by decide
  refine a0 hT ?_
  refine wpAny_bind (wpAny_mono (kat_run (Q:=fun st' s'=>∃ tk out,s'={s with heap:=h3,toks:=tk}∧out.Perm vs∧(arrOf st').map (fun x=>x.2)=List.toArray out∧failedOf st'=none) (G:=fun p s'=>iM vs.length p∧∃ tk,s'={s with heap:=h3,toks:=tk})
   rfl h2' h64 (fun p' st' s' a1 a2 a3 a4=>?_) ?_) ?_ fun Z Z e=>e)
  ·obtain⟨hp,tk,rfl⟩:=a4
   exact jg tk _ rfl (hp.vals Value.none) (kat_snds rfl a2) a3
  ·refine(vo (by lia)).wp (I:=fun s'=>∃ tk,s'={s with heap:=h3,toks:=tk}) (fun i j C s' hi hj hI hC=>?_) ⟨s.toks,rfl⟩ fun p s' hp hI=>⟨hp,hI⟩
   refine aH hI ?_;clear hI;intro tk z1;subst z1
   have g:∀ k,k<vs.length->kG h3 (vs.getD k Value.none):=fun k hk=>nd3 _ (by simp[List.getD,hk])
   exact yi (s₀:={s with heap:=h3}) (g i hi) (g j hj) fun b tk'=>hC b _ ⟨tk',rfl⟩
  ·rintro⟨⟨⟩,st'⟩ s' ⟨tk,out,rfl,hp,har,hf⟩
   dsimp only
   refine a0 har ?_;refine a0 hf ?_
   exact last tk out hp
end
end
section
open PySem PySem.Spec PySem.W
theorem ud{t:SetTable}{n:Nat}(ok:b5 t n)(hashAt:Nat->Int)(h:Int):∀ (aS:Nat) (p:SetTable.Probe) {j:Nat} {d:Option Nat},p.dummy=none->SetTable.probe.go t hashAt h aS p=some (.empty j d)->d=none∧j∉t.place.toList:=by
 intro aS
 induction aS with
 | zero=>intro p j d _ h;cases h
 | succ f ih=>
   intro p j d hp hg
   unfold SetTable.probe.go at hg
   rcases my ok.ris ok.dum p.j with⟨a,b,c⟩ | ⟨a,b⟩
   ·rw[b] at hg
    dsimp only at hg
    split at hg
    ·cases hg
    ·exact ih _ (dN t hp) hg
   ·rw[b] at hg
    cases hg
    exact⟨hp,a⟩
theorem pQ{t:SetTable}{n:Nat}(h1:lY t.place)(h2:t.dummies= #[]):b5 (t.orStandIn n) n:=by
 unfold SetTable.orStandIn
 by_cases f:t.fits n=true
 ·refine a0 (if_pos f) ?_
  simp only[SetTable.fits,Bool.and_eq_true,beq_iff_eq,decide_eq_true_eq] at f
  refine⟨h1,h2,f.1,?_⟩
  have:=f.2
  unfold SetTable.fill at this
  lia
 ·refine a0 (if_neg f) ?_;exact .standIn n
theorem nS{t:SetTable}{n:Nat}:(t.orStandIn n).led=t.led:=by
 unfold SetTable.orStandIn
 split<;>rfl
set_option tactic.hygienic true in
theorem rZ{t:SetTable}{es:Array (Int×Value)}(ok:b5 t es.size)(h:Int)(x:Value):b5 (layNew t es h x).2.1 (es.size+1)∧(layNew t es h x).2.1.led=t.led∧(layNew t es h x).1.size=es.size+1:=by
 unfold layNew
 cases hf:t.freeSlot h with
 | none=>exact i3 (.standIn _) rfl (by simp)
 | some r=>
   obtain⟨slot,wd⟩:=r
   dsimp only
   unfold SetTable.freeSlot at hf
   split at hf
   ·rename_i j d hp
    cases hf
    refine a2 (ud ok _ _ _ _ rfl hp) fun z0 hj=>?_;subst z0
    have sz:(SetTable.insertAt es (t.put j).2 (h,x)).size=es.size+1:=cR
    refine i3 ?_ nS sz
    show b5 ((t.put j).1.orStandIn (SetTable.insertAt es (t.put j).2 (h,x)).size) _
    refine a0 sz ?_
    refine pQ (ok.ris.insert hj) ?_
    have hd:SetTable.has t.dummies j=false:=by refine a0 ok.dum ?_;rfl
    show(if SetTable.has t.dummies j=true then _ else t.dummies)= #[]
    refine a0 hd ?_;exact ok.dum
   ·cases hf
theorem tT{mask finger moves:Nat}{led plain:Bool}{hs:Array Int}{t:SetTable}{order:Array Nat}(h:SetTable.laid mask finger moves led plain hs=some (t,order)):lY t.place∧t.dummies= #[]∧t.led=led:=by
 unfold SetTable.laid at h
 cases ho:SetTable.layClean mask hs with
 | none=>rw[ho] at h;cases h
 | some owner=>
   rw[ho] at h
   cases h
   refine i3 (eO ?_) rfl rfl
   refine bt List.pairwise_map ?_
   refine List.Pairwise.filterMap _ (fun a b hab x hx y hy=>?_) List.pairwise_lt_range
   refine a7 (Option.map_eq_some_iff.mp hx) fun x' Z z2=>?_;subst z2
   refine a7 (Option.map_eq_some_iff.mp hy) fun y' Z z2=>?_;subst z2
   exact hab
theorem nO{t:SetTable}{es:Array (Int×Value)}{wanted:Nat}:b5 (relayAll t es wanted).2.1 es.size∧(relayAll t es wanted).2.1.led=t.led:=by
 unfold relayAll
 cases hr:t.relaid (es.map (fun x=>x.1)) wanted with
 | none=>exact⟨.standIn _,rfl⟩
 | some r=>
   obtain⟨t',order⟩:=r
   dsimp only
   refine a3 (tT hr) fun h1 h2 h3=>?_
   by_cases c:(coversAll order es.size&&t'.fits (order.filterMap (es[·]?)).size)=true
   ·refine a0 (if_pos c) ?_
    rw[Bool.and_eq_true] at c
    have hsz:(order.filterMap (es[·]?)).size=es.size:=by
     have:=(jK (order:=order) (es:=es) (by unfold coversAll at c;exact List.isPerm_iff.mp c.1)).length_eq
     rw[Array.length_toList,Array.length_toList] at this
     exact this
    rw[hsz] at c
    have f:=c.2
    simp only[SetTable.fits,Bool.and_eq_true,beq_iff_eq,decide_eq_true_eq] at f
    refine⟨⟨h1,h2,f.1,?_⟩,h3⟩
    have:=f.2
    unfold SetTable.fill at this
    show es.size≤t'.mask
    lia
   ·refine a0 (if_neg c) ?_;exact⟨.standIn _,rfl⟩
structure wx(prog:Program)(w:World)(h:Heap)(a:Addr)(es:Array (Int×Value))(t:SetTable):Prop where
 at':∃ o ep,h.get? a=some o∧o.ExactSet∧o.data=.set es ep t
 tab:b5 t es.size
 el:ElemsOf (intKind prog w) es.toList
section
variable{prog:Program}{w:World}{A:Around}{E:Value->Shared->Prop}{s:Shared}
theorem tq{h:Heap}{a:Addr}{o:Obj}{es es1:Array (Int×Value)}{ep:Nat}{t t1:SetTable}(ho:h.get? a=some o)(hex:o.ExactSet)(hd:o.data=.set es ep t)(tab:b5 t1 es1.size)(el:ElemsOf (intKind prog w) es1.toList):wx prog w (h.update a (Obj.putSet es1 t1)) a es1 t1:=by
 have hg:(h.update a (Obj.putSet es1 t1)).get? a=some {o with data:=.set es1 (ep+1) t1}:=by
  have:=Heap.get?_update_self (Obj.putSet es1 t1) ho (by refine a0 (putSet_of es1 t1 hd) ?_;rfl)
  rw[putSet_of es1 t1 hd] at this;exact this
 exact⟨(d7 _ (ep+1) hg hex rfl),tab,el⟩
theorem add_int{a:Addr}{k:Int}{tk:Tok}{es:Array (Int×Value)}{t:SetTable}{Q:Bool->Shared->Prop}(G:wx prog w s.heap a es t)(hroom:es.size+1<scanBound)
 (q1:(∃ u,.int k u∈es.toList.map (fun x=>x.2))->Q false s)
 (q2:(∀ u,.int k u∉es.toList.map (fun x=>x.2))->∀ h' es' t',Heap.SameBut a s.heap h'->wx prog w h' a es' t'->t'.led=t.led->(es'.toList.map (fun x=>x.2)).Perm (es.toList.map (fun x=>x.2)++[.int k tk])->Q true {s with heap:=h'}):
 wpAny (model prog w) A (setAddHashed a (.int k tk) ((intKind prog w).hash k)) Q E s:=by
 refine bR G.at' fun o ep ho hex hd=>?_
 have hf:=G.tab.fits
 have hel:=G.el
 have hkey:(intKind prog w).is k (.int k tk)=true:=intKind_is _ _ _ _
 have hsc:(Value.int k tk).scannable=true:=rfl
 unfold setAddHashed setAddHashedIn
 refine wpAny_holding (wpAny_bind (wpAny_setState_of ho hd hf ?_))
 dsimp only
 refine a0 (byScan_of hsc (by exact Nat.le_of_lt hroom) hel) ?_
 simp only[↓reduceIte]
 unfold setAddByScan
 refine wpAny_bind ?_
 refine wpAny_bind (wpAny_rule ?_)
 refine wpAny_bind (wpAny_setScan_of hkey ho hd hf hel ?_)
 cases hr:List.findIdx? (fun e=>(intKind prog w).is k e.2) es.toList with
 | some j=>
   dsimp only
   refine a7 (List.findIdx?_eq_some_iff_getElem.mp hr) fun hj hpj Z=>?_
   refine wpAny_pure (wpAny_pure ?_)
   refine aH (Value.isInt_shape hpj) fun u hu=>?_
   exact q1 ⟨u,by refine aX hu ?_;exact List.mem_map_of_mem (f:=fun e:Int×Value=>e.2) (List.getElem_mem hj)⟩
 | none=>
   dsimp only
   have hgw:∀ (b:Bool) {s₁:Shared} {Q':Unit->Shared->Prop},Q' () s₁->wpAny (model prog w) A (match b with | true=>rule "set.scan.the-table-gave-way" | false=>pure ()) Q' E s₁:=
    fun b s₁ Q' hq=>by cases b<;>first | exact wpAny_pure hq | exact wpAny_rule hq
   have hperm:=layNew_perm t es ((intKind prog w).hash k) (.int k tk)
   refine a3 (rZ G.tab ((intKind prog w).hash k) (.int k tk)) fun T1 l1 sz1=>?_
   generalize hL:layNew t es ((intKind prog w).hash k) (.int k tk)=L at hperm T1 l1 sz1 ⊢
   obtain⟨es1,t1,wasDummy,gave⟩:=L
   dsimp only at hperm T1 l1 sz1 ⊢
   rw[Array.toList_push] at hperm
   have hel1:ElemsOf (intKind prog w) es1.toList:=(hel.push hkey hsc).perm hperm
   refine wpAny_bind (hgw _ ?_)
   have q2:=q2 fun u hu=>by
    refine a7 (List.mem_map.mp hu) fun e he hv=>?_
    have:=List.findIdx?_eq_none_iff.mp hr e he
    rw[hv] at this
    rw[intKind_is] at this
    cases this
   have m1:(es1.toList.map (fun x=>x.2)).Perm (es.toList.map (fun x=>x.2)++[.int k tk]):=by
    have:=hperm.map (fun x=>x.2)
    rw[List.map_append] at this
    exact this
   have tail:∀ t2:SetTable,b5 t2 es1.size->t2.led=t.led->wpAny (model prog w) A (do
    storeSet a es1 t2
    if(!wasDummy&&t2.tooFull)=true then do
       (match(relayAll t2 es1 (SetTable.grown es1.size)).2.2 with | true=>rule "set.scan.the-table-gave-way" | false=>pure ())
       storeSet a (relayAll t2 es1 (SetTable.grown es1.size)).1 (relayAll t2 es1 (SetTable.grown es1.size)).2.1
       pure (some true)
     else pure (some true)) (fun a' s'=>wpAny (model prog w) A (match a' with | some added=>pure added | none=>setAddHashedIn a (.int k tk) ((intKind prog w).hash k) 99999) Q E s') E s:=by
    intro t2 T2 l2
    refine wpAny_bind (wpAny_storeSet_of ho hd ?_ (fits_of_scanBound (by lia)))
    have G1:=tq (prog:=prog) (w:=w) ho hex hd T2 hel1
    have sb1:=Heap.SameBut.update s.heap a (Obj.putSet es1 t2)
    refine bR G1.at' fun o1 ep1 ho1 hex1 hd1=>?_
    split
    ·have hp:=relayAll_perm t2 es1 (SetTable.grown es1.size)
     refine a2 (nO (t:=t2) (es:=es1) (wanted:=SetTable.grown es1.size)) fun T3 l3=>?_
     generalize hRl:relayAll t2 es1 (SetTable.grown es1.size)=Rl at hp T3 l3 ⊢
     obtain⟨es2,t3,gave2⟩:=Rl
     dsimp only at hp T3 l3 ⊢
     have hsz:es2.size=es1.size:=by refine aX Array.length_toList ?_;refine a0 hp.length_eq ?_;refine a0 Array.length_toList ?_;rfl
     refine wpAny_bind (hgw _ ?_)
     refine wpAny_bind (wpAny_storeSet_of ho1 hd1 ?_ (fits_of_scanBound (by lia)))
     have G2:=tq (prog:=prog) (w:=w) ho1 hex1 hd1 (t1:=t3) (es1:=es2) (by refine a0 hsz ?_;exact T3) (hel1.perm hp)
     refine wpAny_pure (wpAny_pure ?_)
     exact q2 _ es2 t3 (sb1.trans (Heap.SameBut.update _ a _)) G2 (l3.trans l2) ((hp.map (fun x=>x.2)).trans m1)
    ·exact wpAny_pure (wpAny_pure (q2 _ es1 t2 sb1 G1 l2 m1))
   rw[← sz1] at T1
   split
   ·refine wpAny_bind ?_
    refine a0 (hashByValue_scannable 8 hsc) ?_
    refine wpAny_pure ?_
    exact tail t1 T1 l1
   ·refine wpAny_bind (wpAny_pure ?_)
    simp only[↓reduceIte]
    exact tail t1 T1 l1
end
end
section
open PySem PySem.Spec PySem.W PyProof.Rows
section
variable{prog:Program}{w:World}{A:Around}{E:Value->Shared->Prop}{s:Shared}
theorem u8{r:Addr}{Q:Bool->Shared->Prop}(hT:s.TypeIs (.ref r) "set")(h:Q false s):wpAny (model prog w) A (Builtin.List.listLengthHint (.ref r)) Q E s:=by
 unfold Builtin.List.listLengthHint
 refine wpAny_bind (wpAny_specialOf hT mx.lookup ?_)
 generalize hid:("set.__len__":String)=id0
 wp_delta
 refine a0 (show splitId id0=some ("set","__len__") from by subst hid;decide+kernel) ?_
 subst hid
 refine wpAny_bind (wpAny_isInstance (T:="set") (b:=true) hT (by refine a0 (isSubtype_type ..) ?_;kernel_rfl) ?_)
 refine wpAny_ite_split (fun hab=>absurd hab (by decide)) (fun Z=>?_)
 refine wpAny_ite_split (fun Z=>?_) (fun hab=>absurd (by decide+kernel) hab)
 refine wpAny_bind (wpAny_typeOf hT ?_)
 exact wpAny_pure h
theorem q7{R:Result->Shared->Prop}{S D:Addr}{ep:Nat}{es:Array (Int×Value)}{t:SetTable}(hh:A.handled=none)(hT:s.TypeIs (.ref S) "set")(hS:eQ s.heap S es ep t)(ok:b5 t es.size)(hl:t.led=dW w)(hs:es.size≤1000)(hne:D≠S)(hD:s.heap.get? D=some {cls:=.type "list",data:=.seq #[]})(res:Value)
 (hR:∀ (s':Shared) acc' c',s'.gens=s.gens->s'.os=s.os->(∀ (b:Nat) o,b≠D->s.heap.get? b=some o->s'.heap.get? b=some o)->s'.heap.get? D=some {cls:=.type "list",dict:=none,data:=.seq acc' c',slots:= #[]}->acc'.toList.Perm (es.toList.map (fun x=>x.2))->R (.ok (.ret res)) s'):
 wpAny (model prog w) A.in1 (Builtin.List.listExtendWith (.ref D) (.ref S) res)
  (fun fin s'=>match fin with | .done f=>R (.ok f) s' | .again c'=>c'.quiet=true∧codeAny (model prog w) A c' R s') (fun e s'=>R (.error e) s') s:=by
 unfold Builtin.List.listExtendWith
 refine wpAny_bind (wpAny_typeOf (T:="set") hT ?_)
 have h1:Builtin.List.listSameRef (.ref D) (.ref S)=false:=by simp[Builtin.List.listSameRef,hne]
 have h2:(Value.type "set"==Value.type "list")=false:=by decide
 have h3:(Value.type "set"==Value.type "tuple")=false:=by decide
 simp only[h1,h2,h3,Bool.or_false,Bool.false_eq_true,if_false]
 refine wpAny_bind (u4 hT hS ok hl hs fun h' d it p ys hk hit hp0 hpi hpl hil I=>?_)
 refine a7 hS fun oS hoS hdS=>?_
 refine a7 hT fun oT hoT hcT=>?_
 have hDl:D<s.heap.objs.size:=Heap.lt_size hD
 have hSl:S<s.heap.objs.size:=Heap.lt_size hoS
 have hDi:D≠it:=fun e=>absurd hit (Nat.not_le.mpr (e▸hDl))
 have hSi:S≠it:=fun e=>absurd hit (Nat.not_le.mpr (e▸hSl))
 refine wpAny_bind (wpAny_holding (u8 (a6 oT (hk _ _ hoT) hcT) ?_))
 have hD1:=hk _ _ hD
 have hpD:p≠D:=by
  rintro rfl
  rcases hp0 with e | e
  ·exact hne e
  ·exact absurd hDl (Nat.not_lt.mpr e)
 have key:∀ (h1:Heap) (c₁:Nat),pq w h1 it S p ep es t ys 0->(∀ (b:Nat) o,b≠D->s.heap.get? b=some o->h1.get? b=some o)->
  h1.get? D=some {cls:=.type "list",data:=.seq #[] c₁}->codeAny (model prog w) A (.builtin "list.extend.loop" ⟨[.ref D,.ref it,res],[]⟩) R {s with heap:=h1,drawn:=d}:=by
  intro h1 c₁ I1 hk1 hD1
  refine codeAny_extend_loopS (rz (A:=A.in1) hh (ys:=ys) ok hpi hSi).toS (by refine a0 sizeLine_eq ?_;exact a9 hs (by decide)) D (by simp only[List.mem_cons,List.not_mem_nil,or_false,not_or];exact i3 hDi hne hpD.symm) res es.size 0 _ #[] c₁ rfl (Nat.zero_le _) ⟨I1,oS,hk1 _ _ hne.symm hoS,hdS⟩ hD1 (ItemsOf.nil _) fun s' acc' c' hm hS' hacc=>?_
  refine hR s' acc' c' hm.gens hm.os (fun b o hb e=>hm.heap b o (fun hmem=>?_) (hk1 b o hb e)) hS' ?_
  ·rcases List.mem_cons.mp hmem with e' | hmem
   ·exact hb e'
   ·exact absurd (Heap.lt_size e) (by refine a0 (List.mem_singleton.mp hmem) ?_;exact Nat.not_lt.mpr hit)
  ·have:acc'.toList=ys.map (fun x=>x.2):=by
    refine List.ext_getElem? fun m=>?_
    have hl:ys.length=es.size:=by simpa using I1.perm.length_eq
    by_cases q:m<acc'.size
    ·have e:acc'[m]? =some acc'[m]:=Array.getElem?_eq_getElem q
     refine a0 Array.getElem?_toList ?_;refine a0 e ?_
     exact(hacc.2 m _ e).symm
    ·have:=hacc.1
     refine a0 (List.getElem?_eq_none (by simpa using q)) ?_;refine a0 (List.getElem?_eq_none (by rw[List.length_map];exact a9 (Nat.le_of_eq hl) (a9 (fX this) (Nat.not_lt.mp q)))) ?_;rfl
   refine a0 this ?_
   exact I1.perm.map _
 refine wpAny_ite_split (fun Z=>?_) (fun Z=>wpAny_pure ⟨plainId_quiet PySem.F.plain_extend_loop _,key _ 0 I (fun b o Z e=>hk b o e) hD1⟩)
 refine wpAny_bind (wpAny_rule ?_)
 refine wpAny_bind ?_
 show wpAny _ _ (updateSeq D (·.push .none) >>= fun Z=>updateSeq D (·.pop)) _ _ _
 refine wpAny_bind (wpAny_updateSeq hD1 rfl ?_)
 have hD2:=Heap.get?_update_self (Obj.mapSeq (·.push Value.none)) hD1 rfl
 refine wpAny_updateSeq (hz:=by seq_fits) hD2 rfl ?_
 have hD3:=Heap.get?_update_self (Obj.mapSeq (·.pop)) hD2 rfl
 have oth:∀ (b:Nat) o,b≠D->h'.get? b=some o->((h'.update D (Obj.mapSeq (·.push Value.none))).update D (Obj.mapSeq (·.pop))).get? b=some o:=fun b o hb e=>
  (Heap.get?_update_other _ _ (Ne.symm hb)).trans ((Heap.get?_update_other _ _ (Ne.symm hb)).trans e)
 refine wpAny_pure ⟨plainId_quiet PySem.F.plain_extend_loop _,key _ _ (I.at fun b hb o e=>oth b o ?_ e) (fun b o hb e=>oth b o hb (hk b o e)) hD3⟩
 rcases hb with rfl | rfl
 ·exact hDi.symm
 ·exact hpD
theorem oH{R:List Value->Shared->Prop}{S:Addr}{ep:Nat}{es:Array (Int×Value)}{t:SetTable}(hh:A.handled=none)(hT:s.TypeIs (.ref S) "set")(hS:eQ s.heap S es ep t)(ok:b5 t es.size)(hl:t.led=dW w)(hs:es.size≤1000)
 (h:∀ (s':Shared) (acc:List Value),s'.gens=s.gens->s'.os=s.os->(∀ (b:Nat) o,s.heap.get? b=some o->s'.heap.get? b=some o)->acc.Perm (es.toList.map (fun x=>x.2))->R acc s'):
 wpAny (model prog w) A (collect (.ref S)) R E s:=by
 refine a7 hT fun oT hoT hcT=>?_
 have hSl:S<s.heap.objs.size:=Heap.lt_size hoT
 unfold collect
 refine wpAny_bind (wpAny_runValue (codeAny_builtin entry_proto_collect' ?_))
 refine a0 (Around.under_plainId PySem.F.plain_proto_collect _) ?_
 show wpAny _ A.in1 (newList [] >>= fun l=>again (.builtin "list.__iadd__" ⟨[l,.ref S],[]⟩)) _ _ s
 refine wpAny_bind (wpAny_newObj_type ?_)
 refine wpAny_pure ⟨plainId_quiet PySem.F.plain_list_iadd _,codeAny_builtin entry_list_iadd' ?_⟩
 refine a0 (Around.under_plainId PySem.F.plain_list_iadd _) ?_
 have hS₁:(s.heap.push {cls:=.type "list",data:=.seq ([]:List Value).toArray}).get? s.heap.objs.size=some {cls:=.type "list",data:=.seq #[]}:=Heap.get?_push_size _ rfl
 show wpAny _ A.in1 (Builtin.List.listExtendWith (.ref s.heap.objs.size) (.ref S) (.ref s.heap.objs.size)) _ _ _
 refine a7 hS fun oS hoS hdS=>?_
 have key:=q7 (prog:=prog) (w:=w) (A:=A) (s:={s with heap:=s.heap.push {cls:=.type "list",data:=.seq ([]:List Value).toArray}}) (D:=s.heap.objs.size)
  (R:=fun(q:Result) (s':Shared)=>∃ (acc':Array Value) (c':Nat),q=.ok (.ret (.ref s.heap.objs.size))∧s'.gens=s.gens∧s'.os=s.os∧
   (∀ (b:Nat) o,s.heap.get? b=some o->s'.heap.get? b=some o)∧s'.heap.get? s.heap.objs.size=some {cls:=.type "list",dict:=none,data:=.seq acc' c',slots:= #[]}∧acc'.toList.Perm (es.toList.map (fun x=>x.2)))
  hh (a6 oT (Heap.get?_push_of_some _ hoT) hcT) (a6 oS (Heap.get?_push_of_some _ hoS) hdS) ok hl hs (Nat.ne_of_gt hSl) hS₁ (.ref s.heap.objs.size)
  (fun s' acc' c' hg ho hk hD hp=>⟨acc',c',rfl,hg,ho,fun b o e=>hk b o (Nat.ne_of_lt (Heap.lt_size e)) (Heap.get?_push_of_some _ e),hD,hp⟩)
 refine wpAny_mono key (fun fin s' x=>?_) fun e s' x=>?_
 ·cases fin with
  | done f=>
    obtain⟨acc',c',e,hg,ho,hk,hS',hacc⟩:=x
    cases e
    show wpAny _ A (load s.heap.objs.size >>= _) _ _ _
    refine wpAny_bind (wpAny_load hS' ?_)
    exact wpAny_pure (h s' _ hg ho hk hacc)
  | again c₁=>
    refine⟨x.1,codeAny_mono x.2 fun q s₂ y=>?_⟩
    obtain⟨acc',c',rfl,hg,ho,hk,hS',hacc⟩:=y
    show wpAny _ A (load s.heap.objs.size >>= _) _ _ _
    refine wpAny_bind (wpAny_load hS' ?_)
    exact wpAny_pure (h s₂ _ hg ho hk hacc)
 ·refine cW x fun Z Z e' Z=>?_
  cases e'
theorem jF{Q:Value->Shared->Prop}{S:Addr}{ep:Nat}{es:Array (Int×Value)}{t:SetTable}(hh:A.handled=none)(hT:s.TypeIs (.ref S) "set")(hS:eQ s.heap S es ep t)(ok:b5 t es.size)(hl:t.led=dW w)(hs:es.size≤1000)
 (h:∀ (s':Shared) (D:Addr) (acc:List Value),s.heap.objs.size≤D->s'.gens=s.gens->s'.os=s.os->(∀ (b:Nat) o,s.heap.get? b=some o->s'.heap.get? b=some o)->s'.heap.get? D=some (seqObj "list" acc.toArray 0)->acc.Perm (es.toList.map (fun x=>x.2))->
  wpAny (model prog w) A.in1.in1 (Builtin.«list.sort» ⟨[.ref D],[]⟩) (fun fin s''=>fin=.done (.ret .none)∧Q (.ref D) s'') E s'):
 wpAny (model prog w) A (call (.builtin "sorted") [.ref S]) Q E s:=by
 refine Calls.call_function_entry kind_sorted plain_sorted entry_sorted (args_sorted1 _) ?_
 unfold Builtin.«sorted»
 refine wpAny_bind (m:=checkCount "sorted" 1 1 _) (wpAny_pure ?_)
 refine wpAny_bind (aB (oH (A:=A.in1) hh hT hS ok hl hs fun s' acc hg ho hk hp hle=>?_))
 have hsz:acc.length=es.size:=by simpa using hp.length_eq
 refine wpAny_bind (wpAny_newList ?_ (by refine a0 hsz ?_;refine a0 sizeLine_eq ?_;exact a9 hs (by decide)))
 have hD:(s'.heap.push (seqObj "list" acc.toArray 0)).get? s'.heap.objs.size=some (seqObj "list" acc.toArray 0):=Heap.get?_push_size _ rfl
 refine wpAny_bind (wpAny_holding (wpAny_call_entry slot_list_sort (a6 _ hD rfl) entry_list_sort ?_ (args_list_sort _)))
 refine wpAny_mono (h {s' with heap:=s'.heap.push (seqObj "list" acc.toArray 0)} s'.heap.objs.size acc hle hg ho (fun b o e=>Heap.get?_push_of_some _ (hk b o e)) hD hp) (fun fin s'' x=>?_) fun Z Z e=>e
 refine a2 x ?_;clear x;intro z0 q;subst z0
 exact a6 _ rfl (wpAny_pure (a6 _ rfl q))
end
end
section
open PySem PySem.W PySem.Calls PySem.Spec PyProof.Rows
section
variable{prog:Program}{w:World}{A:Around}{E:Value->Shared->Prop}{s:Shared}
theorem jm{K:Type}[DecidableEq K]{knd:KeyKind prog w K}{h h':Heap}{ks:List K}{a:Addr}(x:IsTupleKey knd h ks a)(k:∀ o,h.get? a=some o->h'.get? a=some o):IsTupleKey knd h' ks a:=by
 obtain⟨o,items,n,ho,r⟩:=x
 exact⟨o,items,n,k o ho,r⟩
inductive zv{K:Type}[DecidableEq K](knd:KeyKind prog w K)(S B:Nat)(val:Nat->List K)(at':Nat->Addr)(n i:Nat)(h:Heap):Prop
 | mk (zs:List ((Int×Value)×List K)) (t:SetTable) (G:uK knd h S zs t) (g:n0 t zs.length) (l:zs.length≤i) (ld:t.led=dW w) (m:(∀ j,j<i->val j∈zs.map (fun x=>x.2))) (src:(∀ z∈zs,∃ j,j<n∧z.1.2=.ref (at' j)∧z.2=val j)) (ks:∀ j,j<n->IsTupleKey knd h (val j) (at' j)∧at' j<B)
theorem tu{K:Type}[DecidableEq K]{knd:KeyKind prog w K}{S B n:Nat}{val:Nat->List K}{at':Nat->Addr}(hB:B≤S)(hn:n≤60):jr prog w S B (fun j=>.ref (at' j)) n (zv knd S B val at' n) where
 keep:=fun i h h' z k=>by
  obtain⟨zs,t,G,g,l,ld,m,src,ks⟩:=z
  refine cW G.at' fun o ep h1 h2=>?_
  refine .mk zs t ⟨(cN o ep (k S o (.inr rfl) h1) h2),G.tab,fun z hz=>?_⟩ g l ld m src (fun j hj=>⟨jm (ks j hj).1 fun o=>k _ o (.inl (ks j hj).2),(ks j hj).2⟩)
  refine bw (G.el z hz) fun b b1 b2 b3=>?_
  refine bw (src z hz) fun j j1 j2 j3=>?_
  rw[b1] at j2;cases j2
  exact aP _ b1 (jm b2 fun o=>k _ o (.inl (ks j j1).2)) b3
 add:=fun A E i s Q hu hi z hq=>by
  obtain⟨zs,t,G,g,l,ld,m,src,ks⟩:=z
  unfold setAdd
  refine wpAny_holding ?_
  refine wpAny_bind (wpAny_pyHash_tuple hu (ks i hi).1 ?_)
  refine sF (s:={s with toks:=s.toks+((val i).length+1)}) G g (by exact a9 l (a9 (Nat.le_of_lt hi) hn)) (ks i hi).1 hu fun h' zs' t' b A'=>?_
  have keep':∀ (c:Nat) o,c≠S->s.heap.get? c=some o->h'.get? c=some o:=fun c o hc e=>(A'.same.2 c hc).trans e
  refine hq b h' _ (Nat.le_add_right _ _) (.mk zs' t' A'.set A'.good (by have:=A'.len;lia) (A'.led.trans ld) (fun j hj=>?_) (fun z hz=>?_) (fun j hj=>⟨jm (ks j hj).1 fun o=>keep' (at' j) o (Nat.ne_of_lt (Nat.lt_of_lt_of_le (ks j hj).2 hB)),(ks j hj).2⟩)) keep'
  ·refine bt (A'.mem ..) ?_
   rcases Nat.lt_or_ge j i with z | z
   ·exact .inl (m j z)
   ·have:j=i:=by lia
    subst this;exact .inr rfl
  ·rcases A'.src z hz with hz | ⟨hz1,hz2⟩
   ·exact src z hz
   ·exact aP i hi hz1 hz2
noncomputable def z9(p:Int×Tok):Value:=.int p.1 p.2
inductive zw(prog:Program)(w:World)(S:Nat)(ns:Nat->Int)(i:Nat)(h:Heap):Prop
 | mk (es:Array (Int×Value)) (t:SetTable) (ts:List (Int×Tok)) (G:wx prog w h S es t) (ld:t.led=dW w) (e:es.toList.map (fun x=>x.2)=ts.map z9) (nd:(ts.map (fun x=>x.1)).Nodup) (m:(∀ y,y∈ts.map (fun x=>x.1)↔∃ j,j<i∧ns j=y)) (l:ts.length≤i)
theorem tv{S B n:Nat}{ns:Nat->Int}{tk:Nat->Tok}(hn:n≤1000):jr prog w S B (fun j=>.int (ns j) (tk j)) n (zw prog w S ns) where
 keep:=fun i h h' z k=>by
  obtain⟨es,t,ts,G,ld,e,nd,m,l⟩:=z
  refine cW G.at' fun o ep h1 h2=>?_
  exact .mk es t ts ⟨(cN o ep (k S o (.inr rfl) h1) h2),G.tab,G.el⟩ ld e nd m l
 add:=fun A E i s Q hu hi z hq=>by
  obtain⟨es,t,ts,G,ld,e,nd,m,l⟩:=z
  unfold setAdd
  refine wpAny_holding ?_
  refine wpAny_bind (wpAny_pyHash_int ?_)
  have sz:es.size=ts.length:=by have:=congrArg List.length e;simpa using this
  have upd:∀ j,(∃ u,.int j u∈es.toList.map (fun x=>x.2))↔j∈ts.map (fun x=>x.1):=fun j=>by
   refine a0 e ?_
   constructor
   ·rintro⟨u,hu⟩
    refine a7 (List.mem_map.mp hu) fun p hp hpe=>?_
    cases hpe
    exact List.mem_map_of_mem hp
   ·intro hj
    refine a7 (List.mem_map.mp hj) fun p hp z2=>?_;subst z2
    exact⟨p.2,List.mem_map_of_mem (f:=z9) hp⟩
  refine add_int (s:={s with toks:=s.toks+1}) G (by show _<4096;lia) (fun hin=>?_) fun hout h' es' t' sb G' l' pm=>?_
  ·refine hq false s.heap _ (Nat.le_succ _) (.mk es t ts G ld e nd (fun y=>?_) (by exact Nat.le_add_right_of_le l)) fun c o Z e=>e
   refine bt (m ..) ?_
   constructor
   ·rintro⟨j,j1,j2⟩;exact a6 j (by lia) j2
   ·rintro⟨j,j1,j2⟩
    rcases Nat.lt_or_ge j i with z | z
    ·exact a6 j z j2
    ·have:j=i:=by lia
     subst this
     refine aX j2 ?_
     exact(m _).mp ((upd _).mp hin)
  ·have pm':(es'.toList.map (fun x=>x.2)).Perm ((ts++[(ns i,tk i)]).map z9):=by rw[e] at pm;simpa [z9]using pm
   refine a7 (dT pm') fun ts' p1 p2=>?_
   have nin:ns i∉ts.map (fun x=>x.1):=fun z=>by
    refine aH ((upd _).mpr z) fun u hu=>?_
    exact hout u hu
   refine hq true h' _ (Nat.le_succ _) (.mk es' t' ts' G' (l'.trans ld) p2.symm ?_ (fun y=>?_) (by refine a0 p1.length_eq ?_;exact a9 (Nat.le_of_eq ((List.length_append ..).trans (congrArg (_+ ·) ((List.length_cons ..).trans (congrArg (· +_) (List.length_nil ..)))))) (Nat.add_le_add_right l _))) fun c o hc e=>(sb.2 c hc).trans e
   ·refine(p1.map (fun x=>x.1)).nodup_iff.mpr ?_
    refine a0 List.map_append ?_;refine bt List.nodup_append ?_
    refine i3 nd (by simp) (fun a ha b hb e=>nin ?_)
    simp at hb
    subst hb;exact e▸ha
   ·rewrite[(p1.map (fun x=>x.1)).mem_iff];refine a0 List.map_append ?_;refine bt List.mem_append ?_;refine bt (m ..) ?_
    constructor
    ·rintro(⟨j,j1,j2⟩ | hy)
     ·exact a6 j (by lia) j2
     ·simp at hy;exact a6 i (by exact Nat.le_refl _) hy.symm
    ·rintro⟨j,j1,j2⟩
     rcases Nat.lt_or_ge j i with z | z
     ·exact .inl (a6 j z j2)
     ·have:j=i:=by lia
      subst this;simp[j2]
end
noncomputable abbrev W0(prog:Program)(w:World)(H:Heap)(mg mb:Str->Option Value):Wd:=⟨prog,w,H,KF w.params,mg,mb⟩
noncomputable def v7{α:Type}(P:α->Prop):List α->Prop
 | []=>True
 | a::l=>P a∧v7 P l
theorem v7.at{α:Type}{P:α->Prop}{a:α}{l:List α}(h:v7 P l)(m:a∈l):P a:=by
 induction l with
 | nil=>exact nomatch m
 | cons b l ih=>exact(List.mem_cons.mp m).elim (fun e=>e▸h.1) (ih h.2)
theorem aG{p:Params}{C:Nat}(h:[57,85,106,128,171,230,387,469,599].contains C=true):ca (KF p) C:=
 v7.at (P:=ca (KF p)) (l:=[57,85,106,128,171,230,387,469,599]) ⟨⟨by rfl,by rfl,by rfl,by rfl,by rfl⟩,⟨by rfl,by rfl,by rfl,by rfl,by rfl⟩,⟨by rfl,by rfl,by rfl,by rfl,by rfl⟩,⟨by rfl,by rfl,by rfl,by rfl,by rfl⟩,⟨by rfl,by rfl,by rfl,by rfl,by rfl⟩,⟨by rfl,by rfl,by rfl,by rfl,by rfl⟩,⟨by rfl,by rfl,by rfl,by rfl,by rfl⟩,⟨by rfl,by rfl,by rfl,by rfl,by rfl⟩,⟨by rfl,by rfl,by rfl,by rfl,by rfl⟩,trivial⟩ (List.contains_iff_mem.mp h)
section
variable{prog:Program}{w:World}{H:Heap}{mg mb:Str->Option Value}
noncomputable abbrev zO:List (Str×Value):=[("len",.builtin "len"),("max",.builtin "max"),("min",.builtin "min"),("sum",.builtin "sum"),("sorted",.builtin "sorted"),("tuple",.type "tuple"),("list",.type "list"),("dict",.type "dict"),("set",.type "set"),("range",.type "range"),("int",.type "int"),("whole_of",.ref 26),("is_op",.ref 280),("_law_turn",.ref 618),("_law_term",.ref 625),("_law_analysis",.ref 632),("_law_kept",.ref 637),("_law_is_reached",.ref 642),("Consts",.ref 57),("LeastDepth",.ref 85),("LeastSize",.ref 106),("FreeNames",.ref 128),("Signs",.ref 171),("Keeper",.ref 230),("Bank",.ref 387),("Unions",.ref 469),("Heap",.ref 599)]
theorem k9{x:Str}{f:Value}(h:(x,f)∈zO):GV (W0 prog w H mg mb) x f:=
 v7.at (P:=fun p=>GV (W0 prog w H mg mb) p.1 p.2) (l:=zO) ⟨.blt (by rfl) (by rfl) (by decide),.blt (by rfl) (by rfl) (by decide),.blt (by rfl) (by rfl) (by decide),.blt (by rfl) (by rfl) (by decide),.blt (by rfl) (by rfl) (by decide),.blt (by rfl) (by rfl) (by decide),.blt (by rfl) (by rfl) (by decide),.blt (by rfl) (by rfl) (by decide),.blt (by rfl) (by rfl) (by decide),.blt (by rfl) (by rfl) (by decide),.blt (by rfl) (by rfl) (by decide),.own (by rfl),.own (by rfl),.own (by rfl),.own (by rfl),.own (by rfl),.own (by rfl),.own (by rfl),.own (by rfl),.own (by rfl),.own (by rfl),.own (by rfl),.own (by rfl),.own (by rfl),.own (by rfl),.own (by rfl),.own (by rfl),trivial⟩ h
theorem q5:GV (W0 prog w H mg mb) "set" (.type "set"):=k9 (by repeat (with_reducible first | exact List.mem_cons_self | apply List.mem_cons_of_mem))
theorem iG:GV (W0 prog w H mg mb) "sorted" (.builtin "sorted"):=k9 (by repeat (with_reducible first | exact List.mem_cons_self | apply List.mem_cons_of_mem))
theorem vY:GV (W0 prog w H mg mb) "Bank" (.ref 387):=k9 (by repeat (with_reducible first | exact List.mem_cons_self | apply List.mem_cons_of_mem))
theorem s9:GV (W0 prog w H mg mb) "Unions" (.ref 469):=k9 (by repeat (with_reducible first | exact List.mem_cons_self | apply List.mem_cons_of_mem))
end
section
variable{W:Wd}{n:Nat}{sc:ah}{ρ:ai}{V:St}
theorem tE{l:Nat}{C:Addr}{as:List (Str×a5)}{x:Str}{K:Frag}{P:Nat->Addr->List (Str×a5)->Prop}(ho:V[l]? =some (.inst C as))(hl:as.length<20)(ck:ca K C)(ht:takerIn K C x=some none)(q:P l C as):
 ∃ l' C' as',a5.ref l=.ref l'∧V[l']? =some (.inst C' as')∧as'.length<20∧ca K C'∧takerIn K C' x=some none∧P l' C' as':=vT l C as rfl ho hl ck ht q
theorem tN{y:Str}{x:Str}{id:String}{P:Value->Prop}(sl:Slot "str" x id)(ty:typeOf (.builtin id)=Pure.pure (.type "method_descriptor"))(q:P (.builtin id)):∃ g,gH W V (.str y) x g∧P g:=a6 _ (.str sl ty) q
theorem bo{l k:Nat}{xs:List a5}{Q:a5->St->Prop}(h:V[l]? =some (.list xs))(hk:xs.length=k)(hl:k≤1000000000)(q:Q (.int (Int.ofNat k)) V):CT W n (.builtin "len") [.ref l] V Q:=by
 subst hk;exact qx (fP h) hl q
theorem wK{k:Nat}{xs:List a5}{Q:a5->St->Prop}(hk:xs.length=k)(hl:k≤1000000000)(q:Q (.int (Int.ofNat k)) V):CT W n (.builtin "len") [.tup xs] V Q:=by
 subst hk;exact qx (a:=.tup xs) rfl hl q
theorem bQ{k:Nat}{xs:List a5}{Q:a5->St->Prop}(hk:xs.length=k)(hl:k≤1000000000)(q:Q (.int (Int.ofNat k)) V):CT W n (.builtin "len") [.frz xs] V Q:=by
 subst hk;exact qx (a:=.frz xs) rfl hl q
theorem fH(l:List Nat)(a:Nat):nats l++[.int (Int.ofNat a)]=nats (l++[a]):=by simp[nats]
theorem nT{n:Nat}{l:List Nat}:(nats l).all (okv n)=true:=List.all_eq_true.mpr fun x h=>by
 refine a7 (List.mem_map.mp h) fun k Z z2=>?_;subst z2
 cases n<;>rfl
theorem bm(l:List Nat):(nats l).length=l.length:=by exact List.length_map ..
theorem tL(l:List Nat)(i a:Nat):(nats l).set i (.int (Int.ofNat a))=nats (l.set i a):=by exact(List.map_set ..).symm
theorem dG(l m:List Nat):nats l++nats m=nats (l++m):=by exact(List.map_append ..).symm
theorem uW{l a:Nat}{xs:List Nat}{Q:a5->St->Prop}(ho:V[l]? =some (.list (nats xs)))(hl:xs.length≤1000000)(q:Q .none (V.set l (.list (nats (xs++[a]))))):CT W n (.builtin "list.append") [.ref l,.int (Int.ofNat a)] V Q:=
 mh ho (by refine a0 (bm ..) ?_;exact hl) (by refine a0 (fH ..) ?_;exact q)
theorem b9{l:Nat}{xs:List a5}{a:a5}{Q:a5->St->Prop}(o':af)(ho:V[l]? =some (.list xs))(hl:xs.length≤1000000)(he:af.list (xs++[a])=o')(q:Q .none (V.set l o')):CT W n (.builtin "list.append") [.ref l,a] V Q:=
 mh ho hl (by refine a0 he ?_;exact q)
theorem kN{l m:Nat}{xs ys:List a5}{Q:a5->St->Prop}(o':af)(ho:V[l]? =some (.list xs))(hm:V[m]? =some (.list ys))(hl:xs.length+ys.length≤1000000)(he:af.list (xs++ys)=o')(q:Q .none (V.set l o')):CT W n (.builtin "list.extend") [.ref l,.ref m] V Q:=
 sV ho hm hl (by refine a0 he ?_;exact q)
theorem lB{l:Nat}{xs:List a5}{i:Nat}{a:a5}{Q:St->Prop}(o':af)(ho:V[l]? =some (.list xs))(hi:i<xs.length)(hl:xs.length≤1000000)(he:af.list (xs.set i a)=o')(q:Q (V.set l o')):oP W n (.ref l) (.int (Int.ofNat i)) a V Q:=
 tx ho hi hl (by refine a0 he ?_;exact q)
theorem bS{l:Nat}{es:List (Int×a5)}{k:Int}{a:a5}{Q:St->Prop}(o':af)(ho:V[l]? =some (.idict es))(hl:es.length≤1000000)(he:af.idict (cX es k a)=o')(q:Q (V.set l o')):oP W n (.ref l) (.int k) a V Q:=
 rK ho hl (by refine a0 he ?_;exact q)
theorem pL{l:Nat}{es:List (List aT×a5)}{xs:List a5}{k:List aT}{a:a5}{Q:St->Prop}(o':af)(ho:V[l]? =some (.tdict es))(hk:skeys xs=some k)(hl:es.length≤1000000)(he:af.tdict (cX es k a)=o')(q:Q (V.set l o')):oP W n (.ref l) (.tup xs) a V Q:=
 rJ ho hk hl (by refine a0 he ?_;exact q)
theorem iO{es:List Expr}{pos:Pos}{Q:a5->St->Prop}(o':af)(h:lq W n sc es ρ V (fun as V'=>as.length≤1000000∧af.list as=o'∧Q (.ref V'.length) (V'++[o']))):ET W n sc (.List es pos) ρ V Q:=by
 refine kK ?_
 intro A env φ s pos R N F
 exact(h A env φ s pos R N F).mono fun as V' ⟨h1,h2,h3⟩=>⟨h1,by refine a0 h2 ?_;exact h3⟩
theorem gd{xs:List a5}{Q:a5->St->Prop}(q:Q (.tup xs) V):CT W n (.type "tuple") [.tup xs] V Q:=by
 refine cw fun A φ s v R N r=>?_
 refine r.tup_el fun a vs ht no rs=>?_
 exact call_tuple_same ht ⟨φ,V,_,⟨.refl,N,rfl,rfl⟩,.tup ht no rs,q⟩
theorem qS{i j:Nat}:cu W n .LtE (.int (Int.ofNat i)) (.int (Int.ofNat j)) V (decide (i≤j)):=by
 have:=xC (W:=W) (n:=n) (V:=V) (i:=Int.ofNat i) (j:=Int.ofNat j)
 have e:decide (Int.ofNat i≤Int.ofNat j)=decide (i≤j):=by simp
 rw[e] at this;exact this
theorem dI{i j:Nat}:cu W n .Lt (.int (Int.ofNat i)) (.int (Int.ofNat j)) V (decide (i<j)):=by
 have:=kw (W:=W) (n:=n) (V:=V) (i:=Int.ofNat i) (j:=Int.ofNat j)
 have e:decide (Int.ofNat i<Int.ofNat j)=decide (i<j):=by simp
 rw[e] at this;exact this
theorem mQ{i j:Nat}:cu W n .Gt (.int (Int.ofNat i)) (.int (Int.ofNat j)) V (decide (j<i)):=by
 have:=mR (W:=W) (n:=n) (V:=V) (i:=Int.ofNat i) (j:=Int.ofNat j)
 have e:decide (Int.ofNat j<Int.ofNat i)=decide (j<i):=by simp
 rw[e] at this;exact this
theorem bx{x y:Str}:cu W n .Eq (.str x) (.str y) V (x==y):=by
 exact fun A φ s v w R N ra rb Q E q=>ra.str_el fun t=>rb.str_el fun t'=>PyProof.Rows.eq_str (q _)
theorem qc{x y:Str}:cu W n .NotEq (.str x) (.str y) V (x != y):=by
 exact fun A φ s v w R N ra rb Q E q=>ra.str_el fun t=>rb.str_el fun t'=>PyProof.Rows.ne_str (q _)
noncomputable def t6(W:Wd)(n:Nat)(sc:ah)(rest:List Stmt)(Q:cH->ai->St->Prop)(f:cH)(ρ:ai)(V:St):Prop:=match f with
 | .next=>df W n sc rest ρ V Q
 | f=>Q f ρ V
theorem iK{st:Stmt}{rest:List Stmt}{Q:cH->ai->St->Prop}(h:ST W n sc st ρ V (t6 W n sc rest Q)):df W n sc (st::rest) ρ V Q:=oO h
theorem kD{rest:List Stmt}{Q:cH->ai->St->Prop}(h:df W n sc rest ρ V Q):t6 W n sc rest Q .next ρ V:=h
theorem sH{st:Stmt}{rest:List Stmt}{Q:cH->ai->St->Prop}(h:ST W n sc st ρ V (t6 W n sc rest Q)):t6 W n sc (st::rest) Q .next ρ V:=oO h
theorem uL{Q:cH->ai->St->Prop}(h:Q .next ρ V):t6 W n sc [] Q .next ρ V:=fR h
theorem qX{rest:List Stmt}{a:a5}{Q:cH->ai->St->Prop}(h:Q (.ret a) ρ V):t6 W n sc rest Q (.ret a) ρ V:=h
end
section
variable(W:Wd)(n:Nat)(sc:ah)
@[reducible] noncomputable def x9(x:Str)(Q:a5->St->Prop)(ov:a5)(V:St):Prop:=∃ l C as a,ov=.ref l∧V[l]? =some (.inst C as)∧as.lookup x=some a∧ca W.K C∧findIn W.K (.ref C) x=some none∧Q a V
@[reducible] noncomputable def yL(a:a5)(Q:a5->St->Prop)(b:a5)(V:St):Prop:=n4 W n a b V Q
@[reducible] noncomputable def yM(i:Expr)(ρ:ai)(Q:a5->St->Prop)(a:a5)(V:St):Prop:=ET W n sc i ρ V (yL W n a Q)
@[reducible] noncomputable def yW(op:Operator)(a:a5)(Q:a5->St->Prop)(b:a5)(V:St):Prop:=∃ c,gK W n op a b V c∧Q c V
@[reducible] noncomputable def yX(op:Operator)(r:Expr)(ρ:ai)(Q:a5->St->Prop)(a:a5)(V:St):Prop:=ET W n sc r ρ V (yW W n op a Q)
@[reducible] noncomputable def xO(op:Operator)(a:a5)(Q:a5->St->Prop)(b:a5)(V:St):Prop:=xV W n op a b V Q
@[reducible] noncomputable def xP(op:Operator)(r:Expr)(ρ:ai)(Q:a5->St->Prop)(a:a5)(V:St):Prop:=ET W n sc r ρ V (xO W n op a Q)
@[reducible] noncomputable def yT(op:CmpOp)(a:a5)(Q:Bool->St->Prop)(b:a5)(V:St):Prop:=∃ c,cu W n op a b V c∧Q c V
@[reducible] noncomputable def x8(op:CmpOp)(r:Expr)(ρ:ai)(Q:Bool->St->Prop)(a:a5)(V:St):Prop:=ET W n sc r ρ V (yT W n op a Q)
@[reducible] noncomputable def yV(Q:a5->St->Prop)(c:Bool)(V:St):Prop:=Q (.bool c) V
@[reducible] noncomputable def zy(Q:Bool->St->Prop)(a:a5)(V:St):Prop:=∃ b,a=.bool b∧Q b V
@[reducible] noncomputable def zC(Q:Bool->St->Prop)(c:Bool)(V:St):Prop:=Q (!c) V
@[reducible] noncomputable def zD(Q:a5->St->Prop)(a:a5)(V:St):Prop:=∃ i,a=.int i∧Q (.int (-i)) V
@[reducible] noncomputable def yS(a:a5)(Q:List a5->St->Prop)(as:List a5)(V:St):Prop:=Q (a::as) V
@[reducible] noncomputable def zK(es:List Expr)(ρ:ai)(Q:List a5->St->Prop)(a:a5)(V:St):Prop:=lq W n sc es ρ V (yS a Q)
@[reducible] noncomputable def yU(f:Value)(Q:a5->St->Prop)(as:List a5)(V:St):Prop:=CT W n f as V Q
@[reducible] noncomputable def kF(f:Value)(ov:a5)(Q:a5->St->Prop)(as:List a5)(V:St):Prop:=CT W n f (ov::as) V Q
@[reducible] noncomputable def oY(x:Str)(args:List Expr)(ρ:ai)(Q:a5->St->Prop)(ov:a5)(V:St):Prop:=∃ f,gH W V ov x f∧lq W n sc args ρ V (kF W n f ov Q)
@[reducible] noncomputable def zA(Q:a5->St->Prop)(as:List a5)(V:St):Prop:=as.length≤1000000∧Q (.tup as) V
@[reducible] noncomputable def zE(Q:a5->St->Prop)(as:List a5)(V:St):Prop:=as.length≤1000000∧Q (.frz as) V
@[reducible] noncomputable def yQ(Q:a5->St->Prop)(as:List a5)(V:St):Prop:=as.length≤1000000∧Q (.ref V.length) (V++[.list as])
@[reducible] noncomputable def zG(b o:Expr)(ρ:ai)(Q:a5->St->Prop)(c:Bool)(V:St):Prop:=if c=true then ET W n sc b ρ V Q else ET W n sc o ρ V Q
@[reducible] noncomputable def zL(es:List Expr)(ρ:ai)(Q:Bool->St->Prop)(c:Bool)(V:St):Prop:=if c=true then lw W n sc .And es ρ V Q else Q false V
@[reducible] noncomputable def Ae(es:List Expr)(ρ:ai)(Q:Bool->St->Prop)(c:Bool)(V:St):Prop:=if c=true then Q true V else lw W n sc .Or es ρ V Q
@[reducible] noncomputable def zJ(t:Expr)(ρ:ai)(Q:cH->ai->St->Prop)(a:a5)(V:St):Prop:=AT W n sc t a ρ V (Q .next)
@[reducible] noncomputable def zB(ρ:ai)(Q:cH->ai->St->Prop)(a:a5)(V:St):Prop:=Q (.ret a) ρ V
@[reducible] noncomputable def zH(ρ:ai)(Q:cH->ai->St->Prop)(_:a5)(V:St):Prop:=Q .next ρ V
@[reducible] noncomputable def Af(b o:List Stmt)(ρ:ai)(Q:cH->ai->St->Prop)(c:Bool)(V:St):Prop:=if c=true then df W n sc b ρ V Q else df W n sc o ρ V Q
@[reducible] noncomputable def yP(x:Str)(a:a5)(ρ:ai)(Q:ai->St->Prop)(ov:a5)(V:St):Prop:=∃ l C as,ov=.ref l∧V[l]? =some (.inst C as)∧as.length<20∧ca W.K C∧takerIn W.K C x=some none∧Q ρ (V.set l (.inst C (aJ as x a)))
@[reducible] noncomputable def yN(o a:a5)(ρ:ai)(Q:ai->St->Prop)(i:a5)(V:St):Prop:=oP W n o i a V (Q ρ)
@[reducible] noncomputable def yO(i:Expr)(a:a5)(ρ:ai)(Q:ai->St->Prop)(o:a5)(V:St):Prop:=ET W n sc i ρ V (yN W n o a ρ Q)
@[reducible] noncomputable def zI(Q:a5->St->Prop)(g:cH)(_:ai)(V:St):Prop:=Q (vX g) V
@[reducible] noncomputable def yH{ι:Type}(r:ι->ι->Prop)(I:ι->ai->St->Prop)(Q:cH->ai->St->Prop)(i:ι)(f:cH)(ρ:ai)(V:St):Prop:=match f with
  | .next | .cont=>∃ j,r j i∧I j ρ V
  | .brk=>Q .next ρ V
  | .ret v=>Q (.ret v) ρ V
@[reducible] noncomputable def Ad{ι:Type}(body:List Stmt)(ρ:ai)(r:ι->ι->Prop)(I:ι->ai->St->Prop)(Q:cH->ai->St->Prop)(i:ι)(c:Bool)(V:St):Prop:=if c=true then df W n sc body ρ V (yH r I Q i)else Q .next ρ V
@[reducible] noncomputable def zM(a:a5)(all:List a5)(Q:cH->ai->St->Prop)(K:ai->St->Prop)(f:cH)(ρ:ai)(V:St):Prop:=match f with
  | .next | .cont=>aI V a=some all∧K ρ V
  | .brk=>Q .next ρ V
  | .ret v=>Q (.ret v) ρ V
@[reducible] noncomputable def wZ(body:List Stmt)(a:a5)(all:List a5)(Q:cH->ai->St->Prop)(K:ai->St->Prop)(ρ:ai)(V:St):Prop:=df W n sc body ρ V (zM a all Q K)
@[reducible] noncomputable def yR(target:Expr)(body:List Stmt)(ρ:ai)(Q:cH->ai->St->Prop)(a:a5)(V:St):Prop:=∃ xs,aI V a=some xs∧n6 W n sc target body a xs Q xs ρ V
end
section
variable{W:Wd}{n:Nat}{sc:ah}{ρ:ai}{V:St}
theorem uT{o:Expr}{x:Str}{pos:Pos}{Q:a5->St->Prop}(h:ET W n sc o ρ V (x9 W x Q))(hb:dS o=true:=by rfl):ET W n sc (.Attribute o x pos) ρ V Q:=wI h hb
theorem wz{o i:Expr}{pos:Pos}{Q:a5->St->Prop}(h:ET W n sc o ρ V (yM W n sc i ρ Q))(hs:xA i=false:=by rfl):ET W n sc (.Subscript o i pos) ρ V Q:=qs h hs
theorem wH{l r:Expr}{op:Operator}{pos:Pos}{Q:a5->St->Prop}(h:ET W n sc l ρ V (yX W n sc op r ρ Q)):ET W n sc (.BinOp l op r pos) ρ V Q:=uS h
theorem pf{l r:Expr}{op:Operator}{pos:Pos}{Q:a5->St->Prop}(h:ET W n sc l ρ V (xP W n sc op r ρ Q)):ET W n sc (.BinOp l op r pos) ρ V Q:=wG h
theorem wN{l r:Expr}{op:CmpOp}{pos:Pos}{Q:Bool->St->Prop}(h:ET W n sc l ρ V (x8 W n sc op r ρ Q))(hp:cq r=true:=by rfl):BT W n sc (.Compare l [op] [r] pos) ρ V Q:=xY h hp
theorem wE{l r:Expr}{op:CmpOp}{pos:Pos}{Q:a5->St->Prop}(h:ET W n sc l ρ V (x8 W n sc op r ρ (yV Q)))(hp:cq r=true:=by rfl):ET W n sc (.Compare l [op] [r] pos) ρ V Q:=xT h hp
theorem ip{e:Expr}{Q:Bool->St->Prop}(h:ET W n sc e ρ V (zy Q))(hp:iA e=true:=by rfl):BT W n sc e ρ V Q:=xW h hp
theorem wM{e:Expr}{pos:Pos}{Q:Bool->St->Prop}(h:BT W n sc e ρ V (zC Q)):BT W n sc (.UnaryOp .Not e pos) ρ V Q:=xX h
theorem wB{e:Expr}{pos:Pos}{Q:a5->St->Prop}(h:ET W n sc e ρ V (zD Q)):ET W n sc (.UnaryOp .USub e pos) ρ V Q:=xR h
theorem sK{e:Expr}{es:List Expr}{Q:List a5->St->Prop}(h:ET W n sc e ρ V (zK W n sc es ρ Q))(hs:aQ [e]=true:=by rfl):lq W n sc (e::es) ρ V Q:=kJ h hs
theorem uR{x:Str}{np pos:Pos}{args:List Expr}{f:Value}{Q:a5->St->Prop}(g:GV W x f)(hk:iP W.K f=true)(h:lq W n sc args ρ V (yU W n f Q))
 (hx:sc.lookup x=some .globalImplicit:=by rfl)(hn:d5 x=true:=by rfl)(hs:aQ args=true:=by rfl):ET W n sc (.Call (.Name x np) args [] pos) ρ V Q:=n7 g hk h hx hn hs
theorem sO{o:Expr}{x:Str}{apos pos:Pos}{args:List Expr}{Q:a5->St->Prop}(h:ET W n sc o ρ V (oY W n sc x args ρ Q))
 (hb:dS o=true:=by rfl)(hs:aQ args=true:=by rfl)(hl:args.length<29:=by decide)(hp:(apos.endLine==pos.line)=true:=by rfl):ET W n sc (.Call (.Attribute o x apos) args [] pos) ρ V Q:=uP h hb hs hl hp
theorem sL{es:List Expr}{k:Nat}{pos:Pos}{Q:a5->St->Prop}(h:lq W n sc es ρ V (zA Q)):ET W n sc (.Tuple es k pos) ρ V Q:=p9 h
theorem ch{es:List Expr}{pos:Pos}{Q:a5->St->Prop}(h:lq W n sc es ρ V (zE Q)):ET W n sc (.List es pos) ρ V Q:=wC h
theorem sP{es:List Expr}{pos:Pos}{Q:a5->St->Prop}(h:lq W n sc es ρ V (yQ Q)):ET W n sc (.List es pos) ρ V Q:=kK h
theorem sQ{t b o:Expr}{pos:Pos}{Q:a5->St->Prop}(h:BT W n sc t ρ V (zG W n sc b o ρ Q)):ET W n sc (.IfExp t b o pos) ρ V Q:=uQ h
theorem sZ{e:Expr}{es:List Expr}{Q:Bool->St->Prop}(h:BT W n sc e ρ V (zL W n sc es ρ Q)):lw W n sc .And (e::es) ρ V Q:=vb h
theorem v8{e:Expr}{es:List Expr}{Q:Bool->St->Prop}(h:BT W n sc e ρ V (Ae W n sc es ρ Q)):lw W n sc .Or (e::es) ρ V Q:=wO h
theorem kE{t e:Expr}{pos:Pos}{Q:cH->ai->St->Prop}(h:ET W n sc e ρ V (zJ W n sc t ρ Q))(hc:gv e=false:=by rfl)(hs:iB t e=true:=by rfl)(ht:aQ [t]=true:=by rfl):ST W n sc (.Assign [t] e pos) ρ V Q:=lW h hc hs ht
theorem qp{e:Expr}{pos:Pos}{Q:cH->ai->St->Prop}(h:ET W n sc e ρ V (zB ρ Q)):ST W n sc (.Return (some e) pos) ρ V Q:=sI h
theorem uM{e:Expr}{pos:Pos}{Q:cH->ai->St->Prop}(h:ET W n sc e ρ V (zH ρ Q))(hc:gv e=false:=by rfl):ST W n sc (.Expr e pos) ρ V Q:=wq h hc
theorem xJ{t:Expr}{b o:List Stmt}{pos:Pos}{Q:cH->ai->St->Prop}(h:BT W n sc t ρ V (Af W n sc b o ρ Q)):ST W n sc (.If t b o pos) ρ V Q:=yE h
theorem pi{o:Expr}{x:Str}{pos:Pos}{a:a5}{Q:ai->St->Prop}(h:ET W n sc o ρ V (yP W x a ρ Q)):AT W n sc (.Attribute o x pos) a ρ V Q:=wQ h
theorem wP{o i:Expr}{pos:Pos}{a:a5}{Q:ai->St->Prop}(h:ET W n sc o ρ V (yO W n sc i a ρ Q)):AT W n sc (.Subscript o i pos) a ρ V Q:=y5 h
theorem lV{ι:Type}{r:ι->ι->Prop}(wf:WellFounded r)(I:ι->ai->St->Prop){test:Expr}{body:List Stmt}{pos:Pos}{Q:cH->ai->St->Prop}
 (turn:∀ i ρ V,I i ρ V->BT W n sc test ρ V (Ad W n sc body ρ r I Q i)){i:ι}(h:I i ρ V):ST W n sc (.While test body [] pos) ρ V Q:=
 oQ wf I turn h
theorem bP{target iter:Expr}{body:List Stmt}{pos:Pos}{Q:cH->ai->St->Prop}(h:ET W n sc iter ρ V (yR W n sc target body ρ Q))(hs:mH iter=true:=by rfl):ST W n sc (.For target iter body [] pos) ρ V Q:=xK h hs
theorem yA{l:Nat}{C:Addr}{as:List (Str×a5)}{x:Str}{a:a5}{Q:a5->St->Prop}(ho:V[l]? =some (.inst C as))(ha:as.lookup x=some a)(ck:ca W.K C)(hf:findIn W.K (.ref C) x=some none)(q:Q a V):x9 W x Q (.ref l) V:=yu l C as a rfl ho ha ck hf q
theorem yb{l:Nat}{C:Addr}{as:List (Str×a5)}{x:Str}{a:a5}{Q:ai->St->Prop}(ho:V[l]? =some (.inst C as))(hl:as.length<20)(ck:ca W.K C)(ht:takerIn W.K C x=some none)(q:Q ρ (V.set l (.inst C (aJ as x a)))):yP W x a ρ Q (.ref l) V:=vT l C as rfl ho hl ck ht q
theorem yh{l:Nat}{C f:Addr}{as:List (Str×a5)}{x:Str}{args:List Expr}{Q:a5->St->Prop}(ho:V[l]? =some (.inst C as))(ha:as.lookup x=none)(ck:ca W.K C)(hf:findIn W.K (.ref C) x=some (some (.ref f)))(ht:typeIn W.K (.ref f)=some (.type "function"))(hn:fnIn W.K f=true)
 (q:lq W n sc args ρ V (kF W n (.ref f) (.ref l) Q)):oY W n sc x args ρ Q (.ref l) V:=a6 _ (.inst ho ha ck hf ht hn) q
theorem xv{l:Nat}{xs:List a5}{x:Str}{id:String}{args:List Expr}{Q:a5->St->Prop}(ho:V[l]? =some (.list xs))(sl:Slot "list" x id)(ty:typeOf (.builtin id)=Pure.pure (.type "method_descriptor"))(q:lq W n sc args ρ V (kF W n (.builtin id) (.ref l) Q)):oY W n sc x args ρ Q (.ref l) V:=a6 _ (.list ho sl ty) q
theorem xw{l:Nat}{xs:List (Int×a5)}{x:Str}{id:String}{args:List Expr}{Q:a5->St->Prop}(ho:V[l]? =some (.idict xs))(sl:Slot "dict" x id)(ty:typeOf (.builtin id)=Pure.pure (.type "method_descriptor"))(q:lq W n sc args ρ V (kF W n (.builtin id) (.ref l) Q)):oY W n sc x args ρ Q (.ref l) V:=a6 _ (.idict ho sl ty) q
theorem xu{l:Nat}{xs:List (List aT×a5)}{x:Str}{id:String}{args:List Expr}{Q:a5->St->Prop}(ho:V[l]? =some (.tdict xs))(sl:Slot "dict" x id)(ty:typeOf (.builtin id)=Pure.pure (.type "method_descriptor"))(q:lq W n sc args ρ V (kF W n (.builtin id) (.ref l) Q)):oY W n sc x args ρ Q (.ref l) V:=a6 _ (.tdict ho sl ty) q
theorem eE{α:Type}{l:List α}(h:l.length=1):∃ x,l=[x]:=List.length_eq_one_iff.mp h
theorem fJ{α:Type}{l:List α}(h:l.length=2):∃ x y,l=[x,y]:=by
 cases l with
 | nil=>cases h
 | cons x r=>exact(eE (Nat.succ.inj h)).elim fun y e=>jZ x y (e▸rfl)
theorem f9{P:List Value->Prop}(h:∀ x,P [x])(vs:List Value)(e:vs.length=1):P vs:=(eE e).elim fun x e=>e▸h x
theorem dj{P:List Value->Prop}(h:∀ x y,P [x,y])(vs:List Value)(e:vs.length=2):P vs:=by
 cases vs with
 | nil=>cases e
 | cons x r=>exact f9 (P:=fun r=>P (x::r)) (h x) r (Nat.succ.inj e)
theorem eF{P:List Value->Prop}(h:∀ x y z,P [x,y,z])(vs:List Value)(e:vs.length=3):P vs:=by
 cases vs with
 | nil=>cases e
 | cons x r=>exact dj (P:=fun r=>P (x::r)) (h x) r (Nat.succ.inj e)
theorem yq{P:List Value->Prop}(h:∀ x y z u,P [x,y,z,u])(vs:List Value)(e:vs.length=4):P vs:=by
 cases vs with
 | nil=>cases e
 | cons x r=>exact eF (P:=fun r=>P (x::r)) (h x) r (Nat.succ.inj e)
theorem ag{f:Addr}{name qual:Str}{params:Arguments}{body:List Stmt}{scope:Scope}{dV kV doc pm cdv ct oc:Value}{an od:Option Addr}{osl:Array (Option Value)}{ps:List Str}{args:List a5}{Q:a5->St->Prop}
 (ho:W.K.lookup f=some ⟨oc,od,.func (fnX name qual params body scope [] dV kV doc pm an cdv ct),osl⟩)(hcd:codeIn W.K cdv qual=true)
 (hbind:∀ vs:List Value,vs.length=ps.length->bindArgs (fnX name qual params body scope [] dV kV doc pm an cdv ct) ⟨vs,[]⟩=pure (ps.zip vs))
 (hlen:args.length=ps.length)(hnd:ps.Nodup)(hk:(ps.all fun x=>scope.names.lookup x==some .local||(scope.names.lookup x==some .cell))=true)
 (hcn:((cellsFrom 0 scope.names []).map (fun x=>x.1)).Nodup)(hcl:(scope.names.all fun y=>(y.2 != .free)&&(y.2 != .cell||((cellsFrom 0 scope.names []).lookup y.1).isSome&&scope.names.lookup y.1==some .cell))=true)
 (h:df W n scope.names body (ps.zip args) V (zI Q))
 (hco:scope.isCoroutine=false)(hgen:scope.isGenerator=false)(hkind:scope.kind=.function):CC W (n+1) (.ref f) args V Q:=xU ho hcd hbind hlen hnd hk hcn hcl h hco hgen hkind
end
inductive lZ(W:Wd)(n:Nat)(sc:ah)(new:Bool)(elt:Expr)(g:Comprehension)(scope:Scope)(nm:Str)(ρ:ai)(Q:a5->St->Prop)(a:a5)(V:St):Prop
 | mk (ys:List a5) (h1:aI V a=some ys) (hl:ys.length≤1000000) (p:a5->Bool) (f:a5->a5)
   (hp:∀ x∈ys,∀ K:Bool->St->Prop,K (p x) V->p7 W n (aw scope.names sc) g.ifs (aJ (aR scope.names sc ρ) nm x) V K)
   (hf:∀ x∈ys,p x=true->∀ K:a5->St->Prop,K (f x) V->ET W n (aw scope.names sc) elt (aJ (aR scope.names sc ρ) nm x) V K)
   (q:∃ out,(ys.filter p).map f=out∧CK new Q (.list out) V):lZ W n sc new elt g scope nm ρ Q a V
theorem ET.mono{W:Wd}{n:Nat}{sc:ah}{ρ:ai}{V:St}{e:Expr}{Q Q':a5->St->Prop}(h:ET W n sc e ρ V Q)(m:∀ a V,Q a V->Q' a V):ET W n sc e ρ V Q':=fun A env φ s R N F=>(h A env φ s R N F).mono m
theorem aE{W:Wd}{n:Nat}{sc:ah}{ρ:ai}{V:St}{new:Bool}{elt:Expr}{g:Comprehension}{scope:Scope}{nm:Str}{Q:a5->St->Prop}(hn:dt g.target=some nm)
 (h:ET W n sc g.iter ρ V (lZ W n sc new elt g scope nm ρ Q)):dZ W n sc new (.list elt) g [] scope ρ V Q:=
 sn hn (h.mono fun a V z=>by cases z with | mk ys h1 hl p f hp hf q=>exact⟨ys,h1,hl,p,f,hp,hf,q⟩)
noncomputable def Sub(ρ₀ ρ:ai):Prop:=∀ x a,ρ₀.lookup x=some a->ρ.lookup x=some a
theorem Sub.same{ρ:ai}:Sub ρ ρ:=fun Z Z e=>e
theorem Sub.app{ρ ext:ai}:Sub ρ (ρ++ext):=fun x a e=>by refine a0 List.lookup_append ?_;refine a0 e ?_;rfl
section
variable{W:Wd}{n:Nat}{sc:ah}{ρ₀ ρ:ai}{V:St}
theorem az.sub{φ:aj}{h:Heap}{env:Env}(F:az W φ h env sc ρ)(s:Sub ρ₀ ρ):az W φ h env sc ρ₀ where
 kind:=F.kind
 names:=F.names
 globals:=F.globals
 builtins:=F.builtins
 off:=F.off
 above:=F.above
 there:=F.there
 free:=F.free
 locals:=F.locals.imp fun m k=>k.imp id fun k x a h1 h2=>k x a h1 (s x a h2)
 cells:=fun x hx=>(F.cells x hx).imp fun c k=>k.imp fun v k=>k.imp id fun k=>k.imp id fun k=>k.imp id fun k a h=>k a (s x a h)
 inj:=F.inj
theorem df.sub{ss:List Stmt}{Q:cH->ai->St->Prop}(h:df W n sc ss ρ₀ V Q)(s:Sub ρ₀ ρ):df W n sc ss ρ V Q:=fun A env φ s' R N F=>h A env φ s' R N (F.sub s)
theorem BT.sub{e:Expr}{Q:Bool->St->Prop}(h:BT W n sc e ρ₀ V Q)(s:Sub ρ₀ ρ):BT W n sc e ρ V Q:=fun A env φ s' R N F=>h A env φ s' R N (F.sub s)
theorem AT.sub{t:Expr}{a:a5}{Q:ai->St->Prop}(h:AT W n sc t a ρ₀ V Q)(s:Sub ρ₀ ρ):AT W n sc t a ρ V Q:=fun A env φ s' v R N F r=>h A env φ s' v R N (F.sub s) r
theorem BT.mono{e:Expr}{Q Q':Bool->St->Prop}(h:BT W n sc e ρ V Q)(m:∀ c V,Q c V->Q' c V):BT W n sc e ρ V Q':=fun A env φ s R N F=>(h A env φ s R N F).mono m
theorem df.mono{ss:List Stmt}{Q Q':cH->ai->St->Prop}(h:df W n sc ss ρ V Q)(m:∀ f ρ V,Q f ρ V->Q' f ρ V):df W n sc ss ρ V Q':=fun A env φ s R N F=>(h A env φ s R N F).mono m
@[reducible] noncomputable def yG{ι:Type}(r:ι->ι->Prop)(I:ι->ai->St->Prop)(Q:cH->ai->St->Prop)(i:ι)(f:cH)(ρ:ai)(V:St):Prop:=match f with
  | .next | .cont=>∃ j ρ₀,r j i∧Sub ρ₀ ρ∧I j ρ₀ V
  | .brk=>Q .next ρ V
  | .ret v=>Q (.ret v) ρ V
@[reducible] noncomputable def zx(W:Wd)(n:Nat)(sc:ah){ι:Type}(body:List Stmt)(ρ:ai)(r:ι->ι->Prop)(I:ι->ai->St->Prop)(Q:cH->ai->St->Prop)(i:ι)(c:Bool)(V:St):Prop:=if c=true then df W n sc body ρ V (yG r I Q i)else Q .next ρ V
theorem iL{ι:Type}{r:ι->ι->Prop}(wf:WellFounded r)(I:ι->ai->St->Prop){test:Expr}{body rest:List Stmt}{pos:Pos}{Q:cH->ai->St->Prop}
 (turn:∀ i ρ V,I i ρ V->BT W n sc test ρ V (zx W n sc body ρ r I (t6 W n sc rest Q) i)){i:ι}(h:I i ρ V):ST W n sc (.While test body [] pos) ρ V (t6 W n sc rest Q):=by
 refine oQ wf (fun i ρ V=>∃ ρ₀,Sub ρ₀ ρ∧I i ρ₀ V) (fun i ρ V h=>?_) (a6 ρ .same h)
 refine a7 h fun ρ₀ s h=>?_
 refine((turn i ρ₀ V h).sub s).mono fun c V' k=>?_
 cases c with
 | false=>exact df.sub (show df W n sc rest ρ₀ V' Q from k) s
 | true=>
   refine(df.sub k s).mono fun f ρ' V'' q=>?_
   cases f with
   | next=>refine bR q fun j ρ₁ hj s1 q=>?_;exact⟨j,hj,ρ₁,s1,q⟩
   | cont=>refine bR q fun j ρ₁ hj s1 q=>?_;exact⟨j,hj,ρ₁,s1,q⟩
   | brk=>exact q
   | ret v=>exact q
theorem n5{α:Type}{target:Expr}{body rest:List Stmt}{a:a5}{all:List a5}{Q:cH->ai->St->Prop}(f:α->a5)(l:List α)(J:List α->List α->ai->St->Prop)(h0:∀ ρ V,J l [] ρ V->df W n sc rest ρ V Q)
 (h1:∀ dn x xs ρ V (K:ai->St->Prop),l=dn++x::xs->J dn (x::xs) ρ V->(∀ ρ₀ ρ' V',Sub ρ₀ ρ'->J (dn++[x]) xs ρ₀ V'->K ρ' V')->AT W n sc target (f x) ρ V (wZ W n sc body a all (t6 W n sc rest Q) K))(h:J [] l ρ V):n6 W n sc target body a all (t6 W n sc rest Q) (l.map f) ρ V:=by
 refine p8 (fun xs ρ' V=>∃ dn l' ρ,xs=l'.map f∧l=dn++l'∧Sub ρ ρ'∧J dn l' ρ V) (fun ρ' V h=>?_) (fun x xs ρ' V K h hK=>?_) _ _ _ (vU ([]) l ρ rfl rfl .same h)
 ·refine oz h fun dn l' ρ e e' s h=>?_
  obtain rfl:=List.map_eq_nil_iff.mp e.symm
  rw[List.append_nil] at e'
  exact df.sub (h0 ρ V (e'▸h)) s
 ·refine oz h fun dn l' ρ e e' s h=>?_
  cases l' with
  | nil=>cases e
  | cons y l'=>
    rw[List.map_cons] at e
    injection e with e1 e2
    refine a0 e1 ?_
    exact(h1 dn y l' ρ V K e' h fun ρ₀ ρ₂ V₂ s₂ h₂=>hK ρ₂ V₂ (vU (dn++[y]) l' ρ₀ e2 (by refine a0 e' ?_;refine a0 (List.append_assoc ..) ?_;rfl) s₂ h₂)).sub s
theorem dE{α:Type}{target:Expr}{body rest:List Stmt}{a:a5}{all:List a5}{Q:cH->ai->St->Prop}(f:α->a5)(l:List α)(J:List α->List α->St->Prop)(h0:∀ V,J l [] V->df W n sc rest ρ V Q)
 (h1:∀ dn x xs V (K:ai->St->Prop),l=dn++x::xs->J dn (x::xs) V->(∀ ρ' V',Sub ρ ρ'->J (dn++[x]) xs V'->K ρ' V')->AT W n sc target (f x) ρ V (wZ W n sc body a all (t6 W n sc rest Q) K))(h:J [] l V):n6 W n sc target body a all (t6 W n sc rest Q) (l.map f) ρ V:=
 n5 f l (fun dn xs ρ' V=>ρ'=ρ∧J dn xs V) (fun Z V h=>h.1▸h0 V h.2) (fun dn x xs Z V K e h hK=>h.1▸h1 dn x xs V K e h.2 fun ρ' V' s j=>hK ρ ρ' V' s ⟨rfl,j⟩) ⟨rfl,h⟩
theorem bN{α:Type}{l:List α}{c:Nat}{d:α}(h:l[c]? =some d):c<l.length:=(List.getElem?_eq_some_iff.mp h).1
theorem wn{st:Stmt}{rest:List Stmt}{Q:cH->ai->St->Prop}(P:St->Prop)(h:ST W n sc st ρ V (fun f ρ' V'=>f=.next∧ρ'=ρ∧P V'))(g:∀ V',P V'->df W n sc rest ρ V' Q):df W n sc (st::rest) ρ V Q:=by
 refine iK fun A env φ s R N F=>(h A env φ s R N F).mono fun f ρ' V' k=>?_
 refine a3 k ?_;clear k;intro z0 e k;subst z0
 exact e▸g V' k
theorem di{α β:Type}{f:α->β}{l:List α}{y:β}{ys:List β}(h:l.map f=y::ys):∃ x xs,l=x::xs∧y=f x∧ys=xs.map f:=by
 cases l with
 | nil=>cases h
 | cons x xs=>injection h with h1 h2;exact d7 x xs rfl h1.symm h2.symm
end
theorem b8.join{V1 V2:St}{G G':aU}(g:b8 V1 G)(x:aK V1 [] V2 (aU.keys G'))(g':b8 V2 G'):b8 V2 (G++G'):=by
 refine⟨fun p hp=>?_,?_⟩
 ·rcases List.mem_append.mp hp with hp | hp
  ·exact(g.other x fun Z Z=>List.not_mem_nil).at' p hp
  ·exact g'.at' p hp
 ·unfold aU.keys
  refine a0 List.map_append ?_;refine bt List.nodup_append ?_
  refine i3 g.nodup g'.nodup (fun a ha b hb e=>?_)
  subst e
  have h1:=g.lt ha
  rcases x.fresh a hb with h | h
  ·cases h
  ·exact absurd (Nat.lt_of_lt_of_le h1 h) (Nat.lt_irrefl _)
theorem aK.join{V0 V1 V2:St}{F0 F F':List Nat}(x:aK V0 F0 V1 F)(y:aK V1 [] V2 F'):aK V0 F0 V2 (F++F'):=
 ⟨a9 x.len y.len,fun q h1 h2=>(y.keep q (Nat.lt_of_lt_of_le h1 x.len) List.not_mem_nil).trans (x.keep q h1 h2),fun q hq=>(List.mem_append.mp hq).elim (x.fresh q) fun h=>(y.fresh q h).elim (fun h=>nomatch h) fun h=>.inr (a9 x.len h)⟩
theorem aK.setH{V0 V:St}{F G:List Nat}{p:Nat}(x:aK V0 F V G)(h:p∈G)(o:af):aK V0 F (V.set p o) G:=x.trans (.set h o)
noncomputable def aU.pick(G:aU)(is:List Nat):aU:=is.filterMap fun i=>G[i]?
theorem aU.pick_mem{G:aU}{is:List Nat}{q:Nat}(h:q∈aU.keys (G.pick is)):∃ i∈is,(aU.keys G)[i]? =some q:=by
 refine a7 (List.mem_map.mp h) fun p hp z2=>?_;subst z2
 refine a7 (List.mem_filterMap.mp hp) fun i hi e=>?_
 exact a6 i hi (by unfold aU.keys;refine a0 List.getElem?_map ?_;refine a0 e ?_;rfl)
theorem aU.pick_sub{G:aU}{is:List Nat}{q:Nat}(h:q∈aU.keys (G.pick is)):q∈aU.keys G:=(aU.pick_mem h).elim fun Z e=>List.mem_of_getElem? e.2
theorem b8.inj{V:St}{G:aU}(h:b8 V G){i j q:Nat}(a:(aU.keys G)[i]? =some q)(b:(aU.keys G)[j]? =some q):i=j:=
 (List.getElem?_inj (List.getElem?_eq_some_iff.mp a).1 h.nodup).mp (a.trans b.symm)
theorem b8.apart{V:St}{G:aU}(h:b8 V G)(is js:List Nat)(d:∀ i∈is,i∉js):∀ q∈aU.keys (G.pick is),q∉aU.keys (G.pick js):=fun q a b=>by
 refine a7 (aU.pick_mem a) fun i hi e=>?_
 refine a7 (aU.pick_mem b) fun j hj e'=>?_
 exact d i hi (h.inj e e'▸hj)
theorem b8.pick{V:St}{G:aU}(h:b8 V G):∀ is:List Nat,is.Nodup->b8 V (G.pick is)
 | [],_=>⟨fun Z h=>(nomatch h),List.Pairwise.nil⟩
 | i::is,nd=>by
   have ih:=h.pick is (List.nodup_cons.mp nd).2
   unfold aU.pick at ih ⊢
   refine a0 List.filterMap_cons ?_
   cases e:G[i]? with
   | none=>exact ih
   | some p=>
     refine⟨fun q hq=>(List.mem_cons.mp hq).elim (fun e'=>e'▸h.at' p (List.mem_of_getElem? e)) (ih.at' q),List.nodup_cons.mpr ⟨fun z=>?_,ih.nodup⟩⟩
     refine a7 (aU.pick_mem z) fun j hj e'=>?_
     exact(List.nodup_cons.mp nd).1 (h.inj (q:=p.1) (by unfold aU.keys;rewrite[List.getElem?_map];refine a0 e ?_;rfl) e'▸hj)
theorem jR{ks:List Int}{l:List Nat}(pk:ks.Perm (l.map Int.ofNat))(po:ks.Pairwise (fun x y=>x≤y)):∃ kn:List Nat,aL ks=nats kn∧kn.Perm l∧kn.Pairwise (fun x y=>x≤y):=by
 have nn:∀ y∈ks,0≤y:=fun y hy=>by
  refine a7 (List.mem_map.mp (pk.mem_iff.mp hy)) fun k Z z2=>?_;subst z2
  exact Int.natCast_nonneg k
 refine aP (ks.map Int.toNat) ?_ ?_ ?_
 ·unfold nats
  refine a0 List.map_map ?_
  refine List.map_congr_left fun y hy=>?_
  have:=nn y hy
  show a5.int y=.int (Int.ofNat y.toNat)
  congr 1
  show y=(y.toNat:Int)
  lia
 ·have:=pk.map Int.toNat
  simpa [List.map_map,Function.comp_def]using this
 ·refine bt List.pairwise_map ?_
  exact po.imp_of_mem fun{a b} ha hb hab=>by lia
theorem aK.setNew{V V':St}{fp fp':List Nat}{p:Nat}(x:aK V fp V' fp')(h:V.length≤p∨p∈fp)(o:af):aK V fp (V'.set p o) fp':=
 ⟨by simp[x.len],fun q hq hn=>by refine a0 (List.getElem?_set_ne (fun e=>by subst e;rcases h with h | h;exact absurd (Nat.lt_of_lt_of_le hq h) (Nat.lt_irrefl _);exact hn h)) ?_;exact x.keep q hq hn,x.fresh⟩
theorem aK.grow'{V V':St}{fp fp':List Nat}(x:aK V fp V' fp')(o:af):aK V fp (V'++[o]) fp':=
 ⟨by simp;have:=x.len;exact Nat.le_add_right_of_le this,fun q hq hn=>by refine a0 (List.getElem?_append_left (Nat.lt_of_lt_of_le hq x.len)) ?_;exact x.keep q hq hn,x.fresh⟩
theorem aK.widen{V V':St}{fp:List Nat}(x:aK V [] V' []):aK V fp V' fp:=⟨x.len,fun q hq Z=>x.keep q hq List.not_mem_nil,fun Z h=>.inl h⟩
theorem vq{α:Type}:∀ {l:List α},0<l.length->∃ ws m,l=ws++[m]:=fun{l} h=>jZ l.dropLast (l.getLast (fun e=>by rw[e] at h;exact Nat.lt_irrefl _ h)) ((List.dropLast_concat_getLast _).symm)
theorem rj{W:Wd}{n:Nat}{sc:ah}{ρ:ai}{V:St}{e:Expr}{Q:Bool->St->Prop}(b:Bool)(h:∀ K:Bool->St->Prop,K b V->BT W n sc e ρ V K)(q:Q b V):BT W n sc e ρ V Q:=h Q q
noncomputable def qK(f:Int->a5):a5->a5
 | .int i=>f i
 | _=>.none
theorem w7{α:Type}{a:α}{l:List α}{P:α->Prop}:(∃ x,x∈a::l∧P x)↔P a∨∃ x,x∈l∧P x:=
 ⟨fun⟨x,h,p⟩=>(List.mem_cons.mp h).elim (fun e=>.inl (e▸p)) fun h=>.inr (a6 x h p),fun h=>h.elim (fun p=>a6 a (.head _) p) fun⟨x,h,p⟩=>(a6 x (.tail _ h) p)⟩
theorem w5{α:Type}{a:α}{l:List α}{P:α->Prop}:(∃ x,x∈l++[a]∧P x)↔(∃ x,x∈l∧P x)∨P a:=
 ⟨fun⟨x,h,p⟩=>(List.mem_append.mp h).elim (fun h=>.inl (a6 x h p)) fun e=>.inr (List.mem_singleton.mp e▸p),fun h=>h.elim (fun⟨x,h,p⟩=>a6 x (List.mem_append_left _ h) p) fun p=>(a6 a (List.mem_append_right _ (.head _)) p)⟩
theorem r7{W:Wd}{n:Nat}{sc:ah}{ρ:ai}{V:St}{e:Expr}{Q:a5->St->Prop}(a:a5)(h:∀ K:a5->St->Prop,K a V->ET W n sc e ρ V K)(q:Q a V):ET W n sc e ρ V Q:=h Q q
theorem kW{α:Type}{l:List α}(h:l.length≤2):l=[]∨(∃ x,l=[x])∨∃ x y,l=[x,y]:=by
 rcases Nat.lt_or_eq_of_le h with h | h
 ·rcases Nat.lt_or_eq_of_le (Nat.le_of_lt_succ h)with h | h
  ·exact .inl (List.eq_nil_of_length_eq_zero (Nat.lt_one_iff.mp h))
  ·exact .inr (.inl (eE h))
 ·exact .inr (.inr (fJ h))
theorem ao{n:Nat}(h:Nat.ble n 1000000=true):n≤1000000:=Nat.le_of_ble_eq_true h
end
open PySem PySem.W PySem.Calls PySem.Spec PyProof.Rows
set_option compiler.extract_closed false
local macro_rules | `(tactic| walk_at "m")=> `(tactic| ((first
 | (with_reducible first | refine xS ?_ | refine xQ ?_ | refine wA ?_ | refine wF ?_ | refine wH ?_ | refine iK ?_ | refine sH ?_ | refine uL ?_ | refine qX ?_ | refine fR ?_ | refine qp ?_ | refine xJ ?_ | refine pi ?_ | refine wP ?_ | refine jq ?_ | refine sQ ?_ | refine sL ?_ | refine wM ?_ | refine sX ?_ | refine v8 ?_ | refine sZ ?_ | refine v9 ?_ | refine wB ?_)
 | focus((with_reducible refine cF (a:=?_) ?_ ?_ ?_ ?_);rotate_left 1;rfl;rotate_left 1;rfl;rfl)
 | focus((with_reducible first | refine uT ?_ ?_ | refine wz ?_ ?_ | refine n8 ?_ ?_ | refine wN ?_ ?_ | refine sK ?_ ?_ | refine wE ?_ ?_ | refine uM ?_ ?_);rotate_left 1;rfl)
 | focus((with_reducible refine kE ?_ ?_ ?_ ?_);rotate_left 1;rfl;rfl;rfl)
 | focus((with_reducible refine sO ?_ ?_ ?_ ?_ ?_);rotate_left 1;rfl;rfl;decide;rfl)
 | focus((with_reducible refine uR (f:=?_) ?_ ?_ ?_ ?_ ?_ ?_);rotate_left 1;apply k9;(repeat (with_reducible first | exact List.mem_cons_self | apply List.mem_cons_of_mem));rfl;rotate_left 1;rfl;rfl;rfl)
 | focus((with_reducible refine yA (C:=?_) (as:=?_) (a:=?_) ?_ ?_ ?_ ?_ ?_);rotate_left 3;assumption;rfl;apply aG;rfl;rfl)
 | focus((with_reducible refine yb (C:=?_) (as:=?_) ?_ ?_ ?_ ?_ ?_);rotate_left 2;assumption;decide;apply aG;rfl;rfl)
 | focus((with_reducible refine yh (C:=?_) (f:=?_) (as:=?_) ?_ ?_ ?_ ?_ ?_ ?_ ?_);rotate_left 3;assumption;rfl;apply aG;rfl;rfl;rfl;rfl)
 | focus((with_reducible refine xv (xs:=?_) (id:=?_) ?_ ?_ ?_ ?_);rotate_left 2;assumption;(with_reducible first | exact PySem.F.slot_list_append | exact PySem.F.slot_list_extend | exact PySem.F.slot_list_pop);(with_reducible first | exact PySem.F.type_list_append | exact PySem.F.type_list_extend | exact PySem.F.type_list_pop))
 | focus((with_reducible refine xw (xs:=?_) (id:=?_) ?_ ?_ ?_ ?_);rotate_left 2;assumption;(with_reducible first | exact PySem.F.slot_dict_get | exact PySem.F.slot_dict_pop);(with_reducible first | exact PySem.F.type_dict_get | exact PySem.F.type_dict_pop))
 | focus((with_reducible refine xu (xs:=?_) (id:=?_) ?_ ?_ ?_ ?_);rotate_left 2;assumption;with_reducible exact PySem.F.slot_dict_setdefault;with_reducible exact PySem.F.type_dict_setdefault));(repeat (with_reducible first | refine kD ?_ | refine qX ?_))))
local macro_rules | `(tactic| kd_p)=> `(tactic| repeat walk_at "m")
section
open PySem PySem.W PySem.Calls PySem.Spec PyProof.Rows
section
variable{prog:Program}{w:World}{H:Heap}{mg mb:Str->Option Value}
noncomputable def nN(par:List Nat):Nat->Nat->Nat
 | 0,a=>a
 | n+1,a=>(par[a]?).elim a fun p=>if p<a then nN par n p else a
noncomputable def a8(par:List Nat)(a:Nat):Nat:=nN par (a+1) a
structure dC(par:List Nat):Prop where
 le:∀ (i p:Nat),par[i]? =some p->p≤i
theorem pN{par:List Nat}:∀ n m a:Nat,a<n->a<m->nN par n a=nN par m a:=by
 intro n
 induction n with
 | zero=>intro m a h _;cases h
 | succ n ih=>
   intro m a hn hm
   cases m with
   | zero=>cases hm
   | succ m=>
     show(par[a]?).elim a _=(par[a]?).elim a _
     cases par[a]? with
     | none=>rfl
     | some p=>exact ite_congr rfl (fun e=>ih m p (Nat.lt_of_lt_of_le e (Nat.le_of_lt_succ hn)) (Nat.lt_of_lt_of_le e (Nat.le_of_lt_succ hm))) fun Z=>rfl
theorem ji{par:List Nat}{a:Nat}{o:Option Nat}(h:par[a]? =o):a8 par a=o.elim a fun p=>if p<a then nN par a p else a:=h▸rfl
theorem cz{par:List Nat}{a p:Nat}(h:par[a]? =some p)(hne:p<a):a8 par a=a8 par p:=
 (ji h).trans ((if_pos hne).trans (pN _ _ _ hne (Nat.lt_succ_self _)))
theorem qH{par:List Nat}{a p:Nat}(h:par[a]? =some p)(hne:¬p<a):a8 par a=a:=(ji h).trans (if_neg hne)
theorem ay{par:List Nat}{a:Nat}(h:par[a]? =some a):a8 par a=a:=qH h (Nat.lt_irrefl _)
theorem qG{par:List Nat}(a:Nat):a8 par a≤a:=by
 induction a using Nat.strongRecOn with
 | _ a ih=>
   cases h:par[a]? with
   | none=>exact Nat.le_of_eq (ji h)
   | some p=>exact(Nat.lt_or_ge p a).elim (fun e=>cz h e▸Nat.le_of_lt (Nat.lt_of_le_of_lt (ih p e) e)) fun e=>Nat.le_of_eq (qH h (Nat.not_lt.mpr e))
theorem bL{par:List Nat}{a:Nat}(ha:a<par.length):a8 par a<par.length:=Nat.lt_of_le_of_lt (qG a) ha
theorem bj{par:List Nat}(ok:dC par){a:Nat}(ha:a<par.length):par[a8 par a]? =some (a8 par a):=by
 induction a using Nat.strongRecOn with
 | _ a ih=>
   obtain⟨p,hp⟩:∃ p,par[a]? =some p:=⟨_,List.getElem?_eq_getElem ha⟩
   by_cases h:p<a
   ·refine a0 (cz hp h) ?_;exact ih p h (Nat.lt_trans h ha)
   ·have:p=a:=Nat.le_antisymm (ok.le _ _ hp) (Nat.le_of_not_lt h)
    subst this
    refine a0 (ay hp) ?_;exact hp
theorem c5{par:List Nat}(ok:dC par){a:Nat}(ha:a<par.length):a8 par (a8 par a)=a8 par a:=ay (bj ok ha)
structure Un where
 par:List Nat
 lots:List (List Nat)
 merged:List a5
noncomputable def c0(u pa lo me:Nat)(lp:List Nat)(S:Un):aU:=
 [(u,.inst 469 [("above",.ref pa),("lots",.ref lo),("merged",.ref me)]),(pa,.list (nats S.par)),(lo,.list (lp.map .ref)),(me,.list S.merged)]++lp.zip (S.lots.map fun l=>.list (nats l))
theorem fA{u pa lo me:Nat}{lp:List Nat}{S:Un}(hl:lp.length=S.lots.length):aU.keys (c0 u pa lo me lp S)=[u,pa,lo,me]++lp:=by
 unfold c0 aU.keys
 refine a0 List.map_append ?_;refine a0 (List.map_fst_zip (by simp[hl])) ?_
 rfl
theorem rE(u pa lo me:Nat)(lp:List Nat)(S:Un)(q:Nat)(m:List Nat)(hl:lp.length=S.lots.length):
 ((c0 u pa lo me lp S++[(q,af.list (nats m))]).set 2 (lo,af.list ((lp++[q]).map .ref)))=c0 u pa lo me (lp++[q]) {S with lots:=S.lots++[m]}:=by
 unfold c0
 have:(lp++[q]).zip ((S.lots++[m]).map fun l=>af.list (nats l))=lp.zip (S.lots.map fun l=>af.list (nats l))++[(q,.list (nats m))]:=by
  refine a0 List.map_append ?_;refine a0 (List.zip_append (by simp[hl])) ?_;rfl
 refine a0 this ?_
 rfl
theorem fM{n:Nat}{V:St}{u pa lo me:Nat}{par:List Nat}{a:Nat}{Q:a5->St->Prop}(hu:V[u]? =some (.inst 469 [("above",.ref pa),("lots",.ref lo),("merged",.ref me)]))(hp:V[pa]? =some (.list (nats par)))(ok:dC par)(ha:a<par.length)(hl:par.length≤1000)
 (q:Q (.int (Int.ofNat (a8 par a))) V):CC (W0 prog w H mg mb) (n+1) (.ref 426) [.ref u,.int (Int.ofNat a)] V Q:=by
 refine ag (ps:=["self","a"]) (by rfl) (by rfl) ?_ (by rfl) (by decide) (by rfl) (by decide) (by rfl) ?_ (by rfl) (by rfl) (by rfl)
 ·exact dj fun Z Z=>rfl
 ·walk_at "m"
  refine lV (ι:=Nat) (r:=(fun x y=>x<y)) Nat.lt_wfRel.wf (fun k ρ V'=>k<par.length∧a8 par k=a8 par a∧V'=V∧ρ=([("self",.ref u),("a",.int (Int.ofNat k))]:ai)) ?_ (i:=a) (i4 ha rfl rfl rfl)
  rintro k ρ V' ⟨hk,hr,rfl,rfl⟩
  kd_p
  obtain⟨p,hp'⟩:∃ p,par[k]? =some p:=⟨_,List.getElem?_eq_getElem hk⟩
  refine bE hp (by exact a9 (Nat.le_of_lt hk) (a9 hl (by decide))) (hF hp') ?_
  kd_p
  refine a6 _ dv ?_
  by_cases hpk:p=k
  ·subst hpk
   refine ite_neg (by simp) ?_
   kd_p
   rw[← hr,ay hp'] at q
   exact q
  ·have hlt:p<k:=Nat.lt_of_le_of_ne (ok.le _ _ hp') hpk
   refine ite_pos (by simp;lia) ?_
   kd_p
   refine bE hp (by exact a9 (Nat.le_of_lt hk) (a9 hl (by decide))) (hF hp') ?_
   kd_p
   exact vV p hlt (by exact a9 hlt (Nat.le_of_lt hk)) (by refine aX hr ?_;refine a0 (cz hp' hlt) ?_;rfl) rfl rfl
theorem rX{n:Nat}{V:St}{u pa lo me:Nat}{lp:List Nat}{S:Un}{Q:a5->St->Prop}(h:b8 V (c0 u pa lo me lp S))(hl:lp.length=S.lots.length)(b1:S.par.length≤1000)(b2:S.lots.length≤1000)
 (q:∀ V' lp',b8 V' (c0 u pa lo me lp' {S with par:=S.par++[S.par.length],lots:=S.lots++[[S.lots.length]]})->lp'.length=S.lots.length+1->aK V (aU.keys (c0 u pa lo me lp S)) V' (aU.keys (c0 u pa lo me lp' {S with par:=S.par++[S.par.length],lots:=S.lots++[[S.lots.length]]}))->Q (.int (Int.ofNat S.par.length)) V'):
 CC (W0 prog w H mg mb) (n+1) (.ref 412) [.ref u] V Q:=by
 refine ag (ps:=["self"]) (by rfl) (by rfl) ?_ (by rfl) (by decide) (by rfl) (by decide) (by rfl) ?_ (by rfl) (by rfl) (by rfl)
 ·exact f9 fun Z=>rfl
 ·have hu:=h.get (i:=0) (p:=u) rfl
  have hp:=h.get (i:=1) (p:=pa) rfl
  have hlo:=h.get (i:=2) (p:=lo) rfl
  kd_p
  refine bo hp (bm _) (by exact a9 b1 (by decide)) ?_
  kd_p
  refine uW hp (by exact a9 b1 (by decide)) ?_
  have h1:b8 (V.set pa (.list (nats (S.par++[S.par.length])))) (c0 u pa lo me lp {S with par:=S.par++[S.par.length]}):=h.set (i:=1) _ rfl
  have x1:aK V (aU.keys (c0 u pa lo me lp S)) (V.set pa (.list (nats (S.par++[S.par.length])))) (aU.keys (c0 u pa lo me lp S)):=.set (by simp[c0,aU.keys]) _
  generalize V.set pa (.list (nats (S.par++[S.par.length])))=V₁ at h1 x1 ⊢
  have hu1:=h1.get (i:=0) (p:=u) rfl
  have hp1:=h1.get (i:=1) (p:=pa) rfl
  have hlo1:=h1.get (i:=2) (p:=lo) rfl
  clear hu hp hlo
  kd_p
  refine iO (.list (nats [S.lots.length])) ?_
  kd_p
  refine bo hlo1 (show _=S.lots.length by simp[hl]) (by exact a9 b2 (by decide)) ?_
  kd_p
  refine i3 (by exact Nat.succ_pos _) rfl ?_
  kd_p
  have h2:=h1.push (.list (nats [S.lots.length]))
  have x2:=x1.trans (aK.push (.list (nats [S.lots.length])))
  have e2:(V₁++[af.list (nats [S.lots.length])])[lo]? =some (.list (lp.map .ref)):=h2.get (i:=2) rfl
  refine b9 (.list ((lp++[V₁.length]).map .ref)) e2 (by exact a9 (Nat.le_of_eq (List.length_map ..)) (a9 (Nat.le_of_eq hl) (a9 b2 (by decide)))) (by simp) ?_
  have h3:=h2.set (i:=2) (.list ((lp++[V₁.length]).map .ref)) rfl
  rw[rE u pa lo me lp {S with par:=S.par++[S.par.length]} V₁.length [S.lots.length] hl] at h3
  have x3:=x2.trans (aK.set (p:=lo) (by simp[c0,aU.keys]) (.list ((lp++[V₁.length]).map .ref)))
  have ek:aU.keys (c0 u pa lo me lp S)++[V₁.length]=aU.keys (c0 u pa lo me (lp++[V₁.length]) {S with par:=S.par++[S.par.length],lots:=S.lots++[[S.lots.length]]}):=by
   refine a0 (fA hl) ?_;refine a0 (fA (by simp[hl])) ?_;exact rfl
  rw[ek] at x3
  generalize (V₁++[af.list (nats [S.lots.length])]).set lo (.list ((lp++[V₁.length]).map .ref))=V₃ at h3 x3 ⊢
  have hu3:=h3.get (i:=0) (p:=u) rfl
  have hp3:=h3.get (i:=1) (p:=pa) rfl
  clear hu1 hp1 hlo1 e2
  kd_p
  refine bo hp3 (show _=S.par.length+1 by simp) (by exact a9 (Nat.add_le_add_right b1 _) (by decide)) ?_
  kd_p
  refine a6 _ dK ?_
  have:=q V₃ _ h3 (by simp[hl]) x3
  have e:(Int.ofNat (S.par.length+1) - 1)=Int.ofNat S.par.length:=by simp
  refine a0 e ?_
  exact this
theorem gO{u pa lo me:Nat}{lp:List Nat}{S:Un}{i p:Nat}{l:List Nat}(hp:lp[i]? =some p)(hl:S.lots[i]? =some l):(c0 u pa lo me lp S)[4+i]? =some (p,.list (nats l)):=by
 unfold c0
 refine a0 (List.getElem?_append_right (by simp)) ?_
 simp only[List.length_cons,List.length_nil,Nat.add_sub_cancel_left]
 refine bt List.getElem?_zip_eq_some ?_
 simp[hp,hl]
theorem vd{α β:Type}(l:List α)(m:List β)(i:Nat)(p:α)(b:β)(hp:l[i]? =some p):(l.zip m).set i (p,b)=l.zip (m.set i b):=by
 induction l generalizing m i with
 | nil=>cases hp
 | cons x l ih=>
   cases m with
   | nil=>exact rfl
   | cons y m=>
     cases i with
     | zero=>simp at hp;subst hp;rfl
     | succ i=>simp at hp;simp[ih m i hp]
theorem nw{u pa lo me:Nat}{lp:List Nat}{S:Un}{i p:Nat}(l':List Nat)(hp:lp[i]? =some p):(c0 u pa lo me lp S).set (4+i) (p,.list (nats l'))=c0 u pa lo me lp {S with lots:=S.lots.set i l'}:=by
 unfold c0
 refine a0 (List.set_append_right _ _ (by simp)) ?_
 simp only[List.length_cons,List.length_nil,Nat.add_sub_cancel_left]
 refine a0 (vd _ _ _ _ _ hp) ?_;refine a0 List.map_set ?_;rfl
theorem vn{l:List Nat}{x y:Nat}(hp:l.Perm [x,y])(ho:l.Pairwise (fun x y=>x≤y)):l=[min x y,max x y]:=by
 have hl:=hp.length_eq
 match l,hl with
 | [p,q],_=>
   have hpq:p≤q:=by simpa using ho
   have m1:p∈[x,y]:=hp.mem_iff.mp (.head _)
   have m2:q∈[x,y]:=hp.mem_iff.mp (.tail _ (.head _))
   have m3:x∈[p,q]:=hp.mem_iff.mpr (.head _)
   have m4:y∈[p,q]:=hp.mem_iff.mpr (.tail _ (.head _))
   simp at m1 m2 m3 m4
   have e1:p=min x y:=by lia
   have e2:q=max x y:=by lia
   refine a0 e1 ?_;refine a0 e2 ?_;rfl
noncomputable def Un.merge(S:Un)(kept gone:Nat):Un:={par:=S.par.set gone kept,lots:=S.lots.set kept (S.lots.getD kept []++S.lots.getD gone []),merged:=S.merged++[.tup (nats [kept,gone])]}
theorem pZ{n:Nat}{V:St}{u pa lo me:Nat}{lp:List Nat}{S:Un}{a b:Nat}{Q:a5->St->Prop}(h:b8 V (c0 u pa lo me lp S))(hl:lp.length=S.lots.length)(hpl:S.par.length=S.lots.length)(ok:dC S.par)(ha:a<S.par.length)(hb:b<S.par.length)(b1:S.par.length≤1000)
 (b2:∀ l∈S.lots,l.length≤1000)(b3:S.merged.length≤1000)
 (q1:a8 S.par a=a8 S.par b->Q .none V)
 (q2:a8 S.par a≠a8 S.par b->∀ kept gone,kept=min (a8 S.par a) (a8 S.par b)->gone=max (a8 S.par a) (a8 S.par b)->∀ V',b8 V' (c0 u pa lo me lp (S.merge kept gone))->aK V (aU.keys (c0 u pa lo me lp S)) V' (aU.keys (c0 u pa lo me lp S))->
  Q (.tup (nats [kept,gone])) V'):
 CC (W0 prog w H mg mb) (n+2) (.ref 433) [.ref u,.int (Int.ofNat a),.int (Int.ofNat b)] V Q:=by
 refine ag (ps:=["self","a","b"]) (by rfl) (by rfl) ?_ (by rfl) (by decide) (by rfl) (by decide) (by rfl) ?_ (by rfl) (by rfl) (by rfl)
 ·exact eF fun Z Z Z=>rfl
 ·have hu:=h.get (i:=0) (p:=u) rfl
  have hp:=h.get (i:=1) (p:=pa) rfl
  have hlo:=h.get (i:=2) (p:=lo) rfl
  have hme:=h.get (i:=3) (p:=me) rfl
  kd_p
  refine ch ?_
  kd_p
  refine(fM hu hp ok ha b1 ?_).call
  kd_p
  refine(fM hu hp ok hb b1 ?_).call
  kd_p
  refine⟨ao rfl,?_⟩
  kd_p
  have ram:=bL ha
  have rbm:=bL hb
  generalize a8 S.par a=ra at q1 q2 ram ⊢
  generalize a8 S.par b=rb at q1 q2 rbm ⊢
  refine kL (a:=.frz [.int (Int.ofNat ra),.int (Int.ofNat rb)]) (l:=[ra,rb]) rfl (by simp) fun l' hp' ho'=>?_
  obtain rfl:=vn hp' ho'
  have hkl:min ra rb<S.par.length:=by lia
  have hgl:max ra rb<S.par.length:=by lia
  refine fy (xs:=nats [min ra rb,max ra rb]) rfl rfl ?_ rfl
  show AT _ _ _ _ _ _ _ _
  walk_at "m"
  show AT _ _ _ _ _ _ _ _
  walk_at "m"
  show df _ _ _ _ _ _ _
  kd_p
  refine a6 _ aN ?_
  by_cases hab:ra=rb
  ·refine ite_pos (by simp;lia) ?_
   kd_p
   exact q1 hab
  ·refine ite_neg (by simp;lia) ?_
   have q2:=q2 hab _ _ rfl rfl
   have hkg:min ra rb≠max ra rb:=by lia
   clear hab ram rbm q1
   generalize min ra rb=kept at q2 hkg hkl hgl ⊢
   generalize max ra rb=gone at q2 hkg hgl ⊢
   kd_p
   refine lB (.list (nats (S.par.set gone kept))) hp (by refine a0 (bm ..) ?_;exact hgl) (by refine a0 (bm ..) ?_;exact a9 b1 (by decide)) (by refine a0 (tL ..) ?_;rfl) ?_
   have h1:b8 (V.set pa (.list (nats (S.par.set gone kept)))) (c0 u pa lo me lp {S with par:=S.par.set gone kept}):=h.set (i:=1) _ rfl
   have x1:aK V (aU.keys (c0 u pa lo me lp S)) (V.set pa (.list (nats (S.par.set gone kept)))) (aU.keys (c0 u pa lo me lp S)):=.set (by simp[c0,aU.keys]) _
   generalize V.set pa (.list (nats (S.par.set gone kept)))=V₁ at h1 x1 ⊢
   clear hu hp hlo hme
   have hu:=h1.get (i:=0) (p:=u) rfl
   have hlo:=h1.get (i:=2) (p:=lo) rfl
   obtain⟨pk,hpk⟩:∃ p,lp[kept]? =some p:=⟨_,List.getElem?_eq_getElem (by exact a9 hkl (a9 (Nat.le_of_eq hpl) (fX hl)))⟩
   obtain⟨pg,hpg⟩:∃ p,lp[gone]? =some p:=⟨_,List.getElem?_eq_getElem (by exact a9 hgl (a9 (Nat.le_of_eq hpl) (fX hl)))⟩
   obtain⟨lk,hlk⟩:∃ l,S.lots[kept]? =some l:=⟨_,List.getElem?_eq_getElem (by exact a9 hkl (Nat.le_of_eq hpl))⟩
   obtain⟨lg,hlg⟩:∃ l,S.lots[gone]? =some l:=⟨_,List.getElem?_eq_getElem (by exact a9 hgl (Nat.le_of_eq hpl))⟩
   have hek:=h1.get (gO (S:={S with par:=S.par.set gone kept}) hpk hlk)
   have heg:=h1.get (gO (S:={S with par:=S.par.set gone kept}) hpg hlg)
   kd_p
   refine bE hlo (by exact a9 (Nat.le_of_lt hkl) (a9 b1 (by decide))) (show _=some (a5.ref pk) by refine a0 List.getElem?_map ?_;refine a0 hpk ?_;rfl) ?_
   kd_p
   refine bE hlo (by exact a9 (Nat.le_of_lt hgl) (a9 b1 (by decide))) (show _=some (a5.ref pg) by refine a0 List.getElem?_map ?_;refine a0 hpg ?_;rfl) ?_
   kd_p
   have lk1:=b2 _ (List.mem_of_getElem? hlk)
   have lg1:=b2 _ (List.mem_of_getElem? hlg)
   refine kN (.list (nats (lk++lg))) hek heg (by refine a0 (bm ..) ?_;refine a0 (bm ..) ?_;exact a9 (Nat.add_le_add lk1 lg1) (by decide)) (by refine a0 (dG ..) ?_;rfl) ?_
   have h2:=h1.set (o':=.list (nats (lk++lg))) (gO (S:={S with par:=S.par.set gone kept}) hpk hlk)
   rw[nw (lk++lg) hpk] at h2
   have x2:=x1.trans (aK.set (p:=pk) (by refine a0 (fA hl) ?_;exact List.mem_append_right _ (List.mem_of_getElem? hpk)) (.list (nats (lk++lg))))
   generalize V₁.set pk (.list (nats (lk++lg)))=V₂ at h2 x2 ⊢
   clear hu hlo hek heg
   have hu:=h2.get (i:=0) (p:=u) rfl
   have hme:=h2.get (i:=3) (p:=me) rfl
   kd_p
   refine⟨ao rfl,?_⟩
   kd_p
   refine b9 (.list (S.merged++[.tup (nats [kept,gone])])) hme (by show S.merged.length≤_;exact a9 b3 (by decide)) rfl ?_
   have h3:=h2.set (i:=3) (.list (S.merged++[.tup (nats [kept,gone])])) rfl
   have x3:=x2.trans (aK.set (p:=me) (by simp[c0,aU.keys]) (.list (S.merged++[.tup (nats [kept,gone])])))
   generalize V₂.set me (.list (S.merged++[.tup (nats [kept,gone])]))=V₃ at h3 x3 ⊢
   kd_p
   refine⟨ao rfl,?_⟩
   refine q2 V₃ ?_ x3
   unfold Un.merge
   have e1:S.lots.getD kept []=lk:=by simp[List.getD,hlk]
   have e2:S.lots.getD gone []=lg:=by simp[List.getD,hlg]
   refine a0 e1 ?_;refine a0 e2 ?_
   exact h3
theorem gg{n:Nat}{V:St}{u pa lo me:Nat}{par:List Nat}{Q:a5->St->Prop}(hu:V[u]? =some (.inst 469 [("above",.ref pa),("lots",.ref lo),("merged",.ref me)]))(hp:V[pa]? =some (.list (nats par)))(hl:par.length≤1000)
 (q:Q (.int (Int.ofNat par.length)) V):CC (W0 prog w H mg mb) (n+1) (.ref 419) [.ref u] V Q:=by
 refine ag (ps:=["self"]) (by rfl) (by rfl) ?_ (by rfl) (by decide) (by rfl) (by decide) (by rfl) ?_ (by rfl) (by rfl) (by rfl)
 ·exact f9 fun Z=>rfl
 ·kd_p
  refine bo hp (bm _) (by exact a9 hl (by decide)) ?_
  exact q
theorem kQ{n:Nat}{V:St}{u pa lo me:Nat}{lp:List Nat}{S:Un}{a:Nat}{l:List Nat}{Q:a5->St->Prop}(h:b8 V (c0 u pa lo me lp S))(hl:lp.length=S.lots.length)(hpl:S.par.length=S.lots.length)(ok:dC S.par)(ha:a<S.par.length)(b1:S.par.length≤1000)
 (hlt:S.lots[a8 S.par a]? =some l)(b2:l.length<64)(q:∀ l':List Nat,l'.Perm l->Q (.frz (nats l')) V):CC (W0 prog w H mg mb) (n+2) (.ref 440) [.ref u,.int (Int.ofNat a)] V Q:=by
 refine ag (ps:=["self","a"]) (by rfl) (by rfl) ?_ (by rfl) (by decide) (by rfl) (by decide) (by rfl) ?_ (by rfl) (by rfl) (by rfl)
 ·exact dj fun Z Z=>rfl
 ·have hu:=h.get (i:=0) (p:=u) rfl
  have hp:=h.get (i:=1) (p:=pa) rfl
  have hlo:=h.get (i:=2) (p:=lo) rfl
  have hr:=bL (par:=S.par) ha
  kd_p
  refine(fM hu hp ok ha b1 ?_).call
  obtain⟨pk,hpk⟩:∃ p,lp[a8 S.par a]? =some p:=⟨_,List.getElem?_eq_getElem (by exact a9 hr (a9 (Nat.le_of_eq hpl) (fX hl)))⟩
  refine bE hlo (by exact a9 (Nat.le_of_lt hr) (a9 b1 (by decide))) (show _=some (a5.ref pk) by refine a0 List.getElem?_map ?_;refine a0 hpk ?_;rfl) ?_
  kd_p
  refine kL (dy (h.get (gO hpk hlt))) b2 fun l' hp' Z=>?_
  exact q l' hp'
noncomputable def aA(par:List Nat):List Nat:=(List.range par.length).filter fun a=>par[a]? ==some a
theorem kR{n:Nat}{V:St}{u pa lo me:Nat}{par:List Nat}{Q:a5->St->Prop}(hu:V[u]? =some (.inst 469 [("above",.ref pa),("lots",.ref lo),("merged",.ref me)]))(hp:V[pa]? =some (.list (nats par)))(hl:par.length≤1000)
 (q:Q (.frz (nats (aA par))) V):CC (W0 prog w H mg mb) (n+1) (.ref 445) [.ref u] V Q:=by
 refine ag (ps:=["self"]) (by rfl) (by rfl) ?_ (by rfl) (by decide) (by rfl) (by decide) (by rfl) ?_ (by rfl) (by rfl) (by rfl)
 ·exact f9 fun Z=>rfl
 ·kd_p
  refine aW (new:=false) (aE (nm:="a") rfl ?_) (by rfl)
  kd_p
  refine bo hp (bm _) (by exact a9 hl (by decide)) ?_
  kd_p
  refine ec hl ?_
  refine⟨nats (List.range par.length),by simp[aI,f0],by simp;exact a9 hl (by decide),fun x=>match x with | .int i=>par[i.toNat]? ==some i.toNat | _=>false,id,?_,?_,?_⟩
  ·intro x hx K hK
   refine a7 (List.mem_map.mp hx) fun a ha z2=>?_;subst z2
   have ha:a<par.length:=by simpa using ha
   obtain⟨p,hp'⟩:∃ p,par[a]? =some p:=⟨_,List.getElem?_eq_getElem ha⟩
   refine eH ?_
   kd_p
   refine bE hp (by exact a9 (Nat.le_of_lt ha) (a9 hl (by decide))) (hF hp') ?_
   kd_p
   refine a6 _ aN ?_
   by_cases hpa:p=a
   ·subst hpa;simpa [hp']using hK
   ·have e1:((p:Nat)==a)=false:=by simp[hpa]
    simp[hp',e1] at hK
    have:¬((p:Int)=a):=by lia
    simpa [this]using hK
  ·intro x hx _ K hK
   refine a7 (List.mem_map.mp hx) fun a ha z2=>?_;subst z2
   kd_p
   exact hK
  ·refine⟨nats (aA par),?_,_,rfl,q⟩
   unfold aA nats
   refine a0 (List.map_id ..) ?_;refine a0 List.filter_map ?_
   rfl
end
section
variable{prog:Program}{w:World}{H:Heap}{mg mb:Str->Option Value}
noncomputable abbrev ar:=Str×List Nat
noncomputable def c8(nd:ar):a5:=.tup (.str nd.1::nats nd.2)
noncomputable def cA(nd:ar):List aT:=.inl nd.1::nd.2.map (fun k=>.inr (Int.ofNat k))
noncomputable def bf(nodes:List ar):List (List aT×a5):=nodes.zipIdx.map fun p=>(cA p.1,.int (Int.ofNat p.2))
structure Bk where
 nodes:List ar
 weights:List Int
 depths:List Int
noncomputable def db(bk nd nu we de:Nat)(S:Bk):aU:=
 [(bk,.inst 387 [("nodes",.ref nd),("numbers",.ref nu),("weights",.ref we),("depths",.ref de)]),(nd,.list (S.nodes.map c8)),(nu,.tdict (bf S.nodes)),(we,.list (aL S.weights)),(de,.list (aL S.depths))]
theorem lZ.over{W:Wd}{n:Nat}{sc:ah}{ρ:ai}{V:St}{new:Bool}{elt:Expr}{g:Comprehension}{scope:Scope}{nm:Str}{Q:a5->St->Prop}{a:a5}(l:List Int)(f:Int->a5)(h1:aI V a=some (aL l))(hl:l.length≤1000000)
 (hf:∀ x∈l,∀ K:a5->St->Prop,K (f x) V->ET W n (aw scope.names sc) elt (aJ (aR scope.names sc ρ) nm (.int x)) V K)(q:CK new Q (.list (l.map f)) V)(hi:g.ifs=[]:=by rfl):lZ W n sc new elt g scope nm ρ Q a V:=
 ⟨aL l,h1,by simpa using hl,fun Z=>true,qK f,fun Z Z Z hK=>hi▸cD hK,fun y hy Z K hK=>by refine a7 (List.mem_map.mp hy) fun x hx z2=>?_;subst z2;exact hf x hx K hK,l.map f,by refine a0 (sf ..) ?_;refine a0 List.map_map ?_;rfl,q⟩
theorem lZ.nats{W:Wd}{n:Nat}{sc:ah}{ρ:ai}{V:St}{new:Bool}{elt:Expr}{g:Comprehension}{scope:Scope}{nm:Str}{Q:a5->St->Prop}{a:a5}(l:List Nat)(f:Nat->a5)(h1:aI V a=some (nats l))(hl:l.length≤1000000)
 (hf:∀ x∈l,∀ K:a5->St->Prop,K (f x) V->ET W n (aw scope.names sc) elt (aJ (aR scope.names sc ρ) nm (.int (Int.ofNat x))) V K){out:List a5}(e:l.map f=out)(q:CK new Q (.list out) V)(hi:g.ifs=[]:=by rfl):lZ W n sc new elt g scope nm ρ Q a V:=
 .over (l.map Int.ofNat) (fun i=>f i.toNat) (by refine a0 h1 ?_;simp[aL,Mine.nats,Function.comp_def]) (by simpa using hl) (fun x hx K hK=>by refine a7 (List.mem_map.mp hx) fun k hk z2=>?_;subst z2;exact hf k hk K hK) (by refine a0 List.map_map ?_;exact e▸q) hi
theorem pI(l:List Nat):skeys (nats l)=some (l.map fun k=>.inr (Int.ofNat k)):=by
 induction l with
 | nil=>rfl
 | cons a l ih=>
   show(skeys (nats l)).map _=_
   refine a0 ih ?_;rfl
theorem dm(nd:ar):skeys (.str nd.1::nats nd.2)=some (cA nd):=by
 show(skeys (nats nd.2)).map _=_
 refine a0 (pI ..) ?_;rfl
theorem hE{a b:ar}(h:cA a=cA b):a=b:=by
 obtain⟨x,l⟩:=a
 obtain⟨y,m⟩:=b
 unfold cA at h
 simp only[List.cons.injEq,Sum.inl.injEq] at h
 refine a2 h ?_;clear h;intro z0 h;subst z0
 have hi:Function.Injective (fun k:Nat=>(Sum.inr (Int.ofNat k):aT)):=fun a b e=>Int.ofNat.inj (Sum.inr.inj e)
 refine a0 ((List.map_inj_right (fun{a b} e=>hi e)).mp h) ?_;rfl
theorem h8{nodes:List ar}{nd:ar}(h:nd∉nodes):bb (bf nodes) (cA nd)=none:=by
 unfold bb
 refine bt Option.map_eq_none_iff ?_;refine bt List.find?_eq_none ?_
 intro e he
 unfold bf at he
 refine a7 (List.mem_map.mp he) fun p hp z2=>?_;subst z2
 have hm:p.1∈nodes:=by
  refine aH (List.getElem?_of_mem hp) fun i hi=>?_
  rw[List.getElem?_zipIdx] at hi
  refine a7 (Option.map_eq_some_iff.mp hi) fun x hx z2=>?_;subst z2
  exact List.mem_of_getElem? hx
 simp only[decide_eq_true_eq]
 intro e'
 exact h (hE e'▸hm)
theorem gZ{nodes:List ar}{nd:ar}{i:Nat}(hn:nodes.Nodup)(h:nodes[i]? =some nd):bb (bf nodes) (cA nd)=some (.int (Int.ofNat i)):=by
 have main:∀ (nodes:List ar) (off i:Nat),nodes.Nodup->nodes[i]? =some nd->(((nodes.zipIdx off).map fun p=>(cA p.1,a5.int (Int.ofNat p.2))).find? fun e=>decide (e.1=cA nd))=some (cA nd,.int (Int.ofNat (off+i))):=by
  intro nodes
  induction nodes with
  | nil=>intro off i _ h;cases h
  | cons x r ih=>
    intro off i hn h
    refine a0 List.zipIdx_cons ?_;refine a0 List.map_cons ?_;refine a0 List.find?_cons ?_
    cases i with
    | zero=>
      simp at h
      subst h
      simp
    | succ i=>
      simp at h
      have hne:x≠nd:=fun e=>(List.nodup_cons.mp hn).1 (e▸List.mem_of_getElem? h)
      have:¬cA x=cA nd:=fun e=>hne (hE e)
      simp only[decide_eq_false this]
      refine a0 (ih (off+1) i (List.nodup_cons.mp hn).2 h) ?_
      have e:off+1+i=off+(i+1):=by lia
      refine a0 e ?_;rfl
 unfold bb bf
 refine a0 (main nodes 0 i hn h) ?_
 simp
theorem mG{nodes:List ar}{nd:ar}(h:nd∉nodes):cX (bf nodes) (cA nd) (.int (Int.ofNat nodes.length))=bf (nodes++[nd]):=by
 unfold cX
 refine a0 (h8 h) ?_
 unfold bf
 refine a0 List.zipIdx_append ?_
 simp
theorem qe{n:Nat}{V:St}{bk nd nu we de:Nat}{S:Bk}{Q:a5->St->Prop}(h:b8 V (db bk nd nu we de S))(hl:S.nodes.length≤1000)(q:Q (.int (Int.ofNat S.nodes.length)) V):CC (W0 prog w H mg mb) (n+1) (.ref 306) [.ref bk] V Q:=by
 refine ag (ps:=["self"]) (by rfl) (by rfl) ?_ (by rfl) (by decide) (by rfl) (by decide) (by rfl) ?_ (by rfl) (by rfl) (by rfl)
 ·exact f9 fun Z=>rfl
 ·have hb:=h.get (i:=0) (p:=bk) rfl
  have hn:=h.get (i:=1) (p:=nd) rfl
  kd_p
  refine bo (k:=S.nodes.length) hn (by exact List.length_map ..) (by exact a9 hl (by decide)) ?_
  exact q
theorem oJ{n:Nat}{V:St}{bk nd nu we de:Nat}{S:Bk}{k:Nat}{x:ar}{Q:a5->St->Prop}(h:b8 V (db bk nd nu we de S))(hk:S.nodes[k]? =some x)(hl:k≤1000)(q:Q (.str x.1) V):CC (W0 prog w H mg mb) (n+1) (.ref 344) [.ref bk,.int (Int.ofNat k)] V Q:=by
 refine ag (ps:=["self","n"]) (by rfl) (by rfl) ?_ (by rfl) (by decide) (by rfl) (by decide) (by rfl) ?_ (by rfl) (by rfl) (by rfl)
 ·exact dj fun Z Z=>rfl
 ·have hb:=h.get (i:=0) (p:=bk) rfl
  have hn:=h.get (i:=1) (p:=nd) rfl
  kd_p
  refine bE hn (by exact a9 hl (by decide)) (show _=some (c8 x) by refine a0 List.getElem?_map ?_;refine a0 hk ?_;rfl) ?_
  kd_p
  refine cS (i:=0) (xs:=.str x.1::nats x.2) (by decide) rfl ?_
  exact q
theorem gF{n:Nat}{V:St}{bk nd nu we de:Nat}{S:Bk}{k:Nat}{x:ar}{Q:a5->St->Prop}(h:b8 V (db bk nd nu we de S))(hk:S.nodes[k]? =some x)(hl:k≤1000)(hx:x.2.length≤1000)(q:Q (.tup (nats x.2)) V):CC (W0 prog w H mg mb) (n+1) (.ref 351) [.ref bk,.int (Int.ofNat k)] V Q:=by
 refine ag (ps:=["self","n"]) (by rfl) (by rfl) ?_ (by rfl) (by decide) (by rfl) (by decide) (by rfl) ?_ (by rfl) (by rfl) (by rfl)
 ·exact dj fun Z Z=>rfl
 ·have hb:=h.get (i:=0) (p:=bk) rfl
  have hn:=h.get (i:=1) (p:=nd) rfl
  kd_p
  refine bG (i:=1) ?_
  kd_p
  refine bE hn (by exact a9 hl (by decide)) (show _=some (c8 x) by refine a0 List.getElem?_map ?_;refine a0 hk ?_;rfl) ?_
  refine fh _ rfl (by exact Nat.succ_pos _) (by simp[nats];exact a9 hx (by decide)) ?_
  exact q
noncomputable def ic:Str:="()[]{},:"
noncomputable def tI(c:Nat):Bool:= !(Txt.isspace ⟨#[c]⟩)&&(Builtin.Str.occurrences ic ⟨#[c]⟩ 0 ic.length 1).isEmpty
noncomputable def fi(x:Str):Bool:=decide (x.length≤100)&&x.cps.toList.all tI&&(match x.cps.toList with | []=>false | c::_=>c != 63)
theorem q6:∀ x∈(["a","b","var0","var1","0","2","-3","neg","lam","add","mul"]:List Str),fi x=true:=by decide+kernel
theorem q3{n:Nat}{V:St}{x:Str}{Q:a5->St->Prop}(hx:fi x=true)(hok:PyData.strOk x=true)(q:Q (.bool true) V):CC (W0 prog w H mg mb) (n+1) (.ref 280) [.str x] V Q:=by
 unfold fi at hx
 simp only[Bool.and_eq_true,decide_eq_true_eq] at hx
 refine a2 hx ?_;clear hx;intro z0 h3;rcases z0 with⟨h1,h2⟩
 refine ag (ps:=["text"]) (by rfl) (by rfl) ?_ (by rfl) (by decide) (by rfl) (by decide) (by rfl) ?_ (by rfl) (by rfl) (by rfl)
 ·exact f9 fun Z=>rfl
 ·kd_p
  refine mf (rh ?_)
  kd_p
  refine⟨_,qc,true,?_,?_⟩
  ·have:(x==("":Str))=false:=by
    refine beq_eq_false_iff_ne.mpr fun e=>?_
    rw[e] at h3
    exact absurd h3 (by decide)
   show a5.bool (!(x==("":Str)))=_
   refine a0 this ?_;rfl
  ·refine ite_pos rfl ?_
   refine rg ?_
   kd_p
   refine aW (new:=false) (aE (nm:="sign") rfl ?_) (by rfl)
   kd_p
   refine⟨_,rfl,?_,fun Z=>false,id,?_,fun Z Z h=>by simp at h,?_⟩
   ·have e1:x.cps.size≤100:=h1
    have:x.cps.toList.length=x.cps.size:=by exact rfl
    refine a0 (List.length_map ..) ?_;exact a9 (Nat.le_of_eq this) (a9 e1 (by decide))
   ·intro y hy K hK
    refine a7 (List.mem_map.mp hy) fun c hc z2=>?_;subst z2
    have hc':=List.all_eq_true.mp h2 c hc
    unfold tI at hc'
    simp only[Bool.and_eq_true,Bool.not_eq_true'] at hc'
    refine eH ?_
    kd_p
    refine ip ?_ rfl
    kd_p
    refine tN PySem.F.slot_str_isspace PySem.F.type_str_isspace ?_
    kd_p
    refine qy ?_
    refine a0 hc'.1 ?_
    refine a6 false rfl ?_
    refine ite_neg (by decide) ?_
    kd_p
    refine a6 _ qd ?_
    have:(!(Builtin.Str.occurrences ic ⟨#[c]⟩ 0 ic.length 1).isEmpty)=false:=by refine a0 hc'.2 ?_;rfl
    have e2:(!(Builtin.Str.occurrences (Str.ofString "()[]{},:") ⟨#[c]⟩ 0 (Str.ofString "()[]{},:").length 1).isEmpty)=false:=this
    refine a0 e2 ?_
    refine ite_neg (by decide) ?_
    kd_p
    exact hK
   ·refine⟨[],by simp,_,rfl,?_⟩
    refine ch ?_
    kd_p
    refine⟨ao rfl,?_⟩
    exact a6 _ (gE (a:=.frz []) (b:=.frz []) rfl rfl) q
theorem mE{n:Nat}{V:St}{bk:Nat}{x:Str}{Q:a5->St->Prop}(hx:fi x=true)(hok:PyData.strOk x=true)(q:Q .none V):CC (W0 prog w H mg mb) (n+2) (.ref 318) [.ref bk,.str x] V Q:=by
 refine ag (ps:=["self","op"]) (by rfl) (by rfl) ?_ (by rfl) (by decide) (by rfl) (by decide) (by rfl) ?_ (by rfl) (by rfl) (by rfl)
 ·exact dj fun Z Z=>rfl
 ·kd_p
  refine ip ?_ rfl
  kd_p
  refine(q3 hx hok ?_).call
  refine a6 true rfl ?_
  show(if false=true then _ else _)
  refine ite_neg (by decide) ?_
  kd_p
  have hx':=hx
  unfold fi at hx'
  simp only[Bool.and_eq_true,decide_eq_true_eq] at hx'
  refine a2 hx' ?_;clear hx';intro z0 h3;rcases z0 with⟨h1,h2⟩
  obtain⟨c,r,hc⟩:∃ c r,x.cps.toList=c::r:=by
   cases hq:x.cps.toList with
   | nil=>rw[hq] at h3;cases h3
   | cons c r=>exact jZ c r rfl
  rw[hc] at h3
  have hg:x.cps[0]? =some c:=by
   refine aX Array.getElem?_toList ?_;refine a0 hc ?_;rfl
  refine vZ (c:=c) (by rfl) ?_ ?_
  ·have hl:0<x.length:=by
    have:x.cps.toList.length=x.length:=by exact rfl
    rw[hc] at this;simp at this;lia
   unfold seqIndex?
   simp[hl,hg]
  ·kd_p
   refine a6 _ bx ?_
   have:((⟨#[c]⟩:Str)==("?":Str))=false:=by
    refine beq_eq_false_iff_ne.mpr fun e=>?_
    have e':(⟨#[c]⟩:Str).cps.toList=("?":Str).cps.toList:=by refine a0 e ?_;rfl
    have e2:("?":Str).cps.toList=[63]:=by decide
    rw[e2] at e'
    simp at e'
    rw[e'] at h3
    simp at h3
   refine a0 this ?_
   refine ite_neg (by decide) ?_
   kd_p
   refine ite_neg (by decide) ?_
   kd_p
   exact q
noncomputable def Bk.kidSum(S:Bk)(f:Nat->Int)(kids:List Nat):Int:=(kids.map f).sum
theorem nC{n:Nat}{V:St}{bk nd nu we de i:Nat}{S:Bk}{x:ar}{Q:a5->St->Prop}(h:b8 V (db bk nd nu we de S))(hn:S.nodes.Nodup)(hi:S.nodes[i]? =some x)(hx:x.2.length≤1000)(q:Q (.int (Int.ofNat i)) V):
 CC (W0 prog w H mg mb) (n+1) (.ref 311) [.ref bk,.str x.1,.tup (nats x.2)] V Q:=by
 refine ag (ps:=["self","op","kids"]) (by rfl) (by rfl) ?_ (by rfl) (by decide) (by rfl) (by decide) (by rfl) ?_ (by rfl) (by rfl) (by rfl)
 ·exact eF fun Z Z Z=>rfl
 ·have hb:=h.get (i:=0) (p:=bk) rfl
  have hno:=h.get (i:=1) (p:=nd) rfl
  have hnu:=h.get (i:=2) (p:=nu) rfl
  kd_p
  refine⟨ao rfl,?_⟩
  kd_p
  refine gd ?_
  refine a6 _ (jo (by simp;exact a9 (Nat.add_le_add_left hx _) (by decide))) ?_
  kd_p
  refine a6 _ (oq hnu (show skeys ([.str x.1]++nats x.2)=some (cA x) from dm x)) ?_
  refine a0 (gZ hn hi) ?_
  refine ite_pos (show(some (a5.int (Int.ofNat i))).isSome=true from rfl) ?_
  kd_p
  refine sd hnu (show skeys ([.str x.1]++nats x.2)=some (cA x) from dm x) (gZ hn hi) ?_
  exact q
noncomputable def Bk.push(S:Bk)(x:ar)(a b:Int):Bk:=⟨S.nodes++[x],S.weights++[a],S.depths++[b]⟩
theorem oj{l:List Int}{i:Nat}(h:i<l.length):(aL l)[i]? =some (.int (l.getD i 0)):=by refine a0 List.getElem?_map ?_;refine a0 (List.getElem?_eq_getElem h) ?_;refine a0 List.getD_eq_getElem?_getD ?_;refine a0 (List.getElem?_eq_getElem h) ?_;rfl
theorem qO(f:Nat->Int)(l:List Nat):l.map (fun k=>a5.int (f k))=aL (l.map f):=by exact(List.map_map ..).symm
theorem o5(f:Nat->Nat)(l:List Nat):l.map (fun k=>a5.int (Int.ofNat (f k)))=nats (l.map f):=by simp[nats,Function.comp_def]
theorem u3(l:List Int)(v:Int):aL l++[.int v]=aL (l++[v]):=by simp[aL]
theorem vR{l:List Int}{i:Nat}{v:Int}(h:l[i]? =some v):(aL l)[i]? =some (.int v):=by refine a0 List.getElem?_map ?_;refine a0 h ?_;rfl
theorem ti{n:Nat}{V:St}{bk nd nu we de:Nat}{S:Bk}{x:ar}{Q:a5->St->Prop}(h:b8 V (db bk nd nu we de S))(hnew:x∉S.nodes)(hgood:fi x.1=true)(hok:PyData.strOk x.1=true)(hx:x.2.length≤1000)(hk:∀ k∈x.2,k<S.nodes.length)(b1:S.nodes.length≤900)
 (hw:S.weights.length=S.nodes.length)(hd:S.depths.length=S.nodes.length)
 (q:∀ V' a b,b8 V' (db bk nd nu we de (S.push x a b))->aK V (aU.keys (db bk nd nu we de S)) V' (aU.keys (db bk nd nu we de S))->Q (.int (Int.ofNat S.nodes.length)) V'):
 CC (W0 prog w H mg mb) (n+3) (.ref 311) [.ref bk,.str x.1,.tup (nats x.2)] V Q:=by
 refine ag (ps:=["self","op","kids"]) (by rfl) (by rfl) ?_ (by rfl) (by decide) (by rfl) (by decide) (by rfl) ?_ (by rfl) (by rfl) (by rfl)
 ·exact eF fun Z Z Z=>rfl
 ·have hb:=h.get (i:=0) (p:=bk) rfl
  have hno:=h.get (i:=1) (p:=nd) rfl
  have hnu:=h.get (i:=2) (p:=nu) rfl
  kd_p
  refine⟨ao rfl,?_⟩
  kd_p
  refine gd ?_
  refine a6 _ (jo (by simp;exact a9 (Nat.add_le_add_left hx _) (by decide))) ?_
  have hkey:skeys ([.str x.1]++nats x.2)=some (cA x):=dm x
  kd_p
  refine a6 _ (oq hnu hkey) ?_
  refine a0 (h8 hnew) ?_
  refine ite_neg (by exact fun z=>nomatch z) ?_
  kd_p
  refine(mE (bk:=bk) hgood hok ?_).call
  kd_p
  refine bP ?_ rfl
  refine bG (i:=1) ?_
  kd_p
  refine fh _ rfl (by exact Nat.succ_pos _) (by simp;exact a9 hx (by decide)) ?_
  refine a6 (nats x.2) rfl ?_
  refine dE (fun k=>.int (Int.ofNat k)) x.2 (fun Z Z V'=>V'=V) (fun V' e=>?_) (fun dn k xs V' K e2 e hK=>?_) rfl
  ·subst e
   have fpm:∀ p∈[bk,nd,nu,we,de],p∈aU.keys (db bk nd nu we de S):=fun Z h=>h
   have h1:=h.set (i:=2) (.tdict (bf (S.nodes++[x]))) rfl
   have x1:=aK.set (V:=V') (fpm nu (by simp)) (.tdict (bf (S.nodes++[x])))
   have hb1:=h1.get (i:=0) (p:=bk) rfl
   have hno1:=h1.get (i:=1) (p:=nd) rfl
   kd_p
   refine bo (k:=S.nodes.length) hno (by exact List.length_map ..) (by exact a9 b1 (by decide)) ?_
   kd_p
   refine pL (.tdict (bf (S.nodes++[x]))) hnu hkey (by simp[bf];exact a9 b1 (by decide)) (by refine a0 (mG hnew) ?_;rfl) ?_
   generalize V'.set nu (.tdict (bf (S.nodes++[x])))=V₁ at h1 x1 hb1 hno1 ⊢
   clear hb hno hnu h
   kd_p
   refine b9 (.list ((S.nodes++[x]).map c8)) hno1 (by exact a9 (Nat.le_of_eq (List.length_map ..)) (a9 b1 (by decide))) (by refine a0 List.map_append ?_;rfl) ?_
   have h2:b8 (V₁.set nd (.list ((S.nodes++[x]).map c8))) (db bk nd nu we de ⟨S.nodes++[x],S.weights,S.depths⟩):=h1.set (i:=1) _ rfl
   have x2:=x1.trans (aK.set (fpm nd (by simp)) (.list ((S.nodes++[x]).map c8)))
   generalize V₁.set nd (.list ((S.nodes++[x]).map c8))=V₂ at h2 x2 ⊢
   clear h1 x1 hb1 hno1
   have hb2:=h2.get (i:=0) (p:=bk) rfl
   have hwe2:V₂[we]? =some (.list (aL S.weights)):=h2.get (i:=3) (p:=we) rfl
   kd_p
   refine aW (new:=false) (aE (nm:="kid") rfl ?_) (by rfl)
   refine bG (i:=1) ?_
   kd_p
   refine fh _ rfl (by exact Nat.succ_pos _) (by simp;exact a9 hx (by decide)) ?_
   refine .nats x.2 (fun k=>.int (S.weights.getD k 0)) rfl (by exact a9 hx (by decide)) (fun k hk' K hK=>?_) (qO (fun k=>S.weights.getD k 0) x.2) (a6 _ rfl ?_)
   ·kd_p
    exact bE hwe2 (by have:=hk k hk';exact a9 (Nat.le_of_lt this) (a9 b1 (by decide))) (oj (hw▸hk k hk')) hK
   kd_p
   refine uV rfl ?_
   refine a6 _ c7 ?_
   kd_p
   refine b9 (.list (aL (S.weights++[1+(x.2.map fun k=>S.weights.getD k 0).sum]))) hwe2 (by simp;exact a9 (Nat.le_of_eq hw) (a9 b1 (by decide))) (by simp[aL]) ?_
   have h3:b8 (V₂.set we (.list (aL (S.weights++[1+(x.2.map fun k=>S.weights.getD k 0).sum])))) (db bk nd nu we de ⟨S.nodes++[x],S.weights++[1+(x.2.map fun k=>S.weights.getD k 0).sum],S.depths⟩):=h2.set (i:=3) _ rfl
   have x3:=x2.trans (aK.set (fpm we (by simp)) (.list (aL (S.weights++[1+(x.2.map fun k=>S.weights.getD k 0).sum]))))
   generalize V₂.set we (.list (aL (S.weights++[1+(x.2.map fun k=>S.weights.getD k 0).sum])))=V₃ at h3 x3 ⊢
   clear h2 x2 hb2 hwe2
   have hb3:=h3.get (i:=0) (p:=bk) rfl
   have hde3:V₃[de]? =some (.list (aL S.depths)):=h3.get (i:=4) (p:=de) rfl
   kd_p
   refine aW (new:=false) (aE (nm:="kid") rfl ?_) (by rfl)
   refine bG (i:=1) ?_
   kd_p
   refine fh _ rfl (by exact Nat.succ_pos _) (by simp;exact a9 hx (by decide)) ?_
   refine .nats x.2 (fun k=>.int (S.depths.getD k 0)) rfl (by exact a9 hx (by decide)) (fun k hk' K hK=>?_) (qO (fun k=>S.depths.getD k 0) x.2) (a6 _ rfl ?_)
   ·kd_p
    exact bE hde3 (by have:=hk k hk';exact a9 (Nat.le_of_lt this) (a9 b1 (by decide))) (oj (hd▸hk k hk')) hK
   refine ch ?_
   kd_p
   refine⟨ao rfl,?_⟩
   refine a6 (.frz (aL ((x.2.map fun k=>S.depths.getD k 0)++[0]))) (u3 (x.2.map fun k=>S.depths.getD k 0) 0▸kz (a:=.frz _) (b:=.frz [.int 0]) rfl rfl (by simp;exact a9 hx (by decide))) ?_
   kd_p
   refine uY rfl (by simp) fun M Z Z=>?_
   refine a6 _ c7 ?_
   kd_p
   refine b9 (.list (aL (S.depths++[1+M]))) hde3 (by simp;exact a9 (Nat.le_of_eq hd) (a9 b1 (by decide))) (by simp[aL]) ?_
   have h4:b8 (V₃.set de (.list (aL (S.depths++[1+M])))) (db bk nd nu we de (S.push x (1+(x.2.map fun k=>S.weights.getD k 0).sum) (1+M))):=h3.set (i:=4) _ rfl
   have x4:=x3.trans (aK.set (fpm de (by simp)) (.list (aL (S.depths++[1+M]))))
   generalize V₃.set de (.list (aL (S.depths++[1+M])))=V₄ at h4 x4 ⊢
   clear h3 x3 hb3 hde3
   have hb4:=h4.get (i:=0) (p:=bk) rfl
   have hno4:=h4.get (i:=1) (p:=nd) rfl
   kd_p
   refine bo (k:=S.nodes.length+1) hno4 (by simp[Bk.push]) (by exact a9 (Nat.add_le_add_right b1 _) (by decide)) ?_
   kd_p
   refine a6 _ dK ?_
   have e:(Int.ofNat (S.nodes.length+1) - 1)=Int.ofNat S.nodes.length:=by simp
   refine a0 e ?_
   exact q V₄ _ _ h4 x4
  ·subst e
   have hkl:=hk k (e2▸List.mem_append_right _ (.head _))
   kd_p
   refine rn ?_ rfl
   kd_p
   refine a6 true (by have:=qS (W:=W0 prog w H mg mb) (n:=n+2) (V:=V') (i:=0) (j:=k);simpa using this) ?_
   refine ite_pos rfl ?_
   kd_p
   refine bo (k:=S.nodes.length) hno (by exact List.length_map ..) (by exact a9 b1 (by decide)) ?_
   refine a6 _ dI ?_
   refine a0 (decide_eq_true hkl) ?_
   show(if false=true then _ else _)
   refine ite_neg (by decide) ?_
   kd_p
   exact⟨rfl,hK _ _ (.app (ext:=[("kid",_)])) rfl⟩
end
noncomputable abbrev d8:=Nat×Nat×List Nat
structure HS where
 bank:Bk
 un:Un
 edges:List a5
 forest:List a5
 known:List (ar×Nat)
 users:List d8
 waiting:List Nat
structure HL where
 hp:Nat
 bk:Nat
 un:Nat
 ed:Nat
 fo:Nat
 kn:Nat
 ab:Nat
 wt:Nat
 nd:Nat
 nu:Nat
 we:Nat
 de:Nat
 pa:Nat
 lo:Nat
 me:Nat
 lp:List Nat
noncomputable def eG(k:List (ar×Nat)):List (List aT×a5):=k.map fun e=>(cA e.1,.int (Int.ofNat e.2))
noncomputable def av(us:List d8):List (Int×a5):=us.map fun e=>(Int.ofNat e.1,.ref e.2.1)
noncomputable def cb(us:List d8):aU:=us.map fun e=>(e.2.1,.list (nats e.2.2))
noncomputable def HL.B(L:HL)(S:HS):aU:=db L.bk L.nd L.nu L.we L.de S.bank
noncomputable def HL.U(L:HL)(S:HS):aU:=c0 L.un L.pa L.lo L.me L.lp S.un
noncomputable def HL.heapO(L:HL):af:=.inst 599 [("bank",.ref L.bk),("unions",.ref L.un),("edges",.ref L.ed),("forest",.ref L.fo),("known",.ref L.kn),("above",.ref L.ab),("waiting",.ref L.wt)]
noncomputable def HL.H(L:HL)(S:HS):aU:=[(L.hp,L.heapO),(L.ed,.list S.edges),(L.fo,.list S.forest),(L.kn,.tdict (eG S.known)),(L.ab,.idict (av S.users)),(L.wt,.list (nats S.waiting))]++cb S.users
noncomputable def HL.keysB(L:HL):List Nat:=[L.bk,L.nd,L.nu,L.we,L.de]
noncomputable def HL.keysU(L:HL):List Nat:=[L.un,L.pa,L.lo,L.me]++L.lp
noncomputable def HL.keysH(L:HL)(S:HS):List Nat:=[L.hp,L.ed,L.fo,L.kn,L.ab,L.wt]++S.users.map (fun x=>x.2.1)
noncomputable def HL.fp(L:HL)(S:HS):List Nat:=L.keysB++(L.keysU++L.keysH S)
structure ak(V:St)(L:HL)(S:HS):Prop where
 b:b8 V (L.B S)
 u:b8 V (L.U S)
 h:b8 V (L.H S)
 bu:∀ q∈L.keysB,q∉L.keysU
 bh:∀ q∈L.keysB,q∉L.keysH S
 uh:∀ q∈L.keysU,q∉L.keysH S
 lpl:L.lp.length=S.un.lots.length
theorem iE{L:HL}{S:HS}:aU.keys (L.B S)=L.keysB:=rfl
theorem fd{L:HL}{S:HS}(h:L.lp.length=S.un.lots.length):aU.keys (L.U S)=L.keysU:=fA h
theorem dM{L:HL}{S:HS}:aU.keys (L.H S)=L.keysH S:=by
 unfold HL.H aU.keys HL.keysH cb
 refine a0 List.map_append ?_;refine a0 List.map_map ?_
 rfl
theorem ak.lt{V:St}{L:HL}{S:HS}(h:ak V L S):∀ q∈L.fp S,q<V.length:=by
 intro q hq
 rcases List.mem_append.mp hq with hq | hq
 ·exact h.b.lt (by refine a0 iE ?_;exact hq)
 ·rcases List.mem_append.mp hq with hq | hq
  ·exact h.u.lt (by refine a0 (fd h.lpl) ?_;exact hq)
  ·exact h.h.lt (by refine a0 dM ?_;exact hq)
theorem ak.bank{V V':St}{L:HL}{S:HS}(h:ak V L S){b:Bk}(hb:b8 V' (L.B {S with bank:=b}))(x:aK V L.keysB V' L.keysB):ak V' L {S with bank:=b}∧aK V (L.fp S) V' (L.fp {S with bank:=b}):=by
 refine⟨⟨hb,h.u.other x ?_,h.h.other x ?_,h.bu,h.bh,h.uh,h.lpl⟩,x.more (fun q hq=>List.mem_append_left _ hq) fun q hq=>.inr hq⟩
 ·refine a0 (fd h.lpl) ?_;exact fun q hq hq'=>h.bu q hq' hq
 ·refine a0 dM ?_;exact fun q hq hq'=>h.bh q hq' hq
theorem ak.uni{V V':St}{L:HL}{S:HS}(h:ak V L S){u:Un}{lp:List Nat}(hl:lp.length=u.lots.length)(hu:b8 V' (HL.U {L with lp:=lp} {S with un:=u}))(x:aK V L.keysU V' (HL.keysU {L with lp:=lp})):
 ak V' {L with lp:=lp} {S with un:=u}∧aK V (L.fp S) V' (HL.fp {L with lp:=lp} {S with un:=u}):=by
 have f1:∀ q∈L.keysB,q∉HL.keysU {L with lp:=lp}:=fun q hq hq'=>(x.fresh q hq').elim (h.bu q hq) fun z=>absurd (h.b.lt (by refine a0 iE ?_;exact hq)) (Nat.not_lt.mpr z)
 have f2:∀ q∈L.keysH S,q∉HL.keysU {L with lp:=lp}:=fun q hq hq'=>(x.fresh q hq').elim (fun z=>h.uh q z hq) fun z=>absurd (h.h.lt (by refine a0 dM ?_;exact hq)) (Nat.not_lt.mpr z)
 refine⟨⟨h.b.other x ?_,hu,h.h.other x ?_,f1,h.bh,fun q hq hq'=>f2 q hq' hq,hl⟩,⟨x.len,fun q hq hn=>x.keep q hq fun z=>hn (List.mem_append_right _ (List.mem_append_left _ z)),fun q hq=>?_⟩⟩
 ·refine a0 iE ?_;exact h.bu
 ·refine a0 dM ?_;exact fun q hq hq'=>h.uh q hq' hq
 ·rcases List.mem_append.mp hq with hq | hq
  ·exact .inl (List.mem_append_left _ hq)
  ·rcases List.mem_append.mp hq with hq | hq
   ·exact(x.fresh q hq).imp (fun z=>List.mem_append_right _ (List.mem_append_left _ z)) id
   ·exact .inl (List.mem_append_right _ (List.mem_append_right _ hq))
theorem ak.own{V V':St}{L:HL}{S S':HS}(h:ak V L S)(e1:S'.bank=S.bank)(e2:S'.un=S.un)(hh:b8 V' (L.H S'))(x:aK V (L.keysH S) V' (L.keysH S')):
 ak V' L S'∧aK V (L.fp S) V' (L.fp S'):=by
 have eB:L.B S'=L.B S:=by unfold HL.B;refine a0 e1 ?_;rfl
 have eU:L.U S'=L.U S:=by unfold HL.U;refine a0 e2 ?_;rfl
 have f1:∀ q∈L.keysB,q∉L.keysH S':=fun q hq hq'=>(x.fresh q hq').elim (h.bh q hq) fun z=>absurd (h.b.lt (by refine a0 iE ?_;exact hq)) (Nat.not_lt.mpr z)
 have f2:∀ q∈L.keysU,q∉L.keysH S':=fun q hq hq'=>(x.fresh q hq').elim (h.uh q hq) fun z=>absurd (h.u.lt (by refine a0 (fd h.lpl) ?_;exact hq)) (Nat.not_lt.mpr z)
 refine⟨⟨eB▸h.b.other x ?_,eU▸h.u.other x ?_,hh,h.bu,f1,f2,e2▸h.lpl⟩,⟨x.len,fun q hq hn=>x.keep q hq fun z=>hn (List.mem_append_right _ (List.mem_append_right _ z)),fun q hq=>?_⟩⟩
 ·refine a0 iE ?_;exact h.bh
 ·refine a0 (fd h.lpl) ?_;exact h.uh
 ·rcases List.mem_append.mp hq with hq | hq
  ·exact .inl (List.mem_append_left _ hq)
  ·rcases List.mem_append.mp hq with hq | hq
   ·exact .inl (List.mem_append_right _ (List.mem_append_left _ hq))
   ·exact(x.fresh q hq).imp (fun z=>List.mem_append_right _ (List.mem_append_right _ z)) id
structure dY(S:HS):Prop where
 par:dC S.un.par
 pl:S.un.par.length=S.un.lots.length
 n:S.bank.nodes.length≤60
 pn:S.un.par.length≤S.bank.nodes.length
 kid:∀ (k:Nat) (x:ar),S.bank.nodes[k]? =some x->∀ j∈x.2,j<k
 kidn:∀ x∈S.bank.nodes,x.2.length≤10
 nd:S.bank.nodes.Nodup
 wl:S.bank.weights.length=S.bank.nodes.length
 dl:S.bank.depths.length=S.bank.nodes.length
 lots:∀ l∈S.un.lots,l.length≤60
section
variable{prog:Program}{w:World}{H:Heap}{mg mb:Str->Option Value}
theorem ak.hp'{V:St}{L:HL}{S:HS}(h:ak V L S):V[L.hp]? =some (.inst 599 [("bank",.ref L.bk),("unions",.ref L.un),("edges",.ref L.ed),("forest",.ref L.fo),("known",.ref L.kn),("above",.ref L.ab),("waiting",.ref L.wt)]):=h.h.get (i:=0) rfl
theorem ak.bk'{V:St}{L:HL}{S:HS}(h:ak V L S):V[L.bk]? =some (.inst 387 [("nodes",.ref L.nd),("numbers",.ref L.nu),("weights",.ref L.we),("depths",.ref L.de)]):=h.b.get (i:=0) rfl
theorem ak.un'{V:St}{L:HL}{S:HS}(h:ak V L S):V[L.un]? =some (.inst 469 [("above",.ref L.pa),("lots",.ref L.lo),("merged",.ref L.me)]):=h.u.get (i:=0) rfl
theorem ak.pa'{V:St}{L:HL}{S:HS}(h:ak V L S):V[L.pa]? =some (.list (nats S.un.par)):=h.u.get (i:=1) rfl
theorem du{n:Nat}{V:St}{L:HL}{S:HS}{Q:a5->St->Prop}(h:ak V L S)(m:dY S)(q:Q (.int (Int.ofNat S.bank.nodes.length)) V):CC (W0 prog w H mg mb) (n+2) (.ref 494) [.ref L.hp] V Q:=by
 refine ag (ps:=["self"]) (by rfl) (by rfl) ?_ (by rfl) (by decide) (by rfl) (by decide) (by rfl) ?_ (by rfl) (by rfl) (by rfl)
 ·exact f9 fun Z=>rfl
 ·have h1:=h.hp'
  have h2:=h.bk'
  kd_p
  refine(qe h.b (by have:=m.n;exact a9 this (by decide)) ?_).call
  exact q
theorem bv{n:Nat}{V:St}{L:HL}{S:HS}{a:Nat}{Q:a5->St->Prop}(h:ak V L S)(m:dY S)(ha:a<S.un.par.length)(q:Q (.int (Int.ofNat (a8 S.un.par a))) V):CC (W0 prog w H mg mb) (n+2) (.ref 523) [.ref L.hp,.int (Int.ofNat a)] V Q:=by
 refine ag (ps:=["self","n"]) (by rfl) (by rfl) ?_ (by rfl) (by decide) (by rfl) (by decide) (by rfl) ?_ (by rfl) (by rfl) (by rfl)
 ·exact dj fun Z Z=>rfl
 ·have h1:=h.hp'
  have h2:=h.un'
  kd_p
  refine(fM h2 h.pa' m.par ha (by have:=m.n;have:=m.pn;lia) ?_).call
  exact q
theorem g8{n:Nat}{V:St}{L:HL}{S:HS}{Q:a5->St->Prop}(h:ak V L S)(m:dY S)(q:Q (.frz (nats (aA S.un.par))) V):CC (W0 prog w H mg mb) (n+2) (.ref 565) [.ref L.hp] V Q:=by
 refine ag (ps:=["self"]) (by rfl) (by rfl) ?_ (by rfl) (by decide) (by rfl) (by decide) (by rfl) ?_ (by rfl) (by rfl) (by rfl)
 ·exact f9 fun Z=>rfl
 ·have h1:=h.hp'
  have h2:=h.un'
  kd_p
  refine(kR h2 h.pa' (by have:=m.n;have:=m.pn;lia) ?_).call
  exact q
theorem kY{n:Nat}{V:St}{L:HL}{S:HS}{a:Nat}{l:List Nat}{Q:a5->St->Prop}(h:ak V L S)(m:dY S)(ha:a<S.un.par.length)(hl:S.un.lots[a8 S.un.par a]? =some l)(q:∀ l':List Nat,l'.Perm l->Q (.frz (nats l')) V):CC (W0 prog w H mg mb) (n+3) (.ref 572) [.ref L.hp,.int (Int.ofNat a)] V Q:=by
 refine ag (ps:=["self","c"]) (by rfl) (by rfl) ?_ (by rfl) (by decide) (by rfl) (by decide) (by rfl) ?_ (by rfl) (by rfl) (by rfl)
 ·exact dj fun Z Z=>rfl
 ·have h1:=h.hp'
  have h2:=h.un'
  kd_p
  refine(kQ h.u h.lpl m.pl m.par ha (by have:=m.n;have:=m.pn;lia) hl (by have:=m.lots l (List.mem_of_getElem? hl);lia) ?_).call
  exact q
noncomputable def HS.nodeKey(S:HS)(x:ar):ar:=(x.1,x.2.map (a8 S.un.par))
theorem k0{n:Nat}{V:St}{L:HL}{S:HS}{k:Nat}{x:ar}{Q:a5->St->Prop}(h:ak V L S)(m:dY S)(hk:S.bank.nodes[k]? =some x)(hx:∀ j∈x.2,j<S.un.par.length)(q:Q (c8 (S.nodeKey x)) V):CC (W0 prog w H mg mb) (n+3) (.ref 499) [.ref L.hp,.int (Int.ofNat k)] V Q:=by
 refine ag (ps:=["self","n"]) (by rfl) (by rfl) ?_ (by rfl) (by decide) (by rfl) (by decide) (by rfl) ?_ (by rfl) (by rfl) (by rfl)
 ·exact dj fun Z Z=>rfl
 ·have h1:=h.hp'
  have h2:=h.bk'
  have kl:=(List.getElem?_eq_some_iff.mp hk).1
  have b:=m.n
  have kn:=m.kidn x (List.mem_of_getElem? hk)
  kd_p
  refine(oJ h.b hk (by exact a9 (Nat.le_of_lt kl) (a9 b (by decide))) ?_).call
  kd_p
  refine⟨ao rfl,?_⟩
  kd_p
  refine aW (new:=false) (aE (nm:="kid") rfl ?_) (by rfl)
  kd_p
  refine(gF h.b hk (by exact a9 (Nat.le_of_lt kl) (a9 b (by decide))) (by exact a9 kn (by decide)) ?_).call
  refine .nats x.2 (fun k=>.int (Int.ofNat (a8 S.un.par k))) rfl (by exact a9 kn (by decide)) (fun j hj K hK=>?_) (o5 (a8 S.un.par) x.2) (a6 _ rfl ?_)
  ·kd_p
   refine(bv h m (hx j hj) ?_).call
   exact hK
  ·kd_p
   refine cZ (a:=.frz _) rfl (by simp;exact a9 kn (by decide)) ?_
   refine a6 _ (jo (by simp;exact a9 (Nat.add_le_add_left kn _) (by decide))) ?_
   exact q
end
noncomputable def aD(us:List d8)(c:Nat):Option (Nat×List Nat):=(us.find? fun e=>decide (e.1=c)).map (fun x=>x.2)
theorem cn(us:List d8)(c:Nat):bb (av us) (Int.ofNat c)=(aD us c).map fun x=>.ref x.1:=by
 unfold bb aD av
 induction us with
 | nil=>rfl
 | cons e r ih=>
   refine a0 List.map_cons ?_;refine a0 List.find?_cons ?_;refine a0 List.find?_cons ?_
   by_cases h:e.1=c
   ·subst h;simp
   ·have:¬(Int.ofNat e.1=Int.ofNat c):=fun e=>h (Int.ofNat.inj e)
    simp only[decide_eq_false h,decide_eq_false this]
    exact ih
theorem aZ{us:List d8}{c p:Nat}{l:List Nat}(h:aD us c=some (p,l)):(c,p,l)∈us:=by
 unfold aD at h
 refine a7 (Option.map_eq_some_iff.mp h) fun e he h2=>?_
 have:=List.find?_some he
 simp only[decide_eq_true_eq] at this
 have hm:=List.mem_of_find?_eq_some he
 obtain⟨a,b,d⟩:=e
 simp at this h2
 refine a2 h2 ?_;clear h2;intro z0 z1;subst z0;subst z1
 subst this
 exact hm
noncomputable def ax(us:List d8)(kept gone q:Nat)(l:List Nat):List d8:=(us.filter fun e=>decide (e.1≠gone)).map fun e=>if e.1=kept then(kept,q,l)else e
theorem jy(us:List d8)(c:Nat):gC (av us) (Int.ofNat c)=av (us.filter fun e=>decide (e.1≠c)):=by
 unfold gC av
 refine a0 List.filter_map ?_
 congr 1
 refine List.filter_congr fun e Z=>?_
 simp
 lia
theorem nj{us:List d8}{kept gone q:Nat}{l:List Nat}(hk:∃ x,aD us kept=some x)(hne:kept≠gone):cX (gC (av us) (Int.ofNat gone)) (Int.ofNat kept) (.ref q)=av (ax us kept gone q l):=by
 refine a0 (jy ..) ?_
 unfold cX
 have:(bb (av (us.filter fun e=>decide (e.1≠gone))) (Int.ofNat kept)).isSome=true:=by
  refine a0 (cn ..) ?_
  obtain⟨⟨p,m⟩,hk⟩:=hk
  have hm:=aZ hk
  have hm2:(kept,p,m)∈us.filter fun e=>decide (e.1≠gone):=by simp[hm,hne]
  unfold aD
  refine a0 Option.isSome_map ?_;refine a0 Option.isSome_map ?_;refine bt List.find?_isSome ?_
  exact a6 _ hm2 (by exact decide_eq_true rfl)
 refine a0 this ?_;refine a0 (if_pos rfl) ?_
 unfold av ax
 refine a0 List.map_map ?_;refine a0 List.map_map ?_
 refine List.map_congr_left fun e Z=>?_
 simp only[Function.comp]
 by_cases h:e.1=kept
 ·simp[h]
 ·have:¬(Int.ofNat e.1=Int.ofNat kept):=fun e=>h (Int.ofNat.inj e)
  simp[h]
  lia
theorem ey{us:List d8}{c p:Nat}{l:List Nat}(h:aD us c=some (p,l)):(p,af.list (nats l))∈cb us:=List.mem_map.mpr (a6 _ (aZ h) rfl)
theorem cQ{us:List d8}{kept gone q:Nat}{l:List Nat}{e:d8}(h:e∈ax us kept gone q l):e=(kept,q,l)∨(e∈us∧e.1≠gone∧e.1≠kept):=by
 unfold ax at h
 refine a7 (List.mem_map.mp h) fun x hx z2=>?_;subst z2
 simp at hx
 by_cases hk:x.1=kept
 ·refine a0 (if_pos hk) ?_;exact .inl rfl
 ·refine a0 (if_neg hk) ?_;exact .inr (i3 hx.1 hx.2 hk)
theorem jz{us:List d8}{kept gone q:Nat}{l:List Nat}(h1:(us.map (fun x=>x.1)).Nodup)(h2:(us.map (fun x=>x.2.1)).Nodup)(hq:q∉us.map (fun x=>x.2.1)):((ax us kept gone q l).map (fun x=>x.2.1)).Nodup:=by
 unfold List.Nodup at*
 rw[List.pairwise_map] at*
 unfold ax
 refine bt List.pairwise_map ?_
 have h3:us.Pairwise fun a b=>a.1≠b.1∧a.2.1≠b.2.1:=List.pairwise_and_iff.mpr ⟨h1,h2⟩
 have h4:=h3.filter (fun e=>decide (e.1≠gone))
 refine List.Pairwise.imp_of_mem (fun{a b} ha hb hab=>?_) h4
 have ma:a∈us:=(List.mem_filter.mp ha).1
 have mb:b∈us:=(List.mem_filter.mp hb).1
 have qa:a.2.1≠q:=fun e=>hq (List.mem_map.mpr (a6 a ma e))
 have qb:b.2.1≠q:=fun e=>hq (List.mem_map.mpr (a6 b mb e))
 by_cases ka:a.1=kept
 ·have kb:b.1≠kept:=fun e=>hab.1 (ka.trans e.symm)
  refine a0 (if_pos ka) ?_;refine a0 (if_neg kb) ?_
  exact qb.symm
 ·by_cases kb:b.1=kept
  ·refine a0 (if_neg ka) ?_;refine a0 (if_pos kb) ?_;exact qa
  ·refine a0 (if_neg ka) ?_;refine a0 (if_neg kb) ?_;exact hab.2
section
variable{prog:Program}{w:World}{H:Heap}{mg mb:Str->Option Value}
theorem yt{V:St}{L:HL}{S:HS}{kept gone:Nat}{l:List Nat}{d:af}(h:b8 V (L.H S))(uk:(S.users.map (fun x=>x.1)).Nodup):
 b8 (((V.set L.ab d)++[af.list (nats l)]).set L.ab (.idict (av (ax S.users kept gone V.length l)))) (L.H {S with users:=ax S.users kept gone V.length l})∧
 aK V (L.keysH S) (((V.set L.ab d)++[af.list (nats l)]).set L.ab (.idict (av (ax S.users kept gone V.length l)))) (L.keysH {S with users:=ax S.users kept gone V.length l}):=by
 have hn:=h.nodup
 rw[dM] at hn
 unfold HL.keysH at hn
 rw[List.nodup_append] at hn
 refine a3 hn fun n1 n2 n3=>?_
 have lt:∀ q∈L.keysH S,q<V.length:=fun q hq=>h.lt (by refine a0 dM ?_;exact hq)
 have labt:L.ab<V.length:=(List.getElem?_eq_some_iff.mp (h.get (i:=4) rfl)).1
 have abm:L.ab∈[L.hp,L.ed,L.fo,L.kn,L.ab,L.wt]:=.tail _ (.tail _ (.tail _ (.tail _ (.head _))))
 have get:∀ q,q≠L.ab->q<V.length->(((V.set L.ab d)++[af.list (nats l)]).set L.ab (.idict (av (ax S.users kept gone V.length l))))[q]? =V[q]? :=fun q hq hl=>
  (List.getElem?_set_ne (Ne.symm hq)).trans ((List.getElem?_append_left (by rw[List.length_set];exact hl)).trans (List.getElem?_set_ne (Ne.symm hq)))
 have hq:V.length∉S.users.map (fun x=>x.2.1):=fun hm=>Nat.lt_irrefl _ (lt _ (List.mem_append_right _ hm))
 have mem:∀ q∈(ax S.users kept gone V.length l).map (fun x=>x.2.1),q=V.length∨q∈S.users.map (fun x=>x.2.1):=by
  intro q hm
  refine a7 (List.mem_map.mp hm) fun e he z2=>?_;subst z2
  exact(cQ he).elim (fun z=>.inl (z▸rfl)) fun z=>.inr (List.mem_map_of_mem z.1)
 have fixed:∀ {i p:Nat} {o:af},(L.H S)[i]? =some (p,o)->i≠4->(((V.set L.ab d)++[af.list (nats l)]).set L.ab (.idict (av (ax S.users kept gone V.length l))))[p]? =some o:=fun{i p o} e ne=>
  (get p (h.ne (j:=4) e rfl ne) (List.getElem?_eq_some_iff.mp (h.get e)).1).trans (h.get e)
 refine⟨b8.of (fun p hp=>(List.mem_append.mp hp).elim (fun hs=>?_) fun hp=>?_) ?_,⟨by rw[List.length_set,List.length_append,List.length_set];exact Nat.le_succ _,fun q hl hk=>get q (fun e=>hk (e▸List.mem_append_left _ abm)) hl,fun q hm=>?_⟩⟩
 ·clear hp;revert p
  refine mV (P:=fun x:Nat×af=>(_:St)[x.1]? =some x.2) (fixed (i:=0) rfl (by decide)) (mV (fixed (i:=1) rfl (by decide)) (mV (fixed (i:=2) rfl (by decide)) (mV (fixed (i:=3) rfl (by decide)) (mV (List.getElem?_set_self ?_) (mV (fixed (i:=5) rfl (by decide)) zq)))))
  rw[List.length_append,List.length_set];exact Nat.lt_succ_of_lt labt
 ·obtain⟨e,he,rfl⟩:=List.mem_map.mp hp
  rcases cQ he with rfl | h1
  ·show _=some (af.list (nats l))
   refine(List.getElem?_set_ne (Nat.ne_of_lt labt)).trans ((List.getElem?_append_right (Nat.le_of_eq (List.length_set ..))).trans ?_)
   rw[List.length_set,Nat.sub_self];rfl
  ·have m:(e.2.1,af.list (nats e.2.2))∈L.H S:=List.mem_append_right _ (List.mem_map.mpr (a6 e h1.1 rfl))
   exact(get e.2.1 (fun z=>n3 L.ab abm _ (List.mem_map_of_mem h1.1) z.symm) (lt _ (List.mem_append_right _ (List.mem_map_of_mem h1.1)))).trans (h.at' _ m)
 ·refine a0 dM ?_
  unfold HL.keysH
  refine bt List.nodup_append ?_
  exact i3 n1 (jz uk n2 hq) fun a ha b hb e=>(mem b hb).elim (fun z=>Nat.ne_of_lt (lt a (List.mem_append_left _ ha)) (e.trans z)) fun hb=>n3 a ha b hb e
 ·rcases List.mem_append.mp hm with hm | hm
  ·exact .inl (List.mem_append_left _ hm)
  ·exact(mem q hm).symm.imp (fun z=>List.mem_append_right _ z) fX
noncomputable def HS.tell(S:HS)(e:a5):HS:={S with edges:=S.edges++[e]}
noncomputable def HS.joined(S:HS)(e:a5)(kept gone q:Nat)(lk lg:List Nat):HS:=
 {S with edges:=S.edges++[e],un:=S.un.merge kept gone,forest:=S.forest++[.int (Int.ofNat S.edges.length)],waiting:=S.waiting++lg,users:=ax S.users kept gone q (lk++lg)}
structure qZ(S:HS):Prop where
 ed:S.edges.length≤100000
 fo:S.forest.length≤100000
 wt:S.waiting.length≤100000
 me:S.un.merged.length≤900
 uk:(S.users.map (fun x=>x.1)).Nodup
 ul:∀ e∈S.users,e.2.2.length≤1000
 un:S.users.length≤1000
theorem s5{n:Nat}{V:St}{L:HL}{S:HS}{a b:Nat}{re:a5}{Q:a5->St->Prop}(h:ak V L S)(m:dY S)(r:qZ S)(ha:a<S.un.par.length)(hb:b<S.un.par.length)
 (hu:∀ c,S.un.par[c]? =some c->∃ p l,aD S.users c=some (p,l))
 (q1:a8 S.un.par a=a8 S.un.par b->∀ V' L' S',ak V' L' S'->S'=S.tell (.tup [.int (Int.ofNat a),.int (Int.ofNat b),re])->L'.hp=L.hp->aK V (L.fp S) V' (L'.fp S')->Q (.bool false) V')
 (q2:∀ kept gone,kept=min (a8 S.un.par a) (a8 S.un.par b)->gone=max (a8 S.un.par a) (a8 S.un.par b)->kept≠gone->∀ pk lk pg lg q V' L' S',aD S.users kept=some (pk,lk)->aD S.users gone=some (pg,lg)->
  ak V' L' S'->S'=S.joined (.tup [.int (Int.ofNat a),.int (Int.ofNat b),re]) kept gone q lk lg->L'.hp=L.hp->aK V (L.fp S) V' (L'.fp S')->Q (.bool true) V'):
 CC (W0 prog w H mg mb) (n+3) (.ref 544) [.ref L.hp,.int (Int.ofNat a),.int (Int.ofNat b),re] V Q:=by
 refine ag (ps:=["self","a","b","reason"]) (by rfl) (by rfl) ?_ (by rfl) (by decide) (by rfl) (by decide) (by rfl) ?_ (by rfl) (by rfl) (by rfl)
 ·exact yq fun Z Z Z Z=>rfl
 ·have h1:=h.hp'
  have hed:=h.h.get (i:=1) rfl
  kd_p
  refine⟨ao rfl,?_⟩
  kd_p
  refine b9 (.list (S.edges++[.tup [.int (Int.ofNat a),.int (Int.ofNat b),re]])) hed (by have:=r.ed;exact a9 this (by decide)) rfl ?_
  have H1:b8 (V.set L.ed (.list (S.edges++[.tup [.int (Int.ofNat a),.int (Int.ofNat b),re]]))) (L.H (S.tell (.tup [.int (Int.ofNat a),.int (Int.ofNat b),re]))):=h.h.set (i:=1) _ rfl
  refine a2 (h.own (S':=S.tell (.tup [.int (Int.ofNat a),.int (Int.ofNat b),re])) rfl rfl H1 (.set (List.mem_append_left _ (.tail _ (.head _))) _)) fun A1 X1=>?_
  generalize V.set L.ed (.list (S.edges++[.tup [.int (Int.ofNat a),.int (Int.ofNat b),re]]))=V₁ at A1 X1 ⊢
  clear H1 hed h1
  have h1:=A1.hp'
  have h2:=A1.un'
  kd_p
  have ln:=m.n
  have lp:=m.pn
  refine(pZ (S:=S.un) A1.u A1.lpl m.pl m.par ha hb (by show S.un.par.length≤_;exact a9 lp (a9 ln (by decide))) (fun l hl=>by have:=m.lots l hl;exact a9 this (by decide)) (by show S.un.merged.length≤_;have:=r.me;exact a9 this (by decide)) (fun e=>?_) (fun hne kept gone ek eg V₂ H2 X2=>?_)).call
  ·kd_p
   refine a6 _ bX ?_
   refine ite_pos (by rfl) ?_
   kd_p
   exact q1 e _ _ _ A1 rfl rfl X1
  ·have A2':=A1.uni (u:=S.un.merge kept gone) (lp:=L.lp) (h.lpl.trans (List.length_set ..).symm) H2 (fd (S:=S.tell (.tup [.int (Int.ofNat a),.int (Int.ofNat b),re])) h.lpl▸X2)
   have A2:ak V₂ L {S with edges:=(S.tell (.tup [.int (Int.ofNat a),.int (Int.ofNat b),re])).edges,un:=S.un.merge kept gone}:=A2'.1
   have Z2:aK V (L.fp S) V₂ (L.fp {S with edges:=(S.tell (.tup [.int (Int.ofNat a),.int (Int.ofNat b),re])).edges,un:=S.un.merge kept gone}):=X1.trans A2'.2
   clear A2' H2 X2 A1 X1
   have hkg:kept≠gone:=by rw[ek,eg];lia
   have q2:=q2 _ _ ek eg hkg
   have ram:=bj m.par ha
   have rbm:=bj m.par hb
   have hkr:S.un.par[kept]? =some kept:=ek▸(Nat.le_total (a8 S.un.par a) (a8 S.un.par b)).elim (fun h=>(Nat.min_eq_left h).symm▸ram) fun h=>(Nat.min_eq_right h).symm▸rbm
   have hgr:S.un.par[gone]? =some gone:=eg▸(Nat.le_total (a8 S.un.par a) (a8 S.un.par b)).elim (fun h=>(Nat.max_eq_right h).symm▸rbm) fun h=>(Nat.max_eq_left h).symm▸ram
   clear ek eg ram rbm hne
   refine jh (hu kept hkr) fun pk lk hk=>?_
   refine jh (hu gone hgr) fun pg lg hg=>?_
   have lk1:=r.ul _ (aZ hk)
   have lg1:=r.ul _ (aZ hg)
   simp only at lk1 lg1
   clear h1 h2
   have h1:=A2.hp'
   have hed:=A2.h.get (i:=1) rfl
   have hfo:=A2.h.get (i:=2) rfl
   kd_p
   refine a6 _ bX ?_
   refine ite_neg (by show ¬(false=true);decide) ?_
   kd_p
   refine fy (xs:=nats [kept,gone]) rfl rfl ?_ rfl
   show AT _ _ _ _ _ _ _ _
   walk_at "m"
   show AT _ _ _ _ _ _ _ _
   walk_at "m"
   show df _ _ _ _ _ _ _
   kd_p
   refine bo (k:=S.edges.length+1) hed (by exact List.length_append ..) (by have:=r.ed;exact a9 (Nat.add_le_add_right this _) (by decide)) ?_
   kd_p
   refine a6 _ dK ?_
   refine a0 (Int.add_sub_cancel (Int.ofNat S.edges.length) 1:Int.ofNat (S.edges.length+1) - 1=Int.ofNat S.edges.length) ?_
   kd_p
   refine b9 (.list (S.forest++[.int (Int.ofNat S.edges.length)])) hfo (by have:=r.fo;show S.forest.length≤_;exact a9 this (by decide)) rfl ?_
   have H3:=A2.h.set (i:=2) (.list (S.forest++[.int (Int.ofNat S.edges.length)])) rfl
   have X3:aK V₂ (L.keysH S) _ (L.keysH S):=aK.set (p:=L.fo) (List.mem_append_left _ (.tail _ (.tail _ (.head _)))) (.list (S.forest++[.int (Int.ofNat S.edges.length)]))
   have e3:b8 (V₂.set L.fo (.list (S.forest++[.int (Int.ofNat S.edges.length)]))) (L.H {S with edges:=(S.tell (.tup [.int (Int.ofNat a),.int (Int.ofNat b),re])).edges,un:=S.un.merge kept gone,forest:=S.forest++[.int (Int.ofNat S.edges.length)]}):=H3
   refine a2 (A2.own (S':={S with edges:=(S.tell (.tup [.int (Int.ofNat a),.int (Int.ofNat b),re])).edges,un:=S.un.merge kept gone,forest:=S.forest++[.int (Int.ofNat S.edges.length)]}) rfl rfl e3 X3) fun A3 Y3=>?_
   have Z3:=Z2.trans Y3
   generalize V₂.set L.fo (.list (S.forest++[.int (Int.ofNat S.edges.length)]))=V₃ at A3 Y3 Z3 ⊢
   clear H3 X3 e3 h1 hed hfo
   have h1:=A3.hp'
   have hab:=A3.h.get (i:=4) rfl
   have hwt:=A3.h.get (i:=5) rfl
   have hpg:=A3.h.at' (pg,af.list (nats lg)) (List.mem_append_right _ (ey hg))
   kd_p
   refine cO hab (show _=some (a5.ref pg) by show bb (av S.users) _=_;refine a0 (cn ..) ?_;refine a0 hg ?_;rfl) ?_
   kd_p
   refine kN (.list (nats (S.waiting++lg))) hwt hpg (by have:=r.wt;refine a0 (bm ..) ?_;refine a0 (bm ..) ?_;show S.waiting.length+_≤_;exact a9 (Nat.add_le_add this lg1) (by decide)) (by refine a0 (dG ..) ?_;rfl) ?_
   have H4:b8 (V₃.set L.wt (.list (nats (S.waiting++lg)))) (L.H {S with edges:=(S.tell (.tup [.int (Int.ofNat a),.int (Int.ofNat b),re])).edges,un:=S.un.merge kept gone,forest:=S.forest++[.int (Int.ofNat S.edges.length)],waiting:=S.waiting++lg}):=A3.h.set (i:=5) (.list (nats (S.waiting++lg))) rfl
   refine a2 (A3.own (S':={S with edges:=(S.tell (.tup [.int (Int.ofNat a),.int (Int.ofNat b),re])).edges,un:=S.un.merge kept gone,forest:=S.forest++[.int (Int.ofNat S.edges.length)],waiting:=S.waiting++lg}) rfl rfl H4 (aK.set (p:=L.wt) (List.mem_append_left _ (.tail _ (.tail _ (.tail _ (.tail _ (.tail _ (.head _))))))) _)) fun A4 Y4=>?_
   have Z4:=Z3.trans Y4
   generalize V₃.set L.wt (.list (nats (S.waiting++lg)))=V₄ at A4 Y4 Z4 ⊢
   clear H4 h1 hab hwt hpg
   have h1:=A4.hp'
   have hab:=A4.h.get (i:=4) rfl
   have hpk:V₄[pk]? =_:=A4.h.at' (pk,af.list (nats lk)) (List.mem_append_right _ (ey hk))
   have hpg:V₄[pg]? =_:=A4.h.at' (pg,af.list (nats lg)) (List.mem_append_right _ (ey hg))
   have hn:=A4.h.nodup
   rw[dM] at hn
   unfold HL.keysH at hn
   rw[List.nodup_append] at hn
   have nab:∀ q∈S.users.map (fun x=>x.2.1),L.ab≠q:=fun q hm e=>hn.2.2 L.ab (.tail _ (.tail _ (.tail _ (.tail _ (.head _))))) q hm e
   have npk:=nab pk (List.mem_map_of_mem (f:=fun e:d8=>e.2.1) (aZ hk))
   have npg:=nab pg (List.mem_map_of_mem (f:=fun e:d8=>e.2.1) (aZ hg))
   refine a2 (yt (kept:=kept) (gone:=gone) (l:=lk++lg) (d:=.idict (gC (av S.users) (Int.ofNat gone))) A4.h r.uk) fun H7 X7=>?_
   refine a2 (A4.own (S':=S.joined (.tup [.int (Int.ofNat a),.int (Int.ofNat b),re]) kept gone V₄.length lk lg) rfl rfl H7 X7) fun A7 Y7=>?_
   have Z7:=Z4.trans Y7
   walk_at "m"
   walk_at "m"
   refine pf ?_
   kd_p
   refine cO hab (show _=some (a5.ref pk) by show bb (av S.users) _=_;refine a0 (cn ..) ?_;refine a0 hk ?_;rfl) ?_
   kd_p
   have ul:=r.un
   refine r9 (a:=.ref pg) hab (by show bb (av S.users) _=_;refine a0 (cn ..) ?_;refine a0 hg ?_;rfl) (by show(av S.users).length≤_;simp[av];exact a9 ul (by decide)) ?_
   have d1:(V₄.set L.ab (.idict (gC (av S.users) (Int.ofNat gone))))[pk]? =some (.list (nats lk)):=(List.getElem?_set_ne npk).trans hpk
   have d2:(V₄.set L.ab (.idict (gC (av S.users) (Int.ofNat gone))))[pg]? =some (.list (nats lg)):=(List.getElem?_set_ne npg).trans hpg
   refine lU (.list (nats (lk++lg))) (dy d1) (dy d2) (by refine a0 (bm ..) ?_;refine a0 (bm ..) ?_;exact a9 (Nat.add_le_add lk1 lg1) (by decide)) (by refine a0 (dG ..) ?_;rfl) ?_
   have labt:L.ab<V₄.length:=(List.getElem?_eq_some_iff.mp hab).1
   have nhp:L.hp≠L.ab:=A4.h.ne (i:=0) (j:=4) rfl rfl (by decide)
   have lhp:L.hp<V₄.length:=(List.getElem?_eq_some_iff.mp h1).1
   have d3:(V₄.set L.ab (.idict (gC (av S.users) (Int.ofNat gone)))++[af.list (nats (lk++lg))])[L.hp]? =some (.inst 599 [("bank",.ref L.bk),("unions",.ref L.un),("edges",.ref L.ed),("forest",.ref L.fo),("known",.ref L.kn),("above",.ref L.ab),("waiting",.ref L.wt)]):=by
    exact(List.getElem?_append_left (by rw[List.length_set];exact lhp)).trans ((List.getElem?_set_ne nhp.symm).trans h1)
   have d4:(V₄.set L.ab (.idict (gC (av S.users) (Int.ofNat gone)))++[af.list (nats (lk++lg))])[L.ab]? =some (.idict (gC (av S.users) (Int.ofNat gone))):=by
    exact(List.getElem?_append_left (by rw[List.length_set];exact labt)).trans (List.getElem?_set_self labt)
   refine a0 List.length_set ?_
   kd_p
   refine bS (.idict (av (ax S.users kept gone V₄.length (lk++lg)))) d4 (by refine a0 (jy ..) ?_;simp[av];have:=List.length_filter_le (fun e:d8=>decide (e.1≠gone)) S.users;simp at this;exact a9 this (a9 ul (by decide))) (by rw[nj ⟨_,hk⟩ hkg]) ?_
   kd_p
   exact q2 pk lk pg lg V₄.length _ _ _ hk hg A7 rfl rfl Z7
end
noncomputable def eT(ks:List (ar×Nat))(k:ar):Option Nat:=(ks.find? fun e=>decide (e.1=k)).map (fun x=>x.2)
theorem gu(ks:List (ar×Nat))(k:ar):bb (eG ks) (cA k)=(eT ks k).map fun o=>.int (Int.ofNat o):=by
 unfold bb eT eG
 induction ks with
 | nil=>rfl
 | cons e r ih=>
   refine a0 List.map_cons ?_;refine a0 List.find?_cons ?_;refine a0 List.find?_cons ?_
   by_cases h:e.1=k
   ·subst h;simp
   ·have:¬(cA e.1=cA k):=fun e=>h (hE e)
    simp only[decide_eq_false h,decide_eq_false this]
    exact ih
theorem o9{ks:List (ar×Nat)}{k:ar}{n:Nat}(h:eT ks k=none):cX (eG ks) (cA k) (.int (Int.ofNat n))=eG (ks++[(k,n)]):=by
 unfold cX
 refine a0 (gu ..) ?_;refine a0 h ?_
 unfold eG
 simp
theorem fc{ks:List (ar×Nat)}{k:ar}{o:Nat}(h:eT ks k=some o):(k,o)∈ks:=by
 unfold eT at h
 refine a7 (Option.map_eq_some_iff.mp h) fun e he z2=>?_;subst z2
 have:=List.find?_some he
 simp only[decide_eq_true_eq] at this
 have hm:=List.mem_of_find?_eq_some he
 obtain⟨a,b⟩:=e
 simp at this
 subst this
 exact hm
inductive oZ(S:HS)(a b:Nat):HS->Prop
 | same (e:a5):a8 S.un.par a=a8 S.un.par b->oZ S a b (S.tell e)
 | join (e:a5) (kept gone pk pg q:Nat) (lk lg:List Nat):kept=min (a8 S.un.par a) (a8 S.un.par b)->gone=max (a8 S.un.par a) (a8 S.un.par b)->kept≠gone->aD S.users kept=some (pk,lk)->aD S.users gone=some (pg,lg)->oZ S a b (S.joined e kept gone q lk lg)
noncomputable def HS.learn(S:HS)(k:ar)(n:Nat):HS:={S with known:=S.known++[(k,n)]}
inductive oV(S:HS)(n:Nat)(x:ar):HS->Prop
 | new:eT S.known (S.nodeKey x)=none->oV S n x (S.learn (S.nodeKey x) n)
 | same (o:Nat):eT S.known (S.nodeKey x)=some o->a8 S.un.par o=a8 S.un.par n->oV S n x S
 | join (o:Nat) (S':HS):eT S.known (S.nodeKey x)=some o->a8 S.un.par o≠a8 S.un.par n->oZ S o n S'->oV S n x S'
section
variable{prog:Program}{w:World}{H:Heap}{mg mb:Str->Option Value}
noncomputable abbrev y6(V:St)(L:HL)(S:HS)(R:HS->Prop)(Q:St->HL->HS->Prop):Prop:=∀ V' L' S',R S'->ak V' L' S'->L'.hp=L.hp->aK V (L.fp S) V' (L'.fp S')->Q V' L' S'
theorem jU{n:Nat}{V:St}{L:HL}{S:HS}{a b:Nat}{re:a5}{Q:a5->St->Prop}(h:ak V L S)(m:dY S)(r:qZ S)(ha:a<S.un.par.length)(hb:b<S.un.par.length)
 (hu:∀ c,S.un.par[c]? =some c->∃ p l,aD S.users c=some (p,l))(q:∀ v,y6 V L S (oZ S a b) fun V' Z Z=>Q v V'):
 CC (W0 prog w H mg mb) (n+3) (.ref 544) [.ref L.hp,.int (Int.ofNat a),.int (Int.ofNat b),re] V Q:=by
 refine s5 h m r ha hb hu (fun e V' L' S' A e1 e2 X=>?_) (fun kept gone e1 e2 ne pk lk pg lg q' V' L' S' h1 h2 A e3 e4 X=>?_)
 ·subst e1
  exact q _ V' L' _ (.same _ e) A e2 X
 ·subst e3
  exact q _ V' L' _ (.join _ kept gone pk pg q' lk lg e1 e2 ne h1 h2) A e4 X
theorem hV{n:Nat}{V:St}{L:HL}{S:HS}{k:Nat}{x:ar}{Q:a5->St->Prop}(h:ak V L S)(m:dY S)(r:qZ S)(hk:S.bank.nodes[k]? =some x)(hkp:k<S.un.par.length)(hx:∀ j∈x.2,j<S.un.par.length)
 (hu:∀ c,S.un.par[c]? =some c->∃ p l,aD S.users c=some (p,l))(hkn:∀ e∈S.known,e.2<S.un.par.length)(hkl:S.known.length≤100000)(q:y6 V L S (oV S k x) fun V' Z Z=>Q .none V'):
 CC (W0 prog w H mg mb) (n+4) (.ref 516) [.ref L.hp,.int (Int.ofNat k)] V Q:=by
 refine ag (ps:=["self","n"]) (by rfl) (by rfl) ?_ (by rfl) (by decide) (by rfl) (by decide) (by rfl) ?_ (by rfl) (by rfl) (by rfl)
 ·exact dj fun Z Z=>rfl
 ·have h1:=h.hp'
  have h2:=h.h.get (i:=3) rfl
  kd_p
  refine(k0 h m hk hx ?_).call
  kd_p
  have hsk:skeys (.str (S.nodeKey x).1::nats (S.nodeKey x).2)=some (cA (S.nodeKey x)):=dm _
  refine lr h2 hsk (by simp[eG];exact a9 hkl (by decide)) (fun v hv=>?_) (fun hv=>?_)
  ·rw[gu] at hv
   refine a7 (Option.map_eq_some_iff.mp hv) fun o ho z2=>?_;subst z2
   have ol:o<S.un.par.length:=hkn _ (fc ho)
   kd_p
   refine(bv h m ol ?_).call
   kd_p
   refine(bv h m hkp ?_).call
   refine a6 _ dv ?_
   by_cases e:a8 S.un.par o=a8 S.un.par k
   ·refine ite_neg (by simp;lia) ?_
    kd_p
    exact q _ L _ (.same o ho e) h rfl .refl
   ·refine ite_pos (by simp;lia) ?_
    kd_p
    refine⟨ao rfl,?_⟩
    kd_p
    refine(jU h m r ol hkp hu fun v V' L' S' J A e' X=>?_).call
    kd_p
    exact q _ L' _ (.join o S' ho e J) A e' X
  ·rw[gu] at hv
   have hv':eT S.known (S.nodeKey x)=none:=by simpa using hv
   refine a0 (o9 hv') ?_
   have H1:b8 (V.set L.kn (.tdict (eG (S.known++[(S.nodeKey x,k)])))) (L.H (S.learn (S.nodeKey x) k)):=h.h.set (i:=3) _ rfl
   refine a2 (h.own (S':=S.learn (S.nodeKey x) k) rfl rfl H1 (.set (by simp[HL.keysH]) _)) fun A1 X1=>?_
   generalize V.set L.kn (.tdict (eG (S.known++[(S.nodeKey x,k)])))=V₁ at A1 X1 ⊢
   have m1:dY (S.learn (S.nodeKey x) k):=⟨m.par,m.pl,m.n,m.pn,m.kid,m.kidn,m.nd,m.wl,m.dl,m.lots⟩
   clear h1 h2 H1
   have h1:=A1.hp'
   kd_p
   refine(bv A1 m1 hkp ?_).call
   kd_p
   refine(bv A1 m1 hkp ?_).call
   refine a6 _ dv ?_
   refine ite_neg (by simp) ?_
   kd_p
   exact q _ L _ (.new hv') A1 rfl X1
end
inductive Tm where
 | mk (op:Str) (kids:List Tm)
noncomputable def y8(nodes:List ar):Nat->Nat->Tm
 | 0,_=>.mk ⟨#[]⟩ []
 | f+1,n=>(nodes[n]?).elim (.mk ⟨#[]⟩ []) fun x=>.mk x.1 (x.2.map fun k=>if k<n then y8 nodes f k else .mk x.1 [])
noncomputable def tm(nodes:List ar)(n:Nat):Tm:=y8 nodes (n+1) n
theorem th{nodes:List ar}:∀ n m a:Nat,a<n->a<m->y8 nodes n a=y8 nodes m a:=by
 intro n
 induction n with
 | zero=>intro m a h _;cases h
 | succ n ih=>
   intro m a hn hm
   cases m with
   | zero=>cases hm
   | succ m=>
     show(nodes[a]?).elim _ _=(nodes[a]?).elim _ _
     cases nodes[a]? with
     | none=>rfl
     | some x=>exact congrArg (Tm.mk x.1) (List.map_congr_left fun k Z=>ite_congr rfl (fun e=>ih m k (Nat.lt_of_lt_of_le e (Nat.le_of_lt_succ hn)) (Nat.lt_of_lt_of_le e (Nat.le_of_lt_succ hm))) fun Z=>rfl)
theorem y7{nodes:List ar}{n:Nat}{o:Option ar}(h:nodes[n]? =o):tm nodes n=o.elim (.mk ⟨#[]⟩ []) fun x=>.mk x.1 (x.2.map fun k=>if k<n then y8 nodes n k else .mk x.1 []):=h▸rfl
theorem dQ{nodes:List ar}{n:Nat}{x:ar}(h:nodes[n]? =some x)(hk:∀ k∈x.2,k<n):tm nodes n=.mk x.1 (x.2.map (tm nodes)):=
 (y7 h).trans (congrArg (Tm.mk x.1) (List.map_congr_left fun k hk'=>(if_pos (hk k hk')).trans (th _ _ _ (hk k hk') (Nat.lt_succ_self _))))
noncomputable def dP(nodes:List ar):Prop:=∀ (n:Nat) (x:ar),nodes[n]? =some x->∀ k∈x.2,k<n
theorem iy{nodes:List ar}(ok:dP nodes)(more:List ar):∀ n,n<nodes.length->tm (nodes++more) n=tm nodes n:=by
 intro n
 induction n using Nat.strongRecOn with
 | _ n ih=>
   intro hn
   have h:nodes[n]? =some nodes[n]:=List.getElem?_eq_getElem hn
   have h':(nodes++more)[n]? =some nodes[n]:=by refine a0 (List.getElem?_append_left hn) ?_;exact h
   have hk:=ok n _ h
   refine a0 (dQ h hk) ?_;refine a0 (dQ h' hk) ?_
   congr 1
   exact List.map_congr_left fun k hk'=>ih k (hk k hk') (Nat.lt_trans (hk k hk') hn)
theorem jS{α β:Type}{f:α->β}:∀ {l m:List α},(∀ a∈l,∀ b∈m,f a=f b->a=b)->l.map f=m.map f->l=m
 | [],[],_,_=>rfl
 | [],_::_,_,h=>by cases h
 | _::_,[],_,h=>by cases h
 | a::l,b::m,hi,h=>by
   rw[List.map_cons,List.map_cons] at h
   injection h with h1 h2
   refine a0 (hi a (.head _) b (.head _) h1) ?_;refine a0 (jS (fun x hx y hy=>hi x (.tail _ hx) y (.tail _ hy)) h2) ?_;rfl
theorem mu{nodes:List ar}(ok:dP nodes)(nd:nodes.Nodup):∀ n m,n<nodes.length->m<nodes.length->tm nodes n=tm nodes m->n=m:=by
 intro n
 induction n using Nat.strongRecOn with
 | _ n ih=>
   intro m hn hm h
   have h1:nodes[n]? =some nodes[n]:=List.getElem?_eq_getElem hn
   have h2:nodes[m]? =some nodes[m]:=List.getElem?_eq_getElem hm
   have k1:=ok n _ h1
   have k2:=ok m _ h2
   rw[dQ h1 k1,dQ h2 k2] at h
   injection h with e1 e2
   have e3:nodes[n].2=nodes[m].2:=jS (fun a ha b hb e=>ih a (k1 a ha) b (Nat.lt_trans (k1 a ha) hn) (Nat.lt_trans (k2 b hb) hm) e) e2
   have e4:nodes[n]=nodes[m]:=Prod.ext e1 e3
   exact(List.getElem?_inj hn nd).mp (by refine a0 h1 ?_;refine a0 h2 ?_;refine a0 e4 ?_;rfl)
inductive Cl(U:Tm->Prop)(T:Tm->Tm->Prop):Tm->Tm->Prop
 | refl {t:Tm}:U t->Cl U T t t
 | symm {t u:Tm}:Cl U T t u->Cl U T u t
 | trans {t u v:Tm}:Cl U T t u->Cl U T u v->Cl U T t v
 | told {t u:Tm}:T t u->Cl U T t u
 | cong {op:Str} {ts us:List Tm}:U (.mk op ts)->U (.mk op us)->ts.length=us.length->(∀ (i:Nat) t u,ts[i]? =some t->us[i]? =some u->Cl U T t u)->Cl U T (.mk op ts) (.mk op us)
theorem nM{par:List Nat}(ok:dC par){kept gone:Nat}(hk:par[kept]? =some kept)(hg:par[gone]? =some gone)(lt:kept<gone):∀ i,i<par.length->a8 (par.set gone kept) i=if a8 par i=gone then kept else a8 par i:=by
 have gl:gone<par.length:=(List.getElem?_eq_some_iff.mp hg).1
 have hk':(par.set gone kept)[kept]? =some kept:=by refine a0 (List.getElem?_set_ne (by exact Nat.ne_of_gt lt)) ?_;exact hk
 intro i
 induction i using Nat.strongRecOn with
 | _ i ih=>
   intro hi
   obtain⟨p,hp⟩:∃ p,par[i]? =some p:=⟨_,List.getElem?_eq_getElem hi⟩
   have pl:=ok.le _ _ hp
   by_cases e:i=gone
   ·subst e
    rw[hg] at hp;cases hp
    have:(par.set i kept)[i]? =some kept:=List.getElem?_set_self gl
    refine a0 (cz this lt) ?_;refine a0 (ay hk') ?_;refine a0 (ay hg) ?_;refine a0 (if_pos rfl) ?_;rfl
   ·have hp':(par.set gone kept)[i]? =some p:=by refine a0 (List.getElem?_set_ne (Ne.symm e)) ?_;exact hp
    by_cases q:p=i
    ·subst q
     refine a0 (ay hp') ?_;refine a0 (ay hp) ?_;refine a0 (if_neg e) ?_;rfl
    ·have lt':p<i:=Nat.lt_of_le_of_ne pl q
     refine a0 (cz hp' lt') ?_;refine a0 (cz hp lt') ?_
     exact ih p lt' (Nat.lt_trans lt' hi)
theorem dC.set{par:List Nat}(ok:dC par){kept gone:Nat}(lt:kept<gone):dC (par.set gone kept):=⟨fun i p h=>by
 rw[List.getElem?_set] at h
 split at h
 ·split at h
  ·cases h;lia
  ·cases h
 ·exact ok.le _ _ h⟩
theorem dC.push{par:List Nat}(ok:dC par):dC (par++[par.length]):=⟨fun i p h=>by
 rcases Nat.lt_or_ge i par.length with hi | hi
 ·rw[List.getElem?_append_left hi] at h;exact ok.le _ _ h
 ·rw[List.getElem?_append_right hi] at h
  have:=(List.getElem?_eq_some_iff.mp h).1
  simp at this
  have:i=par.length:=by lia
  subst this
  simp at h;exact fX h⟩
theorem fG{par:List Nat}(ok:dC par)(v:Nat):∀ i,i<par.length->a8 (par++[v]) i=a8 par i:=by
 intro i
 induction i using Nat.strongRecOn with
 | _ i ih=>
   intro hi
   obtain⟨p,hp⟩:∃ p,par[i]? =some p:=⟨_,List.getElem?_eq_getElem hi⟩
   have hp':(par++[v])[i]? =some p:=by refine a0 (List.getElem?_append_left hi) ?_;exact hp
   have pl:=ok.le _ _ hp
   by_cases q:p=i
   ·subst q;refine a0 (ay hp) ?_;refine a0 (ay hp') ?_;rfl
   ·have lt':p<i:=Nat.lt_of_le_of_ne pl q
    refine a0 (cz hp' lt') ?_;refine a0 (cz hp lt') ?_
    exact ih p lt' (Nat.lt_trans lt' hi)
theorem tA(par:List Nat):a8 (par++[par.length]) par.length=par.length:=ay (by exact List.getElem?_concat_length ..)
theorem dU{par:List Nat}{a:Nat}:a∈aA par↔par[a]? =some a:=by
 unfold aA
 refine bt List.mem_filter ?_;refine bt List.mem_range ?_
 constructor
 ·intro h;simpa using h.2
 ·intro h;exact⟨(List.getElem?_eq_some_iff.mp h).1,by simpa using h⟩
theorem eY(par:List Nat):(aA par).Nodup:=List.Pairwise.filter _ List.nodup_range
theorem rM{par:List Nat}{kept gone:Nat}(hk:par[kept]? =some kept)(hg:par[gone]? =some gone)(lt:kept<gone):(aA (par.set gone kept)).length+1=(aA par).length:=by
 have gl:gone<par.length:=(List.getElem?_eq_some_iff.mp hg).1
 have e:aA (par.set gone kept)=(aA par).erase gone:=by
  refine a0 ((eY par).erase_eq_filter ..) ?_
  unfold aA
  refine a0 List.filter_filter ?_;refine a0 List.length_set ?_
  refine List.filter_congr fun a ha=>?_
  by_cases q:a=gone
  ·subst q
   refine a0 (List.getElem?_set_self gl) ?_
   have:(some kept==some a)=false:=by simp;exact Nat.ne_of_lt lt
   simp[this]
  ·refine a0 (List.getElem?_set_ne (Ne.symm q)) ?_
   have:(a != gone)=true:=by simpa using q
   simp[this]
 refine a0 e ?_;refine a0 (List.length_erase_of_mem (dU.mpr hg)) ?_
 have:0<(aA par).length:=List.length_pos_of_mem (dU.mpr hg)
 lia
theorem pM(par:List Nat):(aA (par++[par.length])).length=(aA par).length+1:=by
 have e:aA (par++[par.length])=aA par++[par.length]:=by
  unfold aA
  refine a0 List.length_append ?_;refine a0 List.length_singleton ?_;refine a0 List.range_succ ?_;refine a0 (List.filter_append ..) ?_
  congr 1
  ·refine List.filter_congr fun a ha=>?_
   refine a0 (List.getElem?_append_left (by simpa using ha)) ?_;rfl
  ·simp
 refine a0 e ?_;refine a0 List.length_append ?_;rfl
theorem tz(par:List Nat):(aA par).length≤par.length:=by
 unfold aA
 have:=List.length_filter_le (fun a=>par[a]? ==some a) (List.range par.length)
 simpa using this
theorem cL{α:Type}[DecidableEq α]:∀ {l m:List α},l.Nodup->(∀ a∈l,a∈m)->l.length≤m.length
 | [],m,_,_=>Nat.zero_le _
 | a::l,m,h,s=>by
   have ha:=s a (.head _)
   have h1:=List.nodup_cons.mp h
   have:=cL (l:=l) (m:=m.erase a) h1.2 fun b hb=>(List.mem_erase_of_ne (fun e=>h1.1 (by subst e;exact hb))).mpr (s b (.tail _ hb))
   rw[List.length_erase_of_mem ha] at this
   have:0<m.length:=List.length_pos_of_mem ha
   simp;lia
theorem bT{l:List Nat}{n:Nat}(h:l.Nodup)(s:∀ a∈l,a<n):l.length≤n:=by
 have:=cL (m:=List.range n) h fun a ha=>List.mem_range.mpr (s a ha)
 simpa using this
structure aC(U:List Tm)(T:Tm->Tm->Prop)(K:Nat)(S:HS)(ex:List Nat):Prop where
 par:dC S.un.par
 pl:S.un.par.length=S.un.lots.length
 pn:S.un.par.length=S.bank.nodes.length
 kid:dP S.bank.nodes
 kid2:∀ x∈S.bank.nodes,x.2.length≤2
 nd:S.bank.nodes.Nodup
 wl:S.bank.weights.length=S.bank.nodes.length
 dl:S.bank.depths.length=S.bank.nodes.length
 lotl:∀ l∈S.un.lots,l.length≤S.un.par.length
 lots:∀ c,S.un.par[c]? =some c->∃ l,S.un.lots[c]? =some l∧l.Nodup∧∀ i,i∈l↔(i<S.un.par.length∧a8 S.un.par i=c)
 inU:∀ n,n<S.bank.nodes.length->tm S.bank.nodes n∈U
 sound:∀ n,n<S.bank.nodes.length->Cl (fun x=>x∈U) T (tm S.bank.nodes n) (tm S.bank.nodes (a8 S.un.par n))
 uk:(S.users.map (fun x=>x.1)).Nodup
 us:∀ c,S.un.par[c]? =some c->∃ p l,aD S.users c=some (p,l)∧∀ (n:Nat) (x:ar),S.bank.nodes[n]? =some x->∀ k∈x.2,a8 S.un.par k=c->n∈l
 ub:∀ e∈S.users,∀ i∈e.2.2,i<S.un.par.length
 ukb:∀ e∈S.users,e.1<S.un.par.length
 usum:(S.users.map fun e=>e.2.2.length).sum≤2*S.bank.nodes.length
 un:S.users.length≤S.bank.nodes.length
 wb:∀ i∈S.waiting,i<S.un.par.length
 kn:∀ e∈S.known,∃ x,S.bank.nodes[e.2]? =some x∧e.1.1=x.1∧(∀ k∈e.1.2,k<S.un.par.length)∧e.1.2.map (a8 S.un.par)=x.2.map (a8 S.un.par)
 comp:∀ (n:Nat) (x:ar),S.bank.nodes[n]? =some x->n∉S.waiting->n∉ex->∃ o,eT S.known (S.nodeKey x)=some o∧a8 S.un.par o=a8 S.un.par n
 edb:S.edges.length+(aA S.un.par).length≤S.bank.nodes.length+K
 fob:S.forest.length+(aA S.un.par).length≤S.bank.nodes.length
 meb:S.un.merged.length+(aA S.un.par).length≤S.bank.nodes.length
 wtb:S.known.length+S.waiting.length+100*(aA S.un.par).length≤101*S.bank.nodes.length
section
variable{U:List Tm}{T:Tm->Tm->Prop}{K:Nat}{S:HS}{ex:List Nat}
theorem aC.size(h:aC U T K S ex):S.bank.nodes.length≤U.length:=by
 classical
 have nd:((List.range S.bank.nodes.length).map (tm S.bank.nodes)).Nodup:=by
  unfold List.Nodup
  refine bt List.pairwise_map ?_
  refine List.Pairwise.imp_of_mem (fun{a b} ha hb hab e=>hab ?_) List.nodup_range
  exact mu h.kid h.nd _ _ (List.mem_range.mp ha) (List.mem_range.mp hb) e
 have:=cL nd fun t ht=>by
  refine a7 (List.mem_map.mp ht) fun n hn z2=>?_;subst z2
  exact h.inU n (List.mem_range.mp hn)
 simpa using this
theorem aC.small(h:aC U T K S ex)(hU:U.length≤40):dY S where
 par:=h.par
 pl:=h.pl
 n:=by have:=h.size;exact a9 this (a9 hU (by decide))
 pn:=Nat.le_of_eq h.pn
 kid:=h.kid
 kidn:=fun x hx=>by have:=h.kid2 x hx;exact a9 this (by decide)
 nd:=h.nd
 wl:=h.wl
 dl:=h.dl
 lots:=fun l hl=>by have:=h.lotl l hl;have:=h.size;have:=h.pn;lia
theorem gn{l:List Nat}{a:Nat}(h:a∈l):a≤l.sum:=by
 induction l with
 | nil=>cases h
 | cons b r ih=>
   refine a0 List.sum_cons ?_
   cases h with
   | head=>exact Nat.le_add_right_of_le (Nat.le_refl _)
   | tail _ h=>have:=ih h;exact Nat.le_add_left_of_le this
theorem aC.roomy(h:aC U T K S ex)(hU:U.length≤40)(hK:K≤1000):qZ S where
 ed:=by have:=h.edb;have:=h.size;lia
 fo:=by have:=h.fob;have:=h.size;lia
 wt:=by have:=h.wtb;have:=h.size;lia
 me:=by have:=h.meb;have:=h.size;lia
 uk:=h.uk
 ul:=fun e he=>by
  have h1:=gn (List.mem_map_of_mem (f:=fun e:d8=>e.2.2.length) he)
  have:=h.usum;have:=h.size;lia
 un:=by have:=h.un;have:=h.size;lia
theorem aC.hu(h:aC U T K S ex):∀ c,S.un.par[c]? =some c->∃ p l,aD S.users c=some (p,l):=fun c hc=>by
 refine cW (h.us c hc) fun p l e Z=>?_
 exact jZ p l e
theorem aC.hkn(h:aC U T K S ex):∀ e∈S.known,e.2<S.un.par.length:=fun e he=>by
 refine a7 (h.kn e he) fun x hx Z=>?_
 refine a0 h.pn ?_
 exact(List.getElem?_eq_some_iff.mp hx).1
theorem aC.hkl(h:aC U T K S ex)(hU:U.length≤40):S.known.length≤100000:=by have:=h.wtb;have:=h.size;lia
theorem aC.hx(h:aC U T K S ex){n:Nat}{x:ar}(hx:S.bank.nodes[n]? =some x):∀ j∈x.2,j<S.un.par.length:=fun j hj=>by
 have:=h.kid n x hx j hj
 have:=(List.getElem?_eq_some_iff.mp hx).1
 refine a0 h.pn ?_;lia
theorem aC.more(h:aC U T K S ex){K':Nat}(l:K≤K'):aC U T K' S ex:={h with edb:=a9 h.edb (by exact Nat.add_le_add_left l _)}
structure cY(S S':HS):Prop where
 bank:S'.bank=S.bank
 len:S'.un.par.length=S.un.par.length
 eq:∀ i j,i<S.un.par.length->j<S.un.par.length->a8 S.un.par i=a8 S.un.par j->a8 S'.un.par i=a8 S'.un.par j
 fewer:(aA S'.un.par).length≤(aA S.un.par).length
theorem cY.refl{S:HS}:cY S S:=⟨rfl,rfl,fun Z Z Z Z h=>h,Nat.le_refl _⟩
theorem cY.trans{S S' S'':HS}(h:cY S S')(h':cY S' S''):cY S S'':=⟨h'.bank.trans h.bank,h'.len.trans h.len,fun i j hi hj e=>h'.eq i j (h.len▸hi) (h.len▸hj) (h.eq i j hi hj e),a9 h'.fewer h.fewer⟩
theorem ew{us:List d8}{c g:Nat}(h:c≠g):aD (us.filter fun e=>decide (e.1≠g)) c=aD us c:=by
 unfold aD
 congr 1
 induction us with
 | nil=>rfl
 | cons e r ih=>
   refine a0 List.filter_cons ?_
   by_cases q:e.1=g
   ·have:¬e.1=c:=fun z=>h (z▸q)
    simp only[q,ne_eq,not_true_eq_false,decide_false,Bool.false_eq_true,if_false]
    refine a0 List.find?_cons ?_
    have t:decide (e.1=c)=false:=decide_eq_false this
    refine a0 t ?_
    simpa using ih
   ·have t:decide (e.1≠g)=true:=decide_eq_true q
    refine a0 t ?_;refine a0 (if_pos rfl) ?_;refine a0 List.find?_cons ?_;refine a0 List.find?_cons ?_
    cases decide (e.1=c)
    ·simpa using ih
    ·rfl
theorem rD{us:List d8}{c kept q:Nat}{l:List Nat}:aD (us.map fun e=>if e.1=kept then(kept,q,l)else e) c=if c=kept then(aD us kept).map fun Z=>(q,l)else aD us c:=by
 unfold aD
 induction us with
 | nil=>simp
 | cons e r ih=>
   refine a0 List.map_cons ?_;refine a0 List.find?_cons ?_
   by_cases hk:e.1=kept
   ·refine a0 (if_pos hk) ?_
    by_cases hc:c=kept
    ·subst hc;subst hk;simp
    ·have t:decide (kept=c)=false:=decide_eq_false (Ne.symm hc)
     have t':decide (e.1=c)=false:=decide_eq_false (fun z=>hc (z.symm.trans hk))
     simp only[t]
     refine a0 ih ?_;refine a0 (if_neg hc) ?_;refine a0 (if_neg hc) ?_;refine a0 List.find?_cons ?_;refine a0 t' ?_;rfl
   ·refine a0 (if_neg hk) ?_
    by_cases hc:e.1=c
    ·have:¬c=kept:=fun z=>hk (hc.trans z)
     simp[hc,this]
    ·have t':decide (e.1=c)=false:=decide_eq_false hc
     simp only[t']
     refine a0 ih ?_
     have t2:decide (e.1=kept)=false:=decide_eq_false hk
     refine a0 List.find?_cons ?_;refine a0 List.find?_cons ?_;refine a0 t' ?_;refine a0 t2 ?_;rfl
theorem px{us:List d8}{c kept gone q:Nat}{l:List Nat}(hne:kept≠gone)(hk:∃ x,aD us kept=some x)(hc:c≠gone):aD (ax us kept gone q l) c=if c=kept then some (q,l)else aD us c:=by
 unfold ax
 refine a0 rD ?_
 refine aH hk fun x hx=>?_
 by_cases e:c=kept
 ·refine a0 (if_pos e) ?_;refine a0 (if_pos e) ?_;refine a0 (ew hne) ?_;refine a0 hx ?_;rfl
 ·refine a0 (if_neg e) ?_;refine a0 (if_neg e) ?_;refine a0 (ew hc) ?_;rfl
noncomputable def usum(us:List d8):Nat:=(us.map fun e=>e.2.2.length).sum
theorem dk{e:d8}{us:List d8}{c:Nat}:aD (e::us) c=if e.1=c then some e.2 else aD us c:=by
 unfold aD
 refine a0 List.find?_cons ?_
 by_cases h:e.1=c
 ·simp[h]
 ·simp[h]
theorem nh:∀ {us:List d8} {g p:Nat} {l:List Nat},(us.map (fun x=>x.1)).Nodup->aD us g=some (p,l)->usum (us.filter fun e=>decide (e.1≠g))+l.length=usum us:=by
 intro us
 induction us with
 | nil=>intro g p l _ h;cases h
 | cons e r ih=>
   intro g p l nd h
   rw[List.map_cons,List.nodup_cons] at nd
   rw[dk] at h
   refine a0 List.filter_cons ?_
   by_cases q:e.1=g
   ·rw[if_pos q] at h
    have h':e.2=(p,l):=Option.some.inj h
    have h2:e.2.2=l:=by refine a0 h' ?_;rfl
    subst h2
    have:(r.filter fun e=>decide (e.1≠g))=r:=List.filter_eq_self.mpr fun a ha=>decide_eq_true fun z=>nd.1 (q▸z▸List.mem_map_of_mem ha)
    refine a0 (if_neg (by simp[q])) ?_;refine a0 this ?_
    unfold usum
    refine a0 List.map_cons ?_;refine a0 List.sum_cons ?_;lia
   ·rw[if_neg q] at h
    refine a0 (if_pos (by simpa using q)) ?_
    have:=ih nd.2 h
    unfold usum at*
    refine a0 List.map_cons ?_;refine a0 List.sum_cons ?_;refine a0 List.map_cons ?_;refine a0 List.sum_cons ?_;lia
theorem t9:∀ {us:List d8} {k p q:Nat} {l l':List Nat},(us.map (fun x=>x.1)).Nodup->aD us k=some (p,l)->usum (us.map fun e=>if e.1=k then(k,q,l')else e)+l.length=usum us+l'.length:=by
 intro us
 induction us with
 | nil=>intro g p q l l' _ h;cases h
 | cons e r ih=>
   intro k p q l l' nd h
   rw[List.map_cons,List.nodup_cons] at nd
   rw[dk] at h
   refine a0 List.map_cons ?_
   by_cases z:e.1=k
   ·rw[if_pos z] at h
    have h':e.2=(p,l):=Option.some.inj h
    have h2:e.2.2=l:=by refine a0 h' ?_;rfl
    subst h2
    have:(r.map fun e=>if e.1=k then(k,q,l')else e)=r:=by
     conv=>rhs;rw[← List.map_id r]
     refine List.map_congr_left fun a ha=>?_
     show(if a.1=k then(k,q,l')else a)=a
     refine if_neg fun z'=>nd.1 ?_
     refine a0 z ?_;refine aX z' ?_
     exact List.mem_map_of_mem ha
    refine a0 (if_pos z) ?_;refine a0 this ?_
    unfold usum
    refine a0 List.map_cons ?_;refine a0 List.sum_cons ?_;refine a0 List.map_cons ?_;refine a0 List.sum_cons ?_;simp;lia
   ·rw[if_neg z] at h
    refine a0 (if_neg z) ?_
    have:=ih (q:=q) (l':=l') nd.2 h
    unfold usum at*
    refine a0 List.map_cons ?_;refine a0 List.sum_cons ?_;refine a0 List.map_cons ?_;refine a0 List.sum_cons ?_;lia
theorem iZ{us:List d8}{g:Nat}(h:(us.map (fun x=>x.1)).Nodup):((us.filter fun e=>decide (e.1≠g)).map (fun x=>x.1)).Nodup:=by
 unfold List.Nodup at*
 rw[List.pairwise_map] at*
 exact h.filter _
theorem rC{us:List d8}{kept gone q pk pg:Nat}{lk lg:List Nat}(nd:(us.map (fun x=>x.1)).Nodup)(hne:kept≠gone)(hk:aD us kept=some (pk,lk))(hg:aD us gone=some (pg,lg)):usum (ax us kept gone q (lk++lg))=usum us:=by
 have h1:=nh nd hg
 have h2:=t9 (q:=q) (l':=lk++lg) (iZ nd) (by refine a0 (ew hne) ?_;exact hk)
 unfold ax
 rw[List.length_append] at h2
 lia
set_option tactic.hygienic true in
theorem vQ{us:List d8}{kept gone q:Nat}{l:List Nat}(nd:(us.map (fun x=>x.1)).Nodup):((ax us kept gone q l).map (fun x=>x.1)).Nodup:=by
 have e:(ax us kept gone q l).map (fun x=>x.1)=(us.filter fun e=>decide (e.1≠gone)).map (fun x=>x.1):=by
  unfold ax
  refine a0 List.map_map ?_
  refine List.map_congr_left fun a Z=>?_
  show(if a.1=kept then(kept,q,l)else a).1=a.1
  split
  ·rename_i h;exact h.symm
  ·rfl
 refine a0 e ?_;exact iZ nd
theorem tY{us:List d8}{kept gone q:Nat}{l:List Nat}:(ax us kept gone q l).length≤us.length:=by
 unfold ax
 refine a0 (List.length_map ..) ?_;exact List.length_filter_le _ _
theorem nH(h:aC U T K S ex){i j:Nat}(hi:i<S.bank.nodes.length)(hj:j<S.bank.nodes.length)(e:a8 S.un.par i=a8 S.un.par j):Cl (fun x=>x∈U) T (tm S.bank.nodes i) (tm S.bank.nodes j):=
 .trans (h.sound i hi) (.symm (e▸h.sound j hj))
theorem aC.join(h:aC U T K S ex)(hU:U.length≤40){a b:Nat}(ha:a<S.un.par.length)(hb:b<S.un.par.length)(cl:Cl (fun x=>x∈U) T (tm S.bank.nodes a) (tm S.bank.nodes b)){e:a5}{kept gone pk pg q:Nat}{lk lg:List Nat}(e1:kept=min (a8 S.un.par a) (a8 S.un.par b))(e2:gone=max (a8 S.un.par a) (a8 S.un.par b))(hne:kept≠gone)
 (uk:aD S.users kept=some (pk,lk))(ug:aD S.users gone=some (pg,lg)):
 aC U T K (S.joined e kept gone q lk lg) ex∧cY S (S.joined e kept gone q lk lg)∧a8 (S.joined e kept gone q lk lg).un.par a=a8 (S.joined e kept gone q lk lg).un.par b∧(aA (S.joined e kept gone q lk lg).un.par).length+1=(aA S.un.par).length:=by
 have ra:=bj h.par ha
 have rb:=bj h.par hb
 have rla:=bL ha
 have rlb:=bL hb
 have lt:kept<gone:=by lia
 have hk:S.un.par[kept]? =some kept:=by
  rcases Nat.le_total (a8 S.un.par a) (a8 S.un.par b)with z | z
  ·refine a0 e1 ?_;refine a0 (Nat.min_eq_left z) ?_;exact ra
  ·refine a0 e1 ?_;refine a0 (Nat.min_eq_right z) ?_;exact rb
 have hg:S.un.par[gone]? =some gone:=by
  rcases Nat.le_total (a8 S.un.par a) (a8 S.un.par b)with z | z
  ·refine a0 e2 ?_;refine a0 (Nat.max_eq_right z) ?_;exact rb
  ·refine a0 e2 ?_;refine a0 (Nat.max_eq_left z) ?_;exact ra
 have gl:gone<S.un.par.length:=(List.getElem?_eq_some_iff.mp hg).1
 have kl:kept<S.un.par.length:=by exact a9 lt (Nat.le_of_lt gl)
 have R:∀ i,i<S.un.par.length->a8 (S.un.par.set gone kept) i=if a8 S.un.par i=gone then kept else a8 S.un.par i:=nM h.par hk hg lt
 have RR:=rM hk hg lt
 have pe:(S.joined e kept gone q lk lg).un.par=S.un.par.set gone kept:=rfl
 have cab:Cl (fun x=>x∈U) T (tm S.bank.nodes kept) (tm S.bank.nodes gone):=by
  have s1:=h.sound a (h.pn▸ha)
  have s2:=h.sound b (h.pn▸hb)
  have s3:Cl (fun x=>x∈U) T (tm S.bank.nodes (a8 S.un.par a)) (tm S.bank.nodes (a8 S.un.par b)):=.trans (.symm s1) (.trans cl s2)
  rcases Nat.le_total (a8 S.un.par a) (a8 S.un.par b)with z | z
  ·refine a0 e1 ?_;refine a0 e2 ?_;refine a0 (Nat.min_eq_left z) ?_;refine a0 (Nat.max_eq_right z) ?_;exact s3
  ·refine a0 e1 ?_;refine a0 e2 ?_;refine a0 (Nat.min_eq_right z) ?_;refine a0 (Nat.max_eq_left z) ?_;exact .symm s3
 have Re:∀ i j,i<S.un.par.length->j<S.un.par.length->a8 S.un.par i=a8 S.un.par j->a8 (S.un.par.set gone kept) i=a8 (S.un.par.set gone kept) j:=fun i j hi hj z=>by refine a0 (R i hi) ?_;refine a0 (R j hj) ?_;refine a0 z ?_;rfl
 have F:cY S (S.joined e kept gone q lk lg):=⟨rfl,by refine a0 pe ?_;exact List.length_set ..,Re,by refine a0 pe ?_;lia⟩
 have Rm:∀ ks ks':List Nat,(∀ k∈ks,k<S.un.par.length)->(∀ k∈ks',k<S.un.par.length)->ks.map (a8 S.un.par)=ks'.map (a8 S.un.par)->ks.map (a8 (S.un.par.set gone kept))=ks'.map (a8 (S.un.par.set gone kept)):=by
  intro ks ks' h1 h2 z
  have f:∀ l:List Nat,(∀ k∈l,k<S.un.par.length)->l.map (a8 (S.un.par.set gone kept))=(l.map (a8 S.un.par)).map fun r=>if r=gone then kept else r:=fun l hl=>by
   refine a0 List.map_map ?_
   exact List.map_congr_left fun k hk=>R k (hl k hk)
  refine a0 (f _ h1) ?_;refine a0 (f _ h2) ?_;refine a0 z ?_;rfl
 refine bw (h.lots kept hk) fun tk htk tkn tkm=>?_
 refine bw (h.lots gone hg) fun tg htg tgn tgm=>?_
 have lote:(S.joined e kept gone q lk lg).un.lots=S.un.lots.set kept (tk++tg):=by
  show S.un.lots.set kept (S.un.lots.getD kept []++S.un.lots.getD gone [])=_
  refine a0 List.getD_eq_getElem?_getD ?_;refine a0 List.getD_eq_getElem?_getD ?_;refine a0 htk ?_;refine a0 htg ?_;rfl
 have tn:(tk++tg).Nodup:=by
  refine bt List.nodup_append ?_
  refine i3 tkn tgn (fun x hx y hy z=>?_)
  subst z
  exact hne (((tkm x).mp hx).2.symm.trans ((tgm x).mp hy).2)
 refine i4 ({par:=?_,pl:=?_,pn:=?_,kid:=h.kid,kid2:=h.kid2,nd:=h.nd,wl:=h.wl,dl:=h.dl,lotl:=?_,lots:=?_,inU:=h.inU,sound:=?_,uk:=vQ h.uk,us:=?_,ub:=?_,ukb:=?_,usum:=?_,un:=a9 tY h.un,wb:=?_,kn:=?_,comp:=?_,edb:=?_,fob:=?_,meb:=?_,wtb:=?_}) F ?_ ?_
 ·exact h.par.set lt
 ·refine a0 lote ?_;refine a0 pe ?_;simp[h.pl]
 ·refine a0 pe ?_;refine a0 List.length_set ?_;exact h.pn
 ·refine a0 lote ?_;refine a0 pe ?_
  intro l hl
  refine a0 List.length_set ?_
  rcases List.mem_or_eq_of_mem_set hl with hl | rfl
  ·exact h.lotl l hl
  ·refine bT tn fun x hx=>?_
   rcases List.mem_append.mp hx with hx | hx
   ·exact((tkm x).mp hx).1
   ·exact((tgm x).mp hx).1
 ·refine a0 lote ?_;refine a0 pe ?_
  intro c hc
  by_cases z:c=gone
  ·subst z
   rw[List.getElem?_set_self gl] at hc
   cases hc;lia
  ·rw[List.getElem?_set_ne (Ne.symm z)] at hc
   refine a0 List.length_set ?_
   by_cases y:c=kept
   ·subst y
    refine aP (tk++tg) (List.getElem?_set_self (by refine aX h.pl ?_;exact kl)) tn (fun i=>?_)
    refine bt List.mem_append ?_;refine bt (tkm ..) ?_;refine bt (tgm ..) ?_
    constructor
    ·rintro(⟨x1,x2⟩ | ⟨x1,x2⟩)
     ·refine⟨x1,?_⟩;refine a0 (R i x1) ?_;refine a0 (if_neg (by lia)) ?_;exact x2
     ·refine⟨x1,?_⟩;refine a0 (R i x1) ?_;refine a0 (if_pos x2) ?_;rfl
    ·rintro⟨x1,x2⟩
     rw[R i x1] at x2
     by_cases x3:a8 S.un.par i=gone
     ·exact .inr ⟨x1,x3⟩
     ·rw[if_neg x3] at x2;exact .inl ⟨x1,x2⟩
   ·refine bw (h.lots c hc) fun l l1 l2 l3=>?_
    refine aP l (by refine a0 (List.getElem?_set_ne (Ne.symm y)) ?_;exact l1) l2 (fun i=>?_)
    refine bt (l3 ..) ?_
    refine and_congr_right fun x1=>?_
    refine a0 (R i x1) ?_
    by_cases x3:a8 S.un.par i=gone
    ·refine a0 (if_pos x3) ?_;refine a0 x3 ?_;exact⟨fun z'=>absurd z'.symm z,fun z'=>absurd z'.symm y⟩
    ·refine a0 (if_neg x3) ?_;rfl
 ·intro n hn
  have hn':n<S.un.par.length:=h.pn▸hn
  show Cl _ _ (tm S.bank.nodes n) (tm S.bank.nodes (a8 (S.un.par.set gone kept) n))
  refine a0 (R n hn') ?_
  by_cases z:a8 S.un.par n=gone
  ·refine a0 (if_pos z) ?_
   exact .trans (z▸h.sound n hn) (.symm cab)
  ·refine a0 (if_neg z) ?_;exact h.sound n hn
 ·intro c hc
  have z:c≠gone:=fun z=>by
   subst z
   rw[pe,List.getElem?_set_self gl] at hc
   cases hc;exact absurd (Nat.lt_of_lt_of_le lt (Nat.le_refl _)) (Nat.lt_irrefl _)
  rw[pe,List.getElem?_set_ne (Ne.symm z)] at hc
  show ∃ p l,aD (ax S.users kept gone q (lk++lg)) c=some (p,l)∧∀ (n:Nat) (x:ar),S.bank.nodes[n]? =some x->∀ k∈x.2,a8 (S.un.par.set gone kept) k=c->n∈l
  refine a0 (px hne ⟨_,uk⟩ z) ?_
  by_cases y:c=kept
  ·refine a0 (if_pos y) ?_
   refine cN q (lk++lg) rfl (fun n x hx k hk' hr=>?_)
   refine cW (h.us kept hk) fun p1 l1 u1 m1=>?_
   refine cW (h.us gone hg) fun p2 l2 u2 m2=>?_
   rw[uk] at u1;rw[ug] at u2
   cases u1;cases u2
   rw[R k (h.hx hx k hk')] at hr
   by_cases w:a8 S.un.par k=gone
   ·exact List.mem_append_right _ (m2 n x hx k hk' w)
   ·rw[if_neg w] at hr;exact List.mem_append_left _ (m1 n x hx k hk' (hr.trans y))
  ·refine a0 (if_neg y) ?_
   refine cW (h.us c hc) fun p1 l1 u1 m1=>?_
   refine cN p1 l1 u1 (fun n x hx k hk' hr=>?_)
   rw[R k (h.hx hx k hk')] at hr
   by_cases w:a8 S.un.par k=gone
   ·rw[if_pos w] at hr;exact absurd hr.symm y
   ·rw[if_neg w] at hr;exact m1 n x hx k hk' hr
 ·intro u hu i hi
  refine a0 pe ?_;refine a0 List.length_set ?_
  rcases cQ hu with rfl | ⟨hu,_,_⟩
  ·rcases List.mem_append.mp hi with hi | hi
   ·exact h.ub _ (aZ uk) i hi
   ·exact h.ub _ (aZ ug) i hi
  ·exact h.ub u hu i hi
 ·intro u hu
  refine a0 pe ?_;refine a0 List.length_set ?_
  rcases cQ hu with rfl | ⟨hu,_,_⟩
  ·exact kl
  ·exact h.ukb u hu
 ·have:=rC (q:=q) h.uk hne uk ug
  have h2:=h.usum
  show Mine.usum (ax S.users kept gone q (lk++lg))≤_
  refine a0 this ?_;exact h2
 ·intro i hi
  refine a0 pe ?_;refine a0 List.length_set ?_
  rcases List.mem_append.mp hi with hi | hi
  ·exact h.wb i hi
  ·exact h.ub _ (aZ ug) i hi
 ·intro y hy
  refine mO (h.kn y hy) fun x x1 x2 x3 x4=>?_
  refine fh x x1 x2 (fun k hk'=>?_) (Rm _ _ x3 (h.hx x1) x4)
  refine a0 pe ?_;refine a0 List.length_set ?_;exact x3 k hk'
 ·intro n x hx hw he
  have hw1:n∉S.waiting:=fun z=>hw (List.mem_append_left _ z)
  have hw2:n∉lg:=fun z=>hw (List.mem_append_right _ z)
  refine a7 (h.comp n x hx hw1 he) fun o o1 o2=>?_
  have nl:n<S.un.par.length:=by refine a0 h.pn ?_;exact(List.getElem?_eq_some_iff.mp hx).1
  have ol:o<S.un.par.length:=h.hkn _ (fc o1)
  refine a6 o ?_ (Re o n ol nl o2)
  have:(S.joined e kept gone q lk lg).nodeKey x=S.nodeKey x:=by
   unfold HS.nodeKey
   congr 1
   refine List.map_congr_left fun k hk'=>?_
   refine a0 pe ?_;refine a0 (R k (h.hx hx k hk')) ?_
   refine if_neg fun z=>hw2 ?_
   refine cW (h.us gone hg) fun p2 l2 u2 m2=>?_
   rw[ug] at u2;cases u2
   exact m2 n x hx k hk' z
  refine a0 this ?_;exact o1
 ·have:=h.edb
  show(S.edges++[e]).length+(aA (S.un.par.set gone kept)).length≤S.bank.nodes.length+K
  refine a0 List.length_append ?_;simp;lia
 ·have:=h.fob
  show(S.forest++[_]).length+(aA (S.un.par.set gone kept)).length≤S.bank.nodes.length
  refine a0 List.length_append ?_;simp;lia
 ·have:=h.meb
  show(S.un.merged++[_]).length+(aA (S.un.par.set gone kept)).length≤S.bank.nodes.length
  refine a0 List.length_append ?_;simp;lia
 ·have:=h.wtb
  have h2:=h.usum
  have h3:lg.length≤(S.users.map fun e=>e.2.2.length).sum:=gn (List.mem_map_of_mem (f:=fun e:d8=>e.2.2.length) (aZ ug))
  show S.known.length+(S.waiting++lg).length+100*(aA (S.un.par.set gone kept)).length≤101*S.bank.nodes.length
  refine a0 List.length_append ?_;have:=h.size;lia
 ·refine a0 pe ?_;refine a0 (R a ha) ?_;refine a0 (R b hb) ?_
  split<;>split<;>lia
 ·refine a0 pe ?_;exact RR
end
section
variable{U:List Tm}{T:Tm->Tm->Prop}{K:Nat}{S:HS}{ex:List Nat}
theorem aC.tell(h:aC U T K S ex)(e:a5):aC U T (K+1) (S.tell e) ex∧cY S (S.tell e):=
 ⟨{h with edb:=by have:=h.edb;show(S.edges++[e]).length+(aA S.un.par).length≤S.bank.nodes.length+(K+1);refine a0 List.length_append ?_;simp;lia,comp:=h.comp},⟨rfl,rfl,fun Z Z Z Z z=>z,Nat.le_refl _⟩⟩
theorem aC.joinR(h:aC U T K S ex)(hU:U.length≤40){a b:Nat}(ha:a<S.un.par.length)(hb:b<S.un.par.length)(cl:Cl (fun x=>x∈U) T (tm S.bank.nodes a) (tm S.bank.nodes b)){S':HS}(J:oZ S a b S'):
 aC U T (K+1) S' ex∧cY S S'∧a8 S'.un.par a=a8 S'.un.par b:=by
 cases J with
 | same e z=>
   refine a2 (h.tell e) fun h1 h2=>?_
   exact i3 h1 h2 z
 | join e kept gone pk pg q lk lg e1 e2 hne uk ug=>
   refine a4 (h.join hU ha hb cl (e:=e) (q:=q) e1 e2 hne uk ug) fun h1 h2 h3 h4=>?_
   exact i3 (h1.more (Nat.le_succ _)) h2 h3
theorem aC.join_key(h:aC U T K S ex){a b:Nat}(ha:a<S.un.par.length)(hb:b<S.un.par.length){e:a5}{kept gone pk pg q:Nat}{lk lg:List Nat}(e1:kept=min (a8 S.un.par a) (a8 S.un.par b))(e2:gone=max (a8 S.un.par a) (a8 S.un.par b))(hne:kept≠gone)
 (ug:aD S.users gone=some (pg,lg)){n:Nat}{x:ar}(hx:S.bank.nodes[n]? =some x)(hn:n∉lg):(S.joined e kept gone q lk lg).nodeKey x=S.nodeKey x:=by
 have ra:=bj h.par ha
 have rb:=bj h.par hb
 have lt:kept<gone:=by lia
 have hk:S.un.par[kept]? =some kept:=by
  rcases Nat.le_total (a8 S.un.par a) (a8 S.un.par b)with z | z
  ·refine a0 e1 ?_;refine a0 (Nat.min_eq_left z) ?_;exact ra
  ·refine a0 e1 ?_;refine a0 (Nat.min_eq_right z) ?_;exact rb
 have hg:S.un.par[gone]? =some gone:=by
  rcases Nat.le_total (a8 S.un.par a) (a8 S.un.par b)with z | z
  ·refine a0 e2 ?_;refine a0 (Nat.max_eq_right z) ?_;exact rb
  ·refine a0 e2 ?_;refine a0 (Nat.max_eq_left z) ?_;exact ra
 unfold HS.nodeKey
 congr 1
 refine List.map_congr_left fun k hk'=>?_
 show a8 (S.un.par.set gone kept) k=_
 refine a0 (nM h.par hk hg lt k (h.hx hx k hk')) ?_
 refine if_neg fun z=>hn ?_
 refine cW (h.us gone hg) fun p2 l2 u2 m2=>?_
 rw[ug] at u2;cases u2
 exact m2 n x hx k hk' z
theorem aC.like(h:aC U T K S ex){n o:Nat}{x:ar}(hx:S.bank.nodes[n]? =some x)(ho:eT S.known (S.nodeKey x)=some o):Cl (fun x=>x∈U) T (tm S.bank.nodes o) (tm S.bank.nodes n):=by
 refine mO (h.kn _ (fc ho)) fun y y1 y2 y3 y4=>?_
 have nl:=(List.getElem?_eq_some_iff.mp hx).1
 have ol:=(List.getElem?_eq_some_iff.mp y1).1
 have e:x.2.map (a8 S.un.par)=y.2.map (a8 S.un.par):=by
  refine aX y4 ?_
  show _=(x.2.map (a8 S.un.par)).map (a8 S.un.par)
  refine a0 List.map_map ?_
  exact List.map_congr_left fun k hk=>(c5 h.par (h.hx hx k hk)).symm
 have u1:=h.inU _ ol
 have u2:=h.inU _ nl
 have y2':x.1=y.1:=y2
 rw[dQ y1 (h.kid _ _ y1)] at u1 ⊢
 rw[dQ hx (h.kid _ _ hx)] at u2 ⊢
 rw[← y2'] at u1 ⊢
 have le:x.2.length=y.2.length:=by have:=congrArg List.length e;simpa using this
 refine .cong u1 u2 (by simp[le]) fun i t u ht hu=>?_
 rw[List.getElem?_map] at ht hu
 refine a7 (Option.map_eq_some_iff.mp ht) fun k1 g1 z2=>?_;subst z2
 refine a7 (Option.map_eq_some_iff.mp hu) fun k2 g2 z2=>?_;subst z2
 have e':=congrArg (fun l=>l[i]?) e
 simp only[List.getElem?_map,g1,g2,Option.map_some,Option.some.injEq] at e'
 exact nH h (h.pn▸h.hx y1 k1 (List.mem_of_getElem? g1)) (h.pn▸h.hx hx k2 (List.mem_of_getElem? g2)) e'.symm
theorem s4{ks:List (ar×Nat)}{k k':ar}{n o:Nat}(h:eT ks k'=some o):eT (ks++[(k,n)]) k'=some o:=by
 unfold eT at*
 refine a0 List.find?_append ?_
 refine a7 (Option.map_eq_some_iff.mp h) fun e e1 e2=>?_
 refine a0 e1 ?_;simpa using e2
theorem tV{ks:List (ar×Nat)}{k:ar}{n:Nat}(h:eT ks k=none):eT (ks++[(k,n)]) k=some n:=by
 unfold eT at*
 refine a0 List.find?_append ?_
 rw[Option.map_eq_none_iff] at h
 refine a0 h ?_;simp
theorem aC.lookR(hU:U.length≤40){n:Nat}{x:ar}(h:aC U T K S [n])(hx:S.bank.nodes[n]? =some x)(sl:S.known.length+1+S.waiting.length+100*(aA S.un.par).length≤101*S.bank.nodes.length){S':HS}(J:oV S n x S'):
 aC U T K S' []∧cY S S'∧((aA S'.un.par).length<(aA S.un.par).length∨((aA S'.un.par).length=(aA S.un.par).length∧S'.waiting=S.waiting)):=by
 have nl:n<S.un.par.length:=by refine a0 h.pn ?_;exact(List.getElem?_eq_some_iff.mp hx).1
 cases J with
 | new hk=>
   refine i3 ({h with kn:=?_,comp:=?_,wtb:=?_}) ⟨rfl,rfl,fun Z Z Z Z z=>z,Nat.le_refl _⟩ (.inr ⟨rfl,rfl⟩)
   ·intro y hy
    rcases List.mem_append.mp hy with hy | hy
    ·exact h.kn y hy
    ·cases List.mem_singleton.mp hy
     refine fh x hx rfl (fun k hk=>?_) ?_
     ·refine a7 (List.mem_map.mp hk) fun j hj z2=>?_;subst z2
      exact bL (h.hx hx j hj)
     ·show(x.2.map (a8 S.un.par)).map (a8 S.un.par)=_
      refine a0 List.map_map ?_
      exact List.map_congr_left fun k hk=>c5 h.par (h.hx hx k hk)
   ·intro m y hy hw _
    show ∃ o,eT (S.known++[(S.nodeKey x,n)]) (S.nodeKey y)=some o∧a8 S.un.par o=a8 S.un.par m
    by_cases z:m=n
    ·subst z
     have hy':S.bank.nodes[m]? =some y:=hy
     rw[hx] at hy';cases hy'
     exact a6 m (tV hk) rfl
    ·refine a7 (h.comp m y hy hw (by simpa using z)) fun o o1 o2=>?_
     exact a6 o (s4 o1) o2
   ·show(S.known++[_]).length+_+_≤_
    refine a0 List.length_append ?_;exact sl
 | same o ho e=>
   refine i3 ({h with comp:=?_}) .refl (.inr ⟨rfl,rfl⟩)
   intro m y hy hw _
   by_cases z:m=n
   ·subst z
    rw[hx] at hy;cases hy
    exact a6 o ho e
   ·exact h.comp m y hy hw (by simpa using z)
 | join o _ ho ne J=>
   cases J with
   | same e z=>exact absurd z ne
   | join e kept gone pk pg q lk lg e1 e2 hne uk ug=>
     have ol:=h.hkn _ (fc ho)
     refine a4 (h.join hU ol nl (h.like hx ho) (e:=e) (q:=q) e1 e2 hne uk ug) fun h1 h2 h3 h4=>?_
     refine i3 ({h1 with comp:=?_}) h2 (.inl (by exact Nat.le_of_eq h4))
     intro m y hy hw _
     by_cases z:m=n
     ·subst z
      have hy':S.bank.nodes[m]? =some y:=hy
      rw[hx] at hy';cases hy'
      refine a6 o ?_ h3
      refine a0 (h.join_key (pk:=pk) ol nl e1 e2 hne ug hx fun z=>hw (List.mem_append_right _ z)) ?_
      exact ho
     ·exact h1.comp m y hy hw (by simpa using z)
theorem aC.pop{ws:List Nat}{n:Nat}(h:aC U T K S [])(e:S.waiting=ws++[n]):aC U T K {S with waiting:=ws} [n]∧S.known.length+1+ws.length+100*(aA S.un.par).length≤101*S.bank.nodes.length∧n<S.un.par.length:=by
 have b:=h.wtb
 rw[e,List.length_append,List.length_singleton] at b
 refine i3 ({h with wb:=?_,comp:=?_,wtb:=?_}) (by lia) (h.wb n (by refine a0 e ?_;exact List.mem_append_right _ (.head _)))
 ·intro i hi
  exact h.wb i (by refine a0 e ?_;exact List.mem_append_left _ hi)
 ·intro m y hy hw he
  refine h.comp m y hy ?_ (by exact fun z=>nomatch z)
  refine a0 e ?_
  intro z
  rcases List.mem_append.mp z with z | z
  ·exact hw z
  ·exact he z
 ·show S.known.length+ws.length+_≤_
  have:({S with waiting:=ws}:HS).un=S.un:=rfl
  have:({S with waiting:=ws}:HS).bank=S.bank:=rfl
  show S.known.length+ws.length+100*(aA S.un.par).length≤101*S.bank.nodes.length
  lia
noncomputable def HS.grown(S:HS)(x:ar)(a b:Int)(q:Nat):HS:=
 {S with bank:=S.bank.push x a b,un:={par:=S.un.par++[S.un.par.length],lots:=S.un.lots++[[S.un.lots.length]],merged:=S.un.merged},
         users:=(S.users.map fun e=>if e.1∈x.2.map (a8 S.un.par)then(e.1,e.2.1,e.2.2++[S.un.par.length])else e)++[(S.un.par.length,q,[])]}
theorem gM{us vs:List d8}{c:Nat}:aD (us++vs) c=(aD us c).or (aD vs c):=by
 unfold aD
 refine a0 List.find?_append ?_
 cases us.find? fun e=>decide (e.1=c)<;>rfl
theorem pw{us:List d8}{R:List Nat}{n c:Nat}:aD (us.map fun e=>if e.1∈R then(e.1,e.2.1,e.2.2++[n])else e) c=(aD us c).map fun z=>if c∈R then(z.1,z.2++[n])else z:=by
 induction us with
 | nil=>rfl
 | cons e r ih=>
   refine a0 List.map_cons ?_;refine a0 dk ?_;refine a0 dk ?_
   by_cases h:e.1=c
   ·subst h
    by_cases k:e.1∈R
    ·simp[k]
    ·simp[k]
   ·by_cases k:e.1∈R
    ·simp only[if_pos k,if_neg h];exact ih
    ·simp only[if_neg k,if_neg h];exact ih
theorem rB{us:List d8}{R:List Nat}{n:Nat}(nd:(us.map (fun x=>x.1)).Nodup):usum (us.map fun e=>if e.1∈R then(e.1,e.2.1,e.2.2++[n])else e)≤usum us+R.length:=by
 have h1:usum (us.map fun e=>if e.1∈R then(e.1,e.2.1,e.2.2++[n])else e)=usum us+(us.filter fun e=>decide (e.1∈R)).length:=by
  clear nd
  induction us with
  | nil=>rfl
  | cons e r ih=>
    unfold usum at*
    rw[List.map_cons,List.map_cons,List.sum_cons,List.map_cons,List.sum_cons,ih,List.filter_cons]
    by_cases k:e.1∈R
    ·simp[k];lia
    ·simp[k];lia
 have h2:(us.filter fun e=>decide (e.1∈R)).length≤R.length:=by
  have:((us.filter fun e=>decide (e.1∈R)).map (fun x=>x.1)).Nodup:=by
   unfold List.Nodup at*
   rw[List.pairwise_map] at*
   exact nd.filter _
  have:=cL this (m:=R) fun a ha=>by
   refine a7 (List.mem_map.mp ha) fun e he z2=>?_;subst z2
   simpa using(List.mem_filter.mp he).2
  simpa using this
 lia
theorem aC.grow(h:aC U T K S []){x:ar}{a b:Int}{q:Nat}(hnew:x∉S.bank.nodes)(hk:∀ k∈x.2,k<S.bank.nodes.length)(h2:x.2.length≤2)(hin:Tm.mk x.1 (x.2.map (tm S.bank.nodes))∈U):
 aC U T K (S.grown x a b q) [S.un.par.length]∧(S.known.length+1+S.waiting.length+100*(aA (S.grown x a b q).un.par).length≤101*(S.grown x a b q).bank.nodes.length)∧(S.grown x a b q).bank.nodes[S.un.par.length]? =some x:=by
 have pn:=h.pn
 have R:=fG h.par S.un.par.length
 have Rn:=tA S.un.par
 have RP:=pM S.un.par
 have pe:(S.grown x a b q).un.par=S.un.par++[S.un.par.length]:=rfl
 have ne:(S.grown x a b q).bank.nodes=S.bank.nodes++[x]:=rfl
 have le:(S.grown x a b q).un.lots=S.un.lots++[[S.un.lots.length]]:=rfl
 have kid:dP (S.bank.nodes++[x]):=by
  intro n y hy
  rcases Nat.lt_or_ge n S.bank.nodes.length with z | z
  ·rw[List.getElem?_append_left z] at hy;exact h.kid n y hy
  ·rw[List.getElem?_append_right z] at hy
   have:=(List.getElem?_eq_some_iff.mp hy).1
   simp at this
   have e:n=S.bank.nodes.length:=by lia
   subst e
   simp at hy;subst hy
   exact hk
 have old:∀ n,n<S.bank.nodes.length->tm (S.bank.nodes++[x]) n=tm S.bank.nodes n:=iy h.kid [x]
 have new:(S.bank.nodes++[x])[S.un.par.length]? =some x:=by refine a0 pn ?_;exact List.getElem?_concat_length ..
 have newT:tm (S.bank.nodes++[x]) S.un.par.length=Tm.mk x.1 (x.2.map (tm S.bank.nodes)):=by
  refine a0 (dQ new (kid _ _ new)) ?_
  congr 1
  exact List.map_congr_left fun k hk'=>old k (hk k hk')
 have split:∀ (n:Nat) (y:ar),(S.bank.nodes++[x])[n]? =some y->(n<S.un.par.length∧S.bank.nodes[n]? =some y)∨(n=S.un.par.length∧y=x):=by
  intro n y hy
  rcases Nat.lt_or_ge n S.bank.nodes.length with z | z
  ·rw[List.getElem?_append_left z] at hy;exact .inl ⟨by exact a9 z (fX pn),hy⟩
  ·have:=(List.getElem?_eq_some_iff.mp hy).1
   simp at this
   have e:n=S.un.par.length:=by lia
   subst e
   rw[new] at hy;cases hy
   exact .inr ⟨rfl,rfl⟩
 have splitp:∀ c:Nat,(S.un.par++[S.un.par.length])[c]? =some c->S.un.par[c]? =some c∨c=S.un.par.length:=by
  intro c hc
  rcases Nat.lt_or_ge c S.un.par.length with z | z
  ·rw[List.getElem?_append_left z] at hc;exact .inl hc
  ·have:=(List.getElem?_eq_some_iff.mp hc).1
   simp at this
   exact .inr (by lia)
 refine i3 ({par:=?_,pl:=?_,pn:=?_,kid:=kid,kid2:=?_,nd:=?_,wl:=?_,dl:=?_,lotl:=?_,lots:=?_,inU:=?_,sound:=?_,uk:=?_,us:=?_,ub:=?_,ukb:=?_,usum:=?_,un:=?_,wb:=?_,kn:=?_,comp:=?_,edb:=?_,fob:=?_,meb:=?_,wtb:=?_}) ?_ new
 ·exact h.par.push
 ·refine a0 pe ?_;refine a0 le ?_;simp[h.pl]
 ·refine a0 pe ?_;refine a0 ne ?_;simp[pn]
 ·intro y hy
  rcases List.mem_append.mp hy with hy | hy
  ·exact h.kid2 y hy
  ·cases List.mem_singleton.mp hy;exact h2
 ·refine a0 ne ?_;refine bt List.nodup_append ?_
  refine i3 h.nd (by simp) (fun u hu v hv e=>hnew ?_)
  cases List.mem_singleton.mp hv
  exact e▸hu
 ·show(S.bank.weights++[a]).length=(S.bank.nodes++[x]).length
  simp[h.wl]
 ·show(S.bank.depths++[b]).length=(S.bank.nodes++[x]).length
  simp[h.dl]
 ·refine a0 le ?_;refine a0 pe ?_
  intro l hl
  refine a0 List.length_append ?_
  rcases List.mem_append.mp hl with hl | hl
  ·have:=h.lotl l hl;exact Nat.le_add_right_of_le this
  ·cases List.mem_singleton.mp hl;exact Nat.succ_pos _
 ·refine a0 le ?_;refine a0 pe ?_
  intro c hc
  rcases splitp c hc with hc | rfl
  ·have cl:=(List.getElem?_eq_some_iff.mp hc).1
   refine bw (h.lots c hc) fun l l1 l2 l3=>?_
   refine aP l (by refine a0 (List.getElem?_append_left (h.pl▸cl)) ?_;exact l1) l2 (fun i=>?_)
   refine bt (l3 ..) ?_;refine a0 List.length_append ?_;refine a0 List.length_singleton ?_
   constructor
   ·rintro⟨x1,x2⟩
    exact⟨by lia,by refine a0 (R i x1) ?_;exact x2⟩
   ·rintro⟨x1,x2⟩
    rcases Nat.lt_or_ge i S.un.par.length with z | z
    ·exact⟨z,by rw[R i z] at x2;exact x2⟩
    ·have e:i=S.un.par.length:=by lia
     subst e
     rw[Rn] at x2;lia
  ·refine aP ([S.un.lots.length]) (by refine a0 h.pl ?_;exact List.getElem?_concat_length ..) (by simp) (fun i=>?_)
   refine a0 List.length_append ?_;refine a0 List.length_singleton ?_;refine bt List.mem_singleton ?_;refine aX h.pl ?_
   constructor
   ·rintro rfl
    exact⟨by exact Nat.le_refl _,Rn⟩
   ·rintro⟨x1,x2⟩
    rcases Nat.lt_or_ge i S.un.par.length with z | z
    ·rw[R i z] at x2
     have:=bL z (par:=S.un.par)
     lia
    ·lia
 ·refine a0 ne ?_
  intro n hn
  rw[List.length_append,List.length_singleton] at hn
  rcases Nat.lt_or_ge n S.bank.nodes.length with z | z
  ·refine a0 (old n z) ?_;exact h.inU n z
  ·have e:n=S.un.par.length:=by lia
   subst e
   refine a0 newT ?_;exact hin
 ·refine a0 ne ?_;refine a0 pe ?_
  intro n hn
  rw[List.length_append,List.length_singleton] at hn
  rcases Nat.lt_or_ge n S.bank.nodes.length with z | z
  ·refine a0 (R n (by exact a9 z (fX pn))) ?_;refine a0 (old n z) ?_;refine a0 (old _ (by have:=qG (par:=S.un.par) n;lia)) ?_;exact h.sound n z
  ·have e:n=S.un.par.length:=by lia
   subst e
   refine a0 Rn ?_
   exact .refl (by refine a0 newT ?_;exact hin)
 ·show(((S.users.map fun e:d8=>if e.1∈x.2.map (a8 S.un.par)then(e.1,e.2.1,e.2.2++[S.un.par.length])else e)++[(S.un.par.length,q,[])]).map fun e:d8=>e.1).Nodup
  refine a0 List.map_append ?_;refine a0 List.map_map ?_
  have e:S.users.map ((fun e:d8=>e.1) ∘ fun e:d8=>if e.1∈x.2.map (a8 S.un.par)then(e.1,e.2.1,e.2.2++[S.un.par.length])else e)=S.users.map (fun x=>x.1):=by
   refine List.map_congr_left fun e Z=>?_
   show(if e.1∈x.2.map (a8 S.un.par)then(e.1,e.2.1,e.2.2++[S.un.par.length])else e).1=e.1
   split<;>rfl
  refine a0 e ?_;refine bt List.nodup_append ?_
  refine i3 h.uk (by simp) (fun u hu v hv z=>?_)
  refine a7 (List.mem_map.mp hu) fun e he z2=>?_;subst z2
  cases List.mem_singleton.mp hv
  have h9:=h.ukb e he
  have z':e.1=S.un.par.length:=z
  exact absurd (Nat.lt_of_lt_of_le h9 (fX z)) (Nat.lt_irrefl _)
 ·refine a0 pe ?_;refine a0 ne ?_
  intro c hc
  show ∃ p l,aD ((S.users.map fun e=>if e.1∈x.2.map (a8 S.un.par)then(e.1,e.2.1,e.2.2++[S.un.par.length])else e)++[(S.un.par.length,q,[])]) c=some (p,l)∧_
  refine a0 gM ?_;refine a0 pw ?_
  rcases splitp c hc with hc | rfl
  ·have cl:=(List.getElem?_eq_some_iff.mp hc).1
   refine cW (h.us c hc) fun p l u1 u2=>?_
   refine a0 u1 ?_
   by_cases z:c∈x.2.map (a8 S.un.par)
   ·refine cN p (l++[S.un.par.length]) (by simp[z]) (fun m y hy k hk' hr=>?_)
    rcases split m y hy with⟨m1,m2⟩ | ⟨m1,m2⟩
    ·rw[R k (h.hx m2 k hk')] at hr
     exact List.mem_append_left _ (u2 m y m2 k hk' hr)
    ·subst m1;exact List.mem_append_right _ (by exact .head _)
   ·refine cN p l (by simp[z]) (fun m y hy k hk' hr=>?_)
    rcases split m y hy with⟨m1,m2⟩ | ⟨m1,m2⟩
    ·rw[R k (h.hx m2 k hk')] at hr
     exact u2 m y m2 k hk' hr
    ·subst m2
     rw[R k (by refine a0 pn ?_;exact hk k hk')] at hr
     exact absurd (hr▸List.mem_map_of_mem hk') z
  ·have none:aD S.users S.un.par.length=none:=by
    unfold aD
    refine bt Option.map_eq_none_iff ?_;refine bt List.find?_eq_none ?_
    intro e he
    have:=h.ukb e he
    simp;exact Nat.ne_of_lt this
   refine a0 none ?_
   refine cN q ([]) (by simp[aD]) (fun m y hy k hk' hr=>?_)
   have kl:k<S.un.par.length:=by
    rcases split m y hy with⟨m1,m2⟩ | ⟨m1,m2⟩
    ·exact h.hx m2 k hk'
    ·subst m2;refine a0 pn ?_;exact hk k hk'
   rw[R k kl] at hr
   have:=bL kl (par:=S.un.par)
   lia
 ·refine a0 pe ?_
  intro e he i hi
  refine a0 List.length_append ?_;refine a0 List.length_singleton ?_
  rcases List.mem_append.mp he with he | he
  ·refine a7 (List.mem_map.mp he) fun e0 h0 z2=>?_;subst z2
   by_cases z:e0.1∈x.2.map (a8 S.un.par)
   ·rw[if_pos z] at hi
    rcases List.mem_append.mp hi with hi | hi
    ·have:=h.ub e0 h0 i hi;lia
    ·cases List.mem_singleton.mp hi;exact Nat.le_refl _
   ·rw[if_neg z] at hi
    have:=h.ub e0 h0 i hi;lia
  ·cases List.mem_singleton.mp he;cases hi
 ·refine a0 pe ?_
  intro e he
  refine a0 List.length_append ?_;refine a0 List.length_singleton ?_
  rcases List.mem_append.mp he with he | he
  ·refine a7 (List.mem_map.mp he) fun e0 h0 z2=>?_;subst z2
   have:=h.ukb e0 h0
   split
   ·show e0.1<_;lia
   ·lia
  ·cases List.mem_singleton.mp he;exact Nat.lt_succ_self _
 ·show(((S.users.map fun e:d8=>if e.1∈x.2.map (a8 S.un.par)then(e.1,e.2.1,e.2.2++[S.un.par.length])else e)++[(S.un.par.length,q,[])]).map fun e:d8=>e.2.2.length).sum≤2*(S.bank.nodes++[x]).length
  have t:=rB (R:=x.2.map (a8 S.un.par)) (n:=S.un.par.length) h.uk
  have h3:=h.usum
  rw[List.length_map] at t
  unfold Mine.usum at t
  refine a0 List.map_append ?_;refine a0 List.sum_append ?_;refine a0 List.length_append ?_
  simp only[List.map_cons,List.map_nil,List.sum_cons,List.sum_nil,List.length_nil,List.length_singleton]
  lia
 ·show((S.users.map fun e:d8=>if e.1∈x.2.map (a8 S.un.par)then(e.1,e.2.1,e.2.2++[S.un.par.length])else e)++[(S.un.par.length,q,[])]).length≤(S.bank.nodes++[x]).length
  have:=h.un
  exact a9 (a9 (Nat.le_of_eq ((List.length_append ..).trans (xH (List.length_map ..) ((List.length_cons ..).trans (congrArg (· +_) (List.length_nil ..)))))) (Nat.add_le_add_right this _)) (fX ((List.length_append ..).trans (congrArg (_+ ·) ((List.length_cons ..).trans (congrArg (· +_) (List.length_nil ..))))))
 ·refine a0 pe ?_
  intro i hi
  refine a0 List.length_append ?_
  have:=h.wb i hi;exact Nat.le_add_right_of_le this
 ·refine a0 pe ?_;refine a0 ne ?_
  intro e he
  refine mO (h.kn e he) fun y y1 y2 y3 y4=>?_
  have yl:=(List.getElem?_eq_some_iff.mp y1).1
  refine fh y (by refine a0 (List.getElem?_append_left yl) ?_;exact y1) y2 (fun k hk'=>by refine a0 List.length_append ?_;have:=y3 k hk';exact Nat.le_add_right_of_le this) ?_
  refine a0 (List.map_congr_left fun k hk'=>R k (y3 k hk')) ?_;refine a0 (List.map_congr_left fun k hk'=>R k (h.hx y1 k hk')) ?_
  exact y4
 ·refine a0 ne ?_
  intro m y hy hw he
  rcases split m y hy with⟨m1,m2⟩ | ⟨m1,m2⟩
  ·refine a7 (h.comp m y m2 hw (by exact fun z=>nomatch z)) fun o o1 o2=>?_
   have ol:=h.hkn _ (fc o1)
   refine a6 o ?_ ?_
   ·have:(S.grown x a b q).nodeKey y=S.nodeKey y:=by
     unfold HS.nodeKey
     congr 1
     exact List.map_congr_left fun k hk'=>R k (h.hx m2 k hk')
    refine a0 this ?_;exact o1
   ·refine a0 pe ?_;refine a0 (R o ol) ?_;refine a0 (R m m1) ?_;exact o2
  ·exact absurd (by simp[m1]) he
 ·have:=h.edb
  refine a0 pe ?_;refine a0 ne ?_;refine a0 RP ?_;refine a0 List.length_append ?_
  show S.edges.length+_≤_
  simp;lia
 ·have:=h.fob
  refine a0 pe ?_;refine a0 ne ?_;refine a0 RP ?_;refine a0 List.length_append ?_
  show S.forest.length+_≤_
  simp;lia
 ·have:=h.meb
  refine a0 pe ?_;refine a0 ne ?_;refine a0 RP ?_;refine a0 List.length_append ?_
  show S.un.merged.length+_≤_
  simp;lia
 ·have:=h.wtb
  refine a0 pe ?_;refine a0 ne ?_;refine a0 RP ?_;refine a0 List.length_append ?_
  show S.known.length+S.waiting.length+_≤_
  simp;lia
 ·have:=h.wtb
  refine a0 pe ?_;refine a0 ne ?_;refine a0 RP ?_;refine a0 List.length_append ?_
  simp;lia
end
theorem Cl.both{U:List Tm}{T:Tm->Tm->Prop}(hT:∀ t u,T t u->t∈U∧u∈U){t u:Tm}(c:Cl (fun x=>x∈U) T t u):t∈U∧u∈U:=by
 induction c with
 | refl h=>exact⟨h,h⟩
 | symm _ ih=>exact⟨ih.2,ih.1⟩
 | trans _ _ ih1 ih2=>exact⟨ih1.1,ih2.2⟩
 | told h=>exact hT _ _ h
 | cong h1 h2 _ _ _=>exact⟨h1,h2⟩
theorem nA{nodes:List ar}(ok:dP nodes){i:Nat}(hi:i<nodes.length){op:Str}{ts:List Tm}(h:tm nodes i=.mk op ts):∃ ks,nodes[i]? =some (op,ks)∧ts=ks.map (tm nodes):=by
 have e:nodes[i]? =some nodes[i]:=List.getElem?_eq_getElem hi
 rw[dQ e (ok _ _ e)] at h
 injection h with h1 h2
 exact a6 (nodes[i].2) (by refine a0 e ?_;refine aX h1 ?_;rfl) h2.symm
theorem aC.full{U:List Tm}{T:Tm->Tm->Prop}{K:Nat}{S:HS}(h:aC U T K S [])(w:S.waiting=[])(cover:∀ t∈U,∃ n,n<S.bank.nodes.length∧tm S.bank.nodes n=t)(hT:∀ t u,T t u->t∈U∧u∈U)
 (told:∀ t u,T t u->∃ i j,i<S.bank.nodes.length∧j<S.bank.nodes.length∧tm S.bank.nodes i=t∧tm S.bank.nodes j=u∧a8 S.un.par i=a8 S.un.par j){t u:Tm}(c:Cl (fun x=>x∈U) T t u):
 ∀ i j,i<S.bank.nodes.length->j<S.bank.nodes.length->tm S.bank.nodes i=t->tm S.bank.nodes j=u->a8 S.un.par i=a8 S.un.par j:=by
 have inj:=mu h.kid h.nd
 induction c with
 | refl _=>intro i j hi hj e1 e2;refine a0 (inj i j hi hj (e1.trans e2.symm)) ?_;rfl
 | symm _ ih=>intro i j hi hj e1 e2;exact(ih j i hj hi e2 e1).symm
 | trans c1 c2 ih1 ih2=>
   intro i j hi hj e1 e2
   refine a7 (cover _ (c1.both hT).2) fun m hm em=>?_
   exact(ih1 i m hi hm e1 em).trans (ih2 m j hm hj em e2)
 | told z=>
   intro i j hi hj e1 e2
   refine xB (told _ _ z) fun a b ha hb ea eb r=>?_
   refine a0 (inj i a hi ha (e1.trans ea.symm)) ?_;refine a0 (inj j b hj hb (e2.trans eb.symm)) ?_
   exact r
 | @cong op ts us u1 u2 le _ ih=>
   intro i j hi hj e1 e2
   refine a7 (nA h.kid hi e1) fun ks k1 z2=>?_;subst z2
   refine a7 (nA h.kid hj e2) fun ls l1 z2=>?_;subst z2
   have nk:=h.kid _ _ k1
   have nl:=h.kid _ _ l1
   have e:ks.map (a8 S.un.par)=ls.map (a8 S.un.par):=by
    refine List.ext_getElem? fun m=>?_
    refine a0 List.getElem?_map ?_;refine a0 List.getElem?_map ?_
    rw[List.length_map,List.length_map] at le
    rcases Nat.lt_or_ge m ks.length with z | z
    ·have a1:ks[m]? =some ks[m]:=List.getElem?_eq_getElem z
     have a2:ls[m]? =some (ls[m]'(by exact a9 z (Nat.le_of_eq le))):=List.getElem?_eq_getElem (by exact a9 z (Nat.le_of_eq le))
     have b1:=nk _ (List.mem_of_getElem? a1)
     have b2:=nl _ (List.mem_of_getElem? a2)
     have:=ih m _ _ (by refine a0 List.getElem?_map ?_;refine a0 a1 ?_;rfl) (by refine a0 List.getElem?_map ?_;refine a0 a2 ?_;rfl) _ _ (Nat.lt_trans b1 hi) (Nat.lt_trans b2 hj) rfl rfl
     refine a0 a1 ?_;refine a0 a2 ?_
     simp only[Option.map_some]
     refine a0 this ?_;rfl
    ·refine a0 (List.getElem?_eq_none z) ?_;refine a0 (List.getElem?_eq_none (by exact a9 (fX le) z)) ?_;rfl
   refine a7 (h.comp i _ k1 (by simp[w]) (by simp)) fun o o1 o2=>?_
   refine a7 (h.comp j _ l1 (by simp[w]) (by simp)) fun o' o3 o4=>?_
   have:S.nodeKey (op,ks)=S.nodeKey (op,ls):=by unfold HS.nodeKey;refine a0 e ?_;rfl
   rw[this,o3] at o1
   cases o1
   exact o2.symm.trans o4
theorem pF{α:Type}:∀ {l:List α},0<l.length->∃ ws n,l=ws++[n]
 | [],h=>by cases h
 | a::l,_=>jZ ((a::l).dropLast) ((a::l).getLast (by exact fun z=>nomatch z)) ((List.dropLast_concat_getLast (by exact fun z=>nomatch z)).symm)
section
variable{prog:Program}{w:World}{H:Heap}{mg mb:Str->Option Value}{U:List Tm}{T:Tm->Tm->Prop}{K:Nat}
theorem ou{n:Nat}{V:St}{L:HL}{S:HS}{a b:Nat}{re:a5}{Q:a5->St->Prop}(h:ak V L S)(I:aC U T K S [])(hU:U.length≤40)(hK:K≤1000)(ha:a<S.un.par.length)(hb:b<S.un.par.length)(cl:Cl (fun x=>x∈U) T (tm S.bank.nodes a) (tm S.bank.nodes b))
 (q:∀ v,y6 V L S (fun S'=>aC U T (K+1) S' []∧cY S S'∧a8 S'.un.par a=a8 S'.un.par b) fun V' Z Z=>Q v V'):
 CC (W0 prog w H mg mb) (n+4) (.ref 537) [.ref L.hp,.int (Int.ofNat a),.int (Int.ofNat b),re] V Q:=by
 refine ag (ps:=["self","a","b","reason"]) (by rfl) (by rfl) ?_ (by rfl) (by decide) (by rfl) (by decide) (by rfl) ?_ (by rfl) (by rfl) (by rfl)
 ·exact yq fun Z Z Z Z=>rfl
 ·have h1:=h.hp'
  kd_p
  refine(jU h (I.small hU) (I.roomy hU hK) ha hb I.hu fun v V' L' S' J A e X=>?_).call
  exact q v V' L' S' (I.joinR hU ha hb cl J) A e X
theorem nK{n:Nat}{V:St}{L:HL}{S:HS}{Q:a5->St->Prop}(h:ak V L S)(I:aC U T K S [])(hU:U.length≤40)(hK:K≤1000)
 (q:y6 V L S (fun S'=>aC U T K S' []∧cY S S'∧S'.waiting=[]) fun V' Z Z=>Q .none V'):
 CC (W0 prog w H mg mb) (n+5) (.ref 551) [.ref L.hp] V Q:=by
 refine ag (ps:=["self"]) (by rfl) (by rfl) ?_ (by rfl) (by decide) (by rfl) (by decide) (by rfl) ?_ (by rfl) (by rfl) (by rfl)
 ·exact f9 fun Z=>rfl
 ·walk_at "m"
  refine lV (ι:=Nat×Nat) (r:=Prod.Lex (fun x y=>x<y) (fun x y=>x<y)) (WellFoundedRelation.wf (self:=Prod.lex Nat.lt_wfRel Nat.lt_wfRel)) (fun i ρ V'=>∃ L' S',ak V' L' S'∧aC U T K S' []∧cY S S'∧L'.hp=L.hp∧aK V (L.fp S) V' (L'.fp S')∧i=((aA S'.un.par).length,S'.waiting.length)∧ρ=([("self",.ref L.hp)]:ai)) ?_ (i:=((aA S.un.par).length,S.waiting.length)) (zp L S h I .refl rfl .refl rfl rfl)
  rintro i ρ V' ⟨L',S',A,I',F,e,X,rfl,rfl⟩
  refine aX e ?_
  have h1:=A.hp'
  have h2:V'[L'.wt]? =some (.list (nats S'.waiting)):=A.h.get (i:=5) rfl
  have hw:=(I'.roomy hU hK).wt
  kd_p
  refine bo (k:=S'.waiting.length) h2 (by exact List.length_map ..) (by exact a9 hw (by decide)) ?_
  kd_p
  refine a6 _ mQ ?_
  by_cases hz:0<S'.waiting.length
  ·refine ite_pos (by simpa using hz) ?_
   refine jh (pF hz) fun ws k hws=>?_
   refine a3 (I'.pop hws) fun I1 sl kl=>?_
   have h2':V'[L'.wt]? =some (.list (nats ws++[.int (Int.ofNat k)])):=by refine a0 h2 ?_;refine a0 hws ?_;simp[nats]
   have hwl:ws.length<S'.waiting.length:=by refine a0 hws ?_;simp
   kd_p
   refine uX h2' (by simp;exact a9 (Nat.le_of_lt hwl) (a9 hw (by decide))) ?_
   have H1:b8 (V'.set L'.wt (.list (nats ws))) (L'.H {S' with waiting:=ws}):=A.h.set (i:=5) _ rfl
   refine a2 (A.own (S':={S' with waiting:=ws}) rfl rfl H1 (.set (by simp[HL.keysH]) _)) fun A1 X1=>?_
   generalize V'.set L'.wt (.list (nats ws))=V₁ at A1 X1 ⊢
   obtain⟨x,hx⟩:∃ x,S'.bank.nodes[k]? =some x:=⟨_,List.getElem?_eq_getElem (I'.pn▸kl)⟩
   clear h1 h2 h2' H1
   kd_p
   refine(hV A1 (I1.small hU) (I1.roomy hU hK) hx kl (I'.hx hx) I1.hu I1.hkn (I1.hkl hU) fun V₂ L₂ S₂ J A2 e2 X2=>?_).call
   refine a3 (I1.lookR hU hx sl J) fun I2 F2 m2=>?_
   have F1:cY S' {S' with waiting:=ws}:=⟨rfl,rfl,fun Z Z Z Z z=>z,Nat.le_refl _⟩
   kd_p
   refine⟨_,?_,L₂,S₂,A2,I2,F.trans (F1.trans F2),e2,X.trans (X1.trans X2),rfl,rfl⟩
   ·rcases m2 with m2 | ⟨m2,m3⟩
    ·exact .left _ _ m2
    ·have e4:(aA S₂.un.par).length=(aA S'.un.par).length:=m2
     have e5:S₂.waiting=ws:=m3
     refine a0 e4 ?_
     exact .right _ (by refine a0 e5 ?_;exact hwl)
  ·refine ite_neg (by simpa using hz) ?_
   kd_p
   exact q V' L' S' (i3 I' F (List.eq_nil_of_length_eq_zero (by exact Nat.le_antisymm (Nat.not_lt.mp hz) (Nat.zero_le _)))) A e X
end
section
variable{W:Wd}{n:Nat}{sc:ah}{ρ:ai}{V:St}
theorem eJ{A:Around}{env:Env}{φ:aj}{s:Shared}{x:Str}{np pos:Pos}{e:Expr}{f:Value}{Q:Value->Shared->Prop}{E:Value->Shared->Prop}(N:aO W φ V s.heap)(F:az W φ s.heap env sc ρ)(g:GV W x f)(hk:iP W.K f=true)
 (hx:sc.lookup x=some .globalImplicit)(hn:d5 x=true)(hs:aQ [e]=true)(h:wpAny (model W.prog W.w) A (eval e env) (fun v s₁=>W.K.In s₁.heap∧wpAny (model W.prog W.w) A (call f [v]) Q E s₁) E s):
 wpAny (model W.prog W.w) A (eval (.Call (.Name x np) [e] [] pos) env) Q E s:=by
 refine wpAny_Call_ofName (gA N F hx hn g ?_)
 refine callWith_of (P:=W.K.In) (by rw[dp hs];rfl) (fun h X=>oe hk h X) (i8 (dp hs pos env) ?_)
 have hh:backTo pos (starEach [e] env)=[(false,eval e env)]:=by
  cases e<;>first | rfl | cases hs
 refine a0 hh ?_
 refine Calls.spliced_cons (wpAny_mono h (fun v s₁ q=>?_) fun Z Z z=>z)
 exact wpAny_pure q
theorem jJ{φ:aj}{h:Heap}{nds:List ar}:∀ (zs:List ((Int×Value)×List aT)),(∀ z∈zs,∃ nd∈nds,z.2=cA nd∧aa φ h z.1.2 (c8 nd))->∃ out:List ar,out.map cA=zs.map (fun x=>x.2)∧ad φ h (zs.map (fun x=>x.1.2)) (out.map c8)∧∀ y∈out,y∈nds
 | [],_=>aP ([]) rfl .nil (fun Z h=>nomatch h)
 | z::zs,hz=>by
   refine bw (hz z (.head _)) fun nd n1 n2 n3=>?_
   refine bw (jJ zs fun y hy=>hz y (.tail _ hy)) fun out o1 o2 o3=>?_
   refine aP (nd::out) (by simp[o1,n2]) (.cons n3 o2) (fun y hy=>?_)
   rcases List.mem_cons.mp hy with rfl | hy
   ·exact n1
   ·exact o3 y hy
set_option tactic.hygienic true in
theorem pV{φ:aj}{h:Heap}{v:Value}{nd:ar}(r:aa φ h v (c8 nd)):kG h v:=by
 refine ia (aa.tup_inv r) fun a vs e ht Z rs=>?_
 obtain⟨o,ho,hc,k,hd⟩:=ht
 refine bR rs.cons_inv fun u ws e2 r1 r2=>?_
 refine aH r1.str_inv fun t e3=>?_
 refine⟨a,o,vs,k,nd.1,t,e,ho,hc,hd,by rw[e2,e3];rfl,fun u hu=>?_⟩
 rw[e2] at hu
 refine a7 (r2.get' (List.getElem?_of_mem (l:=ws) hu).choose_spec) fun x hx rx=>?_
 rw[List.getElem?_map] at hx
 refine a7 (Option.map_eq_some_iff.mp hx) fun m Z z2=>?_;subst z2
 exact aH rx.int_inv fun t e=>jZ _ t e
theorem qt{np np' pos pos':Pos}{e:Expr}{Q:a5->St->Prop}(h:ET W n sc e ρ V (fun a V'=>∃ nds:List ar,bn V' a=some (nds.map c8)∧nds.length≤60∧∀ out:List ar,(∀ y,y∈out↔y∈nds)->out.length≤nds.length->Q (.frz (out.map c8)) V'))
 (g1:GV W "sorted" (.builtin "sorted"))(g2:GV W "set" (.type "set"))
 (hx1:sc.lookup ("sorted":Str)=some .globalImplicit:=by rfl)(hx2:sc.lookup ("set":Str)=some .globalImplicit:=by rfl)(hs:aQ [e]=true:=by rfl):
 ET W n sc (.Call (.Name "sorted" np) [.Call (.Name "set" np') [e] [] pos'] [] pos) ρ V Q:=by
 intro A env φ s R N F
 refine eJ N F g1 rfl hx1 (by rfl) (by rfl) ?_
 refine eJ N F g2 rfl hx2 (by rfl) hs ?_
 refine wpAny_mono (h A env φ s R N F) (fun v s₁ ⟨φ₁,V₁,a,E₁,r,nds,ha,hl,q⟩=>⟨E₁.now.X,?_⟩) fun Z Z z=>z
 refine bR (r.list E₁.now ha) fun b vs z2 hL rs=>?_;subst z2
 have hvl:vs.size=nds.length:=by have:=rs.length;simpa using this
 have get:∀ j,j<vs.size->∃ x nd,vs[j]? =some (.ref x)∧nds[j]? =some nd∧aa φ₁ s₁.heap (.ref x) (c8 nd)∧IsTupleKey (aM W.prog W.w) s₁.heap (cA nd) x:=by
  intro j hj
  have e1:vs.toList[j]? =some vs[j]:=by refine a0 Array.getElem?_toList ?_;exact Array.getElem?_eq_getElem hj
  refine a7 (rs.get' e1) fun y hy ry=>?_
  rw[List.getElem?_map] at hy
  refine a7 (Option.map_eq_some_iff.mp hy) fun nd hnd z2=>?_;subst z2
  refine mO (ry.tkey (prog:=W.prog) (w:=W.w) (dm nd)) fun x hx kx Z Z=>?_
  rw[hx] at ry
  exact jg x nd (by refine aX hx ?_;exact Array.getElem?_eq_getElem hj) hnd ry kx
 let at':Nat->Addr:=fun j=>if h:j<vs.size then(get j h).choose else 0
 let val:Nat->List aT:=fun j=>cA (nds.getD j ("",[]))
 have spec:∀ j,j<vs.size->vs[j]? =some (.ref (at' j))∧∃ nd,nds[j]? =some nd∧val j=cA nd∧aa φ₁ s₁.heap (.ref (at' j)) (c8 nd)∧IsTupleKey (aM W.prog W.w) s₁.heap (val j) (at' j):=by
  intro j hj
  refine mO ((get j hj).choose_spec) fun nd c1 c2 c3 c4=>?_
  have e1:at' j=(get j hj).choose:=by show(if h:j<vs.size then _ else _)=_;refine a0 (dif_pos hj) ?_;rfl
  have e2:val j=cA nd:=by show cA (nds.getD j _)=_;refine a0 List.getD_eq_getElem?_getD ?_;refine a0 c2 ?_;rfl
  refine a0 e1 ?_;refine a0 e2 ?_
  exact⟨c1,nd,c2,rfl,c3,c4⟩
 have hdep:=R.cline
 refine aB (ky (A:=A) R.handled hL (fun j hj=>(spec j hj).1) (tu (K:=aT) (knd:=aM W.prog W.w) (val:=val) (Nat.le_refl _) (by exact a9 (Nat.le_of_eq hvl) hl)) (by lia) (fun h' hk hS=>?_) fun h' tk hP hk gr=>?_)
 ·refine .mk [] (.fresh 0 0 (dW W.w)) ⟨(d7 _ 0 hS (i3 rfl rfl rfl) rfl),⟨.empty,rfl,rfl,Nat.zero_le _⟩,(fun z hz=>nomatch hz)⟩ ⟨.inl rfl,by show 0*5<7*3;decide⟩ (Nat.le_refl _) rfl (fun j hj=>nomatch hj) (fun z hz=>nomatch hz) (fun j hj=>?_)
  obtain⟨_,nd,_,_,_,c⟩:=spec j hj
  exact⟨jm c fun o e=>hk _ _ e,by obtain⟨o,_,_,e,_⟩:=c;exact Heap.lt_size e⟩
 ·have hk':∀ (b:Nat) o,s₁.heap.get? b=some o->h'.get? b=some o:=fun b o e=>hk b o (Heap.lt_size e) e
  have gr':s₁.heap.objs.size≤h'.objs.size:=gr
  have N2:=E₁.now.grown gr' hk'
  refine⟨N2.X,?_⟩
  obtain⟨zs,t,G,g,zl,ld,m,src,ks⟩:=hP
  refine bR G.at' fun o ep ho hex hd=>?_
  have hz:(zs.map (fun x=>x.1)).toArray.size=zs.length:=by exact List.length_map ..
  refine aB (jF (A:=A) (s:={s₁ with heap:=h',toks:=tk}) R.handled (a6 o ho hex.1) (a6 o ho hd) (by refine a0 hz ?_;exact G.tab) ld (by refine a0 hz ?_;exact a9 zl (a9 (Nat.le_of_eq hvl) (a9 hl (by decide)))) fun s' D acc hDl hg hos hk2 hD hp=>?_)
  have S1:dB φ₁ s₁.heap φ₁ s'.heap:=.quiet (fun b o e Z=>hk2 _ _ (hk' b o e)) (by
   have:=Heap.lt_size hD
   have h1:h'.objs.size≤D:=hDl
   exact a9 gr' (a9 h1 (Nat.le_of_lt this)))
  have zsrc:∀ z∈zs,∃ nd∈nds,z.2=cA nd∧aa φ₁ s₁.heap z.1.2 (c8 nd):=fun z hz=>by
   refine bw (src z hz) fun j j1 j2 j3=>?_
   obtain⟨_,nd,c1,c2,c3,_⟩:=spec j j1
   exact aP nd (List.mem_of_getElem? c1) (j3.trans c2) (j2▸c3)
  have hacc:acc.Perm (zs.map (fun x=>x.1.2)):=by simpa [Function.comp_def]using hp
  have nd':∀ v∈acc,kG s'.heap v:=fun v hv=>by
   refine a7 (List.mem_map.mp (hacc.mem_iff.mp hv)) fun z hz z2=>?_;subst z2
   refine bw (zsrc z hz) fun nd Z Z c=>?_
   exact pV (c.step S1 (ae _ _))
  refine pG hD nd' (by have:=hacc.length_eq;simp at this;lia) fun h2 tk2 out c hpo hk3 hD3=>⟨rfl,fun gr2=>?_⟩
  refine a7 (dT (f:=fun z:(Int×Value)×List aT=>z.1.2) (hpo.trans hacc)) fun zs' z1 z2=>?_
  have fr:∀ (b:Nat) o,s₁.heap.get? b=some o->h2.get? b=some o:=fun b o e=>hk3 b o (Nat.ne_of_lt (Nat.lt_of_lt_of_le (Heap.lt_size e) (a9 gr' hDl))) (hk2 _ _ (hk' b o e))
  have S2:dB φ₁ s₁.heap φ₁ h2:=.quiet (fun b o e Z=>fr b o e) (a9 gr' gr2)
  obtain⟨outN,o1,o2,o3⟩:=jJ zs' fun z hz=>by
   refine bw (zsrc z (z1.mem_iff.mp hz)) fun nd n1 n2 n3=>?_
   exact aP nd n1 n2 (n3.step S2 (ae _ _))
  have N3:aO W φ₁ V₁ h2:=E₁.now.grown S2.size fr
  have lz:=z1.length_eq
  have lo:=congrArg List.length o1
  simp only[List.length_map] at lo
  refine⟨φ₁,V₁,.frz (outN.map c8),E₁.trans ⟨S2,N3,hg,hos⟩,.frz ⟨_,hD3,rfl,_,rfl⟩ (fun x=>?_) (by refine aX z2 ?_;exact o2),q outN (fun y=>⟨o3 y,fun hy=>?_⟩) (by lia)⟩
  ·have h1:h'.objs.size≤D:=hDl
   have:=E₁.now.ownLt x
   exact absurd this (Nat.not_lt.mpr (a9 gr' h1))
  ·refine aH (List.getElem?_of_mem hy) fun j hj=>?_
   have hjl:=(List.getElem?_eq_some_iff.mp hj).1
   have hm:=m j (by exact a9 hjl (fX hvl))
   obtain⟨_,nd,c1,c2,_⟩:=spec j (by exact a9 hjl (fX hvl))
   rw[hj] at c1;cases c1
   rw[c2,← (z1.map (fun x=>x.2)).mem_iff,← o1] at hm
   refine a7 (List.mem_map.mp hm) fun y' hy' e'=>?_
   exact hE e'▸hy'
theorem nU:∀ {l:List Int},l.Nodup->(∀ y∈l,0≤y∧y<60)->l.length≤60:=by
 intro l nd hb
 have nd':(l.map Int.toNat).Nodup:=by
  unfold List.Nodup at*
  refine bt List.pairwise_map ?_
  exact nd.imp_of_mem fun{a b} ha hb' hab e=>hab (by have:=hb a ha;have:=hb b hb';lia)
 have:=jP nd' (m:=List.range 60) fun a ha=>by
  refine a7 (List.mem_map.mp ha) fun y hy z2=>?_;subst z2
  have:=hb y hy
  refine bt List.mem_range ?_;lia
 simpa using this
theorem jb{np np' pos pos':Pos}{e:Expr}{Q:a5->St->Prop}(h:ET W n sc e ρ V (fun a V'=>∃ ns:List Nat,bn V' a=some (nats ns)∧ns.length≤500∧(∀ y∈ns,y<60)∧∀ out:List Nat,out.Nodup->(∀ y,y∈out↔y∈ns)->Q (.frz (nats out)) V'))
 (g1:GV W "sorted" (.builtin "sorted"))(g2:GV W "set" (.type "set"))
 (hx1:sc.lookup ("sorted":Str)=some .globalImplicit:=by rfl)(hx2:sc.lookup ("set":Str)=some .globalImplicit:=by rfl)(hs:aQ [e]=true:=by rfl):
 ET W n sc (.Call (.Name "sorted" np) [.Call (.Name "set" np') [e] [] pos'] [] pos) ρ V Q:=by
 intro A env φ s R N F
 refine eJ N F g1 rfl hx1 (by rfl) (by rfl) ?_
 refine eJ N F g2 rfl hx2 (by rfl) hs ?_
 refine wpAny_mono (h A env φ s R N F) (fun v s₁ ⟨φ₁,V₁,a,E₁,r,ns,ha,hl,hb,q⟩=>⟨E₁.now.X,?_⟩) fun Z Z z=>z
 refine bR (r.list E₁.now ha) fun b vs z2 hL rs=>?_;subst z2
 have hvl:vs.size=ns.length:=by have:=rs.length;simpa using this
 have get:∀ j,j<vs.size->∃ t k,vs[j]? =some (.int (Int.ofNat k) t)∧ns[j]? =some k:=by
  intro j hj
  have e1:vs.toList[j]? =some vs[j]:=by refine a0 Array.getElem?_toList ?_;exact Array.getElem?_eq_getElem hj
  refine a7 (rs.get' e1) fun y hy ry=>?_
  rw[List.getElem?_map] at hy
  refine a7 (Option.map_eq_some_iff.mp hy) fun k hk z2=>?_;subst z2
  generalize hv:vs[j]=v at*
  cases ry with
  | int _ t=>exact cN t k (by refine a0 (Array.getElem?_eq_getElem hj) ?_;refine a0 hv ?_;rfl) hk
 let tk':Nat->Tok:=fun j=>if h:j<vs.size then(get j h).choose else 0
 let val:Nat->Int:=fun j=>Int.ofNat (ns.getD j 0)
 have spec:∀ j,j<vs.size->vs[j]? =some (.int (val j) (tk' j)):=by
  intro j hj
  refine a7 ((get j hj).choose_spec) fun k c1 c2=>?_
  have e1:tk' j=(get j hj).choose:=by show(if h:j<vs.size then _ else _)=_;refine a0 (dif_pos hj) ?_;rfl
  have e2:val j=Int.ofNat k:=by show Int.ofNat (ns.getD j _)=_;refine a0 List.getD_eq_getElem?_getD ?_;refine a0 c2 ?_;rfl
  refine a0 e1 ?_;refine a0 e2 ?_
  exact c1
 have hdep:=R.cline
 refine aB (ky (A:=A) R.handled hL spec (tv (prog:=W.prog) (w:=W.w) (S:=s₁.heap.objs.size) (ns:=val) (tk:=tk') (by exact a9 (Nat.le_of_eq hvl) (a9 hl (by decide)))) (by lia) (fun h' hk hS=>?_) fun h' tk hP hk gr=>?_)
 ·exact .mk #[] (.fresh 0 0 (dW W.w)) [] ⟨(d7 _ 0 hS (i3 rfl rfl rfl) rfl),⟨.empty,rfl,rfl,Nat.zero_le _⟩,(fun z hz=>nomatch hz)⟩ rfl rfl List.nodup_nil (fun y=>by simp) (Nat.le_refl _)
 ·have hk':∀ (b:Nat) o,s₁.heap.get? b=some o->h'.get? b=some o:=fun b o e=>hk b o (Heap.lt_size e) e
  have gr':s₁.heap.objs.size≤h'.objs.size:=gr
  have N2:=E₁.now.grown gr' hk'
  refine⟨N2.X,?_⟩
  obtain⟨es,t,ts,G,ld,ev,nd,m,tl⟩:=hP
  refine bR G.at' fun o ep ho hex hd=>?_
  have esz:es.size=ts.length:=by have:=congrArg List.length ev;simpa using this
  have mem:∀ y,y∈ts.map (fun x=>x.1)↔∃ k∈ns,y=Int.ofNat k:=fun y=>by
   refine bt (m ..) ?_
   constructor
   ·rintro⟨j,j1,rfl⟩
    refine cW (get j j1) fun Z k Z hk=>?_
    exact a6 k (List.mem_of_getElem? hk) (by show Int.ofNat (ns.getD j 0)=_;refine a0 List.getD_eq_getElem?_getD ?_;refine a0 hk ?_;rfl)
   ·rintro⟨k,hk,rfl⟩
    refine aH (List.getElem?_of_mem hk) fun j hj=>?_
    exact a6 j (by have:=(List.getElem?_eq_some_iff.mp hj).1;exact a9 this (fX hvl)) (by show Int.ofNat (ns.getD j 0)=_;refine a0 List.getD_eq_getElem?_getD ?_;refine a0 hj ?_;rfl)
  have tsl:ts.length≤60:=by
   have:=nU nd fun y hy=>by
    refine a7 ((mem y).mp hy) fun k hk z2=>?_;subst z2
    have:=hb k hk
    constructor
    ·exact Int.natCast_nonneg k
    ·show(k:Int)<60;lia
   simpa using this
  refine aB (jF (A:=A) (s:={s₁ with heap:=h',toks:=tk}) R.handled (a6 o ho hex.1) (a6 o ho hd) G.tab ld (by exact a9 (Nat.le_of_eq esz) (a9 tsl (by decide))) fun s' D acc hDl hg hos hk2 hD hp=>?_)
  rw[ev] at hp
  refine a7 (dT hp) fun ts' p1 p2=>?_
  have hI:IntsAre acc (ts'.map (fun x=>x.1)):=by
   refine aX p2 ?_
   clear p1 p2 hp hD
   induction ts' with
   | nil=>exact .nil
   | cons x r ih=>exact .cons _ _ ih
  have al:acc.length=ts.length:=by refine aX p2 ?_;refine a0 (List.length_map ..) ?_;refine a0 p1.length_eq ?_;rfl
  refine list_sort_tree hD hI (by lia) fun out ns' h1 h2 h3=>⟨rfl,fun gr2=>?_⟩
  refine aH (sortedHeap_at (out:=out) hD) fun c hD3=>?_
  have old:∀ (b:Nat) o,s₁.heap.get? b=some o->(sortedHeap s'.heap D acc out).get? b=some o:=fun b o e=>by
   have z1:b<s₁.heap.objs.size:=Heap.lt_size e
   have z2:h'.objs.size≤D:=hDl
   have e2:=hk2 _ _ (hk' b o e)
   refine a0 (sortedHeap_old (Nat.ne_of_lt (Nat.lt_of_lt_of_le z1 (a9 gr' z2))) (Heap.lt_size e2)) ?_
   exact e2
  have N3:aO W φ₁ V₁ (sortedHeap s'.heap D acc out):=E₁.now.grown (a9 gr' gr2) old
  have S2:dB φ₁ s₁.heap φ₁ (sortedHeap s'.heap D acc out):=.quiet (fun b o e Z=>old b o e) (a9 gr' gr2)
  have pm:ns'.Perm (ts.map (fun x=>x.1)):=h2.trans (p1.map _)
  have nn:∀ y∈ns',0≤y:=fun y hy=>by
   refine a7 ((mem y).mp (pm.mem_iff.mp hy)) fun k Z z2=>?_;subst z2
   exact Int.natCast_nonneg k
  have back:aL ns'=nats (ns'.map Int.toNat):=by
   unfold nats
   refine a0 List.map_map ?_
   refine List.map_congr_left fun y hy=>?_
   have:=nn y hy
   show a5.int y=.int (Int.ofNat y.toNat)
   congr 1
   show y=(y.toNat:Int)
   lia
  refine⟨φ₁,V₁,.frz (aL ns'),E₁.trans ⟨S2,N3,hg,hos⟩,.frz ⟨_,hD3,rfl,_,rfl⟩ (fun x=>?_) (ad.ofInts h1),?_⟩
  ·have h1:h'.objs.size≤D:=hDl
   have:=E₁.now.ownLt x
   exact absurd this (Nat.not_lt.mpr (a9 gr' h1))
  ·refine a0 back ?_
   refine q _ ?_ fun y=>?_
   ·have:=pm.nodup_iff.mpr nd
    unfold List.Nodup at*
    refine bt List.pairwise_map ?_
    exact this.imp_of_mem fun{a b} ha hb' hab e=>hab (by have:=nn a ha;have:=nn b hb';lia)
   ·refine bt List.mem_map ?_
    constructor
    ·rintro⟨z,hz,rfl⟩
     refine a7 ((mem z).mp (pm.mem_iff.mp hz)) fun k hk z2=>?_;subst z2
     exact hk
    ·intro hy
     exact a6 (Int.ofNat y) (pm.mem_iff.mpr ((mem _).mpr (a6 y hy rfl))) rfl
end
section
variable{W:Wd}{n:Nat}{sc:ah}{ρ:ai}{V:St}
theorem mK{prog:Program}{w:World}:∀ (kvs:List (Int×Value)) (acc:List Value),acc.length=kvs.length->(∀ (j:Nat) (v:Value),acc[j]? =some v->∃ k x,kvs[j]? =some (k,x)∧(intKind prog w).is k v=true)->IntsAre acc (kvs.map (fun x=>x.1)):=by
 intro kvs
 induction kvs with
 | nil=>intro acc hl h;refine a0 (List.eq_nil_of_length_eq_zero hl) ?_;exact .nil
 | cons kv kvs ih=>
   intro acc hl h
   cases acc with
   | nil=>cases hl
   | cons v acc=>
     refine cW (h 0 v rfl) fun k' x' e hk=>?_
     refine aH (Value.isInt_shape hk) fun t z1=>?_;subst z1
     have e:=Option.some.inj e
     refine a0 List.map_cons ?_;refine a0 e ?_
     exact .cons _ _ (ih acc (Nat.succ.inj hl) fun j v hv=>h (j+1) v hv)
theorem cG{l:Nat}{es:List (Int×a5)}{Q:a5->St->Prop}(ho:V[l]? =some (.idict es))(h64:es.length<64)(q:∀ ks:List Int,ks.Perm (es.map (fun x=>x.1))->ks.Pairwise (fun x y=>x≤y)->Q (.frz (aL ks)) V):CT W n (.builtin "sorted") [.ref l] V Q:=by
 refine cw fun A φ s v R N r=>?_
 refine r.idict_el N ho fun p kvs hp hd hq pr=>?_
 ·refine aH hd.dictAt fun ep hat=>?_
  have lo:=eC N hp
  have kl:=pr.length
  refine aB (Calls.call_function_entry kind_sorted plain_sorted entry_sorted (args_sorted1 _) ?_)
  unfold Builtin.«sorted»
  refine wpAny_bind (m:=checkCount "sorted" 1 1 _) (wpAny_pure ?_)
  refine wpAny_bind (aB (kdu_collect (A:=A.in1) (kdl_dict (knd:=intKind W.prog W.w) (kvs:=kvs) (ep:=ep) lo) R.handled hat (by refine a0 sizeLine_eq ?_;exact a9 (Nat.le_of_eq kl) (a9 (Nat.le_of_lt h64) (by decide))) fun h' tk acc hk hacc gr=>?_))
  have hl:acc.toList.length=kvs.length:=by refine a0 Array.length_toList ?_;exact hacc.1
  refine wpAny_bind (wpAny_newList ?_ (by refine a0 hl ?_;refine a0 sizeLine_eq ?_;exact a9 (Nat.le_of_eq kl) (a9 (Nat.le_of_lt h64) (by decide))))
  have hD:(h'.push (seqObj "list" acc.toList.toArray 0)).get? h'.objs.size=some (seqObj "list" acc.toList.toArray 0):=Heap.get?_push_size _ rfl
  have hI:IntsAre acc.toList (kvs.map (fun x=>x.1)):=mK (prog:=W.prog) (w:=W.w) _ _ hl fun j v hv=>hacc.2 j v (by refine aX Array.getElem?_toList ?_;exact hv)
  refine wpAny_bind (wpAny_holding (wpAny_call_entry slot_list_sort (a6 _ hD rfl) entry_list_sort ?_ (args_list_sort _)))
  refine list_sort_tree (s:={s with heap:=h'.push (seqObj "list" acc.toList.toArray 0),toks:=tk}) hD hI (by lia) fun out ns' h1 h2 h3=>?_
  refine a6 _ rfl (wpAny_pure (a6 _ rfl (fun gr2=>?_)))
  refine aH (sortedHeap_at (out:=out) hD) fun c hD3=>?_
  have gr':s.heap.objs.size≤h'.objs.size:=gr
  have old:∀ (b:Nat) o,s.heap.get? b=some o->(sortedHeap (h'.push (seqObj "list" acc.toList.toArray 0)) h'.objs.size acc.toList out).get? b=some o:=fun b o e=>by
   have e2:=Heap.get?_push_of_some (seqObj "list" acc.toList.toArray 0) (hk _ _ e)
   refine a0 (sortedHeap_old (Nat.ne_of_lt (Heap.lt_size (hk _ _ e))) (Heap.lt_size e2)) ?_
   exact e2
  refine⟨φ,V,.frz (aL ns'),aq.grown N old gr2 tk,.frz ⟨_,hD3,rfl,_,rfl⟩ (fun x=>absurd (N.ownLt x) (Nat.not_lt.mpr gr')) (ad.ofInts h1),q ns' ?_ h3⟩
  refine aX pr.keys ?_;exact h2
theorem lA{x:a5}(h:okv 50 x=true):SeqAt.shaped (py x)=true:=by
 unfold SeqAt.shaped
 have:=(bM h).2
 refine a0 ((bM h).1) ?_;simp;exact a9 this (by decide)
theorem s7{φ:aj}{s:Shared}{A:Around}(hu:A.in1.units+64<cLine){kb:List (Int×Value)}{fs:List (Int×a5)}(rb:cI φ s.heap kb fs){ka:List (Int×Value)}{es:List (Int×a5)}(ra:cI φ s.heap ka es):
 (∀ e∈es,∃ b,bb fs e.1=some b∧okv 50 e.2=true∧okv 50 b=true∧fu e.2 b=true)->KeqHits A.in1 s kb ka true:=by
 induction ra with
 | nil=>exact fun Z=>.nil
 | cons c r ih=>
   intro h
   refine mO (h _ (.head _)) fun b h1 h2 h3 h4=>?_
   refine a7 ((rb.get _).1 b h1) fun y hy ry=>?_
   refine aH (c.reads h2) fun Z r1=>?_
   refine aH (ry.reads h3) fun Z r2=>?_
   have:=keq_at (A:=A) r1 r2 (lA h2) (lA h3) hu
   rw[show PyData.eqv _ _=true from h4] at this
   exact .hit hy this (ih fun e he=>h e (.tail _ he))
theorem ux{l m:Nat}{es fs:List (Int×a5)}(hl:V[l]? =some (.idict es))(hm:V[m]? =some (.idict fs))(len:es.length=fs.length)(hv:∀ e∈es,∃ b,bb fs e.1=some b∧okv 50 e.2=true∧okv 50 b=true∧fu e.2 b=true):
 cu W n .Eq (.ref l) (.ref m) V true:=by
 intro A φ s v u R N ra rb Q E q
 refine ra.idict_el N hl fun p kv1 hp hd hq pr=>rb.idict_el N hm fun p' kv2 hp' hd' hq' pr'=>?_
 have hc:=R.cline
 refine keq_eq (r:=true) (eC N hp) (eC N hp') hd hd' (by lia) (fun Z=>s7 (by show A.units+1+64<cLine;lia) pr' pr hv) ?_
 have e:(kv1.length==kv2.length&&true)=true:=by refine a0 pr.length ?_;refine a0 pr'.length ?_;refine a0 len ?_;simp
 refine a0 e ?_
 exact q s.toks
end
structure jp(S S':HS):Prop where
 nodes:∃ more,S'.bank.nodes=S.bank.nodes++more
 len:S.un.par.length≤S'.un.par.length
 eq:∀ i j,i<S.un.par.length->j<S.un.par.length->a8 S.un.par i=a8 S.un.par j->a8 S'.un.par i=a8 S'.un.par j
theorem jp.refl{S:HS}:jp S S:=⟨⟨[],by exact(List.append_nil ..).symm⟩,Nat.le_refl _,fun Z Z Z Z h=>h⟩
theorem jp.trans{S S' S'':HS}(h:jp S S')(h':jp S' S''):jp S S'':=by
 refine aH h.nodes fun m e=>?_
 refine aH h'.nodes fun m' e'=>?_
 exact⟨⟨m++m',by refine a0 e' ?_;refine a0 e ?_;refine a0 (List.append_assoc ..) ?_;rfl⟩,a9 h.len h'.len,fun i j hi hj z=>h'.eq i j (Nat.lt_of_lt_of_le hi h.len) (Nat.lt_of_lt_of_le hj h.len) (h.eq i j hi hj z)⟩
theorem cY.ext{S S':HS}(h:cY S S'):jp S S':=⟨⟨[],by refine a0 h.bank ?_;exact(List.append_nil ..).symm⟩,Nat.le_of_eq h.len.symm,h.eq⟩
theorem jp.get{S S':HS}(h:jp S S'){i:Nat}{x:ar}(e:S.bank.nodes[i]? =some x):S'.bank.nodes[i]? =some x:=by
 refine aH h.nodes fun m q=>?_
 refine a0 q ?_;refine a0 (List.getElem?_append_left (List.getElem?_eq_some_iff.mp e).1) ?_;exact e
noncomputable def bc(us:List d8)(cs:List Nat)(n:Nat):List d8:=us.map fun e=>if e.1∈cs then(e.1,e.2.1,e.2.2++[n])else e
theorem jC(us:List d8)(cs:List Nat)(n:Nat):(bc us cs n).map (fun x=>x.2.1)=us.map (fun x=>x.2.1):=by
 unfold bc
 refine a0 List.map_map ?_
 refine List.map_congr_left fun e Z=>?_
 show(if e.1∈cs then(e.1,e.2.1,e.2.2++[n])else e).2.1=e.2.1
 split<;>rfl
theorem mv(us:List d8)(cs:List Nat)(n:Nat):av (bc us cs n)=av us:=by
 unfold av bc
 refine a0 List.map_map ?_
 refine List.map_congr_left fun e Z=>?_
 show(Int.ofNat (if e.1∈cs then(e.1,e.2.1,e.2.2++[n])else e).1,a5.ref (if e.1∈cs then(e.1,e.2.1,e.2.2++[n])else e).2.1)=_
 split<;>rfl
theorem rG(us:List d8)(n:Nat):bc us [] n=us:=by
 unfold bc
 conv=>rhs;rw[← List.map_id us]
 exact List.map_congr_left fun e Z=>by exact rfl
theorem nq{us:List d8}{cs:List Nat}{c n p:Nat}{l:List Nat}(uk:(us.map (fun x=>x.1)).Nodup)(hc:c∉cs)(h:aD us c=some (p,l)):∃ i,(cb (bc us cs n))[i]? =some (p,.list (nats l))∧(cb (bc us cs n)).set i (p,.list (nats (l++[n])))=cb (bc us (c::cs) n):=by
 induction us with
 | nil=>cases h
 | cons e r ih=>
   rw[List.map_cons,List.nodup_cons] at uk
   rw[dk] at h
   by_cases q:e.1=c
   ·rw[if_pos q] at h
    have h':e.2=(p,l):=Option.some.inj h
    obtain⟨a,b⟩:=e
    simp at q h'
    subst q;subst h'
    refine a6 0 (by simp[cb,bc,hc]) ?_
    have rest:bc r (a::cs) n=bc r cs n:=by
     refine List.map_congr_left fun e he=>?_
     have:e.1≠a:=fun z=>uk.1 (List.mem_map.mpr (a6 e he z))
     simp[this]
    show((cb (bc ((a,p,l)::r) cs n))).set 0 _=cb ((if a∈a::cs then _ else _)::bc r (a::cs) n)
    refine a0 rest ?_
    simp[cb,bc]
   ·rw[if_neg q] at h
    refine a7 (ih uk.2 h) fun i h1 h2=>?_
    refine a6 (i+1) (by simpa [cb,bc]using h1) ?_
    have:bc (e::r) (c::cs) n=(if e.1∈cs then(e.1,e.2.1,e.2.2++[n])else e)::bc r (c::cs) n:=by
     show(if e.1∈c::cs then _ else _)::_=_
     have:(e.1∈c::cs)=(e.1∈cs):=by simp[q]
     simp only[this];rfl
    refine a0 this ?_
    show((_::cb (bc r cs n)).set (i+1) _:aU)=_::cb (bc r (c::cs) n)
    refine a0 List.set_cons_succ ?_;refine a0 h2 ?_;rfl
theorem yc{V:St}{L:HL}{S:HS}{n:Nat}(h:b8 V (L.H S)):
 (V++[af.list (nats [])])[L.ab]? =some (.idict (av S.users))∧b8 ((V++[af.list (nats [])]).set L.ab (.idict (av (S.users++[(n,V.length,[])])))) (L.H {S with users:=S.users++[(n,V.length,[])]})∧
 aK V (L.keysH S) ((V++[af.list (nats [])]).set L.ab (.idict (av (S.users++[(n,V.length,[])])))) (L.keysH {S with users:=S.users++[(n,V.length,[])]}):=by
 have h1:=h.push (.list (nats []))
 have e1:(L.H S++[(V.length,af.list (nats []))])[4]? =some (L.ab,.idict (av S.users)):=rfl
 have h2:=h1.set (.idict (av (S.users++[(n,V.length,[])]))) e1
 have e2:(L.H S++[(V.length,af.list (nats []))]).set 4 (L.ab,.idict (av (S.users++[(n,V.length,[])])))=L.H {S with users:=S.users++[(n,V.length,[])]}:=by
  show[_,_,_,_,_,_]++(cb S.users++[_])=[_,_,_,_,_,_]++cb (S.users++[(n,V.length,[])])
  unfold cb
  refine a0 List.map_append ?_
  rfl
 rw[e2] at h2
 refine i3 (h1.get e1) h2 ?_
 have k1:aK V (L.keysH S) (V++[af.list (nats [])]) (L.keysH S++[V.length]):=.push _
 have e3:L.keysH {S with users:=S.users++[(n,V.length,[])]}=L.keysH S++[V.length]:=by
  unfold HL.keysH
  refine a0 List.map_append ?_;refine a0 (List.append_assoc ..) ?_;rfl
 refine a0 e3 ?_
 exact k1.trans (.set (List.mem_append_left _ (by simp[HL.keysH])) _)
theorem ni{us:List d8}{n q:Nat}(h:aD us n=none):cX (av us) (Int.ofNat n) (.ref q)=av (us++[(n,q,[])]):=by
 unfold cX
 refine a0 (cn ..) ?_;refine a0 h ?_
 unfold av
 simp
noncomputable def HS.half(S:HS)(x:ar)(a b:Int):HS:={S with bank:=S.bank.push x a b,un:={par:=S.un.par++[S.un.par.length],lots:=S.un.lots++[[S.un.lots.length]],merged:=S.un.merged}}
theorem y9{V:St}{L:HL}{S:HS}{cs:List Nat}{c n p:Nat}{l:List Nat}(h:b8 V (L.H {S with users:=bc S.users cs n}))(uk:(S.users.map (fun x=>x.1)).Nodup)(hc:c∉cs)(hu:aD S.users c=some (p,l)):
 V[p]? =some (.list (nats l))∧b8 (V.set p (.list (nats (l++[n])))) (L.H {S with users:=bc S.users (c::cs) n})∧aK V (L.keysH {S with users:=bc S.users cs n}) (V.set p (.list (nats (l++[n])))) (L.keysH {S with users:=bc S.users (c::cs) n}):=by
 refine a7 (nq (n:=n) uk hc hu) fun i h1 h2=>?_
 have e1:(L.H {S with users:=bc S.users cs n})[6+i]? =some (p,.list (nats l)):=by
  unfold HL.H
  refine a0 (List.getElem?_append_right (by simp)) ?_
  simpa using h1
 have e2:=h.set (.list (nats (l++[n]))) e1
 have e3:(L.H {S with users:=bc S.users cs n}).set (6+i) (p,.list (nats (l++[n])))=L.H {S with users:=bc S.users (c::cs) n}:=by
  unfold HL.H
  refine a0 (List.set_append_right _ _ (by simp)) ?_
  simp only[List.length_cons,List.length_nil,Nat.add_sub_cancel_left]
  refine a0 h2 ?_;refine a0 (mv ..) ?_;refine a0 (mv ..) ?_;rfl
 rw[e3] at e2
 have ek:L.keysH {S with users:=bc S.users (c::cs) n}=L.keysH {S with users:=bc S.users cs n}:=by
  unfold HL.keysH
  refine a0 (jC ..) ?_;refine a0 (jC ..) ?_;rfl
 refine i3 (h.get e1) e2 ?_
 refine a0 ek ?_
 refine .set ?_ _
 refine aX dM ?_
 exact List.mem_map_of_mem (List.mem_of_getElem? e1)
noncomputable def HS.told(S:HS)(x:ar)(a b:Int)(q:Nat)(dn:List Nat):HS:={S.half x a b with users:=bc (S.users++[(S.bank.nodes.length,q,[])]) dn S.bank.nodes.length}
structure gG(V:St)(L:HL)(S:HS)(x:ar)(a b:Int)(L2:HL)(q:Nat)(dn:List Nat)(V':St):Prop where
 h:ak V' L2 (S.told x a b q dn)
 z:aK V (L.fp S) V' (L2.fp (S.told x a b q dn))
section
variable{V V':St}{L L2:HL}{S:HS}{x:ar}{a b:Int}{q:Nat}{dn:List Nat}
theorem gG.ab(A:gG V L S x a b L2 q dn V'):V'[L2.ab]? =some (.idict (av (S.users++[(S.bank.nodes.length,q,[])]))):=by
 have:=A.h.h.get (i:=4) rfl
 exact mv _ dn S.bank.nodes.length▸this
theorem gG.tell(A:gG V L S x a b L2 q dn V')(uk:((S.users++[(S.bank.nodes.length,q,[])]).map fun e:d8=>e.1).Nodup){c p:Nat}{l:List Nat}(hc:c∉dn)(hu:aD (S.users++[(S.bank.nodes.length,q,[])]) c=some (p,l)):V'[p]? =some (.list (nats l))∧gG V L S x a b L2 q (c::dn) (V'.set p (.list (nats (l++[S.bank.nodes.length])))):=by
 refine a3 (y9 (S:={S.half x a b with users:=S.users++[(S.bank.nodes.length,q,[])]}) (n:=S.bank.nodes.length) A.h.h uk hc hu) fun g1 g2 g3=>?_
 refine a2 (A.h.own (S':=S.told x a b q (c::dn)) rfl rfl g2 g3) fun A5 Y5=>?_
 exact⟨g1,A5,A.z.trans Y5⟩
end
theorem pB{U:List Tm}{T:Tm->Tm->Prop}{K:Nat}{S:HS}{x:ar}{a b:Int}{q:Nat}{dn:List Nat}(I:aC U T K S [])(hk:∀ k∈x.2,k<S.un.par.length)(mem:∀ c,c∈dn↔c∈x.2.map (a8 S.un.par)):S.told x a b q dn=S.grown x a b q:=by
 have nd:S.un.par.length∉dn:=fun z=>by
  refine a7 (List.mem_map.mp ((mem _).mp z)) fun j hj z=>?_
  exact Nat.lt_irrefl _ (z▸bL (hk j hj):S.un.par.length<S.un.par.length)
 have eu:bc (S.users++[(S.bank.nodes.length,q,[])]) dn S.bank.nodes.length=(S.users.map fun e=>if e.1∈x.2.map (a8 S.un.par)then(e.1,e.2.1,e.2.2++[S.un.par.length])else e)++[(S.un.par.length,q,[])]:=by
  unfold bc
  refine a0 List.map_append ?_;refine aX I.pn ?_
  exact congr (congrArg _ (List.map_congr_left fun e Z=>by simp only[mem])) (by simp[nd])
 unfold HS.told
 refine a0 eu ?_;rfl
theorem sg{U:List Tm}{T:Tm->Tm->Prop}{K:Nat}{S:HS}{x:ar}{a b:Int}{q:Nat}(I:aC U T K S []):jp S (S.grown x a b q):=
 ⟨⟨[x],rfl⟩,Nat.le_of_lt (by show _<(S.un.par++[_]).length;simp),fun i j hi hj z=>((fG I.par _ i hi).trans z).trans (fG I.par _ j hj).symm⟩
section
variable{prog:Program}{w:World}{H:Heap}{mg mb:Str->Option Value}{U:List Tm}{T:Tm->Tm->Prop}{K:Nat}
theorem uH{n:Nat}{V:St}{L:HL}{S:HS}{x:ar}{Q:a5->St->Prop}(h:ak V L S)(I:aC U T K S [])(hU:U.length≤40)(hK:K≤1000)(hgood:fi x.1=true)(hok:PyData.strOk x.1=true)
 (hk:∀ k∈x.2,k<S.bank.nodes.length)(h2:x.2.length≤2)(hin:Tm.mk x.1 (x.2.map (tm S.bank.nodes))∈U)
 (q:∀ i,y6 V L S (fun S'=>aC U T K S' []∧jp S S'∧S'.bank.nodes[i]? =some x) fun V' Z Z=>Q (.int (Int.ofNat i)) V'):
 CC (W0 prog w H mg mb) (n+6) (.ref 504) [.ref L.hp,.str x.1,.tup (nats x.2)] V Q:=by
 refine ag (ps:=["self","op","numbers"]) (by rfl) (by rfl) ?_ (by rfl) (by decide) (by rfl) (by decide) (by rfl) ?_ (by rfl) (by rfl) (by rfl)
 ·exact eF fun Z Z Z=>rfl
 ·have h1:=h.hp'
  have hb1:=h.bk'
  have m:=I.small hU
  have size:=I.size
  by_cases hx:x∈S.bank.nodes
  ·refine aH (List.getElem?_of_mem hx) fun i hi=>?_
   have hil:=(List.getElem?_eq_some_iff.mp hi).1
   kd_p
   refine(nC h.b I.nd hi (by exact a9 h2 (by decide)) ?_).call
   kd_p
   have hu1:=h.un'
   kd_p
   refine(gg hu1 h.pa' (by have:=I.pn;exact a9 (Nat.le_of_eq this) (a9 size (a9 hU (by decide)))) ?_).call
   refine a6 _ dI ?_
   refine ite_pos (by simpa using by refine a0 I.pn ?_;exact hil) ?_
   kd_p
   exact q i V L S (i3 I .refl hi) h rfl .refl
  ·kd_p
   refine(ti h.b hx hgood hok (by exact a9 h2 (by decide)) hk (by exact a9 size (a9 hU (by decide))) I.wl I.dl fun V1 a b H1 X1=>?_).call
   refine a2 (h.bank H1 X1) fun A1 Y1=>?_
   clear h1 hb1
   have h1:=A1.hp'
   have hu1:=A1.un'
   kd_p
   refine(gg hu1 A1.pa' (by have:=I.pn;show S.un.par.length≤_;exact a9 (Nat.le_of_eq this) (a9 size (a9 hU (by decide)))) ?_).call
   refine a6 _ dI ?_
   refine ite_neg (by simpa using by refine a0 I.pn ?_;exact Nat.le_refl _) ?_
   kd_p
   refine(rX A1.u A1.lpl (by have:=I.pn;show S.un.par.length≤_;exact a9 (Nat.le_of_eq this) (a9 size (a9 hU (by decide)))) (by have:=I.pn;have:=I.pl;show S.un.lots.length≤_;lia) fun V2 lp2 H2 hl2 X2=>?_).call
   have X2':aK V1 L.keysU V2 (HL.keysU {L with lp:=lp2}):=by refine aX (fd (S:={S with bank:=S.bank.push x a b}) A1.lpl) ?_;refine aX (fd (L:={L with lp:=lp2}) (S:=S.grown x a b 0) (by show lp2.length=(S.un.lots++[[S.un.lots.length]]).length;simp[hl2])) ?_;exact X2
   refine a2 (A1.uni (u:={par:=S.un.par++[S.un.par.length],lots:=S.un.lots++[[S.un.lots.length]],merged:=S.un.merged}) (lp:=lp2) (by simp[hl2]) H2 X2') fun A2 Y2=>?_
   have Z2:=Y1.trans Y2
   clear h1 hu1 X2 H2 H1
   have A2:ak V2 {L with lp:=lp2} (S.half x a b):=A2
   have Z2:aK V (L.fp S) V2 (HL.fp {L with lp:=lp2} (S.half x a b)):=Z2
   clear A1 Y1 Y2 X1
   generalize hL2:({L with lp:=lp2}:HL)=L2 at*
   have ehp:L2.hp=L.hp:=by refine aX hL2 ?_;rfl
   refine aX ehp ?_
   have h1:=A2.hp'
   have hab:V2[L2.ab]? =some (.idict (av S.users)):=A2.h.get (i:=4) rfl
   kd_p
   refine iO (.list (nats [])) ?_
   kd_p
   refine i3 (by exact Nat.zero_le _) rfl ?_
   have hnone:aD S.users S.bank.nodes.length=none:=by
    unfold aD
    refine bt Option.map_eq_none_iff ?_;refine bt List.find?_eq_none ?_
    intro e he
    have:=I.ukb e he
    have:=I.pn
    simp;lia
   refine a3 (yc (n:=S.bank.nodes.length) A2.h) fun hab3 H3 X3=>?_
   refine a2 (A2.own (S':={S.half x a b with users:=S.users++[(S.bank.nodes.length,V2.length,[])]}) rfl rfl H3 X3) fun A3 Y3=>?_
   have Z3:=Z2.trans Y3
   have A3:ak ((V2++[af.list (nats [])]).set L2.ab (.idict (av (S.users++[(S.bank.nodes.length,V2.length,[])])))) L2 {S.half x a b with users:=S.users++[(S.bank.nodes.length,V2.length,[])]}:=A3
   have Z3:aK V (L.fp S) ((V2++[af.list (nats [])]).set L2.ab (.idict (av (S.users++[(S.bank.nodes.length,V2.length,[])])))) (L2.fp {S.half x a b with users:=S.users++[(S.bank.nodes.length,V2.length,[])]}):=Z3
   have h1':(V2++[af.list (nats [])])[L2.hp]? =some (.inst 599 [("bank",.ref L2.bk),("unions",.ref L2.un),("edges",.ref L2.ed),("forest",.ref L2.fo),("known",.ref L2.kn),("above",.ref L2.ab),("waiting",.ref L2.wt)]):=(A2.h.push (.list (nats []))).get (i:=0) rfl
   clear h1
   kd_p
   refine bS (.idict (av (S.users++[(S.bank.nodes.length,V2.length,[])]))) hab3 (by have:=I.un;simp[av];show S.users.length≤_;exact a9 this (a9 size (a9 hU (by decide)))) (by refine aX (ni hnone) ?_;rfl) ?_
   clear H3 X3 hab3 h1' hab
   generalize (V2++[af.list (nats [])]).set L2.ab (.idict (av (S.users++[(S.bank.nodes.length,V2.length,[])])))=V3 at A3 Z3 ⊢
   have I':=I.grow (a:=a) (b:=b) (q:=V2.length) hx hk h2 hin
   have m3:dY {S.half x a b with users:=S.users++[(S.bank.nodes.length,V2.length,[])]}:=by
    have m:=I'.1.small hU
    exact⟨m.par,m.pl,m.n,m.pn,m.kid,m.kidn,m.nd,m.wl,m.dl,m.lots⟩
   have h1:=A3.hp'
   walk_at "m"
   refine bP ?_ rfl
   refine jb ?_ iG q5
   refine aW (new:=false) (aE (nm:="kid") rfl ?_) (by rfl)
   kd_p
   have rk:∀ k∈x.2,k<S.un.par.length:=fun k hk'=>by refine a0 I.pn ?_;exact hk k hk'
   refine .nats x.2 (fun k=>.int (Int.ofNat (a8 S.un.par k))) rfl (by exact a9 h2 (by decide)) (fun j hj KK hKK=>?_) (o5 (a8 S.un.par) x.2) (a6 _ rfl ?_)
   ·kd_p
    refine(bv A3 m3 (by show j<(S.un.par++[S.un.par.length]).length;have:=rk j hj;simp;lia) ?_).call
    have:a8 (S.un.par++[S.un.par.length]) j=a8 S.un.par j:=fG I.par _ j (rk j hj)
    show KK (.int (Int.ofNat (a8 (S.un.par++[S.un.par.length]) j))) V3
    refine a0 this ?_
    exact hKK
   ·refine fh (x.2.map (a8 S.un.par)) rfl (by exact a9 (Nat.le_of_eq (List.length_map ..)) (a9 h2 (by decide))) (fun y hy=>?_) (fun out ond omem=>?_)
    ·refine a7 (List.mem_map.mp hy) fun j hj z2=>?_;subst z2
     have:=bL (rk j hj)
     have:=I.pn
     lia
    ·refine a6 (nats out) rfl ?_
     have uk3:((S.users++[(S.bank.nodes.length,V2.length,[])]).map fun e:d8=>e.1).Nodup:=by
      refine a0 List.map_append ?_;refine bt List.nodup_append ?_
      refine i3 I.uk (by simp) (fun u hu v hv z=>?_)
      refine a7 (List.mem_map.mp hu) fun e he z2=>?_;subst z2
      cases List.mem_singleton.mp hv
      exact absurd (I.ukb e he) (Nat.not_lt.mpr (Nat.le_of_eq (I.pn.trans z.symm)))
     have uat:∀ c∈out,∃ p l,aD (S.users++[(S.bank.nodes.length,V2.length,[])]) c=some (p,l)∧l.length≤1000:=fun c hc=>by
      refine a7 (List.mem_map.mp ((omem c).mp hc)) fun j hj z2=>?_;subst z2
      refine cW (I.us _ (bj I.par (rk j hj))) fun p l u1 Z=>?_
      exact cN p l (by refine a0 gM ?_;refine a0 u1 ?_;rfl) ((I.roomy hU hK).ul _ (aZ u1))
     have T0:gG V L S x a b L2 V2.length [] V3:=by
      have e:S.told x a b V2.length []={S.half x a b with users:=S.users++[(S.bank.nodes.length,V2.length,[])]}:=by unfold HS.told;refine a0 (rG ..) ?_;rfl
      exact⟨e▸A3,e▸Z3⟩
     clear A3 Z3 Z2 A2 h1 m3
     generalize V2.length=q' at*
     refine dE (fun c=>.int (Int.ofNat c)) out (fun dn Z V'=>gG V L S x a b L2 q' dn.reverse V') (fun V' t=>?_) (fun dn c xs V' KK e2 t hKK=>?_) T0
     ·have eg:S.told x a b q' out.reverse=S.grown x a b q':=pB I rk fun c=>List.mem_reverse.trans (omem c)
      obtain⟨A4,Z4⟩:=t
      rw[eg] at A4 Z4
      refine a3 I' fun I5 sl hxn=>?_
      have h1:=A4.hp'
      kd_p
      refine a0 I.pn.symm ?_
      refine(hV A4 (I5.small hU) (I5.roomy hU hK) hxn (by show _<(S.un.par++[_]).length;simp) (I5.hx hxn) I5.hu I5.hkn (I5.hkl hU) fun V6 L6 S6 J A6 e6 X6=>?_).call
      refine a3 (I5.lookR hU hxn sl J) fun I6 F6 Z=>?_
      kd_p
      exact q _ V6 L6 S6 (i3 I6 ((sg I).trans F6.ext) (F6.bank▸hxn)) A6 (e6.trans ehp) (Z4.trans X6)
     ·have hcd:c∉dn.reverse:=fun z=>(List.nodup_append.mp (e2▸ond)).2.2 c (List.mem_reverse.mp z) c (.head _) rfl
      refine cW (uat c (e2▸List.mem_append_right _ (.head _))) fun p l hu ll=>?_
      refine a2 (t.tell uk3 hcd hu) fun g1 T5=>?_
      have hab4:=t.ab
      have h1:=t.h.hp'
      kd_p
      refine cO hab4 ((cn _ _).trans (congrArg _ hu)) ?_
      kd_p
      refine b9 (.list (nats (l++[S.bank.nodes.length]))) g1 (by simp;exact a9 ll (by decide)) (by refine a0 (fH ..) ?_;rfl) ?_
      kd_p
      exact⟨rfl,hKK _ _ (.app (ext:=[("c",_)])) (by refine a0 List.reverse_append ?_;exact T5)⟩
end
section
variable{W:Wd}{n:Nat}{sc:ah}{ρ:ai}{V:St}
theorem eK{new:Bool}{elt:Expr}{g:Comprehension}{scope:Scope}{nm:Str}{Q:a5->St->Prop}(hn:dt g.target=some nm)(hi:g.ifs=[])
 (h:ET W n sc g.iter ρ V (fun a V'=>∃ ys,aI V' a=some ys∧ys.length≤1000000∧∃ J:List a5->List a5->St->Prop,J [] [] V'∧(∀ dn out V₂,J dn out V₂->aI V₂ a=some ys)∧
  (∀ dn out x xs V₂ (K:a5->St->Prop),ys=dn++x::xs->J dn out V₂->(∀ v V₃,J (dn++[x]) (out++[v]) V₃->K v V₃)->ET W n (aw scope.names sc) elt (aJ (aR scope.names sc ρ) nm x) V₂ K)∧
  ∀ out V₂,J ys out V₂->CK new Q (.list out) V₂)):dZ W n sc new (.list elt) g [] scope ρ V Q:=by
 unfold dZ
 intro A env φ s R N F
 refine(h A env φ s R N F).mono fun a V' z=>bw z fun ys h1 hl z=>mO z fun J j0 jst jstep jend=>a6 ys h1 ?_
 refine fQ (I:=fun xs acc ρ' V₂=>∃ dn out,ys=dn++xs∧acc=.list out∧out.length=dn.length∧J dn out V₂∧∀ x,aJ ρ' nm x=aJ (aR scope.names sc ρ) nm x) ?_ ?_ _ _ _ _ (u7 ([]) ([]) rfl rfl rfl j0 (fun Z=>rfl))
 ·rintro acc ρ' V₂ ⟨dn,out,h2,rfl,_,j,_⟩
  rw[List.append_nil] at h2
  subst h2
  exact jend out V₂ j
 ·rintro x xs acc ρ' V₂ K ⟨dn,out,h2,rfl,hlen,j,hρ⟩ hK
  refine a6 nm hn ?_
  refine a0 (hρ ..) ?_;refine a0 hi ?_
  refine cD ?_
  refine ite_pos rfl ?_
  refine aP _ rfl ?_ (jstep dn out x xs V₂ _ h2 j fun v V₃ j3=>?_)
  ·refine a0 hlen ?_
   have:dn.length≤ys.length:=by refine a0 h2 ?_;simp
   exact a9 this hl
  ·exact hK _ _ _ (jst _ _ _ j3) (u7 (dn++[x]) (out++[v]) (by refine a0 h2 ?_;simp) rfl (by simp[hlen]) j3 (fun y=>iJ _ _ _ _))
inductive wo{α:Type}(l:List α)(v f:α->a5)(V:St):List a5->List a5->St->Prop
 | mk {pre post:List α} (e:l=pre++post):wo l v f V (pre.map v) (pre.map f) V
theorem sj{new:Bool}{elt:Expr}{scope:Scope}{nm:Str}{Q:a5->St->Prop}{α:Type}(l:List α)(v f:α->a5){a:a5}{V:St}(h1:aI V a=some (l.map v))(hl:l.length≤1000000)
 (hf:∀ x∈l,∀ K:a5->St->Prop,K (f x) V->ET W n (aw scope.names sc) elt (aJ (aR scope.names sc ρ) nm (v x)) V K)(q:CK new Q (.list (l.map f)) V):
 ∃ ys,aI V a=some ys∧ys.length≤1000000∧∃ J:List a5->List a5->St->Prop,J [] [] V∧(∀ dn out V₂,J dn out V₂->aI V₂ a=some ys)∧
   (∀ dn out x xs V₂ (K:a5->St->Prop),ys=dn++x::xs->J dn out V₂->(∀ v V₃,J (dn++[x]) (out++[v]) V₃->K v V₃)->ET W n (aw scope.names sc) elt (aJ (aR scope.names sc ρ) nm x) V₂ K)∧
   ∀ out V₂,J ys out V₂->CK new Q (.list out) V₂:=
 ⟨l.map v,h1,by rw[List.length_map];exact hl,wo l v f V,wo.mk (pre:=[]) rfl,fun Z Z Z h=>(by cases h;exact h1),fun dn out x xs V₂ K e h k=>by
   cases h with
   | @mk pre post e1=>
   rw[e1,List.map_append] at e
   obtain⟨y,r,e2,e3,_⟩:=List.map_eq_cons_iff.mp (List.append_cancel_left e)
   rw[e2] at e1
   rw[← e3] at k ⊢
   refine hf y (e1▸List.mem_append_right _ (.head _)) K (k _ _ ?_)
   have z:=wo.mk (v:=v) (f:=f) (V:=V) (e1.trans (List.append_cons ..))
   rw[List.map_append,List.map_append] at z
   exact z,
 fun out V₂ h=>by
  generalize e:l.map v=m at h
  cases h with
  | @mk pre post e1=>
  rw[e1,List.map_append] at e
  rw[List.map_eq_nil_iff.mp (List.append_right_eq_self.mp e),List.append_nil] at e1
  exact e1▸q⟩
end
mutual
noncomputable def fB:Tm->a5
 | .mk op ts=>.tup (.str op::te ts)
noncomputable def te:List Tm->List a5
 | []=>[]
 | t::ts=>fB t::te ts
end
theorem nB:∀ ts:List Tm,te ts=ts.map fB
 | []=>by unfold te;rfl
 | t::ts=>by unfold te;refine a0 (nB ts) ?_;rfl
theorem gk(op:Str)(ts:List Tm):fB (.mk op ts)=.tup (.str op::ts.map fB):=by unfold fB;refine a0 (nB ..) ?_;rfl
inductive gJ:Nat->Tm->Prop
 | mk {d:Nat} {op:Str} {ts:List Tm}:(∀ t∈ts,gJ d t)->gJ (d+1) (.mk op ts)
structure zt(U:List Tm):Prop where
 good:∀ op ts,Tm.mk op ts∈U->fi op=true∧PyData.strOk op=true∧ts.length≤2
 kids:∀ op ts,Tm.mk op ts∈U->∀ t∈ts,t∈U
 size:U.length≤40
section
variable{prog:Program}{w:World}{H:Heap}{mg mb:Str->Option Value}{U:List Tm}{T:Tm->Tm->Prop}{K:Nat}
theorem jp.maps{S S':HS}(X:jp S S')(I:aC U T K S []){is:List Nat}(lt:∀ k∈is,k<S.bank.nodes.length):is.map (tm S'.bank.nodes)=is.map (tm S.bank.nodes):=
 X.nodes.elim fun more em=>List.map_congr_left fun k hk=>by rw[em];exact iy I.kid more _ (lt k hk)
theorem jp.lenN{S S':HS}(X:jp S S'):S.bank.nodes.length≤S'.bank.nodes.length:=
 X.nodes.elim fun more em=>by rw[em,List.length_append];exact Nat.le_add_right ..
inductive zu(U:List Tm)(T:Tm->Tm->Prop)(K:Nat)(V:St)(L:HL)(S:HS)(ts:List Tm)(dn out:List a5)(V':St):Prop
 | mk (L':HL) (S':HS) (is:List Nat) (rest:List Tm) (A:ak V' L' S') (I:aC U T K S' []) (X:jp S S') (eh:L'.hp=L.hp) (N:aK V (L.fp S) V' (L'.fp S')) (e0:ts=is.map (tm S'.bank.nodes)++rest) (e1:dn=(is.map (tm S'.bank.nodes)).map fB) (e2:out=nats is) (lt:∀ k∈is,k<S'.bank.nodes.length)
theorem tD(ok:zt U)(hK:K≤1000):∀ (d:Nat) {n:Nat} {t:Tm} {V:St} {L:HL} {S:HS} {Q:a5->St->Prop},gJ d t->t∈U->ak V L S->aC U T K S []->
 (∀ i,y6 V L S (fun S'=>aC U T K S' []∧jp S S'∧i<S'.bank.nodes.length∧tm S'.bank.nodes i=t) fun V' Z Z=>Q (.int (Int.ofNat i)) V')->
 CC (W0 prog w H mg mb) (n+d+6) (.ref 509) [.ref L.hp,fB t] V Q:=by
 intro d
 induction d with
 | zero=>intro n t V L S Q hd;cases hd
 | succ d ih=>
   intro n t V L S Q hd ht h I q
   cases hd with
   | @mk _ op ts hts=>
   refine a3 (ok.good op ts ht) fun g1 g2 g3=>?_
   refine a0 (gk ..) ?_
   refine ag (ps:=["self","term"]) (by rfl) (by rfl) ?_ (by rfl) (by decide) (by rfl) (by decide) (by rfl) ?_ (by rfl) (by rfl) (by rfl)
   ·exact dj fun Z Z=>rfl
   ·have h1:=h.hp'
    kd_p
    refine cS (i:=0) (xs:=.str op::ts.map fB) (by decide) rfl ?_
    kd_p
    refine aW (new:=false) (eK (nm:="part") rfl rfl ?_) (by rfl)
    refine bG (i:=1) ?_
    kd_p
    refine fh _ rfl (by exact Nat.succ_pos _) (by exact a9 (Nat.le_of_eq ((List.length_cons ..).trans (congrArg (· +_) (List.length_map ..)))) (a9 (Nat.add_le_add_right g3 _) (by decide))) ?_
    refine⟨ts.map fB,rfl,by exact a9 (Nat.le_of_eq (List.length_map ..)) (a9 g3 (by decide)),zu U T K V L S ts,⟨L,S,[],ts,h,I,.refl,rfl,.refl,rfl,rfl,rfl,fun Z h=>nomatch h⟩,fun Z Z Z Z=>rfl,fun dn out y xs V' KK hys hJ hKK=>?_,fun out V' hJ=>?_⟩
    ·obtain⟨L',S',is,rest,A',I',X',eh,N',e0,e1,e2,lt⟩:=hJ
     rw[e1,e0,List.map_append] at hys
     refine bR (List.map_eq_cons_iff.mp (List.append_cancel_left hys)) fun t r e3 e4 Z=>?_
     rw[e3] at e0
     have tmem:t∈ts:=by rw[e0];exact List.mem_append_right _ (.head _)
     refine aX eh ?_
     refine aX e4 ?_
     have h1:=A'.hp'
     kd_p
     refine(ih (n:=n) (hts t tmem) (ok.kids op ts ht t tmem) A' I' fun i V₂ L₂ S₂ ⟨I₂,X₂,il,it⟩ A₂ e₂ N₂=>hKK _ V₂ ?_).call
     have em:=X₂.maps I' lt
     have ei:(is++[i]).map (tm S₂.bank.nodes)=is.map (tm S'.bank.nodes)++[t]:=by rw[List.map_append,em];exact congrArg (fun x=>_++[x]) it
     exact⟨L₂,S₂,is++[i],r,A₂,I₂,X'.trans X₂,e₂.trans eh,N'.trans N₂,by rw[ei,e0,List.append_assoc];rfl,by rw[ei,e1,← e4,List.map_append];rfl,by rw[e2,fH],fun k hk=>(List.mem_append.mp hk).elim (fun hk=>Nat.lt_of_lt_of_le (lt k hk) X₂.lenN) fun hk=>List.mem_singleton.mp hk▸il⟩
    ·obtain⟨L',S',is,rest,A',I',X',eh,N',e0,e1,e2,lt⟩:=hJ
     have all:is.map (tm S'.bank.nodes)=ts:=by
      rw[e0,List.map_append] at e1
      rw[e0,List.map_eq_nil_iff.mp (List.append_right_eq_self.mp e1),List.append_nil]
     have il:is.length≤2:=by rw[← List.length_map (tm S'.bank.nodes),all];exact g3
     refine a6 _ rfl ?_
     refine a0 e2 ?_
     kd_p
     refine cZ (a:=.frz _) rfl (a9 (Nat.le_of_eq (bm _)) (a9 il (by decide))) ?_
     kd_p
     refine aX eh ?_
     refine(uH (n:=n+d) (x:=(op,is)) A' I' ok.size hK g1 g2 lt il (by show Tm.mk op (is.map (tm S'.bank.nodes))∈U;rw[all];exact ht) fun i V₂ L₂ S₂ ⟨I₂,X₂,gi⟩ A₂ e₂ N₂=>q i V₂ L₂ S₂ ⟨I₂,X'.trans X₂,(List.getElem?_eq_some_iff.mp gi).1,?_⟩ A₂ (e₂.trans eh) (N'.trans N₂)).call
     exact(dQ gi (I₂.kid _ _ gi)).trans (congrArg (Tm.mk op) ((X₂.maps I' lt).trans all))
end
end
section
open PySem PySem.W PySem.Calls PySem.Spec PyProof.Rows
section
variable{W:Wd}{n:Nat}{sc:ah}{ρ:ai}{V:St}
theorem rT{y:a5}{xs:List a5}{l:List Nat}(e:y::xs=nats l):∃ c r,l=c::r∧y=.int (Int.ofNat c)∧xs=nats r:=by
 cases l with
 | nil=>cases e
 | cons c r=>
   simp only[nats,List.map_cons] at e
   injection e with x1 x2
   exact d7 c r rfl x1 x2
theorem tM{l:List Nat}(e:[]=nats l):l=[]:=by
 cases l with
 | nil=>rfl
 | cons c r=>cases e
set_option tactic.hygienic true in
theorem sh{A:Around}{env:Env}{φ:aj}{s:Shared}{x:Str}{pos:Pos}{a:a5}{Q:Value->Shared->Prop}{E:Value->Shared->Prop}(N:aO W φ V s.heap)(F:az W φ s.heap env sc ρ)
 (hx:cU sc x=true)(hn:d5 x=true)(ha:ρ.lookup x=some a)(go:∀ v,aa φ s.heap v a->Q v s):wpAny (model W.prog W.w) A (eval (.Name x pos) env) Q E s:=by
 unfold d5 at hn
 simp only[Bool.and_eq_true,Bool.not_eq_true'] at hn
 have kn:∀ k,sc.lookup x=some k->env.kindOf x=some k:=fun k e=>by unfold Env.kindOf;refine a0 F.names ?_;exact e
 unfold cU at hx
 split at hx
 ·rename_i e
  refine a7 F.locals fun m hm hv=>?_
  refine a7 (hv x a e ha) fun v e1 r=>?_
  exact wpAny_Name (wpAny_loadName_local F.kind (kn _ e) hm e1 (go v r)) hn.1
 ·rename_i e
  refine ia (F.cells x (.inl e)) fun c v e1 Z e2 e3=>?_
  refine a7 (e3 a ha) fun u z1 r=>?_;subst z1
  exact wpAny_Name (wpAny_loadName_cell F.kind (kn _ e) e1 e2 (go u r)) hn.1
 ·rename_i e
  refine ia (F.cells x (.inr e)) fun c v e1 Z e2 e3=>?_
  refine a7 (e3 a ha) fun u z1 r=>?_;subst z1
  exact wpAny_Name (wpAny_loadName_free F.kind (kn _ e) e1 e2 (go u r) hn.2) hn.1
 ·cases hx
theorem sR{x:Str}{np pos cp:Pos}{b:Bool}{k:Nat}{i:Int}{Q:a5->St->Prop}(ha:ρ.lookup x=some (.int i))(q:Q (.ref V.length) (V++[.idict [(i,.bool b)]]))(hx:cU sc x=true:=by rfl)(hn:d5 x=true:=by rfl):
 ET W n sc (.Dict [some (.Name x np)] [.Constant (.bool b) k cp] pos) ρ V Q:=by
 intro A env φ s R N F
 have kp:∀ (b:Nat) o,s.heap.get? b=some o->(s.heap.push {cls:=.type "dict",data:=.dict #[]}).get? b=some o:=fun b o e=>Heap.get?_push_of_some _ e
 have gr:s.heap.objs.size≤(s.heap.push {cls:=.type "dict",data:=.dict #[]}).objs.size:=by refine a0 (Heap.size_push ..) ?_;exact Nat.le_succ _
 have S1:dB φ s.heap φ (s.heap.push {cls:=.type "dict",data:=.dict #[]}):=.quiet (fun b o e Z=>kp b o e) gr
 refine wpAny_Dict_pairs (knd:=intKind W.prog W.w) (pairs:=[(eval (.Name x np) env,do let x ← eval (.Constant (.bool b) k cp) env;standAt pos;Pure.pure x)]) rfl (by exact fun z=>nomatch z) (by exact Nat.succ_pos _) ?_
 refine evalPairs_cons ?_
 refine sh (s:={s with heap:=s.heap.push {cls:=.type "dict",data:=.dict #[]}}) (N.grown gr kp) (F.step S1) hx hn ha fun kv r=>?_
 refine r.int_el fun t=>?_
 refine wpAny_bind (wpAny_Constant_bool (wpAny_bind (wpAny_standAt (wpAny_pure ?_))))
 refine wpAny_pure ?_
 refine aP ([(i,.bool b)]) (i3 (intKind_is _ _ _ _) rfl trivial) (Heap.DictOf.new s.heap) (fun h' hd sb=>?_)
 have old:∀ (b:Nat) o,s.heap.get? b=some o->h'.get? b=some o:=fun b o e=>(sb.2 b (Nat.ne_of_lt (Heap.lt_size e))).trans (kp b o e)
 have hs:s.heap.objs.size≤h'.objs.size:=by
  obtain⟨o,_,_,ho,_⟩:=hd
  exact Nat.le_of_lt (Heap.lt_size ho)
 refine a2 (aq.adopt (p:=(s.heap.objs.size,s.heap.objs.size)) (o:=.idict [(i,.bool b)]) (h':=h') N old hs (Nat.le_refl _) (Nat.le_refl _) (fun S=>.idict hd rfl (.cons (.bool b) .nil)) (s.toks+1)) fun E' r'=>?_
 exact⟨_,_,_,E',r',q⟩
end
section
variable{prog:Program}{w:World}{H:Heap}{mg mb:Str->Option Value}{U:List Tm}{T:Tm->Tm->Prop}{K:Nat}
theorem pz{n:Nat}{V:St}{L:HL}{S:HS}{c:Nat}{Q:a5->St->Prop}(h:ak V L S)(I:aC U T K S [])(hU:U.length≤40)(hK:K≤1000)(hc:c<S.un.par.length)
 (q:∀ (out:List Nat) p l,aD S.users (a8 S.un.par c)=some (p,l)->(∀ y,y∈out↔y∈l)->out.Nodup->Q (.frz (nats out)) V):CC (W0 prog w H mg mb) (n+3) (.ref 596) [.ref L.hp,.int (Int.ofNat c)] V Q:=by
 refine ag (ps:=["self","c"]) (by rfl) (by rfl) ?_ (by rfl) (by decide) (by rfl) (by decide) (by rfl) ?_ (by rfl) (by rfl) (by rfl)
 ·exact dj fun Z Z=>rfl
 ·have h1:=h.hp'
  have hab:=h.h.get (i:=4) rfl
  refine cW (I.us _ (bj I.par hc)) fun p l hu Z=>?_
  have hpl:=h.h.at' (p,af.list (nats l)) (List.mem_append_right _ (ey hu))
  have size:=I.size
  have pn:=I.pn
  walk_at "m"
  walk_at "m"
  refine jb ?_ iG q5
  kd_p
  refine(bv h (I.small hU) hc ?_).call
  refine cO hab (show _=some (a5.ref p) by show bb (av S.users) _=_;refine a0 (cn ..) ?_;refine a0 hu ?_;rfl) ?_
  refine fh l (dy hpl) ?_ (fun y hy=>?_) (fun out nd mem=>?_)
  ·have h1:=gn (List.mem_map_of_mem (f:=fun e:d8=>e.2.2.length) (aZ hu))
   have:=I.usum
   simp only at h1
   exact a9 (a9 h1 (a9 this (Nat.mul_le_mul (Nat.le_refl _) (a9 size hU)))) (by decide)
  ·have:=I.ub _ (aZ hu) y hy
   exact a9 (a9 this (a9 (Nat.le_of_eq pn) (a9 size hU))) (by decide)
  ·exact q out p l hu mem nd
theorem g7{n:Nat}{V:St}{L:HL}{S:HS}{c:Nat}{Q:a5->St->Prop}(h:ak V L S)(I:aC U T K S [])(hU:U.length≤40)(hK:K≤1000)(hc:c<S.un.par.length)
 (q:∀ out:List ar,(∀ y,y∈out↔∃ i x,S.bank.nodes[i]? =some x∧a8 S.un.par i=a8 S.un.par c∧y=S.nodeKey x)->out.length≤60->Q (.frz (out.map c8)) V):CC (W0 prog w H mg mb) (n+4) (.ref 577) [.ref L.hp,.int (Int.ofNat c)] V Q:=by
 refine ag (ps:=["self","c"]) (by rfl) (by rfl) ?_ (by rfl) (by decide) (by rfl) (by decide) (by rfl) ?_ (by rfl) (by rfl) (by rfl)
 ·exact dj fun Z Z=>rfl
 ·have h1:=h.hp'
  refine bw (I.lots _ (bj I.par hc)) fun l l1 l2 l3=>?_
  have size:=I.size
  have pn:=I.pn
  have m:=I.small hU
  have ll:=m.lots l (List.mem_of_getElem? l1)
  walk_at "m"
  walk_at "m"
  refine qt ?_ iG q5
  refine aW (new:=false) (aE (nm:="n") rfl ?_) (by rfl)
  kd_p
  refine(kY h m hc l1 fun l' pm=>?_).call
  have ll':=pm.length_eq
  refine .nats l' (fun i=>c8 (S.nodeKey (S.bank.nodes.getD i ("",[])))) rfl (by exact a9 (Nat.le_of_eq ll') (a9 ll (by decide))) (fun j hj KK hKK=>?_) (List.map_map (g:=c8) (f:=fun i=>S.nodeKey (S.bank.nodes.getD i ("",[])))).symm (a6 _ rfl ?_)
  ·have hj':=(l3 j).mp (pm.mem_iff.mp hj)
   have hx:S.bank.nodes[j]? =some S.bank.nodes[j]:=List.getElem?_eq_getElem (pn▸hj'.1)
   kd_p
   refine(k0 h m hx (I.hx hx) ?_).call
   have e:S.bank.nodes.getD j ("",[])=S.bank.nodes[j]:=by refine a0 List.getD_eq_getElem?_getD ?_;refine a0 hx ?_;rfl
   simp only[Int.ofNat_eq_natCast,Int.toNat_natCast,e] at hKK
   exact hKK
  ·refine aP _ rfl (by exact a9 (Nat.le_of_eq (List.length_map ..)) (a9 (Nat.le_of_eq ll') ll)) (fun out mem ol=>q out (fun y=>?_) (by simp at ol;exact a9 ol (a9 (Nat.le_of_eq ll') ll)))
   refine bt (mem ..) ?_;refine bt List.mem_map ?_
   constructor
   ·rintro⟨i,hi,rfl⟩
    have hi':=(l3 i).mp (pm.mem_iff.mp hi)
    have hx:S.bank.nodes[i]? =some S.bank.nodes[i]:=List.getElem?_eq_getElem (pn▸hi'.1)
    exact d7 i _ hx hi'.2 (by refine a0 List.getD_eq_getElem?_getD ?_;refine a0 hx ?_;rfl)
   ·rintro⟨i,x,hx,hr,rfl⟩
    exact a6 i (pm.mem_iff.mpr ((l3 i).mpr ⟨by refine a0 pn ?_;exact(List.getElem?_eq_some_iff.mp hx).1,hr⟩)) (by refine a0 List.getD_eq_getElem?_getD ?_;refine a0 hx ?_;rfl)
end
noncomputable def bD(B:List Nat):List (Int×a5):=B.map fun b=>(Int.ofNat b,a5.bool true)
noncomputable def mD(nodes:List ar)(B:List Nat):List (Int×a5):=B.map fun b=>(Int.ofNat b,fB (tm nodes b))
theorem fq(f:Nat->a5):∀ (B:List Nat) (c:Nat),bb (B.map fun b=>(Int.ofNat b,f b)) (Int.ofNat c)=if c∈B then some (f c)else none
 | [],c=>rfl
 | b::B,c=>by
   have ih:=fq f B c
   unfold bb at*
   refine a0 List.map_cons ?_;refine a0 List.find?_cons ?_
   by_cases e:b=c
   ·subst e;simp
   ·have:¬(Int.ofNat b=Int.ofNat c):=fun z=>e (Int.ofNat.inj z)
    simp only[decide_eq_false this]
    refine a0 ih ?_
    have e':¬c=b:=fun z=>e z.symm
    simp[e']
theorem ql(B:List Nat)(c:Nat):(bb (bD B) (Int.ofNat c)).isSome=decide (c∈B):=by
 unfold bD
 rw[fq (fun Z=>.bool true)]
 by_cases h:c∈B<;>simp[h]
theorem kj(f:Nat->a5){B:List Nat}{c:Nat}(h:c∉B)(v:a5)(hv:v=f c):cX (B.map fun b=>(Int.ofNat b,f b)) (Int.ofNat c) v=(B++[c]).map fun b=>(Int.ofNat b,f b):=by
 unfold cX
 refine a0 (fq ..) ?_;refine a0 (if_neg h) ?_
 subst hv
 simp
noncomputable def oL(B:List Nat)(c:Nat):List Nat:=if c∈B then B else B++[c]
theorem xF(B:List Nat)(c:Nat):cX (bD B) (Int.ofNat c) (.bool true)=bD (oL B c):=by
 unfold oL
 by_cases hc:c∈B
 ·refine a0 (if_pos hc) ?_
  unfold cX
  refine a0 (if_pos (by rw[ql];exact decide_eq_true hc)) ?_
  unfold bD
  refine a0 List.map_map ?_
  refine List.map_congr_left fun d Z=>?_
  show(if Int.ofNat d=Int.ofNat c then(Int.ofNat d,a5.bool true)else(Int.ofNat d,a5.bool true))=_
  split<;>rfl
 ·refine a0 (if_neg hc) ?_
  exact kj (fun Z=>.bool true) hc _ rfl
set_option tactic.hygienic true in
theorem uC{B:List Nat}{c d:Nat}:d∈oL B c↔d∈B∨d=c:=by
 unfold oL
 split
 ·rename_i h
  exact⟨.inl,fun z=>z.elim id fun e=>e▸h⟩
 ·refine bt List.mem_append ?_;refine bt List.mem_singleton ?_;rfl
set_option tactic.hygienic true in
theorem qk{B:List Nat}(nd:B.Nodup)(c:Nat):(oL B c).Nodup:=by
 unfold oL
 split
 ·exact nd
 ·rename_i h
  exact List.nodup_append.mpr (i3 nd (List.pairwise_singleton _ _) (fun a ha b hb e=>h (by refine aX (List.mem_singleton.mp hb) ?_;refine aX e ?_;exact ha)))
structure jc(nodes:List ar)(i:Nat)(B stk:List Nat):Prop where
 self:i∈B
 nd:B.Nodup
 snd:stk.Nodup
 lt:∀ b∈B,b<nodes.length
 sub:∀ b∈stk,b∈B
 clo:∀ b∈B,b∉stk->∀ x,nodes[b]? =some x->∀ k∈x.2,k∈B
theorem mU{c:Nat}{r:List Nat}(h:c∉r):cX (bD r) (Int.ofNat c) (.bool true)=bD (r++[c]):=kj (fun Z=>.bool true) h _ rfl
theorem pU{α:Type}{l:List α}{c:α}(nd:l.Nodup)(h:c∉l):(l++[c]).Nodup:=List.nodup_append.mpr (i3 nd (List.pairwise_singleton _ _) (fun a ha b hb e=>h (by refine aX (List.mem_singleton.mp hb) ?_;refine aX e ?_;exact ha)))
structure mW(V0:St)(B stk:List Nat)(V:St):Prop where
 b:V[V0.length]? =some (.idict (bD B))
 s:V[V0.length+1]? =some (.list (nats stk))
 X:aK V0 [] V []
theorem mW.setB{V0 V:St}{B stk:List Nat}(t:mW V0 B stk V)(B':List Nat):mW V0 B' stk (V.set V0.length (.idict (bD B'))):=
 ⟨List.getElem?_set_self (bN t.b),by refine a0 (List.getElem?_set_ne (Nat.ne_of_lt (Nat.lt_succ_self _))) ?_;exact t.s,t.X.setNew (.inl (Nat.le_refl _)) _⟩
theorem mW.setS{V0 V:St}{B stk:List Nat}(t:mW V0 B stk V)(stk':List Nat):mW V0 B stk' (V.set (V0.length+1) (.list (nats stk'))):=
 ⟨by refine a0 (List.getElem?_set_ne (Nat.succ_ne_self _)) ?_;exact t.b,List.getElem?_set_self (bN t.s),t.X.setNew (.inl (Nat.le_succ _)) _⟩
inductive A8(nodes:List ar)(V0:St)(bk i:Nat)(ι:Nat×Nat)(ρ:ai)(V:St):Prop
 | mk (B stk:List Nat) (t:mW V0 B stk V) (bl:jc nodes i B stk) (e:ι=(nodes.length - B.length,stk.length)) (hρ:ρ=([("self",.ref bk),("n",.int (Int.ofNat i)),("stack",.ref (V0.length+1)),("below",.ref V0.length)]:ai))
inductive A9(nodes:List ar)(V0:St)(B ws:List Nat)(dn rest:List Nat)(V:St):Prop
 | mk (new:List Nat) (t:mW V0 (B++new) (ws++new) V) (nd:(B++new).Nodup) (lt:∀ b∈B++new,b<nodes.length) (kd:∀ k∈dn,k∈B++new)
theorem jc.turn{nodes:List ar}{i m:Nat}{B ws new:List Nat}{x:ar}(bl:jc nodes i B (ws++[m]))(hx:nodes[m]? =some x)(nd:(B++new).Nodup)(lt:∀ b∈B++new,b<nodes.length)(kd:∀ k∈x.2,k∈B++new):jc nodes i (B++new) (ws++new):=by
 refine⟨List.mem_append_left _ bl.self,nd,?_,lt,fun b hb=>?_,fun b hb hn y hy k hk=>?_⟩
 ·exact List.nodup_append.mpr (i3 ((List.nodup_append.mp bl.snd).1) ((List.nodup_append.mp nd).2.1) (fun a ha b hb=>(List.nodup_append.mp nd).2.2 a (bl.sub a (List.mem_append_left _ ha)) b hb))
 ·rcases List.mem_append.mp hb with hb | hb
  ·exact List.mem_append_left _ (bl.sub b (List.mem_append_left _ hb))
  ·exact List.mem_append_right _ hb
 ·rcases List.mem_append.mp hb with hb | hb
  ·by_cases hbm:b=m
   ·subst hbm
    rw[hx] at hy;cases hy
    exact kd k hk
   ·exact List.mem_append_left _ (bl.clo b hb (fun z=>(List.mem_append.mp z).elim (fun z=>hn (List.mem_append_left _ z)) fun z=>hbm (List.mem_singleton.mp z)) y hy k hk)
  ·exact absurd (List.mem_append_right _ hb) hn
theorem jc.lex{nodes:List ar}{m:Nat}{B ws new:List Nat}(h:(B++new).length≤nodes.length):Prod.Lex (fun x y=>x<y) (fun x y=>x<y) (nodes.length - (B++new).length,(ws++new).length) (nodes.length - B.length,(ws++[m]).length):=by
 rw[List.length_append] at h ⊢
 refine a0 List.length_append ?_;refine a0 List.length_append ?_;refine a0 List.length_singleton ?_
 cases new with
 | nil=>exact .right _ (Nat.lt_succ_self _)
 | cons a r=>exact .left _ _ (Nat.sub_lt_sub_left (Nat.lt_of_lt_of_le (Nat.lt_add_of_pos_right (Nat.zero_lt_succ _)) h) (Nat.lt_add_of_pos_right (Nat.zero_lt_succ _)))
theorem jc.before{nodes:List ar}{i c:Nat}{B kn dn rest:List Nat}{x:ar}(bl:jc nodes i B [])(kid:dP nodes)(kn2:kn.Perm B)(kn3:kn.Pairwise (fun x y=>x≤y))(e2:kn=dn++c::rest)(hx:nodes[c]? =some x):(∀ k∈x.2,k∈dn)∧c∉dn:=by
 have cB:c∈B:=kn2.mem_iff.mp (by refine a0 e2 ?_;exact List.mem_append_right _ (.head _))
 refine⟨fun k hk=>?_,fun z=>?_⟩
 ·have km:=kn2.mem_iff.mpr (bl.clo c cB List.not_mem_nil x hx k hk)
  have klt:=kid c x hx k hk
  rw[e2] at km kn3
  rcases List.mem_append.mp km with km | km
  ·exact km
  ·rcases List.mem_cons.mp km with rfl | km
   ·exact absurd klt (Nat.lt_irrefl _)
   ·exact absurd klt (Nat.not_lt.mpr (List.rel_of_pairwise_cons (List.pairwise_append.mp kn3).2.1 km))
 ·have knd:=kn2.nodup_iff.mpr bl.nd
  rw[e2] at knd
  exact(List.nodup_append.mp knd).2.2 c z c (.head _) rfl
theorem wS{nodes:List ar}{B:List Nat}{c:Nat}(h:c∈B):bb (mD nodes B) (Int.ofNat c)=some (fB (tm nodes c)):=by unfold mD;rewrite[fq (fun b=>fB (tm nodes b))];refine a0 (if_pos h) ?_;rfl
section
variable{prog:Program}{w:World}{H:Heap}{mg mb:Str->Option Value}
theorem rF{n:Nat}{V:St}{bk nd nu we de i:Nat}{S:Bk}{Q:a5->St->Prop}(h:b8 V (db bk nd nu we de S))(kid:dP S.nodes)(kid2:∀ x∈S.nodes,x.2.length≤2)(hi:i<S.nodes.length)(hN:S.nodes.length≤60)
 (q:∀ V',aK V [] V' []->Q (fB (tm S.nodes i)) V'):CC (W0 prog w H mg mb) (n+2) (.ref 363) [.ref bk,.int (Int.ofNat i)] V Q:=by
 refine ag (ps:=["self","n"]) (by rfl) (by rfl) ?_ (by rfl) (by decide) (by rfl) (by decide) (by rfl) ?_ (by rfl) (by rfl) (by rfl)
 ·exact dj fun Z Z=>rfl
 ·walk_at "m"
  refine ii ?_
  walk_at "m"
  refine sR (i:=Int.ofNat i) rfl ?_
  walk_at "m"
  refine iO (.list (nats [i])) ?_
  kd_p
  refine i3 (by exact Nat.succ_pos _) rfl ?_
  walk_at "m"
  refine cN _ _ rfl ?_
  walk_at "m"
  have t0:mW V [i] [i] ((V++[af.idict [(Int.ofNat i,a5.bool true)]])++[af.list (nats [i])]):=
   ⟨by refine a0 (List.getElem?_append_left (by simp)) ?_;refine a0 (List.getElem?_append_right (Nat.le_refl _)) ?_;simp[bD],by refine a0 (List.getElem?_append_right (by simp)) ?_;simp,(aK.grow _).trans (aK.grow _)⟩
  refine a0 (show(V++[af.idict [(Int.ofNat i,a5.bool true)]]).length=V.length+1 by exact List.length_append ..) ?_
  generalize (V++[af.idict [(Int.ofNat i,a5.bool true)]])++[af.list (nats [i])]=V0 at t0 ⊢
  refine iL (ι:=Nat×Nat) (r:=Prod.Lex (fun x y=>x<y) (fun x y=>x<y)) (WellFoundedRelation.wf (self:=Prod.lex Nat.lt_wfRel Nat.lt_wfRel)) (A8 S.nodes V bk i) (fun ι ρ V' h'=>?_) (i:=(S.nodes.length - 1,1))
   ⟨[i],[i],t0,⟨.head _,List.pairwise_singleton _ _,List.pairwise_singleton _ _,fun b hb=>List.mem_singleton.mp hb▸hi,fun b hb=>hb,fun b hb hn=>absurd hb hn⟩,rfl,rfl⟩
  obtain⟨B,stk,t1,bl,rfl,rfl⟩:=h'
  have Bl:B.length≤S.nodes.length:=bT bl.nd bl.lt
  have sl:stk.length≤S.nodes.length:=bT bl.snd fun b hb=>bl.lt b (bl.sub b hb)
  have hs:=t1.s
  have hB:=h.other t1.X fun Z Z=>List.not_mem_nil
  have hbk:=hB.get (i:=0) (p:=bk) rfl
  kd_p
  refine bo (k:=stk.length) hs (by exact List.length_map ..) (by exact a9 sl (a9 hN (by decide))) ?_
  kd_p
  refine a6 _ mQ ?_
  by_cases hz:0<stk.length
  ·refine ite_pos (by simpa using hz) ?_
   refine jh (vq hz) fun ws m z2=>?_;subst z2
   have mB:=bl.sub m (by exact List.mem_append_right _ (.head _))
   obtain⟨x,hx⟩:∃ x,S.nodes[m]? =some x:=⟨_,List.getElem?_eq_getElem (bl.lt m mB)⟩
   have xk:=kid m x hx
   have x2:=kid2 x (List.mem_of_getElem? hx)
   have ml:=bN hx
   rw[List.length_append,List.length_singleton] at sl
   walk_at "m"
   refine bP ?_ rfl
   kd_p
   refine uX (xs:=nats ws) (a:=.int (Int.ofNat m)) (by refine a0 hs ?_;simp[nats]) (by simp;lia) ?_
   have t2:=t1.setS ws
   clear hs hbk hB
   generalize V'.set (V.length+1) (.list (nats ws))=V1 at t2 ⊢
   have hB1:=h.other t2.X fun Z Z=>List.not_mem_nil
   kd_p
   refine(gF hB1 hx (by exact a9 (Nat.le_of_lt ml) (a9 hN (by decide))) (by exact a9 x2 (by decide)) ?_).call
   refine a6 (nats x.2) rfl ?_
   refine dE (fun n=>.int (Int.ofNat n)) x.2 (A9 S.nodes V B ws) (fun V₂ h'=>?_) (fun dn c rest V₂ KK e2 h' hKK=>?_) ⟨[],by refine a0 (List.append_nil ..) ?_;refine a0 (List.append_nil ..) ?_;exact t2,by refine a0 (List.append_nil ..) ?_;exact bl.nd,by refine a0 (List.append_nil ..) ?_;exact bl.lt,fun k hk=>nomatch hk⟩
   ·obtain⟨new,t3,nd3,lt3,kd⟩:=h'
    kd_p
    exact⟨_,_,jc.lex (bT nd3 lt3),.same,B++new,ws++new,t3,bl.turn hx nd3 lt3 kd,rfl,rfl⟩
   ·obtain⟨new,t3,nd3,lt3,kd⟩:=h'
    have cl:c<S.nodes.length:=Nat.lt_trans (xk c (by refine a0 e2 ?_;exact List.mem_append_right _ (.head _))) ml
    have B2l:=bT nd3 lt3
    rw[List.length_append] at B2l
    have hb2:=t3.b
    kd_p
    refine a6 _ ((ot hb2).2) ?_
    refine a0 (ql ..) ?_
    by_cases hc:c∈B++new
    ·refine ite_neg (by refine a0 (decide_eq_true hc) ?_;decide) ?_
     kd_p
     exact⟨rfl,hKK _ _ (Sub.app (ext:=[("kid",_)])) ⟨new,t3,nd3,lt3,fun k hk=>(List.mem_append.mp hk).elim (kd k) fun h=>List.mem_singleton.mp h▸hc⟩⟩
    ·refine ite_pos (by refine a0 (decide_eq_false hc) ?_;rfl) ?_
     kd_p
     refine bS (.idict (bD (B++(new++[c])))) hb2 (by simp[bD];exact a9 B2l (a9 hN (by decide))) (by refine a0 (mU hc) ?_;refine a0 (List.append_assoc ..) ?_;rfl) ?_
     have t4:=t3.setB (B++(new++[c]))
     have hs4:=t4.s
     kd_p
     refine b9 (.list (nats (ws++(new++[c])))) hs4 (by simp;lia) (by refine a0 (fH ..) ?_;refine a0 (List.append_assoc ..) ?_;rfl) ?_
     kd_p
     refine⟨rfl,hKK _ _ (Sub.app (ext:=[("kid",_)])) ⟨new++[c],t4.setS _,by refine aX (List.append_assoc ..) ?_;exact pU nd3 hc,fun b hb=>?_,fun k hk=>?_⟩⟩
     ·rw[← List.append_assoc] at hb
      exact(List.mem_append.mp hb).elim (lt3 b) fun h=>List.mem_singleton.mp h▸cl
     ·refine aX (List.append_assoc ..) ?_
      exact(List.mem_append.mp hk).elim (fun h=>List.mem_append_left _ (kd k h)) fun h=>List.mem_append_right _ h
  ·refine ite_neg (by simpa using hz) ?_
   obtain rfl:stk=[]:=List.eq_nil_of_length_eq_zero (Nat.eq_zero_of_not_pos hz)
   clear hs hbk hB
   kd_p
   refine fU ?_
   kd_p
   have pml:V.length≤V'.length:=t1.X.len
   have hm0:(V'++[af.idict []])[V'.length]? =some (.idict (mD S.nodes [])):=by refine a0 (List.getElem?_append_right (Nat.le_refl _)) ?_;simp[mD]
   have hb2:(V'++[af.idict []])[V.length]? =some (.idict (bD B)):=by refine a0 (List.getElem?_append_left (bN t1.b)) ?_;exact t1.b
   have X1:aK V [] (V'++[af.idict []]) []:=t1.X.trans (.grow _)
   generalize V'++[.idict []]=V1 at hm0 hb2 X1 ⊢
   generalize V'.length=pm at hm0 pml ⊢
   refine bP ?_ rfl
   kd_p
   refine cG hb2 (by simp[bD];lia) fun ks pk po=>?_
   obtain⟨kn,kn1,kn2,kn3⟩:=jR (l:=B) (by
    have e:(bD B).map (fun x=>x.1)=B.map Int.ofNat:=by unfold bD;refine a0 List.map_map ?_;rfl
    refine aX e ?_;exact pk) po
   refine a0 kn1 ?_
   refine a6 (nats kn) rfl ?_
   refine dE (fun n=>.int (Int.ofNat n)) kn (fun dn Z V₂=>V₂[pm]? =some (.idict (mD S.nodes dn))∧aK V [] V₂ []) (fun V₂ h'=>?_) (fun dn c rest V₂ KK e2 h' hKK=>?_) ⟨hm0,X1⟩
   ·refine a2 h' fun hm2 X2=>?_
    kd_p
    exact cO hm2 (wS (kn2.mem_iff.mpr bl.self)) (q V₂ X2)
   ·refine a2 h' fun hm2 X2=>?_
    obtain⟨x,hx⟩:∃ x,S.nodes[c]? =some x:=⟨_,List.getElem?_eq_getElem (bl.lt c (kn2.mem_iff.mp (by refine a0 e2 ?_;exact List.mem_append_right _ (.head _))))⟩
    have x2:=kid2 x (List.mem_of_getElem? hx)
    have cl:=bN hx
    refine a2 (bl.before kid kn2 kn3 e2 hx) fun kdn cdn=>?_
    have dl:=kn2.length_eq
    rw[e2,List.length_append] at dl
    have hB2:=h.other X2 fun Z Z=>List.not_mem_nil
    have hbk2:=hB2.get (i:=0) (p:=bk) rfl
    kd_p
    refine(oJ hB2 hx (by exact a9 (Nat.le_of_lt cl) (a9 hN (by decide))) ?_).call
    kd_p
    refine⟨ao rfl,?_⟩
    kd_p
    refine aW (new:=false) (aE (nm:="kid") rfl ?_) (by rfl)
    kd_p
    refine(gF hB2 hx (by exact a9 (Nat.le_of_lt cl) (a9 hN (by decide))) (by exact a9 x2 (by decide)) ?_).call
    refine .nats x.2 (fun k=>fB (tm S.nodes k)) rfl (by exact a9 x2 (by decide)) (fun j hj KK hKK=>?_) rfl (a6 _ rfl ?_)
    ·kd_p
     exact cO hm2 (wS (kdn j hj)) hKK
    kd_p
    refine cZ (a:=.frz _) rfl (by exact a9 (Nat.le_of_eq (List.length_map ..)) (a9 x2 (by decide))) ?_
    refine a6 _ (jo (by exact a9 (Nat.le_of_eq (xH ((List.length_cons ..).trans (congrArg (· +_) (List.length_nil ..))) (List.length_map ..))) (a9 (Nat.add_le_add_left x2 _) (by decide)))) ?_
    refine a0 (show a5.tup ([a5.str x.1]++x.2.map (fun k=>fB (tm S.nodes k)))=fB (tm S.nodes c) by rw[dQ hx (kid c x hx),gk];simp[List.map_map,Function.comp_def]) ?_
    kd_p
    refine bS (.idict (mD S.nodes (dn++[c]))) hm2 (by simp[mD];lia) (by unfold mD;refine a0 (kj (fun b=>fB (tm S.nodes b)) cdn _ rfl) ?_;rfl) ?_
    kd_p
    exact⟨rfl,hKK _ _ (Sub.app (ext:=[("k",_)])) ⟨List.getElem?_set_self (bN hm2),X2.setNew (.inl pml) _⟩⟩
end
noncomputable def oC:Str:="0123456789"
noncomputable def dq(c:Nat):Bool:= !(!(Builtin.Str.occurrences oC ⟨#[c]⟩ 0 oC.length 1).isEmpty)
noncomputable def bF(x:Str):Str:=if(bq x none (some 1)==("-":Str))=true then bq x (some 1) none else x
noncomputable def pK(x:Str):Bool:=decide (x.length≤100)&&decide (0<(bF x).length)&&decide ((bF x).length≤100)&&decide ((bq x none (some 1)).length≤100)&&decide ((bq x (some 1) none).length≤100)&&(bF x).cps.toList.all (fun c=>PyData.strOk ⟨#[c]⟩)
section
variable{prog:Program}{w:World}{H:Heap}{mg mb:Str->Option Value}
theorem jw{n:Nat}{V:St}{x:Str}{v:a5}{Q:a5->St->Prop}(hs:pK x=true)(hv:((bF x).cps.toList.any dq=true∧v=.none)∨((bF x).cps.toList.any dq=false∧∃ i,PySem.intText? x=some i∧v=.int i))(q:Q v V):
 CC (W0 prog w H mg mb) (n+1) (.ref 26) [.str x] V Q:=by
 unfold pK at hs
 simp only[Bool.and_eq_true,decide_eq_true_eq] at hs
 refine a2 hs ?_;clear hs;intro z0 h5;rcases z0 with⟨⟨⟨⟨h0,h1⟩,h2⟩,h3⟩,h4⟩
 refine ag (ps:=["op"]) (by rfl) (by rfl) ?_ (by rfl) (by decide) (by rfl) (by decide) (by rfl) ?_ (by rfl) (by rfl) (by rfl)
 ·exact f9 fun Z=>rfl
 ·walk_at "m"
  walk_at "m"
  refine r7 (.str (bF x)) (fun K hK=>?_) ?_
  ·kd_p
   refine gI ?_
   kd_p
   refine aP x rfl (a9 h3 (by decide)) ?_
   kd_p
   refine a6 _ bx ?_
   by_cases c:(bq x none (some 1)==("-":Str))=true
   ·have e:bF x=bq x (some 1) none:=if_pos c
    refine ite_pos c ?_
    refine ik ?_
    kd_p
    refine aP x rfl (a9 h4 (by decide)) ?_
    exact(e▸hK:K (.str (bq x (some 1) none)) V)
   ·have e:bF x=x:=if_neg c
    refine ite_neg c ?_
    walk_at "m"
    exact(congrArg (fun z=>K (.str z) V) e).mp hK
  have dl:(bF x).cps.toList.length=(bF x).length:=rfl
  generalize bF x=dg at hv h1 h2 h5 dl ⊢
  kd_p
  refine rn ?_ rfl
  kd_p
  refine qw (by exact a9 h2 (by decide)) ?_
  refine a6 true (by have:=dI (W:=W0 prog w H mg mb) (n:=n) (V:=V) (i:=0) (j:=dg.length);rw[decide_eq_true h1] at this;exact this) ?_
  refine ite_pos rfl ?_
  kd_p
  refine a6 true (by have:=qS (W:=W0 prog w H mg mb) (n:=n) (V:=V) (i:=dg.length) (j:=1000);rw[decide_eq_true (by exact a9 h2 (by decide):dg.length≤1000)] at this;exact this) ?_
  refine ite_neg (by decide) ?_
  kd_p
  refine aW (new:=false) (aE (nm:="sign") rfl ?_) (by rfl)
  kd_p
  refine⟨_,rfl,by rw[List.length_map];exact a9 (Nat.le_of_eq dl) (a9 h2 (by decide)),fun y=>match y with | .str z=>dq (z.cps.getD 0 0) | _=>false,id,?_,?_,?_⟩
  ·intro y hy K hK
   refine a7 (List.mem_map.mp hy) fun d hd' z2=>?_;subst z2
   refine eH ?_
   kd_p
   refine a6 _ l8 ?_
   have e2:(!(!(Builtin.Str.occurrences (Str.ofString "0123456789") ⟨#[d]⟩ 0 (Str.ofString "0123456789").length 1).isEmpty))=dq d:=rfl
   rw[e2]
   have e3:((⟨#[d]⟩:Str).cps.getD 0 0)=d:=rfl
   simp only[e3] at hK
   cases hq:dq d
   ·rw[hq] at hK;exact hK
   ·rw[hq] at hK;exact hK
  ·intro y hy hp K hK
   refine a7 (List.mem_map.mp hy) fun d hd' z2=>?_;subst z2
   kd_p
   exact hK
  ·refine⟨_,rfl,_,rfl,?_⟩
   refine ch ?_
   kd_p
   refine⟨ao rfl,?_⟩
   rw[List.map_id]
   have el:((dg.cps.toList.map fun c=>a5.str ⟨#[c]⟩).filter fun y=>match y with | .str z=>dq (z.cps.getD 0 0) | _=>false)=(dg.cps.toList.filter dq).map fun c=>a5.str ⟨#[c]⟩:=by
    rw[List.filter_map];rfl
   rw[el]
   rcases hv with⟨b,rfl⟩ | ⟨b,i,hi,rfl⟩
   ·obtain⟨c,r,hcr⟩:∃ c r,dg.cps.toList.filter dq=c::r:=by
     refine a7 (List.any_eq_true.mp b) fun c hc hn=>?_
     have:c∈dg.cps.toList.filter dq:=List.mem_filter.mpr ⟨hc,hn⟩
     cases hq:dg.cps.toList.filter dq with
     | nil=>rw[hq] at this;cases this
     | cons c r=>exact jZ c r rfl
    have okc:okv 50 (.frz ((dg.cps.toList.filter dq).map fun c=>a5.str ⟨#[c]⟩))=true:=by
     show List.all _ _=true
     rw[List.all_map,List.all_eq_true]
     intro c hc
     exact List.all_eq_true.mp h5 c (List.mem_filter.mp hc).1
    refine a6 _ (gD (a:=.frz ((dg.cps.toList.filter dq).map fun c=>a5.str ⟨#[c]⟩)) (b:=.frz []) okc rfl) ?_
    rw[hcr,show(!fu (bA V (a5.frz ((c::r).map fun c=>a5.str ⟨#[c]⟩))) (bA V (a5.frz [])))=true from rfl]
    refine ite_pos rfl ?_
    refine ite_pos rfl ?_
    kd_p
    exact q
   ·have:dg.cps.toList.filter dq=[]:=by
     rw[List.filter_eq_nil_iff]
     intro c hc
     have:=List.any_eq_false.mp b c hc
     simpa using this
    rw[this]
    refine a6 _ (gD (a:=.frz []) (b:=.frz []) rfl rfl) ?_
    rw[show(!fu (bA V (a5.frz [])) (bA V (a5.frz [])))=false from rfl]
    refine ite_neg (by decide) ?_
    kd_p
    refine ite_neg (by decide) ?_
    kd_p
    refine qz hi (by lia) ?_
    exact q
end
structure An where
 D:Type
 enc:D->a5
 join:D->D->D
 bot:D
 f:Str->List D->D
 tr:D->D
 rank:D->Nat
 small:Tm->D->Prop
noncomputable def An.le(A:An)(x y:A.D):Prop:=A.join x y=y
inductive An.Le2(A:An):List A.D->List A.D->Prop
 | nil:An.Le2 A [] []
 | cons {x y:A.D} {xs ys:List A.D}:A.le x y->An.Le2 A xs ys->An.Le2 A (x::xs) (y::ys)
structure An.Ok(A:An)(U:List Tm):Prop where
 idem:∀ x,A.join x x=x
 comm:∀ x y,A.join x y=A.join y x
 assoc:∀ x y z,A.join (A.join x y) z=A.join x (A.join y z)
 bot:∀ x,A.join A.bot x=x
 mono:∀ op xs ys,A.Le2 xs ys->A.le (A.f op xs) (A.f op ys)
 tr_mono:∀ x y,A.le x y->A.le (A.tr x) (A.tr y)
 rank_lt:∀ x y,A.le (A.tr x) (A.tr y)->A.tr x≠A.tr y->A.rank (A.tr x)<A.rank (A.tr y)
 rank_le:∀ x,A.rank (A.tr x)≤8
 tr_le:∀ x,A.le (A.tr x) x
 small_tr:∀ t d,A.small t d->A.tr d=d
 small_up:∀ t d e,A.small t d->A.le d e->A.small t e
 small_f:∀ op ts ds,Tm.mk op ts∈U->ts.length=ds.length->(∀ (i:Nat) t d,ts[i]? =some t->ds[i]? =some d->A.small t d)->A.small (.mk op ts) (A.f op ds)
 encbot:A.enc A.bot=.none
 okv:∀ x,okv 50 (A.enc x)=true
 eq:∀ x y,fu (A.enc x) (A.enc y)=true↔x=y
section
variable{A:An}{U:List Tm}(ok:A.Ok U)
include ok
theorem An.Ok.refl(x:A.D):A.le x x:=ok.idem x
theorem An.Ok.trans{x y z:A.D}(h:A.le x y)(h':A.le y z):A.le x z:=by
 unfold An.le at*
 refine aX h' ?_;refine aX (ok.assoc ..) ?_;refine a0 h ?_;rfl
theorem An.Ok.anti{x y:A.D}(h:A.le x y)(h':A.le y x):x=y:=by
 unfold An.le at*
 refine aX h' ?_;refine a0 (ok.comm ..) ?_;refine a0 h ?_;rfl
theorem An.Ok.bot_le(x:A.D):A.le A.bot x:=ok.bot x
theorem An.Ok.le_l(x y:A.D):A.le x (A.join x y):=by
 unfold An.le
 refine aX (ok.assoc ..) ?_;refine a0 (ok.idem ..) ?_;rfl
theorem An.Ok.le_r(x y:A.D):A.le y (A.join x y):=by refine a0 (ok.comm ..) ?_;exact ok.le_l y x
theorem An.Ok.lub{x y z:A.D}(h:A.le x z)(h':A.le y z):A.le (A.join x y) z:=by
 unfold An.le at*
 refine a0 (ok.assoc ..) ?_;refine a0 h' ?_;refine a0 h ?_;rfl
theorem An.Ok.join_le{x y z:A.D}:A.le (A.join x y) z↔A.le x z∧A.le y z:=⟨fun h=>⟨ok.trans (ok.le_l x y) h,ok.trans (ok.le_r x y) h⟩,fun h=>ok.lub h.1 h.2⟩
theorem An.Ok.fold_le{α:Type}(g:α->A.D):∀ (l:List α) (a y:A.D),A.le (l.foldl (fun acc m=>A.join acc (g m)) a) y↔A.le a y∧∀ m∈l,A.le (g m) y
 | [],a,y=>by simp
 | m::l,a,y=>by
   refine a0 List.foldl_cons ?_;rewrite[An.Ok.fold_le g l];refine bt ok.join_le ?_
   simp[and_assoc]
theorem An.Ok.le2_map{α:Type}{g h:α->A.D}:∀ (l:List α),(∀ a∈l,A.le (g a) (h a))->A.Le2 (l.map g) (l.map h)
 | [],_=>.nil
 | a::l,q=>.cons (q a (.head _)) (An.Ok.le2_map l fun b hb=>q b (.tail _ hb))
theorem An.Ok.le_of{x y:A.D}(h:∀ z,A.le y z->A.le x z):A.le x y:=h y (ok.refl y)
theorem An.Ok.eq_of{x y:A.D}(h:∀ z,A.le y z↔A.le x z):x=y:=ok.anti (ok.le_of fun z hz=>(h z).mp hz) (ok.le_of fun z hz=>(h z).mpr hz)
end
noncomputable def Fv(A:An)(S:HS)(x:Nat->A.D)(n:Nat):A.D:=((List.range S.un.par.length).filter fun m=>decide (a8 S.un.par m=a8 S.un.par n)).foldl (fun acc m=>A.join acc (A.f (S.bank.nodes.getD m ("",[])).1 ((S.bank.nodes.getD m ("",[])).2.map x))) A.bot
structure Zs(A:An)(S:HS)(z:Nat->A.D):Prop where
 cls:∀ i j,i<S.un.par.length->j<S.un.par.length->a8 S.un.par i=a8 S.un.par j->z i=z j
 post:∀ (n:Nat) (x:ar),S.bank.nodes[n]? =some x->A.le (A.f x.1 (x.2.map z)) (z n)
structure uJ(A:An)(S:HS)(v:Nat->A.D):Prop where
 le:∀ z,Zs A S z->∀ c,c<S.un.par.length->A.le (v c) (z c)
 out:∀ c,S.un.par.length≤c->v c=A.bot
section
variable{A:An}{U:List Tm}{T:Tm->Tm->Prop}{K:Nat}{S:HS}{ex:List Nat}(ok:A.Ok U)(I:aC U T K S ex)
include ok I
theorem m8(x:Nat->A.D){n:Nat}{y:A.D}:A.le (Fv A S x n) y↔∀ (m:Nat) (nd:ar),S.bank.nodes[m]? =some nd->a8 S.un.par m=a8 S.un.par n->A.le (A.f nd.1 (nd.2.map x)) y:=by
 unfold Fv
 rw[ok.fold_le (fun m=>A.f (S.bank.nodes.getD m ("",[])).1 ((S.bank.nodes.getD m ("",[])).2.map x))]
 constructor
 ·rintro⟨_,h⟩ m nd hm hr
  have ml:=(List.getElem?_eq_some_iff.mp hm).1
  have:=h m (List.mem_filter.mpr ⟨List.mem_range.mpr (by refine a0 I.pn ?_;exact ml),by simpa using hr⟩)
  rw[List.getD_eq_getElem?_getD,hm] at this
  exact this
 ·intro h
  refine⟨ok.bot_le y,fun m hm=>?_⟩
  rw[List.mem_filter,List.mem_range] at hm
  obtain⟨nd,hx⟩:∃ nd,S.bank.nodes[m]? =some nd:=⟨_,List.getElem?_eq_getElem (by refine aX I.pn ?_;exact hm.1)⟩
  have:=h m _ hx (by simpa using hm.2)
  refine a0 List.getD_eq_getElem?_getD ?_;refine a0 hx ?_
  exact this
theorem lJ(x:Nat->A.D){m n:Nat}{nd:ar}(hm:S.bank.nodes[m]? =some nd)(hr:a8 S.un.par m=a8 S.un.par n):A.le (A.f nd.1 (nd.2.map x)) (Fv A S x n):=(m8 ok I x).mp (ok.refl _) m nd hm hr
theorem qr(x:Nat->A.D){i j:Nat}(h:a8 S.un.par i=a8 S.un.par j):Fv A S x i=Fv A S x j:=by unfold Fv;refine a0 h ?_;rfl
theorem eN{x y:Nat->A.D}(h:∀ n,n<S.un.par.length->A.le (x n) (y n))(n:Nat):A.le (Fv A S x n) (Fv A S y n):=by
 rw[m8 ok I]
 intro m nd hm hr
 refine ok.trans (ok.mono _ _ _ (ok.le2_map _ fun k hk=>h k (I.hx hm k hk))) (lJ ok I y hm hr)
theorem Zs.Fv{z:Nat->A.D}(h:Zs A S z){n:Nat}(hn:n<S.un.par.length):A.le (Fv A S z n) (z n):=by
 rw[m8 ok I]
 intro m nd hm hr
 refine a0 (h.cls n m hn (by rw[I.pn];exact(List.getElem?_eq_some_iff.mp hm).1) hr.symm) ?_
 exact h.post m nd hm
noncomputable def Kl(A:An)(S:HS):Nat->Nat->A.D
 | 0,_=>A.bot
 | s+1,n=>A.tr (Fv A S (Kl A S s) n)
theorem uO(s:Nat){i j:Nat}(h:a8 S.un.par i=a8 S.un.par j):Kl A S s i=Kl A S s j:=by
 cases s with
 | zero=>rfl
 | succ s=>show A.tr _=A.tr _;refine a0 (qr ok I _ h) ?_;rfl
theorem mY:∀ (s n:Nat),A.le (Kl A S s n) (Kl A S (s+1) n)
 | 0,n=>ok.bot_le _
 | s+1,n=>ok.tr_mono _ _ (eN ok I (fun m Z=>mY s m) n)
theorem xh:A.tr A.bot=A.bot:=ok.anti (ok.tr_le _) (ok.bot_le _)
theorem oW:∀ s n,∃ d,Kl A S s n=A.tr d
 | 0,n=>⟨A.bot,(xh ok I).symm⟩
 | s+1,n=>⟨_,rfl⟩
noncomputable def Rk(A:An)(S:HS)(s:Nat):Nat:=((List.range S.un.par.length).map fun n=>A.rank (Kl A S s n)).sum
omit ok I in
theorem lx{l:List Nat}{f g:Nat->Nat}(h:∀ a∈l,f a≤g a):(l.map f).sum≤(l.map g).sum:=by
 induction l with
 | nil=>exact Nat.le_refl _
 | cons a l ih=>
   have:=h a (.head _)
   have:=ih fun b hb=>h b (.tail _ hb)
   simp;lia
omit ok I in
theorem rH{l:List Nat}{f g:Nat->Nat}(h:∀ a∈l,f a≤g a){b:Nat}(hb:b∈l)(lt:f b<g b):(l.map f).sum<(l.map g).sum:=by
 induction l with
 | nil=>cases hb
 | cons a l ih=>
   have h1:=h a (.head _)
   rcases List.mem_cons.mp hb with rfl | hb
   ·have:=lx fun b hb=>h b (.tail _ hb)
    simp;lia
   ·have:=ih (fun b hb=>h b (.tail _ hb)) hb
    simp;lia
theorem wu(s:Nat)(h:¬ ∀ n,n<S.un.par.length->Kl A S (s+1) n=Kl A S s n):Rk A S s<Rk A S (s+1):=by
 have up:∀ n,A.rank (Kl A S s n)≤A.rank (Kl A S (s+1) n):=fun n=>by
  have m:=mY ok I s n
  refine aH (oW ok I s n) fun d e1=>?_
  refine aH (oW ok I (s+1) n) fun d' e2=>?_
  rw[e1,e2] at m ⊢
  by_cases e:A.tr d=A.tr d'
  ·refine a0 e ?_;exact Nat.le_refl _
  ·exact Nat.le_of_lt (ok.rank_lt _ _ m e)
 refine aH (Classical.not_forall.mp h) fun n hn=>?_
 refine a2 (Classical.not_imp.mp hn) fun hl hne=>?_
 refine rH (fun a Z=>up a) (List.mem_range.mpr hl) ?_
 have m:=mY ok I s n
 refine aH (oW ok I s n) fun d e1=>?_
 refine aH (oW ok I (s+1) n) fun d' e2=>?_
 rw[e1,e2] at m hne ⊢
 exact ok.rank_lt _ _ m fun e=>hne e.symm
theorem yF(s:Nat):Rk A S s≤8*S.un.par.length:=by
 have:Rk A S s≤((List.range S.un.par.length).map fun Z=>8).sum:=lx fun n Z=>by
  refine aH (oW ok I s n) fun d e=>?_
  refine a0 e ?_;exact ok.rank_le d
 have e:∀ n:Nat,((List.range n).map fun Z=>8).sum=8*n:=fun n=>by
  induction n with
  | zero=>rfl
  | succ n ih=>refine a0 List.range_succ ?_;refine a0 List.map_append ?_;refine a0 List.sum_append ?_;refine a0 ih ?_;exact rfl
 rw[e] at this
 exact this
theorem wv:∃ s,s≤8*S.un.par.length∧∀ n,n<S.un.par.length->Kl A S (s+1) n=Kl A S s n:=by
 refine Classical.byContradiction fun no=>?_
 have all:∀ s,s≤8*S.un.par.length+1->s≤Rk A S s:=by
  intro s
  induction s with
  | zero=>intro _;exact Nat.zero_le _
  | succ s ih=>
    intro hs
    have h1:=ih (by lia)
    have h2:=wu ok I s fun h=>no (a6 s (by lia) h)
    lia
 have h1:=all (8*S.un.par.length+1) (Nat.le_refl _)
 have h2:=yF ok I (8*S.un.par.length+1)
 exact absurd (Nat.lt_of_lt_of_le h1 h2) (Nat.lt_irrefl _)
theorem ww{s:Nat}(st:∀ n,n<S.un.par.length->Kl A S (s+1) n=Kl A S s n):Zs A S (Kl A S s):=by
 have sm:∀ n,n<S.un.par.length->A.small (tm S.bank.nodes n) (Fv A S (Kl A S s) n)∧Kl A S s n=Fv A S (Kl A S s) n:=by
  intro n
  induction n using Nat.strongRecOn with
  | _ n ih=>
    intro hn
    obtain⟨nd,hx⟩:∃ nd,S.bank.nodes[n]? =some nd:=⟨_,List.getElem?_eq_getElem (by refine aX I.pn ?_;exact hn)⟩
    have hk:=I.kid _ _ hx
    have hin:=I.inU n (I.pn▸hn)
    rw[dQ hx hk] at hin ⊢
    have s1:A.small (.mk nd.1 (nd.2.map (tm S.bank.nodes))) (A.f nd.1 (nd.2.map (Kl A S s))):=by
     refine ok.small_f _ _ _ hin (by simp) fun i t d ht hd=>?_
     rw[List.getElem?_map] at ht hd
     refine a7 (Option.map_eq_some_iff.mp ht) fun k g1 z2=>?_;subst z2
     refine a7 (Option.map_eq_some_iff.mp hd) fun k' g2 z2=>?_;subst z2
     rw[g1] at g2;cases g2
     have km:=hk k (List.mem_of_getElem? g1)
     refine a2 (ih k km (by exact a9 km (Nat.le_of_lt hn))) fun a b=>?_
     refine a0 b ?_;exact a
    have s2:=ok.small_up _ _ _ s1 (lJ ok I (Kl A S s) hx rfl)
    refine⟨s2,?_⟩
    refine aX (st n hn) ?_
    exact ok.small_tr _ _ s2
 refine⟨fun i j hi hj h=>uO ok I s h,fun n x hx=>?_⟩
 have hn:n<S.un.par.length:=by refine a0 I.pn ?_;exact(List.getElem?_eq_some_iff.mp hx).1
 refine a0 ((sm n hn).2) ?_
 exact lJ ok I _ hx rfl
end
theorem uJ.ext{A:An}{S S':HS}{v:Nat->A.D}{U:List Tm}(ok:A.Ok U)(h:uJ A S v)(X:jp S S'):uJ A S' v:=by
 refine⟨fun z hz c hc=>?_,fun c hc=>h.out c (a9 X.len hc)⟩
 by_cases q:c<S.un.par.length
 ·exact h.le z ⟨fun i j hi hj e=>hz.cls i j (Nat.lt_of_lt_of_le hi X.len) (Nat.lt_of_lt_of_le hj X.len) (X.eq i j hi hj e),fun n x hx=>hz.post n x (X.get hx)⟩ c q
 ·refine a0 (h.out c (by exact Nat.not_lt.mp q)) ?_;exact ok.bot_le _
inductive DC where
 | none | clash
 | num (i:Fin 5)
 deriving DecidableEq
noncomputable def br:DC->DC->DC
 | .none,y=>y
 | x,.none=>x
 | .num i,.num j=>if i=j then .num i else .clash
 | _,_=>.clash
noncomputable def fZ(g:Fin 5->Fin 5->Fin 5):DC->DC->DC
 | .none,_=>.none
 | _,.none=>.none
 | .num i,.num j=>.num (g i j)
 | _,_=>.clash
noncomputable def pY:DC->DC
 | .none=>.none
 | .clash=>.clash
 | .num i=>.num (-i)
noncomputable def fC(op:Str):List DC->DC
 | []=>if op="0" then .num 0 else if op="2" then .num 2 else if op="-3" then .num 2 else .none
 | [x]=>if op="neg" then pY x else .none
 | [x,y]=>if op="add" then fZ (fun x y=>x+y) x y else if op="mul" then fZ (fun x y=>x*y) x y else .none
 | _=>.none
noncomputable def bB:DC->a5
 | .none=>.none
 | .clash=>.str "clash"
 | .num i=>.int (Int.ofNat i.val)
noncomputable def qJ(d:DC):Nat:=match d with | .none=>0 | .num _=>1 | .clash=>2
noncomputable def zS:An where
 D:=DC
 enc:=bB
 join:=br
 bot:=.none
 f:=fC
 tr:=id
 rank:=qJ
 small:=fun Z Z=>True
noncomputable def z7(i:Fin 7):DC:=if h:i.val<5 then .num ⟨i.val,h⟩else if i.val=5 then .none else .clash
theorem qn{P:DC->Prop}(h:∀ i,P (z7 i)):∀ x,P x
 | .none=>h 5
 | .clash=>h 6
 | .num i=>by have:=h ⟨i.val,Nat.lt_trans i.isLt (by decide)⟩;rwa [z7,dif_pos i.isLt] at this
theorem eP{P:DC->DC->Prop}(h:∀ i j,P (z7 i) (z7 j)):∀ x y,P x y:=qn fun i=>qn (h i)
theorem zT:∀ x y:DC,br x y=y->br (pY x) (pY y)=pY y:=eP (by decide+kernel)
theorem zP:(∀ x y x' y':DC,br x y=y->br x' y'=y'->br (fZ (fun x y=>x+y) x x') (fZ (fun x y=>x+y) y y')=fZ (fun x y=>x+y) y y')∧∀ x y x' y':DC,br x y=y->br x' y'=y'->br (fZ (fun x y=>x*y) x x') (fZ (fun x y=>x*y) y y')=fZ (fun x y=>x*y) y y':=
 ⟨eP fun i j=>eP (by revert i j;decide+kernel),eP fun i j=>eP (by revert i j;decide+kernel)⟩
theorem zo:∀ x:DC,br x x=x:=qn (by decide+kernel)
theorem qD(U:List Tm):zS.Ok U where
 idem:=zo
 comm:=(eP (by decide+kernel):∀ x y,br x y=br y x)
 assoc:=(eP fun i j=>qn (by revert i j;decide+kernel):∀ x y z,br (br x y) z=br x (br y z))
 bot:=fun x=>rfl
 mono:=fun op xs ys h=>by
  show br (fC op xs) (fC op ys)=fC op ys
  cases h with
  | nil=>exact zo _
  | cons h h1=>
    cases h1 with
    | nil=>
      by_cases e:op="neg"
      ·have k:∀ x,fC op [x]=pY x:=fun x=>if_pos e
       exact(congr (congrArg br (k _)) (k _)).trans ((zT _ _ h).trans (k _).symm)
      ·have k:∀ x,fC op [x]=.none:=fun x=>if_neg e
       exact(congr (congrArg br (k _)) (k _)).trans (k _).symm
    | cons h' h2=>
      cases h2 with
      | nil=>
        by_cases e:op="add"
        ·have k:∀ x y,fC op [x,y]=fZ (fun x y=>x+y) x y:=fun x y=>if_pos e
         exact(congr (congrArg br (k _ _)) (k _ _)).trans ((zP.1 _ _ _ _ h h').trans (k _ _).symm)
        ·by_cases e2:op="mul"
         ·have k:∀ x y,fC op [x,y]=fZ (fun x y=>x*y) x y:=fun x y=>(if_neg e).trans (if_pos e2)
          exact(congr (congrArg br (k _ _)) (k _ _)).trans ((zP.2 _ _ _ _ h h').trans (k _ _).symm)
         ·have k:∀ x y,fC op [x,y]=.none:=fun x y=>(if_neg e).trans (if_neg e2)
          exact(congr (congrArg br (k _ _)) (k _ _)).trans (k _ _).symm
      | cons _ _=>rfl
 tr_mono:=fun x y h=>h
 rank_lt:=(eP (by decide+kernel):∀ x y,br x y=y->x≠y->qJ x<qJ y)
 rank_le:=(qn (by decide+kernel):∀ x,qJ x≤8)
 tr_le:=zo
 small_tr:=fun Z Z Z=>rfl
 small_up:=fun Z Z Z Z Z=>trivial
 small_f:=fun Z Z Z Z Z Z=>trivial
 encbot:=rfl
 okv:=(qn (by decide+kernel):∀ x,okv 50 (bB x)=true)
 eq:=(eP (by decide+kernel):∀ x y,fu (bB x) (bB y)=true↔x=y)
noncomputable def i0:Option Nat->Option Nat->Option Nat
 | none,y=>y
 | x,none=>x
 | some a,some b=>some (min a b)
noncomputable def aV:List (Option Nat)->Option (List Nat)
 | []=>some []
 | none::_=>none
 | some a::r=>(aV r).map (a:: ·)
noncomputable def f6:List Nat->Nat
 | []=>0
 | a::r=>max a (f6 r)
noncomputable def i9:Option Nat->a5
 | none=>.none
 | some a=>.int (Int.ofNat a)
mutual
noncomputable def ix:Tm->Nat
 | .mk _ ts=>1+eR ts
noncomputable def eR:List Tm->Nat
 | []=>0
 | t::ts=>ix t+eR ts
end
noncomputable def jB(d:Option Nat):Option Nat:=match d with
 | none=>none
 | some a=>if a≤7 then some a else none
noncomputable def xZ(g:List Nat->Nat):An where
 D:=Option Nat
 enc:=i9
 join:=i0
 bot:=none
 f:=fun Z ds=>(aV ds).map fun l=>1+g l
 tr:=jB
 rank:=fun d=>match d with | none=>0 | some a=>8 - a
 small:=fun t d=>∃ a,d=some a∧a≤ix t∧ix t≤7
theorem xz{x y:Option Nat}:i0 x y=y↔x=none∨∃ a b,x=some a∧y=some b∧b≤a:=by
 cases x<;>cases y<;>simp[i0]
 lia
theorem ig(g:List Nat->Nat):∀ {xs ys:List (Option Nat)},(xZ g).Le2 xs ys->aV xs=none∨∃ l m,aV xs=some l∧aV ys=some m∧l.length=m.length∧∀ (i a b:Nat),l[i]? =some a->m[i]? =some b->b≤a
 | _,_,.nil=>.inr (jg ([]) ([]) rfl rfl rfl (fun i a b h=>by simp at h))
 | _,_,.cons h r=>by
   rcases xz.mp h with rfl | ⟨a,b,rfl,rfl,hab⟩
   ·exact .inl rfl
   ·rcases ig g r with e | ⟨l,m,e1,e2,e3,e4⟩
    ·exact .inl (by simp[aV,e])
    ·refine .inr (jg (a::l) (b::m) (by simp[aV,e1]) (by simp[aV,e2]) (by simp[e3]) (fun i c d hc hd=>?_))
     cases i with
     | zero=>simp at hc hd;subst hc;subst hd;exact hab
     | succ i=>simp at hc hd;exact e4 i c d hc hd
theorem nF:∀ {l m:List Nat},l.length=m.length->(∀ (i a b:Nat),l[i]? =some a->m[i]? =some b->b≤a)->m.sum≤l.sum
 | [],[],_,_=>Nat.le_refl _
 | a::l,b::m,hl,h=>by
   have h1:=h 0 a b rfl rfl
   have h2:=nF (l:=l) (m:=m) (by simpa using hl) fun i c d hc hd=>h (i+1) c d hc hd
   simp;exact Nat.add_le_add h1 h2
theorem o0:∀ {l m:List Nat},l.length=m.length->(∀ (i a b:Nat),l[i]? =some a->m[i]? =some b->b≤a)->f6 m≤f6 l
 | [],[],_,_=>Nat.le_refl _
 | a::l,b::m,hl,h=>by
   have h1:=h 0 a b rfl rfl
   have h2:=o0 (l:=l) (m:=m) (by simpa using hl) fun i c d hc hd=>h (i+1) c d hc hd
   simp[f6];lia
theorem nE:∀ {l:List Nat} {ts:List Tm},l.length=ts.length->(∀ (i:Nat) a t,l[i]? =some a->ts[i]? =some t->a≤ix t)->l.sum≤eR ts
 | [],[],_,_=>Nat.zero_le _
 | a::l,t::ts,hl,h=>by
   have h1:=h 0 a t rfl rfl
   have h2:=nE (l:=l) (ts:=ts) (by simpa using hl) fun i c d hc hd=>h (i+1) c d hc hd
   simp[eR];exact Nat.add_le_add h1 h2
theorem nZ:∀ {l:List Nat} {ts:List Tm},l.length=ts.length->(∀ (i:Nat) a t,l[i]? =some a->ts[i]? =some t->a≤ix t)->f6 l≤eR ts
 | [],[],_,_=>Nat.zero_le _
 | a::l,t::ts,hl,h=>by
   have h1:=h 0 a t rfl rfl
   have h2:=nZ (l:=l) (ts:=ts) (by simpa using hl) fun i c d hc hd=>h (i+1) c d hc hd
   simp[eR,f6];lia
theorem lh{ts:List Tm}{ds:List (Option Nat)}(hl:ts.length=ds.length)(h:∀ (i:Nat) t d,ts[i]? =some t->ds[i]? =some d->∃ a,d=some a∧a≤ix t∧ix t≤7):∃ l,aV ds=some l∧l.length=ts.length∧∀ (i:Nat) a t,l[i]? =some a->ts[i]? =some t->a≤ix t:=by
 induction ds generalizing ts with
 | nil=>
   cases ts with
   | nil=>exact aP ([]) rfl rfl (fun i a t h=>by simp at h)
   | cons t ts=>simp at hl
 | cons d ds ih=>
   cases ts with
   | nil=>simp at hl
   | cons t ts=>
     refine bw (h 0 t d rfl rfl) fun a z1 h1 h2=>?_;subst z1
     refine bw (ih (ts:=ts) (by simpa using hl) fun i t d ht hd=>h (i+1) t d ht hd) fun l l1 l2 l3=>?_
     refine aP (a::l) (by simp[aV,l1]) (by simp[l2]) (fun i b u hb hu=>?_)
     cases i with
     | zero=>simp at hb hu;subst hb;subst hu;exact h1
     | succ i=>simp at hb hu;exact l3 i b u hb hu
theorem v4{U:List Tm}(g:List Nat->Nat)(hU:∀ t∈U,ix t≤7)(g1:∀ {l m:List Nat},l.length=m.length->(∀ (i a b:Nat),l[i]? =some a->m[i]? =some b->b≤a)->g m≤g l)
 (g2:∀ {l:List Nat} {ts:List Tm},l.length=ts.length->(∀ (i:Nat) a t,l[i]? =some a->ts[i]? =some t->a≤ix t)->g l≤eR ts):(xZ g).Ok U where
 idem:=fun x=>by cases x<;>simp[xZ,i0]
 comm:=fun x y=>by cases x<;>cases y<;>simp[xZ,i0,Nat.min_comm]
 assoc:=fun x y z=>by cases x<;>cases y<;>cases z<;>simp[xZ,i0,Nat.min_assoc]
 bot:=fun x=>rfl
 mono:=fun op xs ys h=>by
  refine xz.mpr ?_
  show Option.map (fun l=>1+g l) (aV xs)=none∨∃ a b,Option.map (fun l=>1+g l) (aV xs)=some a∧Option.map (fun l=>1+g l) (aV ys)=some b∧b≤a
  rcases ig g h with e | ⟨l,m,e1,e2,e3,e4⟩
  ·exact .inl (by refine a0 e ?_;rfl)
  ·exact .inr (d7 _ _ (by refine a0 e1 ?_;rfl) (by refine a0 e2 ?_;rfl) (by have:=g1 e3 e4;show 1+g m≤1+g l;exact Nat.add_le_add_left this _))
 tr_mono:=fun x y h=>by
  show i0 (jB x) (jB y)=jB y
  refine bt xz ?_
  rcases xz.mp h with rfl | ⟨a,b,rfl,rfl,hab⟩
  ·exact .inl rfl
  ·unfold jB
   dsimp only
   by_cases ha:a≤7
   ·exact .inr (d7 a b (by refine a0 (if_pos ha) ?_;rfl) (by refine a0 (if_pos (by exact a9 hab ha)) ?_;rfl) hab)
   ·exact .inl (by refine a0 (if_neg ha) ?_;rfl)
 rank_lt:=fun x y h ne=>by
  have hle:∀ z:Option Nat,jB z=none∨∃ a,jB z=some a∧a≤7:=fun z=>by
   cases z with
   | none=>exact .inl rfl
   | some a=>
     by_cases ha:a≤7
     ·exact .inr (a6 a (by simp[jB,ha]) ha)
     ·exact .inl (by simp[jB,ha])
  have h':i0 (jB x) (jB y)=jB y:=h
  have ne':jB x≠jB y:=ne
  show(match jB x with | none=>0 | some a=>8 - a)<(match jB y with | none=>0 | some a=>8 - a)
  rcases xz.mp h' with e | ⟨a,b,e1,e2,hab⟩
  ·rcases hle y with e' | ⟨b,e',hb⟩
   ·exact absurd (e.trans e'.symm) ne'
   ·refine a0 e ?_;refine a0 e' ?_;show 0<8 - b;lia
  ·rcases hle x with e' | ⟨a',e',ha⟩
   ·rw[e1] at e';cases e'
   ·rw[e1] at e';cases e'
    refine a0 e1 ?_;refine a0 e2 ?_
    have:a≠b:=fun z=>ne' (by refine a0 e1 ?_;refine a0 e2 ?_;refine a0 z ?_;rfl)
    show 8 - a<8 - b
    lia
 rank_le:=fun x=>by
  show(match jB x with | none=>0 | some a=>8 - a)≤8
  split
  ·lia
  ·exact Nat.sub_le _ _
 tr_le:=fun x=>by
  refine xz.mpr ?_
  cases x with
  | none=>exact .inl rfl
  | some a=>
    by_cases ha:a≤7
    ·exact .inr (d7 a a (by show jB (some a)=_;unfold jB;exact if_pos ha) rfl (Nat.le_refl _))
    ·exact .inl (by show jB (some a)=_;unfold jB;exact if_neg ha)
 small_tr:=fun t d ⟨a,e,h1,h2⟩=>by
  subst e
  show jB (some a)=some a
  unfold jB
  exact if_pos (by exact a9 h1 h2)
 small_up:=fun t d e ⟨a,e1,h1,h2⟩ h=>by
  subst e1
  rcases xz.mp h with z | ⟨a',b,e1,e2,hab⟩
  ·cases z
  ·cases e1
   exact aP b e2 (by exact a9 hab h1) h2
 small_f:=fun op ts ds ht hl h=>by
  refine bw (lh hl h) fun l l1 l2 l3=>?_
  have hs:=hU _ ht
  have:=g2 l2 l3
  refine aP (1+g l) (by show(aV ds).map _=_;refine a0 l1 ?_;rfl) ?_ hs
  unfold ix
  exact Nat.add_le_add_left this _
 encbot:=rfl
 okv:=fun x=>by cases x<;>rfl
 eq:=fun x y=>by
  cases x with
  | none=>cases y with
    | none=>exact⟨fun Z=>rfl,fun Z=>rfl⟩
    | some b=>exact⟨fun h=>(nomatch h),fun h=>nomatch h⟩
  | some a=>cases y with
    | none=>exact⟨fun h=>(nomatch h),fun h=>nomatch h⟩
    | some b=>exact⟨fun h=>congrArg some (Int.ofNat.inj (beq_iff_eq.mp h)),fun h=>beq_iff_eq.mpr (congrArg Int.ofNat (Option.some.inj h))⟩
noncomputable def ro:An:=xZ f6
noncomputable def uZ:An:=xZ List.sum
theorem qB{U:List Tm}(hU:∀ t∈U,ix t≤7):ro.Ok U:=v4 f6 hU o0 nZ
theorem sY{U:List Tm}(hU:∀ t∈U,ix t≤7):uZ.Ok U:=v4 List.sum hU nF nE
end
section
open PySem PySem.W PySem.Calls PySem.Spec PyProof.Rows
noncomputable abbrev DF:=Option (Bool×Bool)
noncomputable def cc(p:Bool×Bool):List Nat:=(if p.1=true then[0]else[])++(if p.2=true then[1]else[])
noncomputable def cJ:DF->DF->DF
 | none,y=>y
 | x,none=>x
 | some p,some q=>some (p.1&&q.1,p.2&&q.2)
noncomputable def ye:DF->DF->DF
 | some p,some q=>some (p.1||q.1,p.2||q.2)
 | _,_=>none
noncomputable def vL:DF->DF
 | some p=>some (p.2,false)
 | none=>none
noncomputable def fF(op:Str):List DF->DF
 | []=>if op="var0" then some (true,false)else if op="var1" then some (false,true)else some (false,false)
 | [x]=>if op="lam" then vL x else x
 | [x,y]=>ye x y
 | _=>none
noncomputable def fY:DF->a5
 | none=>.none
 | some p=>.tup (nats (cc p))
noncomputable def qI:DF->Nat
 | none=>0
 | some p=>1+(if p.1=true then 0 else 1)+(if p.2=true then 0 else 1)
noncomputable def zR:An where
 D:=DF
 enc:=fY
 join:=cJ
 bot:=none
 f:=fF
 tr:=id
 rank:=qI
 small:=fun Z Z=>True
theorem dz{P:DF->Prop}(h0:P none)(h1:∀ a b:Bool,P (some (a,b))):∀ x,P x
 | none=>h0
 | some (a,b)=>h1 a b
theorem rV(op:Str):∀ x y:DF,cJ x y=y->cJ (if op="lam" then vL x else x) (if op="lam" then vL y else y)=(if op="lam" then vL y else y):=fun x y h=>by
 by_cases e:op="lam"
 ·refine a0 (if_pos e) ?_;refine a0 (if_pos e) ?_
  revert x y
  exact dz (fun y Z=>rfl) fun a b=>dz (by revert a b;decide) (by revert a b;decide)
 ·refine a0 (if_neg e) ?_;refine a0 (if_neg e) ?_;exact h
theorem tC:∀ x y:DF,cJ x y=y->x≠y->qI x<qI y:=by
 refine dz (dz (fun Z ne=>absurd rfl ne) (by decide)) fun a b=>dz (fun h=>by cases h) ?_
 revert a b;decide
theorem A0:∀ x y:DF,fu (fY x) (fY y)=true↔x=y:=
 dz (dz (by decide+kernel) (by decide+kernel)) fun a b=>dz (by revert a b;decide+kernel) fun c d=>by
  refine a0 ((by decide+kernel:∀ a b c d:Bool,fu (fY (some (a,b))) (fY (some (c,d)))=decide ((some (a,b):DF)=some (c,d))) a b c d) ?_;refine a0 decide_eq_true_eq ?_;rfl
theorem v6(U:List Tm):zR.Ok U where
 idem:=fun x=>by show cJ x x=x;revert x;exact dz rfl (by decide)
 comm:=fun x y=>by show cJ x y=cJ y x;revert x y;exact dz (dz rfl (by decide)) (fun a b=>dz rfl (by revert a b;decide))
 assoc:=fun x y z=>by
  show cJ (cJ x y) z=cJ x (cJ y z)
  revert x y z
  refine dz (fun y z=>rfl) fun a b=>dz (fun z=>rfl) fun c d=>dz rfl ?_
  revert a b c d;decide
 bot:=fun x=>rfl
 mono:=fun op xs ys h=>by
  show cJ (fF op xs) (fF op ys)=fF op ys
  have idm:∀ x:DF,cJ x x=x:=dz rfl (by decide)
  have bi:∀ x y x' y':DF,cJ x y=y->cJ x' y'=y'->cJ (ye x x') (ye y y')=ye y y':=by
   refine dz (fun y x' y' Z Z=>rfl) fun a b=>dz ?_ fun c d=>dz (fun y' Z Z=>rfl) fun e f=>dz ?_ fun g i=>?_
   ·revert a b;intro a b x' y' h;cases h
   ·intro _ h;cases h
   ·revert a b c d e f g i;decide
  cases h with
  | nil=>exact idm _
  | cons h h1=>
    cases h1 with
    | nil=>
      exact rV op _ _ h
    | cons h' h2=>
      cases h2 with
      | nil=>exact bi _ _ _ _ h h'
      | cons _ _=>rfl
 tr_mono:=fun x y h=>h
 rank_lt:=fun x y h ne=>by
  exact tC x y h ne
 rank_le:=fun x=>by show qI x≤8;revert x;exact dz (by decide) (by decide)
 tr_le:=fun x=>by show cJ x x=x;revert x;exact dz rfl (by decide)
 small_tr:=fun Z Z Z=>rfl
 small_up:=fun Z Z Z Z Z=>trivial
 small_f:=fun Z Z Z Z Z Z=>trivial
 encbot:=rfl
 okv:=fun x=>by show okv 50 (fY x)=true;revert x;exact dz rfl (by intro a b;cases a<;>cases b<;>rfl)
 eq:=fun x y=>by
  exact A0 x y
noncomputable abbrev DS:=Bool×Bool×Bool
noncomputable def aF(p:DS):List Int:=(if p.1=true then[-1]else[])++((if p.2.1=true then[0]else[])++(if p.2.2=true then[1]else[]))
noncomputable def vc(p:Int->Bool):DS:=(p (-1),p 0,p 1)
noncomputable def cV:DS:=(true,true,true)
noncomputable def am:DS:=(false,false,false)
noncomputable def ba(x y:DS):DS:=(x.1&&y.1,x.2.1&&y.2.1,x.2.2&&y.2.2)
noncomputable def cP(one other:Int):List Int:=if one=0∨other=0∨one=other then[if one≠0 then one else other]else[-1,0,1]
noncomputable def rS(x:DS):DS:=vc fun s=>(aF x).any fun u=> -u==s
noncomputable def oN(x y:DS):DS:=vc fun s=>(aF x).any fun u=>(aF y).any fun v=>(cP u v).contains s
noncomputable def nX(x y:DS):DS:=vc fun s=>(aF x).any fun u=>(aF y).any fun v=>u*v==s
noncomputable def fS(op:Str):List DS->DS
 | []=>if op="0" then(false,true,false)else if op="2" then(false,false,true)else if op="-3" then(true,false,false)else cV
 | [x]=>if op="neg" then rS x else if x=am then am else cV
 | [x,y]=>if op="add" then oN x y else if op="mul" then nX x y else cV
 | _=>cV
noncomputable def ce(x:DS):a5:=if x=cV then .none else if x=am then .str "clash" else .tup (aL (aF x))
noncomputable def nP(x:DS):Nat:=(if x.1=true then 0 else 1)+(if x.2.1=true then 0 else 1)+(if x.2.2=true then 0 else 1)
noncomputable def zQ:An where
 D:=DS
 enc:=ce
 join:=ba
 bot:=cV
 f:=fS
 tr:=id
 rank:=nP
 small:=fun Z Z=>True
theorem sG:∀ a b c d e f g h i j k l:Bool,ba (a,b,c) (d,e,f)=(d,e,f)->ba (g,h,i) (j,k,l)=(j,k,l)->ba (oN (a,b,c) (g,h,i)) (oN (d,e,f) (j,k,l))=oN (d,e,f) (j,k,l):=by decide+kernel
theorem rU:∀ a b c d e f g h i j k l:Bool,ba (a,b,c) (d,e,f)=(d,e,f)->ba (g,h,i) (j,k,l)=(j,k,l)->ba (nX (a,b,c) (g,h,i)) (nX (d,e,f) (j,k,l))=nX (d,e,f) (j,k,l):=by decide+kernel
theorem rR:∀ a b c d e f:Bool,ba (a,b,c) (d,e,f)=(d,e,f)->ba (rS (a,b,c)) (rS (d,e,f))=rS (d,e,f):=by decide+kernel
theorem s0:∀ a b c d e f:Bool,ba (a,b,c) (d,e,f)=(d,e,f)->ba (if(a,b,c)=am then am else cV) (if(d,e,f)=am then am else cV)=(if(d,e,f)=am then am else cV):=by decide+kernel
theorem tB:∀ a b c d e f:Bool,ba (a,b,c) (d,e,f)=(d,e,f)->(a,b,c)≠(d,e,f)->nP (a,b,c)<nP (d,e,f):=by decide
theorem zZ:∀ x y:DS,fu (ce x) (ce y)=true↔x=y:=fun⟨a,b,c⟩ ⟨d,e,f⟩=>by
 refine a0 ((by decide+kernel:∀ a b c d e f:Bool,fu (ce (a,b,c)) (ce (d,e,f))=decide ((a,b,c)=(d,e,f))) a b c d e f) ?_;refine a0 decide_eq_true_eq ?_;rfl
theorem zd(op:Str):∀ a b c d e f:Bool,ba (a,b,c) (d,e,f)=(d,e,f)->ba (fS op [(a,b,c)]) (fS op [(d,e,f)])=fS op [(d,e,f)]:=fun a b c d e f h=>by
 by_cases e1:op="neg"
 ·have k:∀ x,fS op [x]=rS x:=fun x=>if_pos e1
  rw[k,k];exact rR _ _ _ _ _ _ h
 ·have k:∀ x,fS op [x]=if x=am then am else cV:=fun x=>if_neg e1
  rw[k,k];exact s0 _ _ _ _ _ _ h
theorem zn:∀ x:DS,ba x x=x:=fun⟨a,b,c⟩=>by revert a b c;decide
theorem zc(op:Str):∀ a b c d e f a' b' c' d' e' f':Bool,ba (a,b,c) (d,e,f)=(d,e,f)->ba (a',b',c') (d',e',f')=(d',e',f')->ba (fS op [(a,b,c),(a',b',c')]) (fS op [(d,e,f),(d',e',f')])=fS op [(d,e,f),(d',e',f')]:=fun a b c d e f a' b' c' d' e' f' h h'=>by
 by_cases e1:op="add"
 ·have k:∀ x y,fS op [x,y]=oN x y:=fun x y=>if_pos e1
  rw[k,k];exact sG _ _ _ _ _ _ _ _ _ _ _ _ h h'
 ·by_cases e2:op="mul"
  ·have k:∀ x y,fS op [x,y]=nX x y:=fun x y=>(if_neg e1).trans (if_pos e2)
   rw[k,k];exact rU _ _ _ _ _ _ _ _ _ _ _ _ h h'
  ·have k:∀ x y,fS op [x,y]=cV:=fun x y=>(if_neg e1).trans (if_neg e2)
   rw[k,k];exact zn _
theorem iR(U:List Tm):zQ.Ok U where
 idem:=fun⟨a,b,c⟩=>by show ba _ _=_;revert a b c;decide
 comm:=fun⟨a,b,c⟩ ⟨d,e,f⟩=>by show ba _ _=ba _ _;revert a b c d e f;decide
 assoc:=fun⟨a,b,c⟩ ⟨d,e,f⟩ ⟨g,h,i⟩=>by show ba (ba _ _) _=ba _ (ba _ _);simp[ba,Bool.and_assoc]
 bot:=fun⟨a,b,c⟩=>by show ba _ _=_;revert a b c;decide
 mono:=fun op xs ys h=>by
  show ba (fS op xs) (fS op ys)=fS op ys
  cases h with
  | nil=>exact zn _
  | @cons x y _ _ h h1=>
    obtain⟨a,b,c⟩:=x
    obtain⟨d,e,f⟩:=y
    cases h1 with
    | nil=>exact zd op _ _ _ _ _ _ h
    | @cons x' y' _ _ h' h2=>
      obtain⟨a',b',c'⟩:=x'
      obtain⟨d',e',f'⟩:=y'
      cases h2 with
      | nil=>exact zc op _ _ _ _ _ _ _ _ _ _ _ _ h h'
      | cons _ _=>exact zn _
 tr_mono:=fun x y h=>h
 rank_lt:=fun⟨a,b,c⟩ ⟨d,e,f⟩ h ne=>by
  exact tB a b c d e f h ne
 rank_le:=fun⟨a,b,c⟩=>by show nP _≤8;show nP (a,b,c)≤8;revert a b c;decide
 tr_le:=fun⟨a,b,c⟩=>by show ba (a,b,c) (a,b,c)=(a,b,c);revert a b c;decide
 small_tr:=fun Z Z Z=>rfl
 small_up:=fun Z Z Z Z Z=>trivial
 small_f:=fun Z Z Z Z Z Z=>trivial
 encbot:=rfl
 okv:=fun⟨a,b,c⟩=>by
  show okv 50 (ce (a,b,c))=true
  cases a<;>cases b<;>cases c<;>first | rfl | (show PyData.strOk (Str.ofString "clash")=true;decide+kernel)
 eq:=fun x y=>zZ x y
noncomputable def bV:List Str:=["a","b","var0","var1","0","2","-3"]
noncomputable def eS(op:Str)(k:Nat):Prop:=(k=0∧op∈bV)∨(k=1∧op∈(["neg","lam"]:List Str))∨(k=2∧op∈(["add","mul"]:List Str))
noncomputable def ft(v:a5)(ds:List DC):Bool:=(ds.map bB).any fun y=>fu y v
theorem u0:∀ x y:DC,(isNone (bB x)=true->br x y=y)∧(fu (bB x) (bB y)=true->br x y=y)∧(isNone (bB y)=true->br x y=x)∧(¬isNone (bB x)=true->¬fu (bB x) (bB y)=true->¬isNone (bB y)=true->br x y=.clash):=eP (by decide+kernel)
theorem yf:∀ x:DC,(ft .none [x]=true->pY x=.none)∧(ft (.str "clash") [x]=true->pY x=.clash):=qn (by decide+kernel)
theorem ze:∀ x y:DC,(ft .none [x,y]=true->fZ (fun x y=>x+y) x y=.none∧fZ (fun x y=>x*y) x y=.none)∧(¬ft .none [x,y]=true->ft (.str "clash") [x,y]=true->fZ (fun x y=>x+y) x y=.clash∧fZ (fun x y=>x*y) x y=.clash):=eP (by decide+kernel)
theorem xt:∀ x:DC,¬ft .none [x]=true->¬ft (.str "clash") [x]=true->∃ i:Fin 5,x=.num i
 | .none,h,_=>absurd (by decide+kernel) h
 | .clash,_,h=>absurd (by decide+kernel) h
 | .num i,_,_=>⟨i,rfl⟩
theorem zh:∀ x y:DC,¬ft .none [x,y]=true->¬ft (.str "clash") [x,y]=true->(¬ft .none [x]=true∧¬ft (.str "clash") [x]=true)∧(¬ft .none [y]=true∧¬ft (.str "clash") [y]=true):=eP (by decide+kernel)
theorem yg:∀ i j:Fin 5,(-(Int.ofNat i.val)).fmod 5=Int.ofNat (-i:Fin 5).val∧(Int.ofNat i.val+Int.ofNat j.val).fmod 5=Int.ofNat (i+j:Fin 5).val∧(Int.ofNat i.val*Int.ofNat j.val).fmod 5=Int.ofNat (i*j:Fin 5).val∧Builtin.Int.intBits (Int.ofNat i.val)≤64:=by decide+kernel
section
variable{prog:Program}{w:World}{H:Heap}{mg mb:Str->Option Value}
noncomputable def wl(op:Str):a5:=if op="0" then .int 0 else if op="2" then .int 2 else if op="-3" then .int (-3)else .none
theorem jv:∀ op∈bV,(wl op=.none∧fC op []=.none∧fS op []=cV)∨∃ k:Int,wl op=.int k∧bB (fC op [])=.int (k.fmod 5)∧ce (fS op [])=.tup [.int (b2i (decide (0<k)) - b2i (decide (k<0)))]:=by
 simp only[bV,List.forall_mem_cons]
 exact⟨.inl (i3 rfl rfl rfl),.inl (i3 rfl rfl rfl),.inl (i3 rfl rfl rfl),.inl (i3 rfl rfl rfl),.inr (aP 0 rfl rfl rfl),.inr (aP 2 rfl rfl rfl),.inr (aP (-3) rfl rfl rfl),fun Z h=>nomatch h⟩
theorem pJ:∀ op∈bV,pK op=true∧(((bF op).cps.toList.any dq=true∧(decide (op="0")||decide (op="2")||decide (op="-3"))=false)∨((bF op).cps.toList.any dq=false∧(op="0"∧PySem.intText? op=some 0∨op="2"∧PySem.intText? op=some 2∨op="-3"∧PySem.intText? op=some (-3)))):=by decide+kernel
theorem gf{n:Nat}{V:St}{op:Str}{Q:a5->St->Prop}(ho:op∈bV)(q:Q (wl op) V):CC (W0 prog w H mg mb) (n+1) (.ref 26) [.str op] V Q:=by
 refine a2 (pJ op ho) fun h1 h2=>?_
 refine jw h1 ?_ q
 rcases h2 with⟨h2,h3⟩ | ⟨h2,h3⟩
 ·simp only[Bool.or_eq_false_iff,decide_eq_false_iff_not] at h3
  exact .inl ⟨h2,by unfold wl;refine a0 (if_neg h3.1.1) ?_;refine a0 (if_neg h3.1.2) ?_;refine a0 (if_neg h3.2) ?_;rfl⟩
 ·rcases h3 with⟨e,h3⟩ | ⟨e,h3⟩ | ⟨e,h3⟩
  ·exact .inr ⟨h2,0,h3,by subst e;rfl⟩
  ·exact .inr ⟨h2,2,h3,by subst e;rfl⟩
  ·exact .inr ⟨h2,-3,h3,by subst e;rfl⟩
theorem vP{n:Nat}{V:St}{an:Nat}{x y:DC}{Q:a5->St->Prop}(h:V[an]? =some (.inst 57 [("n",.int 5)]))(q:Q (bB (br x y)) V):CC (W0 prog w H mg mb) (n+1) (.ref 54) [.ref an,bB x,bB y] V Q:=by
 refine ag (ps:=["self","one","other"]) (by rfl) (by rfl) ?_ (by rfl) (by decide) (by rfl) (by decide) (by rfl) ?_ (by rfl) (by rfl) (by rfl)
 ·exact eF fun Z Z Z=>rfl
 ·have dr:∀ z:DC,bA V (bB z)=bB z:=fun z=>by cases z<;>rfl
  have ov:∀ z:DC,okv 50 (bA V (bB z))=true:=fun z=>(dr z).symm▸(qD []).okv z
  have e3:fu (bA V (bB x)) (bA V (bB y))=fu (bB x) (bB y):=(dr x).symm▸(dr y).symm▸rfl
  refine a4 (u0 x y) fun f1 f2 f3 f4=>?_
  have qC:∀ z,br x y=z->Q (bB z) V:=fun z e=>e▸q
  kd_p
  refine a6 _ bX ?_
  by_cases hx:isNone (bB x)=true
  ·refine ite_pos hx ?_
   refine ite_pos rfl ?_
   kd_p
   exact qC _ (f1 hx)
  ·refine ite_neg hx ?_
   kd_p
   refine a6 _ (gE (ov x) (ov y)) ?_
   by_cases hxy:fu (bB x) (bB y)=true
   ·refine ite_pos (e3.trans hxy) ?_
    refine ite_pos rfl ?_
    kd_p
    exact qC _ (f2 hxy)
   ·refine ite_neg (fun e=>hxy (e3.symm.trans e)) ?_
    kd_p
    refine ite_neg (by decide) ?_
    kd_p
    refine a6 _ bX ?_
    by_cases hy:isNone (bB y)=true
    ·refine ite_pos hy ?_
     kd_p
     exact qC _ (f3 hy)
    ·refine ite_neg hy ?_
     kd_p
     exact qC _ (f4 hx hxy hy)
theorem z8(ds:List DC):(ds.map bB).all (okv 50)=true:=List.all_eq_true.mpr fun v hv=>let ⟨z,_,e⟩:=List.mem_map.mp hv;e▸(qD []).okv z
theorem zX{n:Nat}{V:St}{an:Nat}{op:Str}{ds:List DC}{Q:a5->St->Prop}(h:V[an]? =some (.inst 57 [("n",.int 5)]))(ho:eS op ds.length)(q:Q (bB (fC op ds)) V):CC (W0 prog w H mg mb) (n+2) (.ref 47) [.ref an,.str op,.frz (ds.map bB)] V Q:=by
 refine ag (ps:=["self","op","values"]) (by rfl) (by rfl) ?_ (by rfl) (by decide) (by rfl) (by decide) (by rfl) ?_ (by rfl) (by rfl) (by rfl)
 ·exact eF fun Z Z Z=>rfl
 ·have qC:∀ v,bB (fC op ds)=v->Q v V:=fun v e=>e▸q
  rcases ho with⟨hl,ho⟩ | ⟨hl,ho⟩ | ⟨hl,ho⟩
  ·obtain rfl:ds=[]:=List.eq_nil_of_length_eq_zero hl
   kd_p
   refine bQ (k:=0) rfl (by decide) ?_
   kd_p
   refine a6 _ aN ?_
   refine ite_pos (by decide) ?_
   kd_p
   refine(gf ho ?_).call
   kd_p
   refine a6 _ bX ?_
   rcases jv op ho with⟨e,e2,-⟩ | ⟨k,e,e2,-⟩
   ·refine ite_pos (congrArg isNone e) ?_
    kd_p
    exact qC _ (congrArg bB e2)
   ·refine a0 e ?_
    refine ite_neg (fun h=>nomatch h) ?_
    kd_p
    refine a6 _ (fO (by decide)) ?_
    exact qC _ e2
  ·refine aH (eE hl) fun x z1=>?_;subst z1
   kd_p
   refine bQ (k:=1) rfl (by decide) ?_
   kd_p
   refine a6 _ aN ?_
   refine ite_neg (by decide) ?_
   kd_p
   refine a6 _ ((cE (a:=.none) (b:=.frz ([x].map bB)) rfl rfl (z8 [x])).1) ?_
   by_cases hx:ft .none [x]=true
   ·refine ite_pos hx ?_
    refine ite_pos rfl ?_
    kd_p
    have e:fC op [x]=.none:=(ite_congr rfl (fun Z=>(yf x).1 hx) fun Z=>rfl).trans (ite_self _)
    exact qC _ (congrArg bB e)
   ·refine ite_neg hx ?_
    kd_p
    refine bQ (k:=1) rfl (by decide) ?_
    kd_p
    refine⟨ao rfl,?_⟩
    kd_p
    refine⟨ao rfl,?_⟩
    kd_p
    refine⟨ao rfl,?_⟩
    kd_p
    refine⟨ao rfl,?_⟩
    kd_p
    refine⟨ao rfl,?_⟩
    refine a6 _ ((cE (a:=.tup [.str op,.int (Int.ofNat 1)]) (b:=.tup [.tup [.str "add",.int 2],.tup [.str "mul",.int 2],.tup [.str "neg",.int 1]]) rfl ((show ∀ op∈(["neg","lam"]:List Str),okv 50 (.tup [.str op,.int 1])=true from by decide+kernel) op ho) (by decide+kernel)).2) ?_
    rcases List.mem_cons.mp ho with rfl | ho
    ·refine ite_neg (by decide+kernel) ?_
     kd_p
     refine ite_neg (by decide) ?_
     kd_p
     refine a6 _ ((cE (a:=.str "clash") (b:=.frz ([x].map bB)) rfl (by decide+kernel) (z8 [x])).1) ?_
     by_cases hc:ft (.str "clash") [x]=true
     ·refine ite_pos hc ?_
      kd_p
      exact qC _ (congrArg bB ((yf x).2 hc))
     ·refine ite_neg hc ?_
      refine aH (xt x hx hc) fun i z1=>?_;subst z1
      kd_p
      refine a6 _ bx ?_
      refine ite_pos (by decide) ?_
      kd_p
      refine bC (xs:=[.int (Int.ofNat i.val)]) (i:=0) rfl (by lia) (by lia) rfl ?_
      refine a6 _ rfl ?_
      kd_p
      refine a6 _ (fO (by decide)) ?_
      exact qC _ (congrArg a5.int (yg i i).1.symm)
    ·obtain rfl:=List.mem_singleton.mp ho
     refine ite_pos (by decide+kernel) ?_
     refine ite_pos rfl ?_
     kd_p
     exact q
  ·refine jh (fJ hl) fun x y z2=>?_;subst z2
   refine a2 (ze x y) fun g1 g2=>?_
   have opc:∀ z,fZ (fun x y=>x+y) x y=z∧fZ (fun x y=>x*y) x y=z->fC op [x,y]=z:=fun z h=>by
    rcases List.mem_cons.mp ho with rfl | ho
    ·exact h.1
    ·obtain rfl:=List.mem_singleton.mp ho
     exact h.2
   kd_p
   refine bQ (k:=2) rfl (by decide) ?_
   kd_p
   refine a6 _ aN ?_
   refine ite_neg (by decide) ?_
   kd_p
   refine a6 _ ((cE (a:=.none) (b:=.frz ([x,y].map bB)) rfl rfl (z8 [x,y])).1) ?_
   by_cases hx:ft .none [x,y]=true
   ·refine ite_pos hx ?_
    refine ite_pos rfl ?_
    kd_p
    exact qC _ (congrArg bB (opc _ (g1 hx)))
   ·refine ite_neg hx ?_
    kd_p
    refine bQ (k:=2) rfl (by decide) ?_
    kd_p
    refine⟨ao rfl,?_⟩
    kd_p
    refine⟨ao rfl,?_⟩
    kd_p
    refine⟨ao rfl,?_⟩
    kd_p
    refine⟨ao rfl,?_⟩
    kd_p
    refine⟨ao rfl,?_⟩
    refine a6 _ ((cE (a:=.tup [.str op,.int (Int.ofNat 2)]) (b:=.tup [.tup [.str "add",.int 2],.tup [.str "mul",.int 2],.tup [.str "neg",.int 1]]) rfl ((show ∀ op∈(["add","mul"]:List Str),okv 50 (.tup [.str op,.int 2])=true from by decide+kernel) op ho) (by decide+kernel)).2) ?_
    refine ite_neg ((show ∀ op∈(["add","mul"]:List Str),¬(!([a5.tup [.str "add",.int 2],.tup [.str "mul",.int 2],.tup [.str "neg",.int 1]].any fun y=>fu y (.tup [.str op,.int 2])))=true from by decide+kernel) op ho) ?_
    kd_p
    refine ite_neg (by decide) ?_
    kd_p
    refine a6 _ ((cE (a:=.str "clash") (b:=.frz ([x,y].map bB)) rfl (by decide+kernel) (z8 [x,y])).1) ?_
    by_cases hc:ft (.str "clash") [x,y]=true
    ·refine ite_pos hc ?_
     kd_p
     exact qC _ (congrArg bB (opc _ (g2 hx hc)))
    ·refine ite_neg hc ?_
     obtain⟨⟨i1,i2⟩,j1,j2⟩:=zh x y hx hc
     refine aH (xt x i1 i2) fun i z1=>?_;subst z1
     refine aH (xt y j1 j2) fun j z1=>?_;subst z1
     refine a4 (yg i j) fun z0 m1 m2 m3=>?_;rcases z0 with -
     clear g1 g2 opc hx hc i1 i2 j1 j2
     kd_p
     refine a6 _ bx ?_
     rcases List.mem_cons.mp ho with rfl | ho
     ·refine ite_neg (by decide) ?_
      kd_p
      refine a6 _ bx ?_
      refine ite_pos (by decide) ?_
      kd_p
      refine bC (xs:=[.int (Int.ofNat i.val),.int (Int.ofNat j.val)]) (i:=0) rfl (by lia) (by lia) rfl ?_
      kd_p
      refine bC (xs:=[.int (Int.ofNat i.val),.int (Int.ofNat j.val)]) (i:=1) rfl (by lia) (by lia) rfl ?_
      refine a6 _ c7 ?_
      kd_p
      refine a6 _ (fO (by decide)) ?_
      exact qC _ (congrArg a5.int m1.symm)
     ·obtain rfl:=List.mem_singleton.mp ho
      refine ite_neg (by decide) ?_
      kd_p
      refine a6 _ bx ?_
      refine ite_neg (by decide) ?_
      kd_p
      refine bC (xs:=[.int (Int.ofNat i.val),.int (Int.ofNat j.val)]) (i:=0) rfl (by lia) (by lia) rfl ?_
      kd_p
      refine bC (xs:=[.int (Int.ofNat i.val),.int (Int.ofNat j.val)]) (i:=1) rfl (by lia) (by lia) rfl ?_
      refine a6 _ (mT (IntMulOk.of_left m3)) ?_
      kd_p
      refine a6 _ (fO (by decide)) ?_
      exact qC _ (congrArg a5.int m2.symm)
end
theorem ja(ds:List (Option Nat)):((ds.map i9).any fun y=>fu y .none)=(aV ds).isNone:=by
 induction ds with
 | nil=>rfl
 | cons d ds ih=>
   refine a0 List.map_cons ?_;refine a0 List.any_cons ?_;refine a0 ih ?_
   cases d with
   | none=>rfl
   | some a=>
     show _=((aV ds).map _).isNone
     cases aV ds<;>rfl
theorem eL{ds:List (Option Nat)}{l:List Nat}(h:aV ds=some l):ds.map i9=nats l:=by
 induction ds generalizing l with
 | nil=>cases h;rfl
 | cons d ds ih=>
   cases d with
   | none=>cases h
   | some a=>
     refine a7 (Option.map_eq_some_iff.mp h) fun m e1 z2=>?_;subst z2
     refine a0 List.map_cons ?_;refine a0 (ih e1) ?_;rfl
theorem xy{l:List Nat}{M:Int}(h1:M∈l.map Int.ofNat++[0])(h2:∀ x∈l.map Int.ofNat++[0],x≤M):M=Int.ofNat (f6 l):=by
 have ub:∀ l:List Nat,∀ x∈l,x≤f6 l:=fun l=>by
  induction l with
  | nil=>intro x h;cases h
  | cons a l ih=>
    intro x h
    rcases List.mem_cons.mp h with rfl | h
    ·exact Nat.le_max_left _ _
    ·exact a9 (ih x h) (Nat.le_max_right _ _)
 have mem:∀ l:List Nat,f6 l=0∨f6 l∈l:=fun l=>by
  induction l with
  | nil=>exact .inl rfl
  | cons a l ih=>
    unfold f6
    rcases Nat.le_total a (f6 l)with z | z
    ·refine a0 (Nat.max_eq_right z) ?_;exact ih.imp id fun h=>.tail _ h
    ·refine a0 (Nat.max_eq_left z) ?_;exact .inr (.head _)
 refine Int.le_antisymm ?_ ?_
 ·rcases List.mem_append.mp h1 with h | h
  ·refine a7 (List.mem_map.mp h) fun a ha z2=>?_;subst z2
   exact Int.ofNat_le.mpr (ub l a ha)
  ·refine a0 (List.mem_singleton.mp h) ?_;exact Int.natCast_nonneg _
 ·rcases mem l with e | e
  ·refine a0 e ?_;exact h2 0 (List.mem_append_right _ (.head _))
  ·exact h2 _ (List.mem_append_left _ (List.mem_map_of_mem e))
section
variable{prog:Program}{w:World}{H:Heap}{mg mb:Str->Option Value}
theorem qP{n:Nat}{V:St}{an:Nat}{x y:Option Nat}{Q:a5->St->Prop}(q:Q (i9 (i0 x y)) V):CC (W0 prog w H mg mb) (n+1) (.ref 82) [.ref an,i9 x,i9 y] V Q:=by
 refine ag (ps:=["self","one","other"]) (by rfl) (by rfl) ?_ (by rfl) (by decide) (by rfl) (by decide) (by rfl) ?_ (by rfl) (by rfl) (by rfl)
 ·exact eF fun Z Z Z=>rfl
 ·cases x with
  | none=>
    kd_p
    refine a6 _ bX ?_
    refine ite_pos (by rfl) ?_
    refine ite_pos rfl ?_
    kd_p
    refine a6 _ bX ?_
    refine ite_pos (by rfl) ?_
    kd_p
    exact q
  | some a=>
    kd_p
    refine a6 _ bX ?_
    refine ite_neg (by intro h;exact Bool.false_ne_true h) ?_
    kd_p
    refine a6 _ bX ?_
    cases y with
    | none=>
      refine ite_pos (by rfl) ?_
      refine ite_pos rfl ?_
      kd_p
      refine a6 _ bX ?_
      refine ite_neg (by intro h;exact Bool.false_ne_true h) ?_
      kd_p
      exact q
    | some b=>
      refine ite_neg (by intro h;exact Bool.false_ne_true h) ?_
      kd_p
      refine ite_neg (by decide) ?_
      kd_p
      refine wJ ?_
      have e:(if Int.ofNat b<Int.ofNat a then Int.ofNat b else Int.ofNat a)=Int.ofNat (min a b):=by
       by_cases h:b<a
       ·refine a0 (if_pos (show Int.ofNat b<Int.ofNat a from Int.ofNat_lt.mpr h)) ?_;refine a0 (Nat.min_eq_right (Nat.le_of_lt h)) ?_;rfl
       ·refine a0 (if_neg (show ¬Int.ofNat b<Int.ofNat a from fun z=>h (Int.ofNat_lt.mp z))) ?_;refine a0 (Nat.min_eq_left (by exact Nat.not_lt.mp h)) ?_;rfl
      refine a0 e ?_
      exact q
theorem vB{n:Nat}{V:St}{an:Nat}{op:Str}{ds:List (Option Nat)}{Q:a5->St->Prop}(hl:ds.length≤2)(q:Q (i9 ((aV ds).map fun l=>1+f6 l)) V):CC (W0 prog w H mg mb) (n+1) (.ref 75) [.ref an,.str op,.frz (ds.map i9)] V Q:=by
 refine ag (ps:=["self","op","values"]) (by rfl) (by rfl) ?_ (by rfl) (by decide) (by rfl) (by decide) (by rfl) ?_ (by rfl) (by rfl) (by rfl)
 ·exact eF fun Z Z Z=>rfl
 ·have ov:∀ z:Option Nat,okv 50 (i9 z)=true:=fun z=>by cases z<;>rfl
  kd_p
  refine a6 _ ((cE (a:=.none) (b:=.frz (ds.map i9)) rfl rfl (by simp[ov])).1) ?_
  refine a0 (ja ..) ?_
  cases hd:aV ds with
  | none=>
    refine ite_pos (by rfl) ?_
    kd_p
    rw[hd] at q
    exact q
  | some l=>
    refine ite_neg (by intro h;exact Bool.false_ne_true h) ?_
    rw[hd] at q
    have hll:l.length=ds.length:=by have:=congrArg List.length (eL hd);simpa using this.symm
    refine a0 (eL hd) ?_
    kd_p
    refine ch ?_
    kd_p
    refine⟨ao rfl,?_⟩
    have eq:nats l++[.int 0]=aL (l.map Int.ofNat++[0]):=by simp[nats,aL]
    refine a6 (.frz (aL (l.map Int.ofNat++[0]))) ?_ ?_
    ·have:=kz (W:=W0 prog w H mg mb) (n:=n) (V:=V) (a:=.frz (nats l)) (b:=.frz [.int 0]) rfl rfl (by simp;exact a9 (Nat.le_of_eq hll) (a9 hl (by decide)))
     rw[eq] at this
     exact this
    kd_p
    refine uY rfl (by simp) fun M h1 h2=>?_
    refine a6 _ c7 ?_
    refine a0 (xy h1 h2) ?_
    have e:(1:Int)+Int.ofNat (f6 l)=Int.ofNat (1+f6 l):=by exact rfl
    refine a0 e ?_
    exact q
theorem xr{n:Nat}{V:St}{an:Nat}{op:Str}{ds:List (Option Nat)}{Q:a5->St->Prop}(hl:ds.length≤2)(q:Q (i9 ((aV ds).map fun l=>1+l.sum)) V):CC (W0 prog w H mg mb) (n+1) (.ref 103) [.ref an,.str op,.frz (ds.map i9)] V Q:=by
 refine ag (ps:=["self","op","values"]) (by rfl) (by rfl) ?_ (by rfl) (by decide) (by rfl) (by decide) (by rfl) ?_ (by rfl) (by rfl) (by rfl)
 ·exact eF fun Z Z Z=>rfl
 ·have ov:∀ z:Option Nat,okv 50 (i9 z)=true:=fun z=>by cases z<;>rfl
  kd_p
  refine a6 _ ((cE (a:=.none) (b:=.frz (ds.map i9)) rfl rfl (by simp[ov])).1) ?_
  refine a0 (ja ..) ?_
  cases hd:aV ds with
  | none=>
    refine ite_pos (by rfl) ?_
    kd_p
    rw[hd] at q
    exact q
  | some l=>
    refine ite_neg (by intro h;exact Bool.false_ne_true h) ?_
    rw[hd] at q
    refine a0 (eL hd) ?_;refine a0 (f0 ..) ?_
    kd_p
    refine uV rfl ?_
    refine a6 _ c7 ?_
    have e0:∀ l:List Nat,(l.map Int.ofNat).sum=Int.ofNat l.sum:=fun l=>by
     induction l with
     | nil=>rfl
     | cons a l ih=>refine a0 List.map_cons ?_;refine a0 List.sum_cons ?_;refine a0 ih ?_;refine a0 List.sum_cons ?_;rfl
    have e:(1:Int)+(l.map Int.ofNat).sum=Int.ofNat (1+l.sum):=by refine a0 (e0 ..) ?_;exact rfl
    refine a0 e ?_
    exact q
end
noncomputable def bK:List (Bool×Bool)->Bool×Bool
 | []=>(false,false)
 | p::r=>(p.1||(bK r).1,p.2||(bK r).2)
theorem f7(p:Bool×Bool)(c:Nat):c∈cc p↔(c=0∧p.1=true)∨(c=1∧p.2=true):=by
 obtain⟨a,b⟩:=p
 cases a<;>cases b<;>simp[cc]
theorem gh:∀ (ps:List (Bool×Bool)) (c:Nat),c∈cc (bK ps)↔∃ p∈ps,c∈cc p
 | [],c=>⟨fun h=>(nomatch h),fun h=>h.elim fun Z z=>(nomatch z.1)⟩
 | p::r,c=>by
   have h:c∈cc (bK (p::r))↔(c∈cc p∨c∈cc (bK r)):=by
    refine bt (f7 ..) ?_;refine bt (f7 ..) ?_;refine bt (f7 ..) ?_
    simp only[bK,Bool.or_eq_true,and_or_left]
    exact⟨fun h=>h.elim (fun h=>h.elim (fun h=>.inl (.inl h)) fun h=>.inr (.inl h)) fun h=>h.elim (fun h=>.inl (.inr h)) fun h=>.inr (.inr h),fun h=>h.elim (fun h=>h.elim (fun h=>.inl (.inl h)) fun h=>.inr (.inl h)) fun h=>h.elim (fun h=>.inl (.inr h)) fun h=>.inr (.inr h)⟩
   refine bt h ?_;refine bt (gh r c) ?_;refine bt w7 ?_;rfl
theorem iW(p:Bool×Bool):(cc p).Pairwise (fun x y=>x≤y)∧(cc p).Nodup:=by
 obtain⟨a,b⟩:=p
 revert a b
 decide
theorem hO(p:Bool×Bool):(cc p).length≤2:=by
 obtain⟨a,b⟩:=p
 revert a b
 decide
theorem vJ{kn:List Nat}{q:Bool×Bool}(nd:kn.Nodup)(so:kn.Pairwise (fun x y=>x≤y))(m:∀ c,c∈kn↔c∈cc q):kn=cc q:=
 ((List.perm_ext_iff_of_nodup nd (iW q).2).mpr m).eq_of_pairwise (fun Z Z Z Z=>Nat.le_antisymm) so (iW q).1
theorem uF(ds:List DF):(∃ y∈ds,y=none)∨∃ ps:List (Bool×Bool),ds=ps.map some:=by
 induction ds with
 | nil=>exact .inr ⟨[],rfl⟩
 | cons d ds ih=>
   cases d with
   | none=>exact .inl (a6 none (.head _) rfl)
   | some p=>
     rcases ih with⟨y,hy,e⟩ | ⟨ps,rfl⟩
     ·exact .inl (a6 y (.tail _ hy) e)
     ·exact .inr ⟨p::ps,rfl⟩
section
variable{prog:Program}{w:World}{H:Heap}{mg mb:Str->Option Value}
theorem yw:∀ a b:Bool×Bool,(((nats (cc a)).filter fun y=>match y with | .int i=>decide (i.toNat∈cc b) | _=>false).map id)=nats (cc (a.1&&b.1,a.2&&b.2)):=fun⟨a1,a2⟩ ⟨b1,b2⟩=>by
 cases a1<;>cases a2<;>cases b1<;>cases b2<;>rfl
theorem vO{n:Nat}{V:St}{an:Nat}{x y:DF}{Q:a5->St->Prop}(q:Q (fY (cJ x y)) V):CC (W0 prog w H mg mb) (n+1) (.ref 125) [.ref an,fY x,fY y] V Q:=by
 refine ag (ps:=["self","one","other"]) (by rfl) (by rfl) ?_ (by rfl) (by decide) (by rfl) (by decide) (by rfl) ?_ (by rfl) (by rfl) (by rfl)
 ·exact eF fun Z Z Z=>rfl
 ·cases x with
  | none=>
    kd_p
    refine a6 _ bX ?_
    refine ite_pos (by rfl) ?_
    refine ite_pos rfl ?_
    kd_p
    refine a6 _ bX ?_
    refine ite_pos (by rfl) ?_
    kd_p
    exact q
  | some a=>
    kd_p
    refine a6 _ bX ?_
    refine ite_neg (by intro h;exact Bool.false_ne_true h) ?_
    kd_p
    refine a6 _ bX ?_
    cases y with
    | none=>
      refine ite_pos (by rfl) ?_
      refine ite_pos rfl ?_
      kd_p
      refine a6 _ bX ?_
      refine ite_neg (by intro h;exact Bool.false_ne_true h) ?_
      kd_p
      exact q
    | some b=>
      refine ite_neg (by intro h;exact Bool.false_ne_true h) ?_
      kd_p
      refine ite_neg (by decide) ?_
      kd_p
      refine aW (new:=false) (aE (nm:="name") rfl ?_) (by rfl)
      kd_p
      refine⟨nats (cc a),rfl,a9 (Nat.le_of_eq (bm _)) (a9 (hO a) (by decide)),fun y=>match y with | .int i=>decide (i.toNat∈cc b) | _=>false,id,?_,?_,?_⟩
      ·intro y hy K hK
       refine a7 (List.mem_map.mp hy) fun j hj z2=>?_;subst z2
       refine eH ?_
       kd_p
       have ok:((nats (cc b)).all (okv 50))=true:=nT
       refine a6 _ ((cE (a:=.int (Int.ofNat j)) (b:=.tup (nats (cc b))) rfl rfl ok).1) ?_
       have e:((nats (cc b)).any fun y=>fu y (.int (Int.ofNat j)))=decide (j∈cc b):=by
        refine bt Bool.eq_iff_iff ?_;refine bt List.any_eq_true ?_;refine a0 decide_eq_true_eq ?_
        constructor
        ·rintro⟨z,hz,hz'⟩
         refine a7 (List.mem_map.mp hz) fun k hk z2=>?_;subst z2
         refine aX (Int.ofNat.inj (beq_iff_eq.mp hz')) ?_;exact hk
        ·intro hj'
         exact a6 _ (List.mem_map_of_mem hj') (beq_iff_eq.mpr rfl)
       refine a0 e ?_
       by_cases hb:j∈cc b
       ·refine ite_pos (decide_eq_true hb) ?_
        exact(decide_eq_true hb▸hK:K true V)
       ·refine ite_neg (fun z=>hb (of_decide_eq_true z)) ?_
        exact(decide_eq_false hb▸hK:K false V)
      ·intro y hy _ K hK
       refine a7 (List.mem_map.mp hy) fun j hj z2=>?_;subst z2
       kd_p
       exact hK
      ·refine⟨nats (cc (a.1&&b.1,a.2&&b.2)),yw a b,_,rfl,?_⟩
       kd_p
       refine cZ (a:=.frz _) rfl (a9 (Nat.le_of_eq (bm _)) (a9 (hO _) (by decide))) ?_
       exact q
theorem rq{n:Nat}{V:St}{Q:a5->St->Prop}(q:Q (.int 1) V):CC (W0 prog w H mg mb) (n+1) (.ref 26) [.str "1"] V Q:=
 jw (by decide+kernel) (.inr ⟨by decide+kernel,1,by decide+kernel,rfl⟩) q
theorem qL{n:Nat}{V:St}{an:Nat}{op:Str}{i:Int}{Q:a5->St->Prop}(ho:(op="var0"∧i=0)∨(op="var1"∧i=1))(q:Q (.tup [.int i]) V):CC (W0 prog w H mg mb) (n+2) (.ref 120) [.ref an,.str op,.frz []] V Q:=by
 refine ag (ps:=["self","op","values"]) (by rfl) (by rfl) ?_ (by rfl) (by decide) (by rfl) (by decide) (by rfl) ?_ (by rfl) (by rfl) (by rfl)
 ·exact eF fun Z Z Z=>rfl
 ·have e3:bq op none (some 3)="var"∧((op="var0"∧bq op (some 3) none="0"∧i=0∧(Str.ofString "var"++Str.ofString (toString (0:Int)))="var0")∨(op="var1"∧bq op (some 3) none="1"∧i=1∧(Str.ofString "var"++Str.ofString (toString (1:Int)))="var1")):=by
   rcases ho with⟨rfl,rfl⟩ | ⟨rfl,rfl⟩
   ·exact⟨by decide+kernel,.inl (i4 rfl (by decide+kernel) rfl (by decide+kernel))⟩
   ·exact⟨by decide+kernel,.inr (i4 rfl (by decide+kernel) rfl (by decide+kernel))⟩
  refine a2 e3 fun ev e3=>?_
  have ol:(Str.ofString "var").length≤1000000:=by decide
  kd_p
  refine gI ?_
  kd_p
  refine aP op rfl (by refine a0 ev ?_;decide) ?_
  kd_p
  refine a6 _ bx ?_
  refine a0 ev ?_
  refine ite_pos (by decide) ?_
  kd_p
  refine bQ (k:=0) rfl (by decide) ?_
  kd_p
  refine a6 _ aN ?_
  refine ite_pos (by decide) ?_
  kd_p
  refine ite_pos (by decide) ?_
  kd_p
  refine ik ?_
  kd_p
  refine aP op rfl (by rcases e3 with⟨_,e,_⟩ | ⟨_,e,_⟩<;>(rw[e];decide)) ?_
  kd_p
  have tail:∀ Q':a5->St->Prop,Q' (.int i) V->CT (W0 prog w H mg mb) (n+1) (.ref 26) [.str (bq op (some 3) none)] V Q':=fun Q' hq=>by
   rcases e3 with⟨_,e,rfl,_⟩ | ⟨_,e,rfl,_⟩
   ·refine a0 e ?_;exact(gf (op:="0") (by decide+kernel) hq).call
   ·refine a0 e ?_;exact(rq hq).call
  refine tail _ ?_
  kd_p
  refine a6 _ iH ?_
  refine ite_pos (by rfl) ?_
  kd_p
  refine a6 _ xD ?_
  refine ite_pos (by rcases e3 with⟨_,_,rfl,_⟩ | ⟨_,_,rfl,_⟩<;>decide) ?_
  kd_p
  refine wD ?_ ol
  kd_p
  rcases e3 with⟨rfl,_,rfl,e4⟩ | ⟨rfl,_,rfl,e4⟩
  all_goals
   refine fh _ rfl (by decide+kernel) (by rw[e4];decide+kernel) ?_
   rw[e4]
   refine a6 _ bx ?_
   refine ite_pos (by decide) ?_
   kd_p
   refine ite_pos (by decide) ?_
   kd_p
   refine⟨ao rfl,?_⟩
   exact q
end
theorem gX{op:Str}{k:Nat}(h:eS op k):op∈(["a","b","var0","var1","0","2","-3","neg","lam","add","mul"]:List Str):=by
 show op∈bV++((["neg","lam"]:List Str)++(["add","mul"]:List Str))
 rcases h with⟨_,h⟩ | ⟨_,h⟩ | ⟨_,h⟩
 ·exact List.mem_append_left _ h
 ·exact List.mem_append_right _ (List.mem_append_left _ h)
 ·exact List.mem_append_right _ (List.mem_append_right _ h)
theorem ez{op:Str}{k:Nat}(h:eS op k):k≤2:=by rcases h with⟨h,_⟩ | ⟨h,_⟩ | ⟨h,_⟩<;>lia
inductive Ag(V0:St)(dn rest:List (Bool×Bool))(V:St):Prop
 | mk (B:List Nat) (hf:V[V0.length]? =some (.idict (bD B))) (X:aK V0 [] V []) (nd:B.Nodup) (mem:∀ c,c∈B↔∃ p∈dn,c∈cc p)
inductive Ah(V0:St)(B:List Nat)(dn rest:List Nat)(V:St):Prop
 | mk (B2:List Nat) (hf:V[V0.length]? =some (.idict (bD B2))) (X:aK V0 [] V []) (nd:B2.Nodup) (mem:∀ c,c∈B2↔c∈B∨c∈dn)
section
variable{prog:Program}{w:World}{H:Heap}{mg mb:Str->Option Value}
theorem tJ{op:Str}{ds:List DF}(hl:ds.length≤2)(h3:op≠"var0")(h4:op≠"var1"):(none∈ds->fF op ds=none)∧∀ ps:List (Bool×Bool),ds=ps.map some->fF op ds=if op="lam"∧ps.length=1 then some ((bK ps).2,false)else some (bK ps):=by
 rcases kW hl with rfl | ⟨x,rfl⟩ | ⟨x,y,rfl⟩
 ·refine⟨fun h=>(nomatch h),fun ps e=>?_⟩
  obtain rfl:=List.map_eq_nil_iff.mp e.symm
  refine a0 (if_neg fun z=>nomatch z.2) ?_
  exact(if_neg h3).trans (if_neg h4)
 ·refine⟨fun h=>?_,fun ps e=>?_⟩
  ·refine aX (List.mem_singleton.mp h) ?_
   exact ite_self _
  ·refine bR (di e.symm) fun p Z z2 z3 k=>?_;subst z2;subst z3
   obtain rfl:=List.map_eq_nil_iff.mp k.symm
   have u:bK [p]=p:=Prod.ext (Bool.or_false _) (Bool.or_false _)
   refine a0 u ?_
   by_cases h:op="lam"
   ·refine a0 (if_pos ⟨h,rfl⟩) ?_
    exact if_pos h
   ·refine a0 (if_neg fun z=>h z.1) ?_
    exact if_neg h
 ·refine⟨fun h=>?_,fun ps e=>?_⟩
  ·rcases List.mem_cons.mp h with h | h
   ·refine aX h ?_;rfl
   ·refine aX (List.mem_singleton.mp h) ?_;cases x<;>rfl
  ·refine bR (di e.symm) fun p Z z2 z3 k=>?_;subst z2;subst z3
   refine bR (di k.symm) fun r Z z2 z3 k'=>?_;subst z2;subst z3
   obtain rfl:=List.map_eq_nil_iff.mp k'.symm
   refine a0 (if_neg fun z=>nomatch z.2) ?_
   have u:bK [r]=r:=Prod.ext (Bool.or_false _) (Bool.or_false _)
   show ye (some p) (some r)=some (p.1||(bK [r]).1,p.2||(bK [r]).2)
   refine a0 u ?_
   rfl
theorem vA{n:Nat}{V:St}{an:Nat}{op:Str}{ds:List DF}{Q:a5->St->Prop}(hv:(bq op none (some 3)==("var":Str))=false)(hv2:(bq op none (some 3)).length≤1000000)(hl:ds.length≤2)(h3:op≠"var0")(h4:op≠"var1")
 (q:∀ V',aK V [] V' []->Q (fY (fF op ds)) V'):CC (W0 prog w H mg mb) (n+2) (.ref 120) [.ref an,.str op,.frz (ds.map fY)] V Q:=by
 refine ag (ps:=["self","op","values"]) (by rfl) (by rfl) ?_ (by rfl) (by decide) (by rfl) (by decide) (by rfl) ?_ (by rfl) (by rfl) (by rfl)
 ·exact eF fun Z Z Z=>rfl
 ·have ov:∀ z:DF,okv 50 (fY z)=true:=fun z=>(v6 []).okv z
  refine a2 (tJ hl h3 h4) fun pk1 pk2=>?_
  kd_p
  refine gI ?_
  kd_p
  refine aP op rfl hv2 ?_
  kd_p
  refine a6 _ bx ?_
  refine a0 (show(bq op none (some 3)==Str.ofString "var")=false from hv) ?_
  refine ite_neg (by decide) ?_
  refine ite_neg (by decide) ?_
  kd_p
  refine a6 _ iH ?_
  refine ite_neg (by intro h;exact Bool.false_ne_true h) ?_
  kd_p
  refine ite_neg (by decide) ?_
  kd_p
  refine a6 _ ((cE (a:=.none) (b:=.frz (ds.map fY)) rfl rfl (by simp[ov])).1) ?_
  rcases uF ds with hn | ⟨ps,rfl⟩
  ·refine a7 hn ?_;clear hn;intro y hy z2;subst z2
   refine ite_pos (by
    refine a0 List.any_map ?_;refine bt List.any_eq_true ?_
    exact a6 none hy rfl) ?_
   kd_p
   rw[pk1 hy] at q
   exact q V .refl
  ·refine ite_neg (by
    intro h
    rw[List.any_map,List.any_eq_true] at h
    refine a7 h fun y hy h=>?_
    refine a7 (List.mem_map.mp hy) fun p Z z2=>?_;subst z2
    cases h) ?_
   rw[List.length_map] at hl
   rw[pk2 ps rfl] at q
   clear pk1 pk2
   refine a0 List.map_map ?_
   kd_p
   refine fU ?_
   kd_p
   have X0:aK V [] (V++[af.idict []]) []:=.grow _
   have hf0:(V++[af.idict []])[V.length]? =some (.idict (bD [])):=by refine a0 (List.getElem?_append_right (Nat.le_refl _)) ?_;simp[bD]
   generalize (V++[af.idict []])=V0 at X0 hf0 ⊢
   refine bP ?_ rfl
   kd_p
   refine a6 _ rfl ?_
   refine dE (fY ∘ some) ps (Ag V) (fun V' h=>?_) (fun dn p rest V' KK e2 h hKK=>?_) ⟨[],hf0,X0,List.nodup_nil,fun c=>⟨fun h=>(nomatch h),fun h=>h.elim fun Z z=>(nomatch z.1)⟩⟩
   ·obtain⟨B,hf,X,nd,mem⟩:=h
    have Bm:∀ c,c∈B↔c∈cc (bK ps):=fun c=>by refine bt (mem ..) ?_;refine bt (gh ..) ?_;rfl
    have Blen:B.length≤2:=bT nd fun c hc=>by
     have:=(f7 _ c).mp ((Bm c).mp hc)
     lia
    have lu:=hO (bK ps)
    have sorted:∀ ks:List Int,ks.Perm ((bD B).map (fun x=>x.1))->ks.Pairwise (fun x y=>x≤y)->aL ks=nats (cc (bK ps)):=fun ks pk po=>by
     obtain⟨kn,k1,k2,k3⟩:=jR (l:=B) (by
      have e:(bD B).map (fun x=>x.1)=B.map Int.ofNat:=by unfold bD;refine a0 List.map_map ?_;rfl
      refine aX e ?_;exact pk) po
     refine a0 k1 ?_;refine a0 (vJ (q:=bK ps) (k2.nodup_iff.mpr nd) k3 fun c=>by rw[k2.mem_iff,Bm]) ?_;rfl
    walk_at "m"
    walk_at "m"
    refine rj (decide (op="lam"∧ps.length=1)) (fun K hK=>?_) ?_
    ·kd_p
     refine a6 _ bx ?_
     by_cases hlam:op="lam"
     ·refine ite_pos (beq_iff_eq.mpr hlam) ?_
      kd_p
      refine bQ (k:=ps.length) (by exact List.length_map ..) (by exact a9 hl (by decide)) ?_
      kd_p
      refine a6 _ aN ?_
      by_cases h1:ps.length=1
      ·refine ite_pos (by refine a0 h1 ?_;decide) ?_
       kd_p
       rw[decide_eq_true ⟨hlam,h1⟩] at hK
       exact hK
      ·refine ite_neg (by simpa using fun z=>h1 (by lia)) ?_
       rw[decide_eq_false fun z=>h1 z.2] at hK
       exact hK
     ·refine ite_neg (fun z=>hlam (beq_iff_eq.mp z)) ?_
      rw[decide_eq_false fun z=>hlam z.1] at hK
      exact hK
    ·by_cases hb:op="lam"∧ps.length=1
     ·refine ite_pos (decide_eq_true hb) ?_
      rw[if_pos hb] at q
      kd_p
      refine aW (new:=false) (aE (nm:="name") rfl ?_) (by rfl)
      kd_p
      refine cG hf (by simp[bD];lia) fun ks pk po=>?_
      refine a0 (sorted ks pk po) ?_
      generalize bK ps=u at*
      refine⟨nats (cc u),rfl,by simp;exact a9 lu (by decide),fun y=>match y with | .int i=>decide (0<i.toNat) | _=>false,qK fun i=>.int (i - 1),fun y hy K hK=>?_,fun y hy Z K hK=>?_,nats (cc (u.2,false)),?_,_,rfl,?_⟩
      ·refine a7 (List.mem_map.mp hy) fun j hj z2=>?_;subst z2
       refine eH ?_
       kd_p
       refine a6 (decide (0<j)) mQ ?_
       change K (decide (0<j)) V' at hK
       by_cases hj0:0<j
       ·rw[decide_eq_true hj0] at hK ⊢;exact hK
       ·rw[decide_eq_false hj0] at hK ⊢;exact hK
      ·refine a7 (List.mem_map.mp hy) fun j hj z2=>?_;subst z2
       kd_p
       exact a6 _ dK hK
      ·obtain⟨a,b⟩:=u
       cases a<;>cases b<;>rfl
      ·kd_p
       have:=hO (u.2,false)
       exact cZ (a:=.frz _) rfl (by simp;exact a9 this (by decide)) (q V' X)
     ·refine ite_neg (by simpa using hb) ?_
      rw[if_neg hb] at q
      kd_p
      refine cG hf (by simp[bD];lia) fun ks pk po=>?_
      refine a0 (sorted ks pk po) ?_
      kd_p
      exact cZ (a:=.frz _) rfl (by simp;exact a9 lu (by decide)) (q V' X)
   ·obtain⟨B,hf,X,nd,mem⟩:=h
    kd_p
    refine bP ?_ rfl
    kd_p
    refine a6 (nats (cc p)) rfl ?_
    refine dE (fun n=>.int (Int.ofNat n)) (cc p) (Ah V B) (fun V₂ h=>?_) (fun dn2 c rest2 V₂ KK2 f2 h hKK2=>?_) ⟨B,hf,X,nd,fun c=>⟨.inl,fun h=>h.elim id fun z=>(nomatch z)⟩⟩
    ·obtain⟨B2,hf2,X2,nd2,mem2⟩:=h
     kd_p
     refine⟨rfl,hKK _ _ (Sub.app (ext:=[("names",_)])) ⟨B2,hf2,X2,nd2,fun c=>?_⟩⟩
     refine bt (mem2 ..) ?_;refine bt (mem ..) ?_;refine bt w5 ?_;rfl
    ·obtain⟨B2,hf2,X2,nd2,mem2⟩:=h
     have hB2:B2.length≤2:=bT nd2 fun d hd=>by
      have:d∈cc (bK ps):=by
       refine bt (gh ..) ?_;refine a0 e2 ?_
       rcases(mem2 d).mp hd with h | h
       ·refine a7 ((mem d).mp h) fun p' h1 h2=>?_
        exact a6 p' (List.mem_append_left _ h1) h2
       ·exact a6 p (List.mem_append_right _ (.head _)) (by refine a0 f2 ?_;exact List.mem_append_left _ h)
      have:=(f7 _ d).mp this
      lia
     kd_p
     refine bS (.idict (bD (oL B2 c))) hf2 (by simp[bD];exact a9 hB2 (by decide)) (by refine a0 (xF ..) ?_;rfl) ?_
     kd_p
     exact⟨rfl,hKK2 _ _ (Sub.app (ext:=[("name",_)])) ⟨oL B2 c,List.getElem?_set_self (bN hf2),X2.setNew (.inl (Nat.le_refl _)) _,qk nd2 c,fun d=>by refine bt uC ?_;refine bt (mem2 ..) ?_;refine bt List.mem_append ?_;refine bt List.mem_singleton ?_;refine bt or_assoc ?_;rfl⟩⟩
theorem rI:∀ op∈(["a","b","var0","var1","0","2","-3","neg","lam","add","mul"]:List Str),(op="var0"∨op="var1")∨(bq op none (some 3)==("var":Str))=false∧(bq op none (some 3)).length≤1000000∧op≠"var0"∧op≠"var1":=by decide+kernel
theorem zW{n:Nat}{V:St}{an:Nat}{op:Str}{ds:List DF}{Q:a5->St->Prop}(ho:eS op ds.length)(q:∀ V',aK V [] V' []->Q (fY (fF op ds)) V'):CC (W0 prog w H mg mb) (n+2) (.ref 120) [.ref an,.str op,.frz (ds.map fY)] V Q:=by
 rcases rI op (gX ho)with hv | ⟨h1,h2,h3,h4⟩
 ·have hd:ds=[]:=by
   rcases ho with⟨hl,_⟩ | ⟨_,h⟩ | ⟨_,h⟩
   ·exact List.eq_nil_of_length_eq_zero hl
   ·rcases hv with rfl | rfl<;>exact absurd h (by decide)
   ·rcases hv with rfl | rfl<;>exact absurd h (by decide)
  subst hd
  rcases hv with rfl | rfl
  ·exact qL (i:=0) (.inl ⟨rfl,rfl⟩) (q V .refl)
  ·exact qL (i:=1) (.inr ⟨rfl,rfl⟩) (q V .refl)
 ·exact vA h1 h2 (ez ho) h3 h4 q
end
section
variable{W:Wd}{n:Nat}{sc:ah}{ρ:ai}{V:St}
noncomputable def yY(W:Wd)(n:Nat)(sc:ah)(elt:Expr)(V:St)(P:ai->Prop)(gs:List Comprehension)(L:List a5):Prop:=
 ∀ (ρ:ai) (xs:List a5) (Q:af->ai->St->Prop),P ρ->xs.length+L.length≤1000000->(∀ ρ',P ρ'->Q (.list (xs++L)) ρ' V)->kH W n sc (.list elt) gs (.list xs) ρ V Q
theorem r6{elt:Expr}{P:ai->Prop}{v:a5}(h:∀ ρ,P ρ->∀ K:a5->St->Prop,K v V->ET W n sc elt ρ V K):yY W n sc elt V P [] [v]:=
 fun ρ xs Q hp hl hq=>aP xs rfl (by simp at hl;exact a9 hl (by decide)) (h ρ hp _ (hq ρ hp))
theorem iw{elt:Expr}{P:ai->Prop}{gs:List Comprehension}{nm:Str}{g:Comprehension}{st:St->Prop}{F:a5->List a5}(hn:dt g.target=some nm)(hi:g.ifs=[])(stable:∀ ρ v,P ρ->P (aJ ρ nm v))(hst:st V):
 ∀ (ys:List a5),(∀ y∈ys,yY W n sc elt V (fun ρ=>P ρ∧ρ.lookup nm=some y) gs (F y))->∀ (ρ:ai) (xs:List a5) (Q:af->ai->St->Prop),P ρ->xs.length+(ys.flatMap F).length≤1000000->(∀ ρ',P ρ'->Q (.list (xs++ys.flatMap F)) ρ' V)->
   kB (qV W n sc (.list elt) g gs) st ys (.list xs) ρ V Q
 | [],_,ρ,xs,Q,hp,hl,hq=>by
   show Q (.list xs) ρ V
   have:=hq ρ hp;simpa using this
 | y::ys,h,ρ,xs,Q,hp,hl,hq=>by
   refine a6 nm hn ?_
   refine a0 hi ?_
   refine cD ?_
   refine ite_pos rfl ?_
   rw[List.flatMap_cons,List.length_append] at hl
   refine h y (.head _) (aJ ρ nm y) xs _ ⟨stable ρ y hp,by refine a0 (bY ..) ?_;refine a0 (if_pos rfl) ?_;rfl⟩ (by lia) fun ρ' hp'=>⟨hst,?_⟩
   refine iw hn hi stable hst ys (fun z hz=>h z (.tail _ hz)) ρ' (xs++F y) Q hp'.1 (by refine a0 List.length_append ?_;lia) fun ρ'' hp''=>?_
   have:=hq ρ'' hp''
   rw[List.flatMap_cons] at this
   refine a0 (List.append_assoc ..) ?_;exact this
theorem kI{elt:Expr}{P:ai->Prop}{gs:List Comprehension}{nm:Str}{g:Comprehension}{a:a5}{ys:List a5}{F:a5->List a5}(hn:dt g.target=some nm)(hi:g.ifs=[])(stable:∀ ρ v,P ρ->P (aJ ρ nm v))(ha:aI V a=some ys)
 (iter:∀ ρ,P ρ->∀ K:a5->St->Prop,K a V->ET W n sc g.iter ρ V K)(h:∀ y∈ys,yY W n sc elt V (fun ρ=>P ρ∧ρ.lookup nm=some y) gs (F y)):yY W n sc elt V P (g::gs) (ys.flatMap F):=by
 intro ρ xs Q hp hl hq
 refine iter ρ hp _ (a6 ys ha ?_)
 exact iw hn hi stable ha ys h ρ xs Q hp hl hq
theorem j5{elt:Expr}{g:Comprehension}{gs:List Comprehension}{scope:Scope}{nm:Str}{Q:a5->St->Prop}(P:ai->Prop)(hn:dt g.target=some nm)(hi:g.ifs=[])(stable:∀ ρ v,P ρ->P (aJ ρ nm v))(start:P (aR scope.names sc ρ))
 (h:ET W n sc g.iter ρ V (fun a V'=>V'=V∧∃ ys,aI V a=some ys∧∃ F:a5->List a5,(∀ y∈ys,yY W n (aw scope.names sc) elt V (fun ρ=>P ρ∧ρ.lookup nm=some y) gs (F y))∧(ys.flatMap F).length≤1000000∧Q (.frz (ys.flatMap F)) V)):dZ W n sc false (.list elt) g gs scope ρ V Q:=by
 unfold dZ
 intro A env φ s R N F
 refine(h A env φ s R N F).mono fun a V' z=>a2 z fun e z=>a7 z fun ys h1 z=>bw z fun G hin hl hq=>?_
 subst e
 refine a6 ys h1 ?_
 refine iw hn hi stable h1 ys hin _ [] _ start (by simpa using hl) fun ρ' hp=>?_
 exact a6 _ rfl (by simpa using hq)
end
section
variable{prog:Program}{w:World}{H:Heap}{mg mb:Str->Option Value}
theorem gq{n:Nat}{V:St}{an:Nat}{x:DS}{Q:a5->St->Prop}(hx:x≠am)(q:Q (.tup (aL (aF x))) V):CC (W0 prog w H mg mb) (n+1) (.ref 146) [.ref an,ce x] V Q:=by
 refine ag (ps:=["self","value"]) (by rfl) (by rfl) ?_ (by rfl) (by decide) (by rfl) (by decide) (by rfl) ?_ (by rfl) (by rfl) (by rfl)
 ·exact dj fun Z Z=>rfl
 ·by_cases hf:x=cV
  ·subst hf
   kd_p
   refine a6 _ bX ?_
   refine ite_pos (by rfl) ?_
   kd_p
   refine a6 _ rfl ?_
   kd_p
   refine⟨ao rfl,?_⟩
   exact q
  ·have e:ce x=.tup (aL (aF x)):=by unfold ce;refine a0 (if_neg hf) ?_;refine a0 (if_neg hx) ?_;rfl
   refine a0 e ?_
   kd_p
   refine a6 _ bX ?_
   refine ite_neg (by intro h;exact Bool.false_ne_true h) ?_
   kd_p
   exact q
theorem qQ(l:List Int)(s:Int):((aL l).any fun y=>fu y (.int s))=l.contains s:=by
 induction l with
 | nil=>rfl
 | cons a l ih=>
   show(fu (.int a) (.int s)||_)=_
   refine a0 ih ?_;refine a0 List.contains_cons ?_
   congr 1
   show(a==s)=(s==a)
   by_cases e:a=s
   ·subst e;rfl
   ·refine a0 (beq_eq_false_iff_ne.mpr e) ?_;refine a0 (beq_eq_false_iff_ne.mpr (Ne.symm e)) ?_;rfl
theorem jT:∀ m:DS,(aF m).length≤3:=fun⟨a,b,c⟩=>by revert a b c;decide
theorem tP:∀ m:DS,okv 50 (.tup (aL (aF m)))=true:=fun⟨a,b,c⟩=>by cases a<;>cases b<;>cases c<;>rfl
theorem rY:∀ m:DS,m≠am->¬yC (aL (aF m)) []=true:=fun⟨a,b,c⟩=>(by decide+kernel:∀ a b c:Bool,(a,b,c)≠am->¬yC (aL (aF (a,b,c))) []=true) a b c
theorem q0:∀ m:DS,m≠cV->¬decide (Int.ofNat (aF m).length=3)=true:=fun⟨a,b,c⟩=>(by decide+kernel:∀ a b c:Bool,(a,b,c)≠cV->¬decide (Int.ofNat (aF (a,b,c)).length=3)=true) a b c
theorem o6(l:List Int):(((aL [-1,0,1]).filter fun y=>match y with | .int s=>l.contains s | _=>false).map id)=aL (aF (vc fun s=>l.contains s)):=by
 show _=aL (aF (l.contains (-1),l.contains 0,l.contains 1))
 cases h1:l.contains (-1)<;>cases h2:l.contains 0<;>cases h3:l.contains 1<;>simp only[aL,List.map_cons,List.map_nil,List.filter_cons,List.filter_nil,h1,h2,h3]<;>rfl
theorem fI{n:Nat}{V:St}{an:Nat}{l:List Int}{Q:a5->St->Prop}(q:Q (ce (vc fun s=>l.contains s)) V):CC (W0 prog w H mg mb) (n+1) (.ref 151) [.ref an,.frz (aL l)] V Q:=by
 refine ag (ps:=["self","found"]) (by rfl) (by rfl) ?_ (by rfl) (by decide) (by rfl) (by decide) (by rfl) ?_ (by rfl) (by rfl) (by rfl)
 ·exact dj fun Z Z=>rfl
 ·kd_p
  refine aW (new:=false) (aE (nm:="sign") rfl ?_) (by rfl)
  kd_p
  refine a6 _ rfl ?_
  kd_p
  refine⟨ao rfl,?_⟩
  refine⟨aL [-1,0,1],rfl,by decide,fun y=>match y with | .int s=>l.contains s | _=>false,id,?_,?_,?_⟩
  ·intro y hy K hK
   refine a7 (List.mem_map.mp hy) fun s hs z2=>?_;subst z2
   refine eH ?_
   kd_p
   have ok:((aL l).all (okv 50))=true:=by
    refine bt List.all_eq_true ?_;intro y hy;refine a7 (List.mem_map.mp hy) fun s Z z2=>?_;subst z2;rfl
   refine a6 _ ((cE (a:=.int s) (b:=.frz (aL l)) rfl rfl ok).1) ?_
   refine a0 (qQ ..) ?_
   have hK:K (l.contains s) V:=hK
   cases hc:l.contains s
   ·exact ite_neg (by decide) (hc▸hK)
   ·exact ite_pos rfl (hc▸hK)
  ·intro y hy _ K hK
   refine a7 (List.mem_map.mp hy) fun s hs z2=>?_;subst z2
   kd_p
   exact hK
  ·refine⟨_,o6 l,_,rfl,?_⟩
   ·generalize vc (fun s=>l.contains s)=m at q ⊢
    kd_p
    have ll:=jT m
    refine cZ (a:=.frz _) rfl (a9 (Nat.le_of_eq (List.length_map ..)) (a9 ll (by decide))) ?_
    kd_p
    refine⟨ao rfl,?_⟩
    refine a6 _ (gE (a:=.tup (aL (aF m))) (b:=.tup []) (tP m) rfl) ?_
    by_cases he:m=am
    ·subst he
     refine ite_pos (rfl) ?_
     kd_p
     exact q
    ·refine ite_neg (rY m he) ?_
     kd_p
     refine wK (k:=(aF m).length) (by exact List.length_map ..) (by exact a9 ll (by decide)) ?_
     kd_p
     refine a6 _ aN ?_
     by_cases hf:m=cV
     ·subst hf
      refine ite_pos (by decide) ?_
      kd_p
      exact q
     ·have e:ce m=.tup (aL (aF m)):=by unfold ce;refine a0 (if_neg hf) ?_;refine a0 (if_neg he) ?_;rfl
      refine ite_neg (q0 m hf) ?_
      kd_p
      exact e▸q
theorem qo{n:Nat}{V:St}{an:Nat}{i j:Int}{Q:a5->St->Prop}(q:Q (.frz (aL (cP i j))) V):CC (W0 prog w H mg mb) (n+1) (.ref 158) [.ref an,.int i,.int j] V Q:=by
 refine ag (ps:=["self","one","other"]) (by rfl) (by rfl) ?_ (by rfl) (by decide) (by rfl) (by decide) (by rfl) ?_ (by rfl) (by rfl) (by rfl)
 ·exact eF fun Z Z Z=>rfl
 ·walk_at "m"
  walk_at "m"
  refine rj (decide (i=0∨j=0∨i=j)) (fun K hK=>?_) ?_
  ·kd_p
   refine a6 _ aN ?_
   by_cases h1:i=0
   ·exact ite_pos (decide_eq_true h1) (decide_eq_true (.inl h1:i=0∨j=0∨i=j)▸hK:K true V)
   ·refine ite_neg (fun z=>h1 (of_decide_eq_true z)) ?_
    kd_p
    refine a6 _ aN ?_
    by_cases h2:j=0
    ·exact ite_pos (decide_eq_true h2) (decide_eq_true (.inr (.inl h2):i=0∨j=0∨i=j)▸hK:K true V)
    ·refine ite_neg (fun z=>h2 (of_decide_eq_true z)) ?_
     kd_p
     refine a6 _ aN ?_
     by_cases h3:i=j
     ·exact ite_pos (decide_eq_true h3) (decide_eq_true (.inr (.inr h3):i=0∨j=0∨i=j)▸hK:K true V)
     ·refine ite_neg (fun z=>h3 (of_decide_eq_true z)) ?_
      kd_p
      exact(decide_eq_false (fun z=>z.elim h1 fun z=>z.elim h2 h3:¬(i=0∨j=0∨i=j))▸hK:K false V)
  by_cases h:i=0∨j=0∨i=j
  ·have q:Q (.frz (aL [if i≠0 then i else j])) V:=(if_pos h:cP i j=[if i≠0 then i else j])▸q
   refine ite_pos (decide_eq_true h) ?_
   kd_p
   refine ch ?_
   kd_p
   refine a6 _ dv ?_
   by_cases hi:i=0
   ·refine ite_neg (by simpa using hi) ?_
    kd_p
    exact⟨ao rfl,((if_neg (fun z=>z hi):(if i≠0 then i else j)=j)▸q:Q (.frz (aL [j])) V)⟩
   ·refine ite_pos (by simpa using hi) ?_
    kd_p
    exact⟨ao rfl,((if_pos hi:(if i≠0 then i else j)=i)▸q:Q (.frz (aL [i])) V)⟩
  ·refine ite_neg (fun z=>h (of_decide_eq_true z)) ?_
   kd_p
   refine ch ?_
   kd_p
   refine a6 _ rfl ?_
   kd_p
   exact⟨ao rfl,((if_neg h:cP i j=[-1,0,1])▸q:Q (.frz (aL [-1,0,1])) V)⟩
end
theorem tZ(x y:DS):(vc fun s=>((aF x).filter fun s=>(aF y).contains s).contains s)=ba x y:=by
 obtain⟨a,b,c⟩:=x
 obtain⟨d,e,f⟩:=y
 revert a b c d e f
 decide+kernel
theorem vE(x:DS):(vc fun s=>((aF x).map fun u=> -u).contains s)=rS x:=by
 obtain⟨a,b,c⟩:=x
 revert a b c
 decide+kernel
theorem wm(x y:DS):(vc fun s=>((aF x).flatMap fun u=>(aF y).flatMap fun v=>cP u v).contains s)=oN x y:=by
 obtain⟨a,b,c⟩:=x
 obtain⟨d,e,f⟩:=y
 revert a b c d e f
 decide+kernel
theorem vG(x y:DS):(vc fun s=>((aF x).flatMap fun u=>(aF y).map fun v=>u*v).contains s)=nX x y:=by
 obtain⟨a,b,c⟩:=x
 obtain⟨d,e,f⟩:=y
 revert a b c d e f
 decide+kernel
theorem ki(x:DS):fu (ce x) (.str "clash")=decide (x=am):=by
 obtain⟨a,b,c⟩:=x
 exact(by decide+kernel:∀ a b c:Bool,fu (ce (a,b,c)) (.str "clash")=decide ((a,b,c)=am)) a b c
theorem zr:∀ a b c:Bool,oN am (a,b,c)=am∧oN (a,b,c) am=am∧nX am (a,b,c)=am∧nX (a,b,c) am=am:=by decide+kernel
theorem ly:∀ op∈(["a","b","var0","var1","0","2","-3","neg","lam","add","mul"]:List Str),PyData.strOk op=true:=by decide+kernel
noncomputable def yx:a5->a5
 | .none=>.tup (aL [-1,0,1])
 | a=>a
theorem oB{x:DS}(h:x≠am):yx (ce x)=.tup (aL (aF x)):=by
 obtain⟨a,b,c⟩:=x
 cases a<;>cases b<;>cases c<;>first | exact absurd rfl h | rfl
noncomputable def eA(f:Int->List a5):a5->List a5
 | .int i=>f i
 | _=>[]
theorem fg(f:Int->List Int):∀ l:List Int,aL (l.flatMap f)=(aL l).flatMap (eA fun v=>aL (f v))
 | []=>rfl
 | a::l=>by
   have ih:=fg f l
   refine a0 List.flatMap_cons ?_
   show aL (f a++l.flatMap f)=(a5.int a::aL l).flatMap _
   refine a0 List.flatMap_cons ?_;refine aX ih ?_
   exact List.map_append
theorem ui(l:List a5):l=l.flatMap fun z=>[z]:=by simp
theorem vI{x:DS}{u:Int}(h:u∈aF x):u= -1∨u=0∨u=1:=by
 obtain⟨a,b,c⟩:=x
 exact(by decide+kernel:∀ a b c:Bool,∀ u∈aF (a,b,c),u= -1∨u=0∨u=1) a b c u h
section
variable{prog:Program}{w:World}{H:Heap}{mg mb:Str->Option Value}
theorem uo{op:Str}{ds:List DS}(ho:eS op ds.length)(hc:am∈ds):fS op ds=am:=by
 rcases ho with⟨hl,_⟩ | ⟨hl,ho⟩ | ⟨hl,ho⟩
 ·obtain rfl:=List.eq_nil_of_length_eq_zero hl;cases hc
 ·refine aH (eE hl) fun x z1=>?_;subst z1
  refine aX (List.mem_singleton.mp hc) ?_
  exact(by decide+kernel:∀ op∈(["neg","lam"]:List Str),fS op [am]=am) op ho
 ·obtain⟨⟨a,b,c⟩,⟨d,e,f⟩,rfl⟩:=fJ hl
  have h:=(by decide+kernel:∀ op∈(["add","mul"]:List Str),∀ a b c:Bool,fS op [am,(a,b,c)]=am∧fS op [(a,b,c),am]=am) op ho
  rcases List.mem_cons.mp hc with hc | hc
  ·refine aX hc ?_;exact(h d e f).1
  ·refine aX (List.mem_singleton.mp hc) ?_;exact(h a b c).2
theorem wk(x y:DS):((aF x).flatMap fun u=>(aF y).flatMap fun v=>cP u v).length≤100:=by
 obtain⟨a,b,c⟩:=x
 obtain⟨d,e,f⟩:=y
 exact(by decide+kernel:∀ a b c d e f:Bool,((aF (a,b,c)).flatMap fun u=>(aF (d,e,f)).flatMap fun v=>cP u v).length≤100) a b c d e f
theorem vF(x y:DS):((aF x).flatMap fun u=>(aF y).map fun v=>u*v).length≤100:=by
 obtain⟨a,b,c⟩:=x
 obtain⟨d,e,f⟩:=y
 exact(by decide+kernel:∀ a b c d e f:Bool,((aF (a,b,c)).flatMap fun u=>(aF (d,e,f)).map fun v=>u*v).length≤100) a b c d e f
noncomputable def pS(op:Str)(ds:List DS):a5:=if ds.length=0 then wl op else .none
theorem pR{op:Str}{ds:List DS}(ho:eS op ds.length):pS op ds=.none∨∃ i,pS op ds=.int i∧ce (fS op ds)=.tup [.int (b2i (decide (0<i)) - b2i (decide (i<0)))]:=by
 unfold pS
 by_cases h0:ds.length=0
 ·refine a0 (if_pos h0) ?_
  obtain rfl:=List.eq_nil_of_length_eq_zero h0
  rcases ho with⟨_,h⟩ | ⟨h,_⟩ | ⟨h,_⟩
  ·exact(jv op h).imp (fun x=>x.1) fun⟨k,e,_,e2⟩=>a6 k e e2
  ·cases h
  ·cases h
 ·exact .inl (if_neg h0)
theorem w3{op:Str}{ds:List DS}(ho:eS op ds.length)(hc:am∉ds)(hn:pS op ds=.none)(hneg:¬(op="neg"∧ds.length=1))(hadd:¬(op="add"∧ds.length=2))(hmul:¬(op="mul"∧ds.length=2)):fS op ds=cV:=by
 rcases ho with⟨hl,ho⟩ | ⟨hl,ho⟩ | ⟨hl,ho⟩
 ·rw[pS,if_pos hl] at hn
  obtain rfl:=List.eq_nil_of_length_eq_zero hl
  rcases jv op ho with⟨_,_,e⟩ | ⟨_,e,_⟩
  ·exact e
  ·rw[e] at hn;cases hn
 ·refine aH (eE hl) fun x z1=>?_;subst z1
  exact(if_neg fun z=>hneg ⟨z,rfl⟩).trans (if_neg (fun z=>hc (z▸.head _):¬x=am))
 ·rcases List.mem_cons.mp ho with ho | ho
  ·exact absurd ⟨ho,hl⟩ hadd
  ·exact absurd ⟨List.mem_singleton.mp ho,hl⟩ hmul
theorem rQ{op:Str}{k:Nat}(ho:eS op k)(h:k=0):op∈bV:=by
 rcases ho with⟨_,h⟩ | ⟨e,_⟩ | ⟨e,_⟩
 ·exact h
 ·rw[h] at e;cases e
 ·rw[h] at e;cases e
theorem sD(ds:List DS):((ds.map ce).any fun y=>fu y (.str "clash"))=decide (am∈ds):=by
 refine a0 List.any_map ?_;refine a0 (show((fun y=>fu y (.str "clash")) ∘ ce)=fun x=>decide (x=am) from funext fun x=>ki x) ?_;refine bt Bool.eq_iff_iff ?_;refine bt List.any_eq_true ?_;refine a0 decide_eq_true_eq ?_
 exact⟨fun⟨x,hx,e⟩=>of_decide_eq_true e▸hx,fun h=>(a6 _ h (decide_eq_true rfl))⟩
theorem oh:∀ x y:DS,(decide (x=am)||decide (y=am))=true->ba x y=am:=fun⟨a,b,c⟩ ⟨d,e,f⟩=>(by decide+kernel:∀ a b c d e f:Bool,(decide ((a,b,c)=am)||decide ((d,e,f)=am))=true->ba (a,b,c) (d,e,f)=am) a b c d e f
theorem vN{n:Nat}{V:St}{an:Nat}{x y:DS}{Q:a5->St->Prop}(h:V[an]? =some (.inst 171 []))(q:Q (ce (ba x y)) V):CC (W0 prog w H mg mb) (n+2) (.ref 168) [.ref an,ce x,ce y] V Q:=by
 refine ag (ps:=["self","one","other"]) (by rfl) (by rfl) ?_ (by rfl) (by decide) (by rfl) (by decide) (by rfl) ?_ (by rfl) (by rfl) (by rfl)
 ·exact eF fun Z Z Z=>rfl
 ·kd_p
  refine⟨ao rfl,?_⟩
  refine a6 _ ((cE (a:=.str "clash") (b:=.tup [ce x,ce y]) rfl (by decide+kernel) (by simp[(iR []).okv x,(iR []).okv y];exact⟨(iR []).okv x,(iR []).okv y⟩)).1) ?_
  have e:([ce x,ce y].any fun z=>fu z (.str "clash"))=(decide (x=am)||decide (y=am)):=by
   simp only[List.any_cons,List.any_nil,Bool.or_false,ki]
  refine a0 e ?_
  by_cases hx:(decide (x=am)||decide (y=am))=true
  ·refine ite_pos hx ?_
   kd_p
   exact(oh x y hx▸q:Q (ce am) V)
  ·refine ite_neg hx ?_
   simp only[Bool.or_eq_true,decide_eq_true_eq,not_or] at hx
   kd_p
   refine aW (new:=false) (aE (nm:="sign") rfl ?_) (by rfl)
   kd_p
   refine(gq hx.1 ?_).call
   refine⟨aL (aF x),rfl,by have:=jT x;simp;exact a9 this (by decide),fun y'=>match y' with | .int s=>(aF y).contains s | _=>false,id,?_,?_,?_⟩
   ·intro y' hy K hK
    refine a7 (List.mem_map.mp hy) fun s hs z2=>?_;subst z2
    refine eH ?_
    kd_p
    refine(gq hx.2 ?_).call
    have ok:((aL (aF y)).all (okv 50))=true:=by
     refine bt List.all_eq_true ?_;intro y' hy';refine a7 (List.mem_map.mp hy') fun s Z z2=>?_;subst z2;rfl
    refine a6 _ ((cE (a:=.int s) (b:=.tup (aL (aF y))) rfl rfl ok).1) ?_
    refine a0 (qQ ..) ?_
    have hK:K ((aF y).contains s) V:=hK
    cases hc:(aF y).contains s
    ·exact ite_neg (by decide) (hc▸hK)
    ·exact ite_pos rfl (hc▸hK)
   ·intro y' hy _ K hK
    refine a7 (List.mem_map.mp hy) fun s hs z2=>?_;subst z2
    kd_p
    exact hK
   ·refine⟨aL ((aF x).filter fun s=>(aF y).contains s),?_,_,rfl,?_⟩
    ·refine a0 (List.map_id ..) ?_;refine a0 List.filter_map ?_
     rfl
    ·kd_p
     refine(fI ?_).call
     refine a0 (tZ ..) ?_
     exact q
theorem zV{n:Nat}{V:St}{an:Nat}{op:Str}{ds:List DS}{Q:a5->St->Prop}(h:V[an]? =some (.inst 171 []))(ho:eS op ds.length)(q:Q (ce (fS op ds)) V):CC (W0 prog w H mg mb) (n+2) (.ref 163) [.ref an,.str op,.frz (ds.map ce)] V Q:=by
 refine ag (ps:=["self","op","values"]) (by rfl) (by rfl) ?_ (by rfl) (by decide) (by rfl) (by decide) (by rfl) ?_ (by rfl) (by rfl) (by rfl)
 ·exact eF fun Z Z Z=>rfl
 ·have okvs:((ds.map ce).all (okv 50))=true:=by
   refine bt List.all_eq_true ?_;intro y' hy';refine a7 (List.mem_map.mp hy') fun s Z z2=>?_;subst z2;exact(iR []).okv s
  kd_p
  refine a6 _ ((cE (a:=.str "clash") (b:=.frz (ds.map ce)) rfl (by decide+kernel) okvs).1) ?_
  refine a0 (sD ..) ?_
  by_cases hc:am∈ds
  ·refine ite_pos (decide_eq_true hc) ?_
   kd_p
   rw[uo ho hc] at q
   exact q
  ·refine ite_neg (by simpa using hc) ?_
   have okop:=ly op (gX ho)
   have hl2:=ez ho
   have ne:∀ x∈ds,x≠am:=fun x hx e=>hc (e▸hx)
   walk_at "m"
   refine kD ?_
   walk_at "m"
   walk_at "m"
   refine r7 (pS op ds) (fun K hK=>?_) ?_
   ·kd_p
    refine bQ (k:=ds.length) (by exact List.length_map ..) (by exact a9 hl2 (by decide)) ?_
    kd_p
    refine a6 _ aN ?_
    unfold pS at hK
    by_cases h0:ds.length=0
    ·refine ite_pos (by refine a0 h0 ?_;decide) ?_
     rw[if_pos h0] at hK
     kd_p
     exact(gf (rQ ho h0) hK).call
    ·refine ite_neg (by simpa using fun z=>h0 (by refine a0 z ?_;rfl)) ?_
     rw[if_neg h0] at hK
     kd_p
     exact hK
   kd_p
   refine a6 _ iH ?_
   rcases pR ho with e | ⟨i,e,eq⟩
   rotate_left 1
   ·refine a0 e ?_;refine ite_pos rfl ?_
    rw[eq] at q
    kd_p
    refine a6 _ mR ?_
    kd_p
    refine a6 _ kw ?_
    refine a6 _ uz ?_
    kd_p
    exact⟨by exact Nat.succ_pos _,q⟩
   refine a0 e ?_;refine ite_neg (by decide) ?_
   walk_at "m"
   walk_at "m"
   refine cg (new:=false) (aE (nm:="value") rfl ?_) (by rfl) (by rfl)
   kd_p
   refine⟨ds.map ce,rfl,by exact a9 (Nat.le_of_eq (List.length_map ..)) (a9 hl2 (by decide)),fun Z=>true,yx,fun Z Z Z hK=>cD hK,?_,ds.map (fun x=>.tup (aL (aF x))),?_,_,rfl,?_⟩
   ·intro y hy _ K hK
    refine a7 (List.mem_map.mp hy) fun x hx z2=>?_;subst z2
    rw[oB (ne x hx)] at hK
    kd_p
    refine(gq (ne x hx) ?_).call
    exact hK
   ·refine a0 (sf ..) ?_;refine a0 List.map_map ?_
    exact List.map_congr_left fun x hx=>oB (ne x hx)
   ·have ok1:okv 50 (bA V (.tup [.str op,.int (Int.ofNat ds.length)]))=true:=by
     show(PyData.strOk op&&(true&&true))=true
     refine a0 okop ?_;rfl
    have T:∀ (z:Str) (m:Int),fu (bA V (.tup [.str op,.int (Int.ofNat ds.length)])) (bA V (.tup [.str z,.int m]))=((op==z)&&(Int.ofNat ds.length==m)):=fun z m=>by
     show((op==z)&&((Int.ofNat ds.length==m)&&true))=_
     refine a0 (Bool.and_true ..) ?_;rfl
    kd_p
    refine bQ (k:=ds.length) (by exact List.length_map ..) (by exact a9 hl2 (by decide)) ?_
    kd_p
    refine⟨ao rfl,?_⟩
    kd_p
    refine⟨ao rfl,?_⟩
    refine a6 _ (gE (a:=.tup [.str op,.int (Int.ofNat ds.length)]) (b:=.tup [.str "neg",.int 1]) ok1 (by show okv 50 (.tup [.str "neg",.int 1])=true;decide+kernel)) ?_
    refine a0 (T ..) ?_
    by_cases hneg:op="neg"∧ds.length=1
    ·refine a2 hneg fun hop hl=>?_
     refine ite_pos (by refine a0 hl ?_;refine a0 hop ?_;decide+kernel) ?_
     refine aH (eE hl) fun x z1=>?_;subst z1
     have hxl:=jT x
     kd_p
     refine aW (new:=false) (aE (nm:="sign") rfl ?_) (by rfl)
     kd_p
     refine bC (xs:=[.tup (aL (aF x))]) (i:=0) rfl (by lia) (by lia) rfl ?_
     refine⟨aL (aF x),rfl,by simp;exact a9 hxl (by decide),fun Z=>true,(qK fun i=>.int (-i)),fun Z Z Z hK=>cD hK,?_,aL ((aF x).map fun u=> -u),by refine a0 (sf ..) ?_;simp[aL,qK,Function.comp_def],_,rfl,?_⟩
     ·intro y hy _ K hK
      refine a7 (List.mem_map.mp hy) fun i hi z2=>?_;subst z2
      kd_p
      exact a6 i rfl hK
     kd_p
     refine(fI ?_).call
     refine a0 (vE ..) ?_
     subst hop
     exact q
    ·refine ite_neg (by
      intro z
      simp only[Bool.and_eq_true,beq_iff_eq] at z
      exact hneg ⟨z.1,by have:=z.2;simp at this;lia⟩) ?_
     kd_p
     refine bQ (k:=ds.length) (by exact List.length_map ..) (by exact a9 hl2 (by decide)) ?_
     kd_p
     refine⟨ao rfl,?_⟩
     kd_p
     refine⟨ao rfl,?_⟩
     refine a6 _ (gE (a:=.tup [.str op,.int (Int.ofNat ds.length)]) (b:=.tup [.str "add",.int 2]) ok1 (by show okv 50 (.tup [.str "add",.int 2])=true;decide+kernel)) ?_
     refine a0 (T ..) ?_
     by_cases hadd:op="add"∧ds.length=2
     ·refine a2 hadd fun hop hl=>?_
      refine ite_pos (by refine a0 hl ?_;refine a0 hop ?_;decide+kernel) ?_
      refine jh (fJ hl) fun x y z2=>?_;subst z2
      kd_p
      refine aW (new:=false) (j5 (nm:="one") (fun ρ=>ρ.lookup ("some":Str)=some (.frz [.tup (aL (aF x)),.tup (aL (aF y))])∧ρ.lookup ("self":Str)=some (.ref an)) rfl rfl (fun ρ v hp=>⟨ci hp.1 (by decide),ci hp.2 (by decide)⟩) ⟨rfl,rfl⟩ ?_) (by rfl)
      kd_p
      refine bC (xs:=[.tup (aL (aF x)),.tup (aL (aF y))]) (i:=0) rfl (by lia) (by lia) rfl ?_
      have bound:=wk x y
      have ef:((aL (aF x)).flatMap (eA fun u=>aL ((aF y).flatMap fun v=>cP u v)))=aL ((aF x).flatMap fun u=>(aF y).flatMap fun v=>cP u v):=(fg (fun u=>(aF y).flatMap fun v=>cP u v) (aF x)).symm
      refine⟨rfl,aL (aF x),rfl,(eA fun u=>aL ((aF y).flatMap fun v=>cP u v)),fun y1 hy1=>?_,?_,?_⟩
      ·refine a7 (List.mem_map.mp hy1) fun u hu z2=>?_;subst z2
       try dsimp only[eA]
       refine a0 (fg ..) ?_
       refine kI (nm:="other") (a:=.tup (aL (aF y))) rfl rfl (fun ρ v hp=>⟨⟨ci hp.1.1 (by decide),ci hp.1.2 (by decide)⟩,ci hp.2 (by decide)⟩) rfl (fun ρ hp K hK=>?_) fun y2 hy2=>?_
       ·refine qs ?_
        refine cF hp.1.1 ?_
        kd_p
        exact bC (xs:=[.tup (aL (aF x)),.tup (aL (aF y))]) (i:=1) rfl (by lia) (by lia) rfl hK
       ·refine a7 (List.mem_map.mp hy2) fun v hv z2=>?_;subst z2
        try dsimp only[eA]
        refine a0 (ui (aL (cP u v))) ?_
        refine kI (nm:="sign") (a:=.frz (aL (cP u v))) rfl rfl (fun ρ w hp=>⟨⟨⟨ci hp.1.1.1 (by decide),ci hp.1.1.2 (by decide)⟩,ci hp.1.2 (by decide)⟩,ci hp.2 (by decide)⟩) rfl (fun ρ hp K hK=>?_) fun z hz=>r6 fun ρ hp K hK=>?_
        ·walk_at "m"
         refine cF hp.1.1.2 ?_
         walk_at "m"
         refine kJ ?_ rfl
         refine cF hp.1.2 ?_
         refine kJ ?_ rfl
         refine cF hp.2 ?_
         kd_p
         exact(qo hK).call
        ·exact cF hp.2 hK
      ·refine a0 ef ?_;refine a0 (List.length_map ..) ?_;exact a9 bound (by decide)
      ·refine a0 ef ?_
       kd_p
       refine(fI ?_).call
       refine a0 (wm ..) ?_
       subst hop
       exact q
     ·refine ite_neg (by
       intro z
       simp only[Bool.and_eq_true,beq_iff_eq] at z
       exact hadd ⟨z.1,by have:=z.2;simp at this;lia⟩) ?_
      kd_p
      refine bQ (k:=ds.length) (by exact List.length_map ..) (by exact a9 hl2 (by decide)) ?_
      kd_p
      refine⟨ao rfl,?_⟩
      kd_p
      refine⟨ao rfl,?_⟩
      refine a6 _ (gE (a:=.tup [.str op,.int (Int.ofNat ds.length)]) (b:=.tup [.str "mul",.int 2]) ok1 (by show okv 50 (.tup [.str "mul",.int 2])=true;decide+kernel)) ?_
      refine a0 (T ..) ?_
      by_cases hmul:op="mul"∧ds.length=2
      ·refine a2 hmul fun hop hl=>?_
       refine ite_pos (by refine a0 hl ?_;refine a0 hop ?_;decide+kernel) ?_
       refine jh (fJ hl) fun x y z2=>?_;subst z2
       kd_p
       refine aW (new:=false) (j5 (nm:="one") (fun ρ=>ρ.lookup ("some":Str)=some (.frz [.tup (aL (aF x)),.tup (aL (aF y))])) rfl rfl (fun ρ v hp=>ci hp (by decide)) rfl ?_) (by rfl)
       kd_p
       refine bC (xs:=[.tup (aL (aF x)),.tup (aL (aF y))]) (i:=0) rfl (by lia) (by lia) rfl ?_
       have bound:=vF x y
       have ef:((aL (aF x)).flatMap (eA fun u=>aL ((aF y).map fun v=>u*v)))=aL ((aF x).flatMap fun u=>(aF y).map fun v=>u*v):=(fg (fun u=>(aF y).map fun v=>u*v) (aF x)).symm
       refine⟨rfl,aL (aF x),rfl,(eA fun u=>aL ((aF y).map fun v=>u*v)),fun y1 hy1=>?_,?_,?_⟩
       ·refine a7 (List.mem_map.mp hy1) fun u hu z2=>?_;subst z2
        try dsimp only[eA]
        have em:aL ((aF y).map fun v=>u*v)=(aL (aF y)).flatMap (eA fun v=>aL [u*v]):=by
         rw[← fg (fun v=>[u*v])]
         congr 1
         induction aF y with
         | nil=>rfl
         | cons a l ih=>refine a0 List.map_cons ?_;refine a0 List.flatMap_cons ?_;refine a0 ih ?_;rfl
        refine a0 em ?_
        refine kI (nm:="other") (a:=.tup (aL (aF y))) rfl rfl (fun ρ v hp=>⟨ci hp.1 (by decide),ci hp.2 (by decide)⟩) rfl (fun ρ hp K hK=>?_) fun y2 hy2=>?_
        ·refine qs ?_
         refine cF hp.1 ?_
         kd_p
         exact bC (xs:=[.tup (aL (aF x)),.tup (aL (aF y))]) (i:=1) rfl (by lia) (by lia) rfl hK
        ·refine a7 (List.mem_map.mp hy2) fun v hv z2=>?_;subst z2
         refine r6 fun ρ hp K hK=>?_
         refine uS ?_
         refine cF hp.1.2 ?_
         refine cF hp.2 ?_
         refine a6 _ (mT (IntMulOk.of_left (by rcases vI hu with rfl | rfl | rfl<;>decide+kernel))) hK
       ·refine a0 ef ?_;refine a0 (List.length_map ..) ?_;exact a9 bound (by decide)
       ·refine a0 ef ?_
        kd_p
        refine(fI ?_).call
        refine a0 (vG ..) ?_
        subst hop
        exact q
      ·refine ite_neg (by
        intro z
        simp only[Bool.and_eq_true,beq_iff_eq] at z
        exact hmul ⟨z.1,by have:=z.2;simp at this;lia⟩) ?_
       kd_p
       rw[w3 ho hc e hneg hadd hmul] at q
       exact q
end
noncomputable def vf(A:An)(vals:List (Nat×A.D))(c:Nat):A.D:=((vals.find? fun e=>decide (e.1=c)).map (fun x=>x.2)).getD A.bot
noncomputable def eV{D:Type}(vals:List (Nat×D))(c:Nat)(d:D):List (Nat×D):=if c∈vals.map (fun x=>x.1)then vals.map (fun e=>if e.1=c then(e.1,d)else e)else vals++[(c,d)]
noncomputable def vD(A:An)(vals:List (Nat×A.D)):List (Int×a5):=vals.map fun e=>(Int.ofNat e.1,A.enc e.2)
theorem mn(A:An):∀ (vals:List (Nat×A.D)) (c:Nat),bb (vD A vals) (Int.ofNat c)=(vals.find? fun e=>decide (e.1=c)).map fun e=>A.enc e.2
 | [],c=>rfl
 | e::r,c=>by
   have ih:=mn A r c
   unfold bb vD at*
   refine a0 List.map_cons ?_;refine a0 List.find?_cons ?_;refine a0 List.find?_cons ?_
   by_cases h:e.1=c
   ·subst h;simp
   ·have:¬(Int.ofNat e.1=Int.ofNat c):=fun z=>h (Int.ofNat.inj z)
    simp only[decide_eq_false this,decide_eq_false h]
    exact ih
theorem gL{A:An}{U:List Tm}(ok:A.Ok U)(vals:List (Nat×A.D))(c:Nat):(bb (vD A vals) (Int.ofNat c)).getD .none=A.enc (vf A vals c):=by
 refine a0 (mn ..) ?_
 unfold vf
 cases vals.find? fun e=>decide (e.1=c)with
 | none=>exact ok.encbot.symm
 | some e=>rfl
theorem dH{D:Type}(vals:List (Nat×D))(c:Nat):(vals.find? fun e=>decide (e.1=c)).isSome=decide (c∈vals.map (fun x=>x.1)):=by
 refine bt Bool.eq_iff_iff ?_;refine bt List.find?_isSome ?_;refine a0 decide_eq_true_eq ?_;refine bt List.mem_map ?_
 constructor
 ·rintro⟨e,he,h⟩;exact a6 e he (by simpa using h)
 ·rintro⟨e,he,h⟩;exact a6 e he (by simpa using h)
theorem t8(A:An)(vals:List (Nat×A.D))(c:Nat)(d:A.D):cX (vD A vals) (Int.ofNat c) (A.enc d)=vD A (eV vals c d):=by
 unfold cX eV
 have e:(bb (vD A vals) (Int.ofNat c)).isSome=decide (c∈vals.map (fun x=>x.1)):=by refine a0 (mn ..) ?_;refine a0 Option.isSome_map ?_;refine a0 (dH ..) ?_;rfl
 refine a0 e ?_
 by_cases h:c∈vals.map (fun x=>x.1)
 ·refine a0 (if_pos (decide_eq_true h)) ?_;refine a0 (if_pos h) ?_
  unfold vD
  refine a0 List.map_map ?_;refine a0 List.map_map ?_
  refine List.map_congr_left fun e Z=>?_
  show(if Int.ofNat e.1=Int.ofNat c then(Int.ofNat e.1,A.enc d)else(Int.ofNat e.1,A.enc e.2))=(fun e:Nat×A.D=>(Int.ofNat e.1,A.enc e.2)) (if e.1=c then(e.1,d)else e)
  by_cases q:e.1=c
  ·refine a0 (if_pos q) ?_;refine a0 (if_pos (by rw[q])) ?_;rfl
  ·refine a0 (if_neg q) ?_;refine a0 (if_neg (fun z=>q (Int.ofNat.inj z))) ?_;rfl
 ·refine a0 (if_neg (by simpa using h)) ?_;refine a0 (if_neg h) ?_
  unfold vD
  refine a0 List.map_append ?_;rfl
theorem ir{D:Type}(vals:List (Nat×D))(c:Nat)(d:D):(eV vals c d).map (fun x=>x.1)=if c∈vals.map (fun x=>x.1)then vals.map (fun x=>x.1)else vals.map (fun x=>x.1)++[c]:=by
 unfold eV
 by_cases h:c∈vals.map (fun x=>x.1)
 ·refine a0 (if_pos h) ?_;refine a0 (if_pos h) ?_;refine a0 List.map_map ?_
  refine List.map_congr_left fun e Z=>?_
  show(if e.1=c then(e.1,d)else e).1=e.1
  split<;>rfl
 ·refine a0 (if_neg h) ?_;refine a0 (if_neg h) ?_;refine a0 List.map_append ?_;rfl
theorem jx{D:Type}{vals:List (Nat×D)}(h:(vals.map (fun x=>x.1)).Nodup)(c:Nat)(d:D):((eV vals c d).map (fun x=>x.1)).Nodup:=by
 refine a0 (ir ..) ?_
 by_cases q:c∈vals.map (fun x=>x.1)
 ·refine a0 (if_pos q) ?_;exact h
 ·refine a0 (if_neg q) ?_;refine bt List.nodup_append ?_
  exact i3 h (by simp) (fun a ha b hb e=>q (by refine aX (List.mem_singleton.mp hb) ?_;refine aX e ?_;exact ha))
theorem t7(A:An)(vals:List (Nat×A.D))(c:Nat)(d:A.D)(n:Nat):vf A (eV vals c d) n=if n=c then d else vf A vals n:=by
 unfold vf eV
 by_cases h:c∈vals.map (fun x=>x.1)
 ·refine a0 (if_pos h) ?_
  induction vals with
  | nil=>cases h
  | cons e r ih=>
    refine a0 List.map_cons ?_;refine a0 List.find?_cons ?_;refine a0 List.find?_cons ?_
    by_cases q:e.1=c
    ·by_cases hn:n=c
     ·subst hn;simp[q]
     ·have:¬c=n:=fun z=>hn z.symm
      refine a0 (if_pos q) ?_;refine a0 (if_neg hn) ?_;refine a0 q ?_;refine a0 (decide_eq_false this) ?_
      dsimp only
      by_cases hr:c∈r.map (fun x=>x.1)
      ·have:=ih hr;rw[if_neg hn] at this;exact this
      ·congr 2
       have er:r.map (fun e:Nat×A.D=>if e.1=c then(e.1,d)else e)=r:=by
        conv=>rhs;rw[← List.map_id r]
        refine List.map_congr_left fun x hx=>?_
        exact if_neg fun z=>hr (List.mem_map.mpr (a6 x hx z))
       refine a0 er ?_;rfl
    ·refine a0 (if_neg q) ?_
     have hr:c∈r.map (fun x=>x.1):=by
      rw[List.map_cons] at h
      rcases List.mem_cons.mp h with z | z
      ·exact absurd z.symm q
      ·exact z
     by_cases hn:e.1=n
     ·have:¬n=c:=fun z=>q (hn.trans z)
      simp[hn,this]
     ·simp only[decide_eq_false hn]
      exact ih hr
 ·refine a0 (if_neg h) ?_;refine a0 List.find?_append ?_
  have hc:vals.find? (fun e=>decide (e.1=c))=none:=by
   have:=dH vals c
   rw[decide_eq_false h] at this
   simpa using this
  by_cases hn:n=c
  ·subst hn;refine a0 hc ?_;refine a0 (if_pos rfl) ?_;simp
  ·refine a0 (if_neg hn) ?_
   have:¬c=n:=fun z=>hn z.symm
   cases vals.find? fun e=>decide (e.1=n)<;>simp[this]
theorem mi(A:An){vals:List (Nat×A.D)}{c:Nat}(h:c∉vals.map (fun x=>x.1)):vf A vals c=A.bot:=by
 unfold vf
 have:=dH vals c
 rw[decide_eq_false h] at this
 rw[Option.isSome_eq_false_iff,Option.isNone_iff_eq_none] at this
 refine a0 this ?_;rfl
section
variable{A:An}{U:List Tm}{T:Tm->Tm->Prop}{K:Nat}{S:HS}{ex:List Nat}
structure n9(A:An)(S:HS)(M:Nat)(x:Nat->A.D)(rest:List Nat)(s p:Nat):Prop where
 vle:uJ A S x
 set:∀ c,S.un.par[c]? =some c->c∉rest->A.le (Fv A S x c) (x c)
 lo:∀ n,n<S.un.par.length->A.le (Kl A S s n) (x n)
 good:∀ c∈rest.drop p,A.le (Kl A S (s+1) c) (x c)
 sM:s≤M
 pl:p≤rest.length
 top:s=M->p=rest.length
 cls:∀ n,n<S.un.par.length->x n=x (a8 S.un.par n)
noncomputable def aS(S:HS)(M s p:Nat):Nat:=(M - s)*(S.un.par.length+1)+p
variable(ok:A.Ok U)(I:aC U T K S ex){M:Nat}{x:Nat->A.D}
include ok I
theorem n9.goodOut{rest:List Nat}{s p:Nat}(g:n9 A S M x rest s p){c:Nat}(hc:S.un.par[c]? =some c)(hn:c∉rest):A.le (Kl A S (s+1) c) (x c):=
 ok.trans (ok.tr_le _) (ok.trans (eN ok I g.lo c) (g.set c hc hn))
theorem n9.next{rest:List Nat}{s:Nat}(g:n9 A S M x rest s 0)(rl:rest.length≤S.un.par.length)(lt:s<M):n9 A S M x rest (s+1) rest.length∧aS S M (s+1) rest.length≤aS S M s 0:=by
 refine⟨⟨g.vle,g.set,fun n hn=>?_,fun c hc=>by simp at hc,lt,Nat.le_refl _,fun Z=>rfl,g.cls⟩,?_⟩
 ·refine a0 (g.cls n hn) ?_;refine a0 (uO ok I (s+1) (c5 I.par hn).symm) ?_
  have hr:=bj I.par hn
  by_cases q:a8 S.un.par n∈rest
  ·exact g.good _ (by simpa using q)
  ·exact g.goodOut ok I hr q
 ·unfold aS
  have e:M - s=(M - (s+1))+1:=by lia
  refine a0 e ?_;refine a0 (Nat.add_mul ..) ?_;refine a0 (Nat.one_mul ..) ?_
  exact Nat.le_add_right_of_le (Nat.add_le_add_left (Nat.le_add_right_of_le rl) _)
set_option tactic.hygienic true in
theorem n9.norm{rest:List Nat}(rl:rest.length≤S.un.par.length)(ne:0<rest.length):∀ (k s p:Nat),M - s=k->n9 A S M x rest s p->∃ s' p',n9 A S M x rest s' p'∧1≤p'∧aS S M s' p'≤aS S M s p:=by
 intro k
 induction k with
 | zero=>
   intro s p hk g
   have:=g.sM
   have e:s=M:=by lia
   exact d7 s p g (by refine a0 (g.top e) ?_;exact ne) (Nat.le_refl _)
 | succ k ih=>
   intro s p hk g
   by_cases hp:p=0
   ·subst hp
    refine a2 (g.next ok I rl (by lia)) fun g' f'=>?_
    exact d7 (s+1) rest.length g' ne f'
   ·exact d7 s p g (by lia) (Nat.le_refl _)
theorem n9.stepA{c:Nat}{r:List Nat}{s p:Nat}(g:n9 A S M x (c::r) s p)(h1:1≤p)(h:A.le (Fv A S x c) (x c)):n9 A S M x r s (p - 1):=by
 obtain⟨q,rfl⟩:∃ q,p=q+1:=⟨p - 1,by lia⟩
 refine⟨g.vle,fun d hd hn=>?_,g.lo,fun d hd=>g.good d hd,g.sM,by have:=g.pl;simp at this;lia,fun e=>by have:=g.top e;simp at this;lia,g.cls⟩
 by_cases e:d=c
 ·subst e;exact h
 ·exact g.set d hd fun z=>by
   rcases List.mem_cons.mp z with z | z
   ·exact e z
   ·exact hn z
theorem n9.last(st:∀ n,n<S.un.par.length->Kl A S (M+1) n=Kl A S M n){rest:List Nat}{p:Nat}(g:n9 A S M x rest M p){c:Nat}(hc:c<S.un.par.length):A.le (Fv A S x c) (x c):=by
 have z:=ww ok I st
 have e:∀ n,n<S.un.par.length->x n=Kl A S M n:=fun n hn=>ok.anti (g.vle.le _ z n hn) (g.lo n hn)
 have e2:Fv A S x c=Fv A S (Kl A S M) c:=ok.anti (eN ok I (fun n hn=>by refine a0 (e n hn) ?_;exact ok.refl _) c) (eN ok I (fun n hn=>by refine a0 (e n hn) ?_;exact ok.refl _) c)
 refine a0 e2 ?_;refine a0 (e c hc) ?_
 exact z.Fv ok I hc
theorem uJ.up(h:uJ A S x){c:Nat}{v:A.D}(hc:c<S.un.par.length)(hv:∀ y,A.le v y↔A.le (x c) y∧A.le (Fv A S x c) y){x':Nat->A.D}(hx':∀ n,n<S.un.par.length->x' n=if a8 S.un.par n=a8 S.un.par c then v else x n)(ho:∀ n,S.un.par.length≤n->x' n=A.bot):uJ A S x':=by
 refine⟨fun z hz n hn=>?_,ho⟩
 refine a0 (hx' n hn) ?_
 by_cases q:a8 S.un.par n=a8 S.un.par c
 ·refine a0 (if_pos q) ?_;refine bt (hv ..) ?_
  have e:=hz.cls n c hn hc q
  refine a0 e ?_
  refine⟨h.le z hz c hc,ok.trans ?_ (hz.Fv ok I hc)⟩
  exact eN ok I (fun m hm=>h.le z hz m hm) c
 ·refine a0 (if_neg q) ?_;exact h.le z hz n hn
theorem n9.stepB(st:∀ n,n<S.un.par.length->Kl A S (M+1) n=Kl A S M n){c:Nat}{r new:List Nat}{s p:Nat}{v:A.D}{x':Nat->A.D}(g:n9 A S M x (c::r) s p)(h1:1≤p)(hc:S.un.par[c]? =some c)(hv:∀ y,A.le v y↔A.le (x c) y∧A.le (Fv A S x c) y)(ne:v≠x c)
 (hx':∀ n,n<S.un.par.length->x' n=if a8 S.un.par n=c then v else x n)(ho:∀ n,S.un.par.length≤n->x' n=A.bot)
 (hnew:∀ d∈new,S.un.par[d]? =some d∧d∉r)(huse:∀ (n:Nat) (nd:ar),S.bank.nodes[n]? =some nd->(∃ k∈nd.2,a8 S.un.par k=c)->a8 S.un.par n∈r++new):n9 A S M x' (r++new) s (p - 1):=by
 have cl:c<S.un.par.length:=(List.getElem?_eq_some_iff.mp hc).1
 have rc:a8 S.un.par c=c:=ay hc
 obtain⟨q,rfl⟩:∃ q,p=q+1:=⟨p - 1,by lia⟩
 have up:∀ n,n<S.un.par.length->A.le (x n) (x' n):=fun n hn=>by
  refine a0 (hx' n hn) ?_
  by_cases e:a8 S.un.par n=c
  ·refine a0 (if_pos e) ?_;refine a0 (g.cls n hn) ?_;refine a0 e ?_;exact((hv v).mp (ok.refl v)).1
  ·refine a0 (if_neg e) ?_;exact ok.refl _
 have xc:x' c=v:=by refine a0 (hx' c cl) ?_;refine a0 rc ?_;refine a0 (if_pos rfl) ?_;rfl
 have same:∀ d,S.un.par[d]? =some d->d∉r++new->A.le (Fv A S x' d) (Fv A S x d):=fun d hd hn=>by
  rw[m8 ok I]
  intro m nd hm hr
  have:nd.2.map x'=nd.2.map x:=List.map_congr_left fun k hk=>by
   refine a0 (hx' k (I.hx hm k hk)) ?_
   refine if_neg fun e=>hn ?_
   have:=huse m nd hm (a6 k hk e)
   rw[hr,ay hd] at this
   exact this
  refine a0 this ?_
  exact lJ ok I x hm hr
 have sne:s≠M:=fun e=>by
  subst e
  have:=g.last ok I st cl
  exact ne (ok.anti ((hv _).mpr ⟨ok.refl _,this⟩) ((hv v).mp (ok.refl v)).1)
 refine⟨g.vle.up ok I cl hv (by refine a0 rc ?_;exact hx') ho,fun d hd hn=>?_,fun n hn=>ok.trans (g.lo n hn) (up n hn),fun d hd=>?_,g.sM,by have:=g.pl;simp at this ⊢;exact Nat.le_add_right_of_le this,fun e=>absurd e sne,fun n hn=>?_⟩
 ·refine ok.trans (same d hd hn) ?_
  by_cases e:d=c
  ·subst e;refine a0 xc ?_;exact((hv v).mp (ok.refl v)).2
  ·have dl:=(List.getElem?_eq_some_iff.mp hd).1
   refine ok.trans (g.set d hd fun z=>?_) (up d dl)
   rcases List.mem_cons.mp z with z | z
   ·exact e z
   ·exact hn (List.mem_append_left _ z)
 ·show A.le (Kl A S (s+1) d) (x' d)
  rw[List.drop_append] at hd
  rcases List.mem_append.mp hd with hd | hd
  ·have g1:=g.good d hd
   by_cases dl:d<S.un.par.length
   ·exact ok.trans g1 (up d dl)
   ·refine a0 (ho d (by exact Nat.not_lt.mp dl)) ?_
    have:x d=A.bot:=g.vle.out d (by exact Nat.not_lt.mp dl)
    rw[this] at g1;exact g1
  ·refine a2 (hnew d (List.mem_of_mem_drop hd)) fun d1 d2=>?_
   have dl:=(List.getElem?_eq_some_iff.mp d1).1
   by_cases e:d=c
   ·subst e
    refine a0 xc ?_
    exact ok.trans (ok.trans (ok.tr_le _) (eN ok I g.lo d)) ((hv v).mp (ok.refl v)).2
   ·refine ok.trans (g.goodOut ok I d1 fun z=>?_) (up d dl)
    rcases List.mem_cons.mp z with z | z
    ·exact e z
    ·exact d2 z
 ·refine a0 (hx' n hn) ?_;refine a0 (hx' _ (bL hn)) ?_;refine a0 (c5 I.par hn) ?_;refine a0 (g.cls n hn) ?_;rfl
end
structure ph(W:Wd)(A:An)(C fo fj:Addr)(as:List (Str×a5)):Prop where
 mo:∀ {V:St} {an:Nat},V[an]? =some (.inst C as)->gH W V (.ref an) "of_node" (.ref fo)
 mj:∀ {V:St} {an:Nat},V[an]? =some (.inst C as)->gH W V (.ref an) "joined" (.ref fj)
 co:∀ {n:Nat} {V:St} {an:Nat} {op:Str} {ds:List A.D} {Q:a5->St->Prop},V[an]? =some (.inst C as)->eS op ds.length->(∀ V',aK V [] V' []->Q (A.enc (A.f op ds)) V')->CT W (n+2) (.ref fo) [.ref an,.str op,.frz (ds.map A.enc)] V Q
 cj:∀ {n:Nat} {V:St} {an:Nat} {x y:A.D} {Q:a5->St->Prop},V[an]? =some (.inst C as)->Q (A.enc (A.join x y)) V->CT W (n+2) (.ref fj) [.ref an,A.enc x,A.enc y] V Q
structure KL where
 kp:Nat
 an:Nat
 vp:Nat
 tp:Nat
noncomputable def KL.keys(k:KL):List Nat:=[k.kp,k.an,k.vp]
noncomputable def hZ(k:KL)(hp:Nat):af:=.inst 230 [("heap",.ref hp),("analysis",.ref k.an),("values",.ref k.vp),("told",.ref k.tp)]
noncomputable def KG(A:An)(C:Addr)(as:List (Str×a5))(k:KL)(hp:Nat)(vals:List (Nat×A.D)):aU:=[(k.kp,hZ k hp),(k.an,.inst C as),(k.vp,.idict (vD A vals))]
structure cC(A:An)(C:Addr)(as:List (Str×a5))(V:St)(L:HL)(S:HS)(k:KL)(vals:List (Nat×A.D)):Prop where
 h:ak V L S
 g:b8 V (KG A C as k L.hp vals)
 d:∀ q∈k.keys,q∉L.fp S
theorem ak.other{V V':St}{L:HL}{S:HS}{fp fp':List Nat}(h:ak V L S)(x:aK V fp V' fp')(d:∀ q∈L.fp S,q∉fp):ak V' L S:=
 ⟨h.b.other x fun q hq=>d q (List.mem_append_left _ (by rw[iE] at hq;exact hq)),h.u.other x fun q hq=>d q (List.mem_append_right _ (List.mem_append_left _ (by rw[fd h.lpl] at hq;exact hq))),h.h.other x fun q hq=>d q (List.mem_append_right _ (List.mem_append_right _ (by rw[dM] at hq;exact hq))),h.bu,h.bh,h.uh,h.lpl⟩
section
variable{A:An}{C fo fj:Addr}{as:List (Str×a5)}
theorem cC.quiet{V V':St}{L:HL}{S:HS}{k:KL}{vals:List (Nat×A.D)}(b:cC A C as V L S k vals)(x:aK V [] V' []):cC A C as V' L S k vals:=
 ⟨b.h.other x fun Z Z=>List.not_mem_nil,b.g.other x fun Z Z=>List.not_mem_nil,b.d⟩
theorem cC.heap{V V':St}{L L':HL}{S S':HS}{k:KL}{vals:List (Nat×A.D)}(b:cC A C as V L S k vals)(x:aK V (L.fp S) V' (L'.fp S'))(h:ak V' L' S')(e:L'.hp=L.hp):cC A C as V' L' S' k vals:=
 ⟨h,by refine a0 e ?_;exact b.g.other x b.d,aK.apart b.g x b.d⟩
end
section
variable{prog:Program}{w:World}{H:Heap}{mg mb:Str->Option Value}{U:List Tm}{T:Tm->Tm->Prop}{K:Nat}{A:An}{C fo fj:Addr}{as:List (Str×a5)}
theorem lG{S:HS}{z:ar}{r:Nat}(I:aC U T K S [])(hops:∀ op ts,Tm.mk op ts∈U->eS op ts.length)(h:∃ i x,S.bank.nodes[i]? =some x∧a8 S.un.par i=r∧z=S.nodeKey x):eS z.1 z.2.length:=by
 refine bR h ?_;clear h;intro i x hx hr z4;subst z4
 have hin:=I.inU i (bN hx)
 rw[dQ hx (I.kid _ _ hx)] at hin
 simpa [HS.nodeKey]using hops _ _ hin
theorem ee{n:Nat}{V:St}{L:HL}{S:HS}{k:KL}{vals:List (Nat×A.D)}{c:Nat}{Q:a5->St->Prop}(ok:A.Ok U)(b:cC A C as V L S k vals)(m:dY S)(hc:c<S.un.par.length)(q:Q (A.enc (vf A vals (a8 S.un.par c))) V):CC (W0 prog w H mg mb) (n+3) (.ref 196) [.ref k.kp,.int (Int.ofNat c)] V Q:=by
 refine ag (ps:=["self","c"]) (by rfl) (by rfl) ?_ (by rfl) (by decide) (by rfl) (by decide) (by rfl) ?_ (by rfl) (by rfl) (by rfl)
 ·exact dj fun Z Z=>rfl
 ·have h1:V[k.kp]? =some (.inst 230 [("heap",.ref L.hp),("analysis",.ref k.an),("values",.ref k.vp),("told",.ref k.tp)]):=b.g.get (i:=0) rfl
  have h2:=b.g.get (i:=2) (p:=k.vp) rfl
  have h3:=b.h.hp'
  kd_p
  refine(bv b.h m hc ?_).call
  kd_p
  refine kM h2 ?_
  rw[gL ok]
  exact q
theorem kU{n:Nat}{V:St}{L:HL}{S:HS}{k:KL}{vals:List (Nat×A.D)}{c:Nat}{Q:a5->St->Prop}(ok:A.Ok U)(run:ph (W0 prog w H mg mb) A C fo fj as)(b:cC A C as V L S k vals)(I:aC U T K S [])(hU:U.length≤40)(hK:K≤1000)(hops:∀ op ts,Tm.mk op ts∈U->eS op ts.length)(hc:S.un.par[c]? =some c)
 (q:∀ V' v,aK V [] V' []->(∀ y,A.le v y↔A.le (vf A vals c) y∧A.le (Fv A S (fun n=>vf A vals (a8 S.un.par n)) c) y)->Q (A.enc v) V'):CC (W0 prog w H mg mb) (n+5) (.ref 208) [.ref k.kp,.int (Int.ofNat c)] V Q:=by
 refine ag (ps:=["self","c"]) (by rfl) (by rfl) ?_ (by rfl) (by decide) (by rfl) (by decide) (by rfl) ?_ (by rfl) (by rfl) (by rfl)
 ·exact dj fun Z Z=>rfl
 ·have h1:V[k.kp]? =some (.inst 230 [("heap",.ref L.hp),("analysis",.ref k.an),("values",.ref k.vp),("told",.ref k.tp)]):=b.g.get (i:=0) rfl
  have h2:=b.g.get (i:=2) (p:=k.vp) rfl
  have h3:=b.h.hp'
  have cl:c<S.un.par.length:=(List.getElem?_eq_some_iff.mp hc).1
  have rc:a8 S.un.par c=c:=ay hc
  kd_p
  refine kM h2 ?_
  rw[gL ok]
  walk_at "m"
  walk_at "m"
  refine bP ?_ rfl
  kd_p
  refine(g7 b.h I hU hK cl fun out mem ol=>?_).call
  refine a6 _ rfl ?_
  refine n5 c8 out (fun dn Z ρ V'=>aK V [] V' []∧ρ=([("self",.ref k.kp),("c",.int (Int.ofNat c)),("found",A.enc (dn.foldl (fun acc y=>A.join acc (A.f y.1 (y.2.map (vf A vals)))) (vf A vals c)))]:ai)) (fun ρ V' h=>?_) (fun dn z rest ρ V' KK e2 h hKK=>?_) ⟨.refl,rfl⟩
  ·refine a2 h ?_;clear h;intro X z1;subst z1
   kd_p
   refine q V' _ X fun y=>?_
   rw[ok.fold_le (fun y:ar=>A.f y.1 (y.2.map (vf A vals))),m8 ok I]
   have e9:∀ x:ar,(S.nodeKey x).2.map (vf A vals)=x.2.map (fun k=>vf A vals (a8 S.un.par k)):=fun x=>List.map_map
   refine and_congr_right fun Z=>⟨fun hh i x hx hr=>e9 x▸hh (S.nodeKey x) ((mem _).mpr (d7 i x hx hr rfl)),fun hh z hz=>?_⟩
   refine bR ((mem z).mp hz) fun i x hx hr z4=>?_;subst z4
   refine a0 (e9 ..) ?_
   exact hh i x hx hr
  ·refine a2 h ?_;clear h;intro X z1;subst z1
   have b':=b.quiet X
   have h1':V'[k.kp]? =some (.inst 230 [("heap",.ref L.hp),("analysis",.ref k.an),("values",.ref k.vp),("told",.ref k.tp)]):=b'.g.get (i:=0) rfl
   have h2':=b'.g.get (i:=2) (p:=k.vp) rfl
   have h4':V'[k.an]? =some (.inst C as):=b'.g.get (i:=1) rfl
   have zop:=lG I hops ((mem z).mp (by refine a0 e2 ?_;exact List.mem_append_right _ (.head _)))
   have zl:=ez zop
   clear h1 h2 h3
   walk_at "m"
   walk_at "m"
   refine cg (new:=false) (aE (nm:="kid") rfl ?_) (by rfl) (by rfl)
   refine bG (i:=1) ?_
   kd_p
   refine fh _ rfl (by exact Nat.succ_pos _) (by simp;exact a9 zl (by decide)) ?_
   refine .nats z.2 (fun k=>A.enc (vf A vals k)) rfl (by exact a9 zl (by decide)) (fun j hj K hK=>?_) (List.map_map (f:=vf A vals)).symm (a6 _ rfl ?_)
   ·kd_p
    refine kM h2' ?_
    rw[gL ok]
    exact hK
   ·kd_p
    refine a6 _ (run.mj h4') ?_
    kd_p
    refine a6 _ (run.mo h4') ?_
    kd_p
    refine cS (i:=0) (xs:=.str z.1::nats z.2) (Nat.zero_le _) rfl ?_
    kd_p
    refine run.co h4' (by refine a0 (List.length_map ..) ?_;exact zop) fun V₂ X2=>?_
    kd_p
    refine run.cj ((b.quiet (X.trans X2)).g.get (i:=1) rfl) ?_
    kd_p
    exact⟨rfl,hKK _ _ V₂ (Sub.app (ext:=[("node",_),("kids",_)])) ⟨X.trans X2,by refine a0 List.foldl_append ?_;rfl;try rfl⟩⟩
end
noncomputable def qg(A:An)(S:HS)(vals:List (Nat×A.D))(ks:List Nat)(acc:List (Nat×A.D)):List (Nat×A.D):=ks.foldl (fun acc c=>eV acc (a8 S.un.par c) (A.join (vf A acc (a8 S.un.par c)) (vf A vals c))) acc
theorem qf{A:An}{U:List Tm}(ok:A.Ok U)(S:HS)(vals:List (Nat×A.D))(c:Nat)(z:A.D):∀ (ks:List Nat) (acc:List (Nat×A.D)),A.le (vf A (qg A S vals ks acc) c) z↔A.le (vf A acc c) z∧∀ k∈ks,a8 S.un.par k=c->A.le (vf A vals k) z
 | [],acc=>by simp[qg]
 | k::ks,acc=>by
   have ih:=qf ok S vals c z ks (eV acc (a8 S.un.par k) (A.join (vf A acc (a8 S.un.par k)) (vf A vals k)))
   show A.le (vf A (qg A S vals ks _) c) z↔_
   refine bt ih ?_;refine a0 (t7 ..) ?_
   by_cases e:c=a8 S.un.par k
   ·subst e
    refine a0 (if_pos rfl) ?_;refine bt ok.join_le ?_
    simp[and_assoc]
   ·refine a0 (if_neg e) ?_
    have:¬a8 S.un.par k=c:=fun z=>e z.symm
    simp[this]
set_option tactic.hygienic true in
theorem ib{A:An}(S:HS)(vals:List (Nat×A.D))(c:Nat):∀ (ks:List Nat) (acc:List (Nat×A.D)),c∈(qg A S vals ks acc).map (fun x=>x.1)↔c∈acc.map (fun x=>x.1)∨∃ k∈ks,a8 S.un.par k=c
 | [],acc=>by simp[qg]
 | k::ks,acc=>by
   have ih:=ib S vals c ks (eV acc (a8 S.un.par k) (A.join (vf A acc (a8 S.un.par k)) (vf A vals k)))
   show c∈(qg A S vals ks _).map (fun x=>x.1)↔_
   refine bt ih ?_;refine a0 (ir ..) ?_
   constructor
   ·rintro(h | ⟨j,hj,e⟩)
    ·split at h
     ·exact .inl h
     ·rcases List.mem_append.mp h with h | h
      ·exact .inl h
      ·exact .inr (a6 k (.head _) ((List.mem_singleton.mp h).symm))
    ·exact .inr (a6 j (.tail _ hj) e)
   ·rintro(h | ⟨j,hj,e⟩)
    ·refine .inl ?_
     split
     ·exact h
     ·exact List.mem_append_left _ h
    ·rcases List.mem_cons.mp hj with rfl | hj
     ·refine .inl ?_
      refine aX e ?_
      split
      ·rename_i h;exact h
      ·exact List.mem_append_right _ (.head _)
     ·exact .inr (a6 j hj e)
theorem iI{A:An}(S:HS)(vals:List (Nat×A.D)):∀ (ks:List Nat) (acc:List (Nat×A.D)),(acc.map (fun x=>x.1)).Nodup->((qg A S vals ks acc).map (fun x=>x.1)).Nodup
 | [],acc,h=>h
 | k::ks,acc,h=>iI S vals ks _ (jx h _ _)
structure mX(A:An)(S:HS)(vals:List (Nat×A.D)):Prop where
 nd:(vals.map (fun x=>x.1)).Nodup
 lt:∀ c∈vals.map (fun x=>x.1),c<S.un.par.length
 vle:uJ A S (vf A vals)
theorem mX.ext{A:An}{U:List Tm}{S S':HS}{vals:List (Nat×A.D)}(ok:A.Ok U)(h:mX A S vals)(X:jp S S'):mX A S' vals:=⟨h.nd,fun c hc=>Nat.lt_of_lt_of_le (h.lt c hc) X.len,h.vle.ext ok X⟩
theorem wR{A:An}{vals:List (Nat×A.D)}{c:Nat}(cm:c∈vals.map (fun x=>x.1)):bb (vD A vals) (Int.ofNat c)=some (A.enc (vf A vals c)):=by
 have:=dH vals c
 rw[decide_eq_true cm] at this
 refine aH (Option.isSome_iff_exists.mp this) fun e he=>?_
 refine a0 (mn ..) ?_
 unfold vf
 refine a0 he ?_;rfl
theorem cC.newVals{A:An}{C:Addr}{as:List (Str×a5)}{V V':St}{L:HL}{S:HS}{k:KL}{vals vs:List (Nat×A.D)}(b:cC A C as V L S k vals)(X:aK V [] V' [])(hf:V'[V.length]? =some (.idict (vD A vs))):
 cC A C as (V'.set k.kp (hZ {k with vp:=V.length} L.hp)) L S {k with vp:=V.length} vs∧aK V k.keys (V'.set k.kp (hZ {k with vp:=V.length} L.hp)) (KL.keys {k with vp:=V.length}):=by
 have g:=b.g.join (G':=[(V.length,.idict (vD A vs))]) ⟨X.len,X.keep,fun q h=>.inr (Nat.le_of_eq (List.mem_singleton.mp h).symm)⟩ ⟨fun p h=>List.mem_singleton.mp h▸hf,List.pairwise_singleton _ _⟩
 have kk:k.kp∈k.keys:=.head _
 have X2:aK V k.keys (V'.set k.kp (hZ {k with vp:=V.length} L.hp)) (k.keys++[V.length]):=aK.setH ⟨X.len,fun q h Z=>X.keep q h List.not_mem_nil,fun q h=>(List.mem_append.mp h).imp id fun h=>Nat.le_of_eq (List.mem_singleton.mp h).symm⟩ (List.mem_append_left _ kk) _
 have sub:∀ q∈KL.keys {k with vp:=V.length},q∈k.keys++[V.length]:=fun q h=>aU.pick_sub (G:=[(k.kp,.list []),(k.an,.list []),(k.vp,.list []),(V.length,.list [])]) (is:=[0,1,3]) h
 refine⟨⟨(b.quiet X).h.other (fp:=[k.kp]) (fp':=[k.kp]) (.set (.head _) _) fun q hq hq'=>b.d k.kp kk (List.mem_singleton.mp hq'▸hq),(g.set (i:=0) (hZ {k with vp:=V.length} L.hp) rfl).pick [0,1,3] (by decide),fun q hq hq'=>?_⟩,X2.len,X2.keep,fun q h=>X2.fresh q (sub q h)⟩
 rcases List.mem_append.mp (sub q hq)with h | h
 ·exact b.d q h hq'
 ·exact Nat.lt_irrefl _ (List.mem_singleton.mp h▸b.h.lt q hq')
section
variable{prog:Program}{w:World}{H:Heap}{mg mb:Str->Option Value}{U:List Tm}{T:Tm->Tm->Prop}{K:Nat}{A:An}{C fo fj:Addr}{as:List (Str×a5)}
theorem qj{n:Nat}{V:St}{L:HL}{S:HS}{k:KL}{vals:List (Nat×A.D)}{Q:a5->St->Prop}(ok:A.Ok U)(run:ph (W0 prog w H mg mb) A C fo fj as)(b:cC A C as V L S k vals)(m:dY S)(p:mX A S vals)(hn:S.un.par.length≤40)
 (q:∀ V' vp kn,kn.Perm (vals.map (fun x=>x.1))->cC A C as V' L S {k with vp:=vp} (qg A S vals kn [])->aK V k.keys V' (KL.keys {k with vp:=vp})->Q .none V'):CC (W0 prog w H mg mb) (n+4) (.ref 203) [.ref k.kp] V Q:=by
 refine ag (ps:=["self"]) (by rfl) (by rfl) ?_ (by rfl) (by decide) (by rfl) (by decide) (by rfl) ?_ (by rfl) (by rfl) (by rfl)
 ·exact f9 fun Z=>rfl
 ·have vl:vals.length≤40:=by
   have:=bT p.nd p.lt
   simp at this;exact a9 this hn
  kd_p
  refine fU ?_
  walk_at "m"
  have X0:aK V [] (V++[af.idict []]) []:=.grow _
  have hf0:(V++[af.idict []])[V.length]? =some (.idict (vD A [])):=by refine a0 (List.getElem?_append_right (Nat.le_refl _)) ?_;simp[vD]
  generalize (V++[af.idict []])=V0 at X0 hf0 ⊢
  have b0:=b.quiet X0
  have h1:V0[k.kp]? =some (.inst 230 [("heap",.ref L.hp),("analysis",.ref k.an),("values",.ref k.vp),("told",.ref k.tp)]):=b0.g.get (i:=0) rfl
  have h2:=b0.g.get (i:=2) (p:=k.vp) rfl
  walk_at "m"
  refine bP ?_ rfl
  kd_p
  refine cG h2 (by simp[vD];lia) fun ks pk po=>?_
  obtain⟨kn,kn1,kn2,kn3⟩:=jR (l:=vals.map (fun x=>x.1)) (by
   have e:(vD A vals).map (fun x=>x.1)=(vals.map (fun x=>x.1)).map Int.ofNat:=by unfold vD;refine a0 List.map_map ?_;refine a0 List.map_map ?_;rfl
   refine aX e ?_;exact pk) po
  refine a0 kn1 ?_
  refine a6 (nats kn) rfl ?_
  have knl:=kn2.length_eq
  simp only[List.length_map] at knl
  refine dE (fun n=>.int (Int.ofNat n)) kn (fun dn Z V'=>V'[V.length]? =some (.idict (vD A (qg A S vals dn [])))∧aK V [] V' []) (fun V' h=>?_) (fun dn c rest V' KK e2 h hKK=>?_) ⟨hf0,X0⟩
  ·refine a2 h fun hf X=>?_
   have h1':V'[k.kp]? =some (.inst 230 [("heap",.ref L.hp),("analysis",.ref k.an),("values",.ref k.vp),("told",.ref k.tp)]):=(b.quiet X).g.get (i:=0) rfl
   have fin:=b.newVals X hf
   kd_p
   refine tE (C:=230) h1' (show(4:Nat)<20 by decide) (aG rfl) (by rfl) ?_
   kd_p
   exact q _ V.length kn kn2 fin.1 fin.2
  ·refine a2 h fun hf X=>?_
   have b':=b.quiet X
   have h1':V'[k.kp]? =some (.inst 230 [("heap",.ref L.hp),("analysis",.ref k.an),("values",.ref k.vp),("told",.ref k.tp)]):=b'.g.get (i:=0) rfl
   have h2':=b'.g.get (i:=2) (p:=k.vp) rfl
   have h3':=b'.h.hp'
   have h4':V'[k.an]? =some (.inst C as):=b'.g.get (i:=1) rfl
   have cm:c∈vals.map (fun x=>x.1):=kn2.mem_iff.mp (by refine a0 e2 ?_;exact List.mem_append_right _ (.head _))
   have cl:=p.lt c cm
   clear h1 h2
   have len:=bT (n:=S.un.par.length) (iI S vals dn [] List.nodup_nil) fun c hc=>by
    rcases(ib S vals c dn []).mp hc with h | ⟨j,hj,rfl⟩
    ·cases h
    ·exact bL (p.lt j (kn2.mem_iff.mp (by refine a0 e2 ?_;simp[hj])))
   rw[List.length_map] at len
   kd_p
   refine(bv b'.h m cl ?_).call
   kd_p
   refine a6 _ (run.mj h4') ?_
   kd_p
   refine kM hf ?_
   rw[gL ok]
   kd_p
   refine cO h2' (wR cm) ?_
   kd_p
   refine run.cj h4' ?_
   kd_p
   refine bS (.idict (vD A (qg A S vals (dn++[c]) []))) hf (by simp[vD];exact a9 len (a9 hn (by decide))) (by refine a0 (t8 ..) ?_;unfold qg;refine a0 List.foldl_append ?_;rfl) ?_
   kd_p
   exact⟨rfl,hKK _ _ (Sub.app (ext:=[("c",_),("kept",_)])) ⟨List.getElem?_set_self (bN hf),X.setNew (.inl (Nat.le_refl _)) _⟩⟩
end
theorem xG{c:Nat}{r:List Nat}(h:c∉r):gC (bD (c::r)) (Int.ofNat c)=bD r:=by
 unfold gC bD
 refine a0 List.map_cons ?_;refine a0 List.filter_cons ?_;refine a0 (if_neg (by simp)) ?_;rewrite[List.filter_eq_self.mpr];rfl
 intro e he
 refine a7 (List.mem_map.mp he) fun d hd z2=>?_;subst z2
 refine decide_eq_true fun z=>h ?_
 refine aX (Int.ofNat.inj z) ?_;exact hd
section
variable{W:Wd}{n:Nat}{sc:ah}{ρ:ai}{V:St}
theorem su{k v:Expr}{g:Comprehension}{scope:Scope}{nm:Str}{Q:a5->St->Prop}(hn:dt g.target=some nm)(hi:g.ifs=[])
 (h:ET W n sc g.iter ρ V (fun a V'=>∃ l:List Nat,aI V' a=some (nats l)∧l.Nodup∧l.length≤1000∧(∀ c∈l,∀ K:a5->St->Prop,K (.int (Int.ofNat c)) V'->ET W n (aw scope.names sc) k (aJ (aR scope.names sc ρ) nm (.int (Int.ofNat c))) V' K)∧
  (∀ c∈l,∀ K:a5->St->Prop,K (.bool true) V'->ET W n (aw scope.names sc) v (aJ (aR scope.names sc ρ) nm (.int (Int.ofNat c))) V' K)∧Q (.ref V'.length) (V'++[.idict (bD l)]))):dZ W n sc true (.dict k v) g [] scope ρ V Q:=by
 unfold dZ
 intro A env φ s R N F
 refine(h A env φ s R N F).mono fun a V' z=>mO z fun l h1 nd hl z=>a3 z fun hk hv q=>a6 _ h1 ?_
 refine fQ (I:=fun xs acc ρ' V₂=>V₂=V'∧(∃ dn rest,xs=nats rest∧l=dn++rest∧acc=.idict (bD dn))∧∀ x,aJ ρ' nm x=aJ (aR scope.names sc ρ) nm x) ?_ ?_ _ _ _ _ (i3 rfl (d7 ([]) l rfl rfl rfl) (fun Z=>rfl))
 ·rintro acc ρ' V₂ ⟨rfl,⟨dn,rest,e1,e2,rfl⟩,_⟩
  obtain rfl:=tM e1
  rw[List.append_nil] at e2
  subst e2
  exact q
 ·rintro x xs acc ρ' V₂ K ⟨rfl,⟨dn,rest,e1,e2,rfl⟩,hρ⟩ hK
  refine bR (rT e1) fun c rest z2 z3 z4=>?_;subst z2;subst z3;subst z4
  have cm:c∈l:=by refine a0 e2 ?_;exact List.mem_append_right _ (.head _)
  refine a6 nm hn ?_
  refine a0 (hρ ..) ?_;refine a0 hi ?_
  refine cD ?_
  refine ite_pos rfl ?_
  have dl:dn.length≤1000:=by rw[e2] at hl;simp at hl;lia
  refine aP _ rfl (by simp[bD];exact a9 dl (by decide)) (hk c cm _ (a6 _ rfl (hv c cm _ ?_)))
  refine a0 (mU (fun z=>by rw[e2] at nd;exact(List.nodup_append.mp nd).2.2 c z c (.head _) rfl)) ?_
  exact hK _ _ _ h1 (i3 rfl (d7 (dn++[c]) rest rfl (by refine a0 e2 ?_;simp) rfl) (fun y=>iJ _ _ _ _))
end
theorem bW{V:St}{a:a5}(h:okv 50 a=true):bA V a=a:=by
 cases a<;>first | rfl | exact nomatch (show false=true from h)
theorem cC.setOff{A:An}{C:Addr}{as:List (Str×a5)}{V:St}{L:HL}{S:HS}{k:KL}{vals:List (Nat×A.D)}(b:cC A C as V L S k vals){p:Nat}(o:af)(h1:∀ q∈L.fp S,q≠p)(h2:∀ q∈k.keys,q≠p):cC A C as (V.set p o) L S k vals:=
 ⟨b.h.other (fp:=[p]) (fp':=[p]) (.set (by exact .head _) _) fun q hq hq'=>h1 q hq (List.mem_singleton.mp hq'),b.g.other (fp:=[p]) (fp':=[p]) (.set (by exact .head _) _) fun q hq hq'=>h2 q hq (List.mem_singleton.mp hq'),b.d⟩
theorem cC.setVals{A:An}{C:Addr}{as:List (Str×a5)}{V:St}{L:HL}{S:HS}{k:KL}{vals vals':List (Nat×A.D)}(b:cC A C as V L S k vals):cC A C as (V.set k.vp (.idict (vD A vals'))) L S k vals':=
 ⟨b.h.other (fp:=[k.vp]) (fp':=[k.vp]) (.set (by exact .head _) _) fun q hq hq'=>b.d k.vp (by simp[KL.keys]) (List.mem_singleton.mp hq'▸hq),b.g.set (i:=2) _ rfl,b.d⟩
structure fw(A:An)(S:HS)(vals vals':List (Nat×A.D)):Prop where
 nd:(vals'.map (fun x=>x.1)).Nodup
 rt:∀ c∈vals'.map (fun x=>x.1),S.un.par[c]? =some c
 vle:uJ A S (vf A vals')
 post:∀ c,S.un.par[c]? =some c->A.le (Fv A S (fun n=>vf A vals' (a8 S.un.par n)) c) (vf A vals' c)
 same:(∀ c∈vals.map (fun x=>x.1),S.un.par[c]? =some c)->(∀ c,S.un.par[c]? =some c->A.le (Fv A S (fun n=>vf A vals (a8 S.un.par n)) c) (vf A vals c))->(∀ c,vf A vals' c=vf A vals c)∧∀ c,c∈vals'.map (fun x=>x.1)↔c∈vals.map (fun x=>x.1)
theorem jH{par:List Nat}{n:Nat}(h:par.length≤n):a8 par n=n:=ji (List.getElem?_eq_none_iff.mpr h)
theorem oK{A:An}{U:List Tm}(ok:A.Ok U){S:HS}{vals:List (Nat×A.D)}{kn:List Nat}(pm:kn.Perm (vals.map (fun x=>x.1)))(rt:∀ c∈vals.map (fun x=>x.1),S.un.par[c]? =some c)(c:Nat):vf A (qg A S vals kn []) c=vf A vals c:=by
 refine ok.eq_of fun z=>?_
 rw[qf ok]
 have e0:A.le (vf A ([]:List (Nat×A.D)) c) z:=ok.bot_le z
 constructor
 ·intro h
  refine⟨e0,fun k hk hr=>?_⟩
  have:=rt k (pm.mem_iff.mp hk)
  rw[ay this] at hr
  subst hr;exact h
 ·rintro⟨_,h⟩
  by_cases q:c∈vals.map (fun x=>x.1)
  ·exact h c (pm.mem_iff.mpr q) (ay (rt c q))
  ·refine a0 (mi A q) ?_;exact ok.bot_le z
noncomputable def xI(A:An)(S:HS)(vals:List (Nat×A.D)):Prop:=(∀ c∈vals.map (fun x=>x.1),S.un.par[c]? =some c)∧∀ c,S.un.par[c]? =some c->A.le (Fv A S (fun n=>vf A vals (a8 S.un.par n)) c) (vf A vals c)
structure qY(A:An)(S:HS)(M:Nat)(vals:List (Nat×A.D))(kn:List Nat)(vs:List (Nat×A.D))(rest:List Nat)(s p:Nat):Prop where
 nd:rest.Nodup
 rt:∀ c∈rest,S.un.par[c]? =some c
 g:n9 A S M (fun n=>vf A vs (a8 S.un.par n)) rest s p
 vnd:(vs.map (fun x=>x.1)).Nodup
 vrt:∀ c∈vs.map (fun x=>x.1),S.un.par[c]? =some c
 vst:xI A S vals->vs=qg A S vals kn []
theorem gV{par l:List Nat}(h:∀ c∈l,par[c]? =some c)(nd:l.Nodup):l.length≤par.length:=bT nd fun c hc=>bN (h c hc)
theorem pv(A:An){S:HS}{vs:List (Nat×A.D)}(h:∀ c∈vs.map (fun x=>x.1),S.un.par[c]? =some c){n:Nat}(hn:S.un.par.length≤n):vf A vs n=A.bot:=mi A fun z=>absurd (bN (h n z)) (Nat.not_lt.mpr hn)
section
variable{U:List Tm}{T:Tm->Tm->Prop}{K:Nat}{A:An}{S:HS}{M:Nat}{vals vs:List (Nat×A.D)}{kn:List Nat}{rest r:List Nat}{c s p:Nat}
theorem qY.start(ok:A.Ok U)(I:aC U T K S [])(P:mX A S vals)(pm:kn.Perm (vals.map (fun x=>x.1))):qY A S M vals kn (qg A S vals kn []) (aA S.un.par) 0 (aA S.un.par).length:=by
 have rt:∀ c∈(qg A S vals kn []).map (fun x=>x.1),S.un.par[c]? =some c:=fun c hc=>by
  rcases(ib S vals c kn []).mp hc with h | ⟨j,hj,rfl⟩
  ·cases h
  ·exact bj I.par (P.lt j (pm.mem_iff.mp hj))
 refine⟨eY _,fun c hc=>dU.mp hc,⟨⟨fun z hz c hc=>?_,fun n hn=>(congrArg (vf A _) (jH hn)).trans (pv A rt hn)⟩,fun c hc hn=>absurd (dU.mpr hc) hn,fun n Z=>ok.bot_le _,fun c hc=>absurd hc (by refine a0 List.drop_length ?_;exact List.not_mem_nil),Nat.zero_le _,Nat.le_refl _,fun Z=>rfl,fun n hn=>congrArg _ (c5 I.par hn).symm⟩,iI S vals kn [] List.nodup_nil,rt,fun Z=>rfl⟩
 refine(qf ok S vals _ _ kn []).mpr ⟨ok.bot_le _,fun j hj hr=>?_⟩
 have jl:=P.lt j (pm.mem_iff.mp hj)
 refine a0 (hz.cls c j hc jl hr.symm) ?_
 exact P.vle.le z hz j jl
theorem qY.fin(ok:A.Ok U)(pm:kn.Perm (vals.map (fun x=>x.1)))(R:qY A S M vals kn vs [] s p):fw A S vals vs:=by
 refine⟨R.vnd,R.vrt,⟨fun z hz c hc=>?_,fun c hc=>pv A R.vrt hc⟩,fun c hc=>?_,fun z1 z2=>?_⟩
 ·by_cases hcr:S.un.par[c]? =some c
  ·have:=R.g.vle.le z hz c hc
   rw[ay hcr] at this
   exact this
  ·refine a0 (mi A fun z=>hcr (R.vrt c z)) ?_;exact ok.bot_le _
 ·have:=R.g.set c hc List.not_mem_nil
  rw[ay hc] at this
  exact this
 ·refine a0 (R.vst ⟨z1,z2⟩) ?_
  refine⟨oK ok pm z1,fun c=>(ib S vals c kn []).trans ⟨fun h=>?_,fun h=>.inr (a6 c (pm.mem_iff.mpr h) (ay (z1 c h)))⟩⟩
  rcases h with h | ⟨j,hj,rfl⟩
  ·cases h
  ·have hj':=pm.mem_iff.mp hj
   refine a0 (ay (z1 j hj')) ?_;exact hj'
theorem qY.norm(ok:A.Ok U)(I:aC U T K S [])(R:qY A S M vals kn vs (c::r) s p):∃ s' p',qY A S M vals kn vs (c::r) s' p'∧1≤p'∧aS S M s' p'≤aS S M s p:=by
 refine bR (R.g.norm ok I (gV R.rt R.nd) (Nat.zero_lt_succ _) (M - s) s p rfl) fun s' p' g' h1 h2=>?_
 exact d7 s' p' ⟨R.nd,R.rt,g',R.vnd,R.vrt,R.vst⟩ h1 h2
theorem qY.same(ok:A.Ok U)(I:aC U T K S [])(R:qY A S M vals kn vs (c::r) s p)(h1:1≤p)(hv:A.le (Fv A S (fun n=>vf A vs (a8 S.un.par n)) c) (vf A vs c)):qY A S M vals kn vs r s (p - 1):=
 ⟨(List.nodup_cons.mp R.nd).2,fun d hd=>R.rt d (.tail _ hd),R.g.stepA ok I h1 (by show A.le _ (vf A vs (a8 S.un.par c));refine a0 (ay (R.rt c (.head _))) ?_;exact hv),R.vnd,R.vrt,R.vst⟩
theorem qY.step(ok:A.Ok U)(I:aC U T K S [])(st:∀ n,n<S.un.par.length->Kl A S (M+1) n=Kl A S M n)(pm:kn.Perm (vals.map (fun x=>x.1)))(R:qY A S M vals kn vs (c::r) s p)(h1:1≤p){v:A.D}(hv:∀ y,A.le v y↔A.le (vf A vs c) y∧A.le (Fv A S (fun n=>vf A vs (a8 S.un.par n)) c) y)(e:v≠vf A vs c)
 {new:List Nat}(nd:(r++new).Nodup)(hnew:∀ d∈new,S.un.par[d]? =some d∧d∉r)(huse:∀ (m:Nat) (x:ar),S.bank.nodes[m]? =some x->(∃ k∈x.2,a8 S.un.par k=c)->a8 S.un.par m∈r++new):qY A S M vals kn (eV vs c v) (r++new) s (p - 1):=by
 have crt:=R.rt c (.head _)
 have vrt:∀ d∈(eV vs c v).map (fun x=>x.1),S.un.par[d]? =some d:=fun d hd=>by
  rw[ir] at hd
  split at hd
  ·exact R.vrt d hd
  ·rcases List.mem_append.mp hd with hd | hd
   ·exact R.vrt d hd
   ·refine a0 (List.mem_singleton.mp hd) ?_;exact crt
 refine⟨nd,fun d hd=>(List.mem_append.mp hd).elim (fun h=>R.rt d (.tail _ h)) fun h=>(hnew d h).1,n9.stepB ok I st R.g h1 crt (v:=v) ?_ ?_ (fun n Z=>t7 A vs c v _) (fun n hn=>(congrArg (vf A _) (jH hn)).trans (pv A vrt hn)) hnew huse,jx R.vnd c v,vrt,fun hs=>absurd ?_ e⟩
 ·show ∀ y,A.le v y↔A.le (vf A vs (a8 S.un.par c)) y∧_
  refine a0 (ay crt) ?_;exact hv
 ·show v≠vf A vs (a8 S.un.par c)
  refine a0 (ay crt) ?_;exact e
 ·have fe:∀ c,vf A vs c=vf A vals c:=fun c=>by refine a0 (R.vst hs) ?_;exact oK ok pm hs.1 c
  have q:=hs.2 c crt
  simp only[← fe] at q
  exact ok.anti ((hv _).mpr ⟨ok.refl _,q⟩) ((hv v).mp (ok.refl v)).1
end
structure mZ(A:An)(C:Addr)(as:List (Str×a5))(V0:St)(L:HL)(S:HS)(k k1:KL)(rp:Nat)(vs:List (Nat×A.D))(rl wl:List Nat)(V:St):Prop where
 b:cC A C as V L S k1 vs
 X:aK V0 k.keys V k1.keys
 hr:V[rp]? =some (.list (nats rl))
 hw:V[rp+1]? =some (.idict (bD wl))
 f1:∀ q∈L.fp S,q<rp
 f2:∀ q∈k1.keys,q<rp
 l:V0.length≤rp
section
variable{A:An}{C:Addr}{as:List (Str×a5)}{V0:St}{L:HL}{S:HS}{k k1:KL}{rp:Nat}{vs:List (Nat×A.D)}{rl wl:List Nat}{V:St}
theorem mZ.setW(h:mZ A C as V0 L S k k1 rp vs rl wl V)(wl':List Nat):mZ A C as V0 L S k k1 rp vs rl wl' (V.set (rp+1) (.idict (bD wl'))):=
 ⟨h.b.setOff _ (fun q hq=>Nat.ne_of_lt (Nat.lt_succ_of_lt (h.f1 q hq))) fun q hq=>Nat.ne_of_lt (Nat.lt_succ_of_lt (h.f2 q hq)),h.X.setNew (.inl (Nat.le_succ_of_le h.l)) _,by refine a0 (List.getElem?_set_ne (Nat.succ_ne_self _)) ?_;exact h.hr,List.getElem?_set_self (bN h.hw),h.f1,h.f2,h.l⟩
theorem mZ.setR(h:mZ A C as V0 L S k k1 rp vs rl wl V)(rl':List Nat):mZ A C as V0 L S k k1 rp vs rl' wl (V.set rp (.list (nats rl'))):=
 ⟨h.b.setOff _ (fun q hq=>Nat.ne_of_lt (h.f1 q hq)) fun q hq=>Nat.ne_of_lt (h.f2 q hq),h.X.setNew (.inl h.l) _,List.getElem?_set_self (bN h.hr),by refine a0 (List.getElem?_set_ne (Nat.ne_of_lt (Nat.lt_succ_self _))) ?_;exact h.hw,h.f1,h.f2,h.l⟩
theorem mZ.setV(h:mZ A C as V0 L S k k1 rp vs rl wl V)(vs':List (Nat×A.D)):mZ A C as V0 L S k k1 rp vs' rl wl (V.set k1.vp (.idict (vD A vs'))):=
 have vk:k1.vp∈k1.keys:=.tail _ (.tail _ (.head _))
 ⟨h.b.setVals,h.X.setNew (h.X.fresh k1.vp vk).symm _,by refine a0 (List.getElem?_set_ne (Nat.ne_of_lt (h.f2 _ vk))) ?_;exact h.hr,by refine a0 (List.getElem?_set_ne (Nat.ne_of_lt (Nat.lt_succ_of_lt (h.f2 _ vk)))) ?_;exact h.hw,h.f1,h.f2,h.l⟩
theorem mZ.quiet{V':St}(h:mZ A C as V0 L S k k1 rp vs rl wl V)(x:aK V [] V' []):mZ A C as V0 L S k k1 rp vs rl wl V':=
 ⟨h.b.quiet x,h.X.trans x.widen,(x.keep rp (bN h.hr) List.not_mem_nil).trans h.hr,(x.keep (rp+1) (bN h.hw) List.not_mem_nil).trans h.hw,h.f1,h.f2,h.l⟩
theorem mZ.kk(h:mZ A C as V0 L S k k1 rp vs rl wl V):V[k1.kp]? =some (.inst 230 [("heap",.ref L.hp),("analysis",.ref k1.an),("values",.ref k1.vp),("told",.ref k1.tp)]):=h.b.g.get (i:=0) rfl
theorem mZ.start{V1:St}(b:cC A C as V1 L S k1 vs)(X:aK V0 k.keys V1 k1.keys)(l:List Nat):mZ A C as V0 L S k k1 V1.length vs l l ((V1++[af.list (nats l)])++[af.idict (bD l)]):=
 ⟨b.quiet ((aK.grow _).trans (.grow _)),(X.grow' _).grow' _,by simp,by refine a0 (List.getElem?_append_right (by simp)) ?_;simp,b.h.lt,fun q hq=>b.g.lt hq,X.len⟩
end
inductive zF(A:An)(C:Addr)(as:List (Str×a5))(V0:St)(L:HL)(S:HS)(k k1:KL)(rp M:Nat)(vals:List (Nat×A.D))(kn:List Nat)(i:Nat)(ρ:ai)(V:St):Prop
 | mk (vs:List (Nat×A.D)) (dn rest:List Nat) (s p:Nat) (st:mZ A C as V0 L S k k1 rp vs (dn++rest) rest V) (R:qY A S M vals kn vs rest s p) (bd:dn.length+aS S M s p≤20000) (e:i=aS S M s p) (hρ:ρ=([("self",.ref k1.kp),("row",.ref rp),("waiting",.ref (rp+1)),("spot",.int (Int.ofNat dn.length))]:ai))
inductive zz(A:An)(C:Addr)(as:List (Str×a5))(V0:St)(L:HL)(S:HS)(k k1:KL)(rp:Nat)(vs:List (Nat×A.D))(dn r:List Nat)(dn2 rest2:List Nat)(V:St):Prop
 | mk (new:List Nat) (st:mZ A C as V0 L S k k1 rp vs (dn++(r++new)) (r++new) V) (nd:(r++new).Nodup) (hnew:∀ d∈new,S.un.par[d]? =some d∧d∉r) (huse:∀ u∈dn2,a8 S.un.par u∈r++new)
theorem ut(dn:List Nat)(c:Nat):Int.ofNat (dn++[c]).length=Int.ofNat dn.length+1:=by refine a0 List.length_append ?_;rfl
section
variable{prog:Program}{w:World}{H:Heap}{mg mb:Str->Option Value}{U:List Tm}{T:Tm->Tm->Prop}{K:Nat}{A:An}{C fo fj:Addr}{as:List (Str×a5)}
set_option maxHeartbeats 2000000 in
theorem hW{n:Nat}{V:St}{L:HL}{S:HS}{k:KL}{vals:List (Nat×A.D)}{Q:a5->St->Prop}(ok:A.Ok U)(run:ph (W0 prog w H mg mb) A C fo fj as)(b:cC A C as V L S k vals)(I:aC U T K S [])(hU:U.length≤40)(hK:K≤1000)(hops:∀ op ts,Tm.mk op ts∈U->eS op ts.length)(p:mX A S vals)
 (q:∀ V' vp vals',cC A C as V' L S {k with vp:=vp} vals'->aK V k.keys V' (KL.keys {k with vp:=vp})->fw A S vals vals'->Q .none V'):CC (W0 prog w H mg mb) (n+6) (.ref 213) [.ref k.kp] V Q:=by
 refine ag (ps:=["self"]) (by rfl) (by rfl) ?_ (by rfl) (by decide) (by rfl) (by decide) (by rfl) ?_ (by rfl) (by rfl) (by rfl)
 ·exact f9 fun Z=>rfl
 ·have m:=I.small hU
  have size:=I.size
  have pn:=I.pn
  have h1:V[k.kp]? =some (.inst 230 [("heap",.ref L.hp),("analysis",.ref k.an),("values",.ref k.vp),("told",.ref k.tp)]):=b.g.get (i:=0) rfl
  kd_p
  refine(qj ok run b m p (by exact a9 (Nat.le_of_eq pn) (a9 size hU)) fun V1 vp kn pm b1 X1=>?_).call
  clear h1
  replace q:=q (vp:=vp)
  have ekp:KL.kp {k with vp:=vp}=k.kp:=rfl
  generalize ({k with vp:=vp}:KL)=k1 at b1 X1 q ekp
  have h1:V1[k1.kp]? =some (.inst 230 [("heap",.ref L.hp),("analysis",.ref k1.an),("values",.ref k1.vp),("told",.ref k1.tp)]):=b1.g.get (i:=0) rfl
  have h3:=b1.h.hp'
  refine aX ekp ?_
  kd_p
  refine(g8 b1.h m ?_).call
  kd_p
  have rl:=tz S.un.par
  refine r8 (a:=.frz _) rfl (by simp;exact a9 (a9 rl (a9 (Nat.le_of_eq pn) (a9 size hU))) (by decide)) ?_
  walk_at "m"
  walk_at "m"
  refine cg (new:=true) (c:=.dict _ _) (su (nm:="c") rfl rfl ?_) (by rfl) (by rfl)
  kd_p
  refine⟨aA S.un.par,fP (by refine a0 (List.getElem?_append_right (Nat.le_refl _)) ?_;simp),eY _,by exact a9 (a9 rl (a9 (Nat.le_of_eq pn) (a9 size hU))) (by decide),fun c Z K hK=>?_,fun c Z K hK=>?_,?_⟩
  ·kd_p
   exact hK
  ·kd_p
   exact hK
  have st0:=mZ.start b1 X1 (aA S.un.par)
  refine a0 (show(V1++[af.list (nats (aA S.un.par))]).length=V1.length+1 by exact List.length_append ..) ?_
  clear h1 h3
  generalize (V1++[af.list (nats (aA S.un.par))])++[af.idict (bD (aA S.un.par))]=V2 at st0 ⊢
  generalize V1.length=rp at st0 ⊢
  clear b1 X1
  refine a7 (wv (A:=A) ok I) fun M hM st=>?_
  have Cst:aS S M 0 (aA S.un.par).length≤20000:=by
   unfold aS
   have h1:M*(S.un.par.length+1)≤320*41:=Nat.mul_le_mul (by exact a9 hM (Nat.mul_le_mul (Nat.le_refl _) (a9 (Nat.le_of_eq pn) (a9 size hU)))) (by exact Nat.add_le_add_right (a9 (Nat.le_of_eq pn) (a9 size hU)) _)
   exact a9 (Nat.add_le_add (Nat.mul_le_mul (a9 (Nat.sub_le ..) (a9 hM (Nat.mul_le_mul (Nat.le_refl _) (a9 (Nat.le_of_eq pn) (a9 size hU))))) (Nat.add_le_add_right (a9 (Nat.le_of_eq pn) (a9 size hU)) _)) (a9 rl (a9 (Nat.le_of_eq pn) (a9 size hU)))) (by decide)
  walk_at "m"
  walk_at "m"
  walk_at "m"
  walk_at "m"
  walk_at "m"
  refine iL (ι:=Nat) (r:=(fun x y=>x<y)) Nat.lt_wfRel.wf (zF A C as V L S k k1 rp M vals kn) (fun i ρ V' h=>?_) (i:=aS S M 0 (aA S.un.par).length)
   ⟨_,[],aA S.un.par,0,_,st0,.start ok I p pm,(Nat.zero_add _).symm▸Cst,rfl,rfl⟩
  obtain⟨vs,dn,rest,s,pp,st3,R,bound,rfl,rfl⟩:=h
  have rl:rest.length≤S.un.par.length:=gV R.rt R.nd
  have hr3:=st3.hr
  cases rest with
  | nil=>
    kd_p
    refine bo (k:=dn.length) hr3 (by simp) (by lia) ?_
    refine a6 _ dI ?_
    refine ite_neg (by simp) ?_
    kd_p
    exact q V' vs st3.b st3.X (R.fin ok pm)
  | cons c r=>
    rw[List.length_cons] at rl
    refine bR (R.norm ok I) fun s' p' R hp1 hf=>?_
    have crt:=R.rt c (.head _)
    have st4:=st3.setW r
    have hw3:=st3.hw
    have k3:=st3.kk
    kd_p
    refine bo (k:=dn.length+(r.length+1)) hr3 (by simp) (by lia) ?_
    refine a6 _ dI ?_
    refine ite_pos (by simp) ?_
    walk_at "m"
    refine ii ?_
    kd_p
    refine bE (x:=.int (Int.ofNat c)) hr3 (by lia) (by refine aX (dG ..) ?_;refine a0 (List.getElem?_append_right (by simp)) ?_;simp) ?_
    kd_p
    refine a6 _ c7 ?_
    walk_at "m"
    refine cN _ _ rfl ?_
    kd_p
    refine r9 (a:=.bool true) hw3 (by unfold bD;rewrite[fq (fun Z=>.bool true)];refine a0 (if_pos (by exact .head _)) ?_;rfl) (by simp[bD];lia) ?_
    refine a0 (xG (List.nodup_cons.mp R.nd).1) ?_
    clear k3 hw3 hr3
    generalize V'.set (rp+1) (.idict (bD r))=V4 at st4 ⊢
    have k4:=st4.kk
    kd_p
    refine(kU ok run st4.b I hU hK hops crt fun V5 v X5 hv=>?_).call
    have st5:=st4.quiet X5
    clear k4 st4 st3
    have k5:=st5.kk
    have v5:=st5.b.g.get (i:=2) (p:=k1.vp) rfl
    kd_p
    refine kM v5 ?_
    rw[gL ok]
    refine a6 _ (gD (by refine a0 (bW (ok.okv _)) ?_;exact ok.okv _) (by refine a0 (bW (ok.okv _)) ?_;exact ok.okv _)) ?_
    refine a0 (bW (ok.okv _)) ?_;refine a0 (bW (ok.okv _)) ?_
    have f1:aS S M s' (p' - 1)+1=aS S M s' p':=by unfold aS;lia
    by_cases e:v=vf A vs c
    ·refine a0 ((ok.eq _ _).mpr e) ?_;refine ite_neg (by exact fun z=>nomatch z) ?_
     kd_p
     exact⟨aS S M s' (p' - 1),_,by lia,Sub.app (ext:=[("c",_),("found",_)]),vs,dn++[c],r,s',p' - 1,by refine a0 (List.append_assoc ..) ?_;exact st5,R.same ok I hp1 (e▸((hv v).mp (ok.refl v)).2),by simp;lia,rfl,by refine a0 (ut ..) ?_;rfl⟩
    ·have ne:fu (A.enc v) (A.enc (vf A vs c))=false:=by
      refine aX (Bool.not_eq_true ..) ?_;refine bt (ok.eq ..) ?_;exact e
     refine a0 ne ?_;refine ite_pos (by exact rfl) ?_
     have vl:=gV R.vrt R.vnd
     kd_p
     refine bS (.idict (vD A (eV vs c v))) v5 (by simp at vl;simp[vD];exact a9 (a9 vl (a9 (Nat.le_of_eq pn) (a9 size hU))) (by decide)) (by refine a0 (t8 ..) ?_;rfl) ?_
     have st6:=st5.setV (eV vs c v)
     clear k5 v5 st5
     generalize V5.set k1.vp (.idict (vD A (eV vs c v)))=V6 at st6 ⊢
     have k6:=st6.kk
     have h6:=st6.b.h.hp'
     walk_at "m"
     refine bP ?_ rfl
     kd_p
     refine(pz st6.b.h I hU hK (bN crt) fun out pu l hul hmem hnd=>?_).call
     rw[ay crt] at hul
     refine a6 _ rfl ?_
     refine dE (fun n=>.int (Int.ofNat n)) out (zz A C as V L S k k1 rp (eV vs c v) (dn++[c]) r) (fun V7 h=>?_) (fun dn2 u rest2 V7 KK e2 h hKK=>?_) ⟨[],by refine a0 (List.append_nil ..) ?_;refine a0 (List.append_assoc ..) ?_;exact st6,by refine a0 (List.append_nil ..) ?_;exact(List.nodup_cons.mp R.nd).2,fun Z h=>(nomatch h),fun Z h=>(nomatch h)⟩
     ·obtain⟨new,st7,nd7,hnew,huse⟩:=h
      kd_p
      refine⟨aS S M s' (p' - 1),_,by lia,Sub.app (ext:=[("c",_),("found",_)]),eV vs c v,dn++[c],r++new,s',p' - 1,st7,R.step ok I st pm hp1 hv e nd7 hnew fun m x hm hk=>huse m ((hmem m).mpr ?_),by simp;lia,rfl,by refine a0 (ut ..) ?_;rfl⟩
      refine cW (I.us c crt) fun q1 l1 hq1 hq2=>?_
      rw[hul] at hq1
      cases hq1
      refine a7 hk fun kk hk1 hk2=>?_
      exact hq2 m x hm kk hk1 hk2
     ·obtain⟨new,st7,nd7,hnew,huse⟩:=h
      have um:u<S.un.par.length:=I.ub _ (aZ hul) u ((hmem u).mp (by refine a0 e2 ?_;exact List.mem_append_right _ (.head _)))
      have k7:=st7.kk
      have h7:=st7.b.h.hp'
      have hr7:=st7.hr
      have hw7:=st7.hw
      clear k6 h6 st6
      have len7:(r++new).length≤S.un.par.length:=gV (fun d hd=>(List.mem_append.mp hd).elim (fun h=>R.rt d (.tail _ h)) fun h=>(hnew d h).1) nd7
      kd_p
      refine(bv st7.b.h m um ?_).call
      kd_p
      refine a6 _ ((ot hw7).2) ?_
      refine a0 (ql ..) ?_
      by_cases hu:a8 S.un.par u∈r++new
      ·refine ite_neg (by simp[hu]) ?_
       kd_p
       exact⟨rfl,hKK _ _ (Sub.app (ext:=[("user",_),("late",_)])) ⟨new,st7,nd7,hnew,fun z hz=>(List.mem_append.mp hz).elim (huse z) fun h=>List.mem_singleton.mp h▸hu⟩⟩
      ·refine ite_pos (by simp only[decide_eq_false hu];rfl) ?_
       kd_p
       refine bS (.idict (bD (r++(new++[a8 S.un.par u])))) hw7 (by simp at len7;simp[bD];exact a9 (a9 len7 (a9 (Nat.le_of_eq pn) (a9 size hU))) (by decide)) (by refine a0 (mU hu) ?_;refine a0 (List.append_assoc ..) ?_;rfl) ?_
       have st8:=st7.setW (r++(new++[a8 S.un.par u]))
       have hr8:=st8.hr
       kd_p
       refine b9 (.list (nats (dn++[c]++(r++(new++[a8 S.un.par u]))))) hr8 (by simp at len7 ⊢;lia) (by simp) ?_
       kd_p
       refine⟨rfl,hKK _ _ (Sub.app (ext:=[("user",_),("late",_)])) ⟨new++[a8 S.un.par u],st8.setR _,?_,fun d hd=>(List.mem_append.mp hd).elim (hnew d) fun h=>List.mem_singleton.mp h▸⟨bj I.par um,fun z=>hu (List.mem_append_left _ z)⟩,fun z hz=>?_⟩⟩
       ·refine aX (List.append_assoc ..) ?_;refine bt List.nodup_append ?_
        exact i3 nd7 (by simp) (fun a ha b hb e=>hu (by refine aX (List.mem_singleton.mp hb) ?_;refine aX e ?_;exact ha))
       ·refine aX (List.append_assoc ..) ?_
        rcases List.mem_append.mp hz with hz | hz
        ·exact List.mem_append_left _ (huse z hz)
        ·refine a0 (List.mem_singleton.mp hz) ?_;exact List.mem_append_right _ (.head _)
end
noncomputable def S0:HS:=⟨⟨[],[],[]⟩,⟨[],[],[]⟩,[],[],[],[],[]⟩
section
variable{W:Wd}{n:Nat}{sc:ah}{ρ:ai}{V V0:St}{F0:List Nat}{G:aU}{b:Nat}{C:Addr}{as:List (Str×a5)}{x:Str}{e:Expr}{p0 p1 p2:Pos}{rest:List Stmt}{Q:cH->ai->St->Prop}
theorem fK{P:a5->aU->Prop}(g:b8 V G)(y:aK V0 F0 V (aU.keys G))(he:∀ Q':a5->St->Prop,(∀ V' G' a,P a G'->b8 V' G'->aK V [] V' (aU.keys G')->Q' a V')->ET W n sc e ρ V Q')(q:∀ V' G' a,P a G'->b8 V' ((G++G').set 0 (b,.inst C (aJ as x a)))->aK V0 F0 V' (aU.keys ((G++G').set 0 (b,.inst C (aJ as x a))))->df W n sc rest ρ V' Q)
 (ck:ca W.K C)(h0:G[0]? =some (b,.inst C as):=by rfl)(hs:ρ.lookup ("self":Str)=some (.ref b):=by rfl)(hl:Nat.blt as.length 20=true:=by rfl)(ht:takerIn W.K C x=some none:=by rfl)(hx:cU sc "self"=true:=by rfl)(hc:gv e=false:=by rfl)(hw:iB (.Attribute (.Name "self" p0) x p1) e=true:=by rfl):df W n sc (.Assign [.Attribute (.Name "self" p0) x p1] e p2::rest) ρ V Q:=by
 refine iK (kE (he _ fun V' G' a h g' y'=>pi (cF hs ?_ hx rfl)) hc hw rfl)
 have g1:=g.join y' g'
 have z:(G++G')[0]? =some (b,.inst C as):=by refine a0 (List.getElem?_append_left (List.getElem?_eq_some_iff.mp h0).1) ?_;refine a0 h0 ?_;rfl
 refine yb (g1.get z) (Nat.blt_eq.mp hl) ck ht (kD (q _ G' a h (g1.set _ z) ?_))
 refine a0 (oa _ _ _ _ _ z) ?_
 have y1:=y.join y'
 unfold aU.keys at y1 ⊢
 rw[← List.map_append] at y1
 exact y1.setH (List.mem_map_of_mem (List.mem_of_getElem? z)) _
theorem u6{o:af}(he:∀ Q':a5->St->Prop,Q' (.ref V.length) (V++[o])->ET W n sc e ρ V Q')(Q':a5->St->Prop)(h:∀ V' G' a,(∃ p,a=.ref p∧G'=[(p,o)])->b8 V' G'->aK V [] V' (aU.keys G')->Q' a V'):ET W n sc e ρ V Q':=
 he Q' (h _ [(_,o)] _ (a6 _ rfl rfl) (b8.push (l:=[]) ⟨fun Z h=>(nomatch h),List.Pairwise.nil⟩ o) (.push o))
theorem jY{o:af}(g:b8 V G)(y:aK V0 F0 V (aU.keys G))(he:∀ Q':a5->St->Prop,Q' (.ref V.length) (V++[o])->ET W n sc e ρ V Q')(q:∀ V' p,b8 V' ((G++[(p,o)]).set 0 (b,.inst C (aJ as x (.ref p))))->aK V0 F0 V' (aU.keys ((G++[(p,o)]).set 0 (b,.inst C (aJ as x (.ref p)))))->df W n sc rest ρ V' Q)
 (ck:ca W.K C)(h0:G[0]? =some (b,.inst C as):=by rfl)(hs:ρ.lookup ("self":Str)=some (.ref b):=by rfl)(hl:Nat.blt as.length 20=true:=by rfl)(ht:takerIn W.K C x=some none:=by rfl)(hx:cU sc "self"=true:=by rfl)(hc:gv e=false:=by rfl)(hw:iB (.Attribute (.Name "self" p0) x p1) e=true:=by rfl):df W n sc (.Assign [.Attribute (.Name "self" p0) x p1] e p2::rest) ρ V Q:=
 fK g y (u6 he) (fun V' G' a h g' y'=>by refine a7 h ?_;clear h;intro p z1 z2;subst z1;subst z2;exact q V' p g' y') ck h0 hs hl ht hx hc hw
theorem c6{pos:Pos}(g:b8 V G)(y:aK V0 F0 V (aU.keys G))(ck:ca W.K C)(q:∀ V' p,b8 V' ((G++([(p,.list [])]:aU)).set 0 (b,.inst C (aJ as x (.ref p))))->aK V0 F0 V' (aU.keys ((G++([(p,.list [])]:aU)).set 0 (b,.inst C (aJ as x (.ref p)))))->df W n sc rest ρ V' Q)
 (h0:G[0]? =some (b,.inst C as):=by rfl)(hs:ρ.lookup ("self":Str)=some (.ref b):=by rfl)(hl:Nat.blt as.length 20=true:=by rfl)(ht:takerIn W.K C x=some none:=by rfl)(hx:cU sc "self"=true:=by rfl):df W n sc (.Assign [.Attribute (.Name "self" p0) x p1] (.List [] pos) p2::rest) ρ V Q:=
 jY g y (fun Q' h=>kK (jq ⟨Nat.zero_le _,h⟩)) q ck h0 hs hl ht hx
theorem jX{pos:Pos}(g:b8 V G)(y:aK V0 F0 V (aU.keys G))(ck:ca W.K C)(q:∀ V' p,b8 V' ((G++([(p,.tdict [])]:aU)).set 0 (b,.inst C (aJ as x (.ref p))))->aK V0 F0 V' (aU.keys ((G++([(p,.tdict [])]:aU)).set 0 (b,.inst C (aJ as x (.ref p)))))->df W n sc rest ρ V' Q)
 (h0:G[0]? =some (b,.inst C as):=by rfl)(hs:ρ.lookup ("self":Str)=some (.ref b):=by rfl)(hl:Nat.blt as.length 20=true:=by rfl)(ht:takerIn W.K C x=some none:=by rfl)(hx:cU sc "self"=true:=by rfl):df W n sc (.Assign [.Attribute (.Name "self" p0) x p1] (.Dict [] [] pos) p2::rest) ρ V Q:=
 jY g y (fun Q' h=>sN h) q ck h0 hs hl ht hx
theorem gw{pos:Pos}(g:b8 V G)(y:aK V0 F0 V (aU.keys G))(ck:ca W.K C)(q:∀ V' p,b8 V' ((G++([(p,.idict [])]:aU)).set 0 (b,.inst C (aJ as x (.ref p))))->aK V0 F0 V' (aU.keys ((G++([(p,.idict [])]:aU)).set 0 (b,.inst C (aJ as x (.ref p)))))->df W n sc rest ρ V' Q)
 (h0:G[0]? =some (b,.inst C as):=by rfl)(hs:ρ.lookup ("self":Str)=some (.ref b):=by rfl)(hl:Nat.blt as.length 20=true:=by rfl)(ht:takerIn W.K C x=some none:=by rfl)(hx:cU sc "self"=true:=by rfl):df W n sc (.Assign [.Attribute (.Name "self" p0) x p1] (.Dict [] [] pos) p2::rest) ρ V Q:=
 jY g y (fun Q' h=>fU h) q ck h0 hs hl ht hx
theorem oo{v:a5}{y0:Str}{p3:Pos}(g:b8 V G)(y:aK V0 F0 V (aU.keys G))(ck:ca W.K C)(q:∀ V',b8 V' ((G++([]:aU)).set 0 (b,.inst C (aJ as x v)))->aK V0 F0 V' (aU.keys ((G++([]:aU)).set 0 (b,.inst C (aJ as x v))))->df W n sc rest ρ V' Q)
 (h0:G[0]? =some (b,.inst C as):=by rfl)(hs:ρ.lookup ("self":Str)=some (.ref b):=by rfl)(hl:Nat.blt as.length 20=true:=by rfl)(ht:takerIn W.K C x=some none:=by rfl)(hx:cU sc "self"=true:=by rfl)(hv:ρ.lookup y0=some v:=by rfl)(hx':cU sc y0=true:=by rfl)(hn:d5 y0=true:=by rfl)(hw:iB (.Attribute (.Name "self" p0) x p1) (.Name y0 p3)=true:=by rfl):df W n sc (.Assign [.Attribute (.Name "self" p0) x p1] (.Name y0 p3) p2::rest) ρ V Q:=
 fK (P:=fun a G'=>a=v∧G'=[]) g y (fun Q' h=>cF hv (h V [] v ⟨rfl,rfl⟩ ⟨fun Z h=>(nomatch h),List.Pairwise.nil⟩ .refl) hx' hn) (fun V' G' a h g' y'=>by refine a2 h ?_;clear h;intro z0 z1;subst z0;subst z1;exact q V' g' y') ck h0 hs hl ht hx rfl hw
end
section
variable{prog:Program}{w:World}{H:Heap}{mg mb:Str->Option Value}
theorem sC{n:Nat}{V0:St}{b:Nat}{Q:a5->St->Prop}(g0:b8 V0 [(b,.inst 387 [])])
 (q:∀ V' nd nu we de,b8 V' (db b nd nu we de ⟨[],[],[]⟩)->aK V0 [b] V' [b,nd,nu,we,de]->Q .none V'):CC (W0 prog w H mg mb) (n+1) (.ref 299) [.ref b] V0 Q:=by
 refine ag (ps:=["self"]) (by rfl) (by rfl) (f9 fun Z=>rfl) (by rfl) (by decide) (by rfl) (by decide) (by rfl) ?_ (by rfl) (by rfl) (by rfl)
 refine c6 g0 .refl (aG rfl) fun Z Z g y=>?_
 refine jX g y (aG rfl) fun Z Z g y=>?_
 refine c6 g y (aG rfl) fun Z Z g y=>?_
 refine c6 g y (aG rfl) fun Z Z g y=>?_
 exact fR (q _ _ _ _ _ g y)
theorem nv{n:Nat}{V0:St}{b:Nat}{Q:a5->St->Prop}(g0:b8 V0 [(b,.inst 469 [])])
 (q:∀ V' pa lo me,b8 V' (c0 b pa lo me [] ⟨[],[],[]⟩)->aK V0 [b] V' [b,pa,lo,me]->Q .none V'):CC (W0 prog w H mg mb) (n+1) (.ref 405) [.ref b] V0 Q:=by
 refine ag (ps:=["self"]) (by rfl) (by rfl) (f9 fun Z=>rfl) (by rfl) (by decide) (by rfl) (by decide) (by rfl) ?_ (by rfl) (by rfl) (by rfl)
 refine c6 g0 .refl (aG rfl) fun Z Z g y=>?_
 refine c6 g y (aG rfl) fun Z Z g y=>?_
 refine c6 g y (aG rfl) fun Z Z g y=>?_
 exact fR (q _ _ _ _ g y)
theorem tK{n:Nat}{sc:ah}{ρ:ai}{V:St}{p0 p1:Pos}(hx:sc.lookup ("Bank":Str)=some .globalImplicit)(Q':a5->St->Prop)(h:∀ V' G' a,(∃ p nd nu we de,a=.ref p∧G'=db p nd nu we de ⟨[],[],[]⟩)->b8 V' G'->aK V [] V' (aU.keys G')->Q' a V'):ET (W0 prog w H mg mb) (n+2) sc (.Call (.Name "Bank" p0) [] [] p1) ρ V Q':=by
 refine n7 vY rfl (jq ?_) hx
 refine io (f:=299) (by rfl) (by rfl) (by rfl) ?_
 have z:b8 (V++[.inst 387 []]) [(V.length,.inst 387 [])]:=b8.push (l:=[]) ⟨fun Z h=>(nomatch h),List.Pairwise.nil⟩ _
 exact sC z fun V' nd nu we de g y=>⟨rfl,h _ _ _ ⟨_,_,_,_,_,rfl,rfl⟩ g (aK.trans (.push _) y)⟩
theorem pW{n:Nat}{sc:ah}{ρ:ai}{V:St}{p0 p1:Pos}(hx:sc.lookup ("Unions":Str)=some .globalImplicit)(Q':a5->St->Prop)(h:∀ V' G' a,(∃ p pa lo me,a=.ref p∧G'=c0 p pa lo me [] ⟨[],[],[]⟩)->b8 V' G'->aK V [] V' (aU.keys G')->Q' a V'):ET (W0 prog w H mg mb) (n+2) sc (.Call (.Name "Unions" p0) [] [] p1) ρ V Q':=by
 refine n7 s9 rfl (jq ?_) hx
 refine io (f:=405) (by rfl) (by rfl) (by rfl) ?_
 have z:b8 (V++[.inst 469 []]) [(V.length,.inst 469 [])]:=b8.push (l:=[]) ⟨fun Z h=>(nomatch h),List.Pairwise.nil⟩ _
 exact nv z fun V' pa lo me g y=>⟨rfl,h _ _ _ ⟨_,_,_,_,rfl,rfl⟩ g (aK.trans (.push _) y)⟩
theorem ua{V':St}{b p0 nd nu we de p1 pa lo me p2 p3 p4 p5 p6:Nat}(g:b8 V' [(b,.inst 599 [("bank",.ref p0),("unions",.ref p1),("edges",.ref p2),("forest",.ref p3),("known",.ref p4),("above",.ref p5),("waiting",.ref p6)]),(p0,.inst 387 [("nodes",.ref nd),("numbers",.ref nu),("weights",.ref we),("depths",.ref de)]),(nd,.list []),(nu,.tdict []),(we,.list []),(de,.list []),
 (p1,.inst 469 [("above",.ref pa),("lots",.ref lo),("merged",.ref me)]),(pa,.list []),(lo,.list []),(me,.list []),(p2,.list []),(p3,.list []),(p4,.tdict []),(p5,.idict []),(p6,.list [])]):ak V' ⟨b,p0,p1,p2,p3,p4,p5,p6,nd,nu,we,de,pa,lo,me,[]⟩ S0:=
 ⟨g.pick [1,2,3,4,5] (by decide),g.pick [6,7,8,9] (by decide),g.pick [0,10,11,12,13,14] (by decide),g.apart [1,2,3,4,5] [6,7,8,9] (by decide),g.apart [1,2,3,4,5] [0,10,11,12,13,14] (by decide),g.apart [6,7,8,9] [0,10,11,12,13,14] (by decide),rfl⟩
theorem u9{V0 V':St}{F:List Nat}{b p0 nd nu we de p1 pa lo me p2 p3 p4 p5 p6:Nat}(y:aK V0 F V' [b,p0,nd,nu,we,de,p1,pa,lo,me,p2,p3,p4,p5,p6]):aK V0 F V' (HL.fp ⟨b,p0,p1,p2,p3,p4,p5,p6,nd,nu,we,de,pa,lo,me,[]⟩ S0):=
 ⟨y.len,y.keep,fun r hr=>y.fresh r (aU.pick_sub (G:=[b,p0,nd,nu,we,de,p1,pa,lo,me,p2,p3,p4,p5,p6].map fun q=>(q,.list [])) (is:=[1,2,3,4,5,6,7,8,9,0,10,11,12,13,14]) hr)⟩
theorem s8{n:Nat}{V0:St}{b:Nat}{Q:a5->St->Prop}(g0:b8 V0 [(b,.inst 599 [])])
 (q:∀ V' L,L.hp=b->ak V' L S0->aK V0 [b] V' (L.fp S0)->Q .none V'):CC (W0 prog w H mg mb) (n+3) (.ref 487) [.ref b] V0 Q:=by
 refine ag (ps:=["self"]) (by rfl) (by rfl) (f9 fun Z=>rfl) (by rfl) (by decide) (by rfl) (by decide) (by rfl) ?_ (by rfl) (by rfl) (by rfl)
 refine fK g0 .refl (tK (by rfl)) (fun Z Z Z h g y=>?_) (aG rfl)
 obtain⟨p0,nd,nu,we,de,rfl,rfl⟩:=h
 refine fK g y (pW (by rfl)) (fun Z Z Z h g y=>?_) (aG rfl)
 obtain⟨p1,pa,lo,me,rfl,rfl⟩:=h
 refine c6 g y (aG rfl) fun Z p2 g y=>?_
 refine c6 g y (aG rfl) fun Z p3 g y=>?_
 refine jX g y (aG rfl) fun Z p4 g y=>?_
 refine gw g y (aG rfl) fun Z p5 g y=>?_
 refine c6 g y (aG rfl) fun V7 p6 g y=>?_
 refine fR ?_
 exact q V7 ⟨b,p0,p1,p2,p3,p4,p5,p6,nd,nu,we,de,pa,lo,me,[]⟩ rfl (ua g) (u9 y)
end
structure Kd where
 A:An
 C:Addr
 fo:Addr
 fj:Addr
 as:List (Str×a5)
noncomputable def kd:Nat->Kd
 | 0=>⟨zS,57,47,54,[("n",.int 5)]⟩
 | 1=>⟨ro,85,75,82,[]⟩
 | 2=>⟨uZ,106,103,82,[]⟩
 | 3=>⟨zR,128,120,125,[]⟩
 | _=>⟨zQ,171,163,168,[]⟩
theorem wU{U:List Tm}(hU:∀ t∈U,ix t≤7)(i:Nat):(kd i).A.Ok U:=
 match i with
 | 0=>qD U
 | 1=>qB hU
 | 2=>sY hU
 | 3=>v6 U
 | _+4=>iR U
section
variable{prog:Program}{w:World}{H:Heap}{mg mb:Str->Option Value}{U:List Tm}{T:Tm->Tm->Prop}{K:Nat}{A:An}{C fo fj:Addr}{as:List (Str×a5)}
theorem tX(i:Nat):ph (W0 prog w H mg mb) (kd i).A (kd i).C (kd i).fo (kd i).fj (kd i).as:=
 match i with
 | 0=>⟨fun h=>.inst h (by rfl) (aG rfl) (by rfl) (by rfl) (by rfl),fun h=>.inst h (by rfl) (aG rfl) (by rfl) (by rfl) (by rfl),fun h ho q=>(zX h ho (q _ .refl)).call,fun h q=>(vP h q).call⟩
 | 1=>⟨fun h=>.inst h (by rfl) (aG rfl) (by rfl) (by rfl) (by rfl),fun h=>.inst h (by rfl) (aG rfl) (by rfl) (by rfl) (by rfl),fun h ho q=>(vB (ez ho) (q _ .refl)).call,fun h q=>(qP q).call⟩
 | 2=>⟨fun h=>.inst h (by rfl) (aG rfl) (by rfl) (by rfl) (by rfl),fun h=>.inst h (by rfl) (aG rfl) (by rfl) (by rfl) (by rfl),fun h ho q=>(xr (ez ho) (q _ .refl)).call,fun h q=>(qP q).call⟩
 | 3=>⟨fun h=>.inst h (by rfl) (aG rfl) (by rfl) (by rfl) (by rfl),fun h=>.inst h (by rfl) (aG rfl) (by rfl) (by rfl) (by rfl),fun h ho q=>(zW ho q).call,fun h q=>(vO q).call⟩
 | _+4=>⟨fun h=>.inst h (by rfl) (aG rfl) (by rfl) (by rfl) (by rfl),fun h=>.inst h (by rfl) (aG rfl) (by rfl) (by rfl) (by rfl),fun h ho q=>(zV h ho (q _ .refl)).call,fun h q=>(vN h q).call⟩
theorem oF{n:Nat}{V:St}{b:Nat}{Q:a5->St->Prop}(h:V[b]? =some (.inst 57 []))(q:Q .none (V.set b (.inst 57 [("n",.int 5)]))):∃ f,findIn (W0 prog w H mg mb).K (.ref 57) "__init__"=some (some (.ref f))∧typeIn (W0 prog w H mg mb).K (.ref f)=some (.type "function")∧CC (W0 prog w H mg mb) (n+1) (.ref f) [.ref b,.int 5] V Q:=by
 refine aP _ (by rfl) (by rfl) ?_
 refine ag (ps:=["self","n"]) (by rfl) (by rfl) ?_ (by rfl) (by decide) (by rfl) (by decide) (by rfl) ?_ (by rfl) (by rfl) (by rfl)
 ·exact dj fun Z Z=>rfl
 ·kd_p
  exact q
theorem oE{n:Nat}{V:St}{Q:a5->St->Prop}(q:Q (.ref V.length) (V++[.inst 57 [("n",.int 5)]])):CT (W0 prog w H mg mb) (n+2) (.ref 57) [.int 5] V Q:=by
 refine bw (oF (prog:=prog) (w:=w) (H:=H) (mg:=mg) (mb:=mb) (n:=n) (V:=V++[.inst 57 []]) (b:=V.length) (Q:=fun r V'=>r=.none∧Q (.ref V.length) V') (by exact List.getElem?_concat_length ..) ⟨rfl,by simpa using q⟩) fun f f1 f2 f3=>?_
 exact io (by rfl) f1 f2 f3
theorem lf{n:Nat}{V:St}{i:Nat}(hi:i<5){Q:a5->St->Prop}(q:∀ V' an,V'[an]? =some (.inst (kd i).C (kd i).as)->aK V [] V' [an]->Q (.ref an) V'):CC (W0 prog w H mg mb) (n+3) (.ref 632) [.int (Int.ofNat i)] V Q:=by
 refine ag (ps:=["number"]) (by rfl) (by rfl) ?_ (by rfl) (by decide) (by rfl) (by decide) (by rfl) ?_ (by rfl) (by rfl) (by rfl)
 ·exact f9 fun Z=>rfl
 ·kd_p
  refine oE ?_
  kd_p
  refine im (by rfl) (by rfl) ?_
  kd_p
  refine im (by rfl) (by rfl) ?_
  kd_p
  refine im (by rfl) (by rfl) ?_
  kd_p
  refine im (by rfl) (by rfl) ?_
  kd_p
  refine⟨ao rfl,?_⟩
  kd_p
  have fin:∀ an:Nat,V.length≤an->_->Q (.ref an) _:=fun an h1 h2=>q _ an h2 ⟨(by simp:V.length≤(((((V++[af.inst 57 [("n",.int 5)]])++[af.inst 85 []])++[af.inst 106 []])++[af.inst 128 []])++[af.inst 171 []]).length),fun r hr Z=>by simp[List.getElem?_append_left hr],fun r hr=>.inr (by refine a0 (List.mem_singleton.mp hr) ?_;exact h1)⟩
  have cs:i=0∨i=1∨i=2∨i=3∨i=4:=by lia
  rcases cs with rfl | rfl | rfl | rfl | rfl
  all_goals
   refine cS (by decide) rfl ?_
   kd_p
   refine fin _ (by simp) ?_
   simp[kd]
end
section
variable{prog:Program}{w:World}{H:Heap}{mg mb:Str->Option Value}{U:List Tm}{T:Tm->Tm->Prop}{K:Nat}{A:An}{C fo fj:Addr}{as:List (Str×a5)}
theorem og{n:Nat}{V:St}{b hp an:Nat}{Q:a5->St->Prop}(g0:b8 V [(b,.inst 230 [])])
 (q:∀ V' vp tp,b8 V' [(b,.inst 230 [("heap",.ref hp),("analysis",.ref an),("values",.ref vp),("told",.ref tp)]),(vp,.idict []),(tp,.idict [])]->aK V [b] V' [b,vp,tp]->Q .none V'):CC (W0 prog w H mg mb) (n+1) (.ref 189) [.ref b,.ref hp,.ref an] V Q:=by
 refine ag (ps:=["self","heap","analysis"]) (by rfl) (by rfl) (eF fun Z Z Z=>rfl) (by rfl) (by decide) (by rfl) (by decide) (by rfl) ?_ (by rfl) (by rfl) (by rfl)
 refine oo g0 .refl (aG rfl) fun Z g y=>?_
 refine oo g y (aG rfl) fun Z g y=>?_
 refine gw g y (aG rfl) fun Z vp g y=>?_
 refine gw g y (aG rfl) fun Z tp g y=>?_
 exact fR (q _ vp tp g y)
end
noncomputable def be(s:Nat)(xs:List Int):af:=.list (aL (Int.ofNat s::xs))
theorem uf(i:Int){m:Nat}(hm:0<m):∃ r,r<m∧i.fmod (Int.ofNat m)=Int.ofNat r:=by
 have h1:0≤i.fmod (Int.ofNat m):=Int.fmod_nonneg_of_pos i (by simp;exact hm)
 have h2:i.fmod (Int.ofNat m)<Int.ofNat m:=Int.fmod_lt_of_pos i (by simp;exact hm)
 refine a6 ((i.fmod (Int.ofNat m)).toNat) ?_ ?_
 ·have h3:((i.fmod (Int.ofNat m)).toNat:Int)=i.fmod (Int.ofNat m):=Int.toNat_of_nonneg h1
  have h4:Int.ofNat m=(m:Int):=rfl
  lia
 ·exact(Int.toNat_of_nonneg h1).symm
section
variable{prog:Program}{w:World}{H:Heap}{mg mb:Str->Option Value}{U:List Tm}{T:Tm->Tm->Prop}{K:Nat}{A:An}{C fo fj:Addr}{as:List (Str×a5)}
theorem bI{n:Nat}{V:St}{c s m:Nat}{xs:List Int}{Q:a5->St->Prop}(h:V[c]? =some (be s xs))(hs:s≤1000)(hx:xs.length≤1000)(hm:0<m)(q:∀ r,r<m->Q (.int (Int.ofNat r)) (V.set c (be (s+1) xs))):CC (W0 prog w H mg mb) (n+1) (.ref 618) [.ref c,.int (Int.ofNat m)] V Q:=by
 refine ag (ps:=["cells","many"]) (by rfl) (by rfl) ?_ (by rfl) (by decide) (by rfl) (by decide) (by rfl) ?_ (by rfl) (by rfl) (by rfl)
 ·exact dj fun Z Z=>rfl
 ·unfold be at h
  kd_p
  refine bE (i:=0) h (by decide) rfl ?_
  kd_p
  refine a6 _ (c7:gK _ _ .Add (.int (Int.ofNat s)) (.int 1) _ (.int (Int.ofNat (s+1)))) ?_
  kd_p
  refine lB (i:=0) (be (s+1) xs) h (by exact Nat.succ_pos _) (by simp[aL];exact a9 hx (by decide)) rfl ?_
  have h1:(V.set c (be (s+1) xs))[c]? =some (.list (aL (Int.ofNat (s+1)::xs))):=List.getElem?_set_self (List.getElem?_eq_some_iff.mp h).1
  have fin:∀ i:Int,Q (.int (i.fmod (Int.ofNat m))) (V.set c (be (s+1) xs)):=fun i=>by
   refine a7 (uf i hm) fun r hr e=>?_
   refine a0 e ?_;exact q r hr
  clear q
  generalize V.set c (be (s+1) xs)=V1 at h1 fin ⊢
  have hm0:Int.ofNat m≠0:=by simp;exact Nat.ne_of_gt hm
  kd_p
  refine a6 _ (c7:gK _ _ .Add (.int (Int.ofNat s)) (.int 1) _ (.int (Int.ofNat (s+1)))) ?_
  kd_p
  refine bo (k:=xs.length+1) h1 (by exact List.length_map ..) (by exact a9 (Nat.add_le_add_right hx _) (by decide)) ?_
  refine a6 _ dI ?_
  by_cases lt:s+1<xs.length+1
  ·refine ite_pos (by simpa using lt) ?_
   kd_p
   refine a6 _ (c7:gK _ _ .Add (.int (Int.ofNat s)) (.int 1) _ (.int (Int.ofNat (s+1)))) ?_
   refine bE (i:=s+1) (x:=.int xs[s]) h1 (by exact a9 (a9 (Nat.le_of_lt lt) (Nat.add_le_add_right hx _)) (by decide)) (vR (by simp)) ?_
   kd_p
   refine a6 _ (fO hm0) ?_
   exact fin _
  ·refine ite_neg (by simpa using lt) ?_
   kd_p
   refine a6 _ (mT (.of_left (by decide))) ?_
   kd_p
   refine a6 _ (wg (by decide) (by rfl)) ?_
   kd_p
   refine a6 _ c7 ?_
   kd_p
   refine a6 _ c7 ?_
   kd_p
   refine a6 _ (fO hm0) ?_
   exact fin _
end
inductive Tg:Nat->Tm->Prop
 | leaf {d:Nat} {op:Str}:op∈bV->Tg d (.mk op [])
 | one {d:Nat} {op:Str} {t:Tm}:op∈(["neg","lam"]:List Str)->Tg d t->Tg (d+1) (.mk op [t])
 | two {d:Nat} {op:Str} {t u:Tm}:op∈(["add","mul"]:List Str)->Tg d t->Tg d u->Tg (d+1) (.mk op [t,u])
noncomputable def kq:Nat->Nat
 | 0=>1
 | f+1=>2+2*kq f
noncomputable def mJ:List a5:=bV.map fun x=>.tup [.str x]
section
variable{prog:Program}{w:World}{H:Heap}{mg mb:Str->Option Value}{U:List Tm}{T:Tm->Tm->Prop}{K:Nat}{A:An}{C fo fj:Addr}{as:List (Str×a5)}{n:Nat}{sc:ah}{ρ:ai}{V:St}
theorem tQ{φ:aj}{h:Heap}{a:Addr}{x:Str}{t:Tok}(e:h.get? a=some {cls:=Value.type "tuple",data:=Data.seq #[Value.str x t]})(no:¬dO φ a):aa φ h (.ref a) (.tup [.str x]):=
 .tup ⟨_,e,rfl,_,rfl⟩ no (.cons (.str x t) .nil)
theorem md{pos:Pos}{Q:a5->St->Prop}(q:Q (.tup mJ) V)(hx:sc.lookup ("_law_leaves":Str)=some .globalImplicit:=by rfl):ET (W0 prog w H mg mb) n sc (.Name "_law_leaves" pos) ρ V Q:=by
 intro A env φ s R N F
 have g:GV (W0 prog w H mg mb) "_law_leaves" (.ref 611):=.own (by rfl)
 refine gA N F hx (by rfl) g ⟨φ,V,_,⟨.refl,N,rfl,rfl⟩,?_,q⟩
 have at':∀ a o,(W0 prog w H mg mb).K.lookup a=some o->s.heap.get? a=some o∧¬dO φ a:=fun a o e=>⟨N.X a o e,N.notOwn (N.ok.X a o e)⟩
 refine a2 (at' 611 _ (by rfl)) fun e no=>?_
 refine .tup ⟨_,e,rfl,_,rfl⟩ no ?_
 have z:∀ a x t,(W0 prog w H mg mb).K.lookup a=some {cls:=Value.type "tuple",data:=Data.seq #[Value.str x t]}->aa φ s.heap (.ref a) (.tup [.str x]):=fun a x t e=>tQ (at' a _ e).1 (at' a _ e).2
 exact .cons (z 604 "a" 948 (by rfl)) (.cons (z 605 "b" 949 (by rfl)) (.cons (z 606 "var0" 950 (by rfl)) (.cons (z 607 "var1" 951 (by rfl)) (.cons (z 608 "0" 952 (by rfl)) (.cons (z 609 "2" 953 (by rfl)) (.cons (z 610 "-3" 954 (by rfl)) .nil))))))
theorem ue{c:Nat}{xs:List Int}(hx:xs.length≤1000):∀ (f:Nat) {n:Nat} {V:St} {s:Nat} {Q:a5->St->Prop},V[c]? =some (be s xs)->s+kq f≤900->
 (∀ t s',Tg f t->s'≤s+kq f->Q (fB t) (V.set c (be s' xs)))->CC (W0 prog w H mg mb) (n+f+2) (.ref 625) [.ref c,.int (Int.ofNat f)] V Q:=by
 intro f
 induction f with
 | zero=>
   intro n V s Q h hs q
   refine ag (ps:=["cells","floors"]) (by rfl) (by rfl) ?_ (by rfl) (by decide) (by rfl) (by decide) (by rfl) ?_ (by rfl) (by rfl) (by rfl)
   ·exact dj fun Z Z=>rfl
   ·unfold kq at hs
    kd_p
    refine a6 _ mR ?_
    refine ite_neg (by exact fun z=>nomatch z) ?_
    kd_p
    refine a6 _ kw ?_
    refine ite_pos (by decide) ?_
    kd_p
    refine md ?_
    kd_p
    refine(bI (m:=7) h (by lia) hx (by decide) fun r hr=>?_).call
    have hl:bV[r]? =some bV[r]:=List.getElem?_eq_getElem hr
    refine cS (x:=.tup [.str bV[r]]) (by exact a9 (Nat.le_of_lt hr) (by decide)) (by unfold mJ;refine a0 List.getElem?_map ?_;refine a0 hl ?_;rfl) ?_
    kd_p
    have:=q (.mk bV[r] []) (s+1) (.leaf (List.getElem_mem hr)) (by unfold kq;exact Nat.le_refl _)
    rw[gk] at this
    exact this
 | succ f ih=>
   intro n V s Q h hs q
   refine ag (ps:=["cells","floors"]) (by rfl) (by rfl) ?_ (by rfl) (by decide) (by rfl) (by decide) (by rfl) ?_ (by rfl) (by rfl) (by rfl)
   ·exact dj fun Z Z=>rfl
   ·unfold kq at hs
    kd_p
    refine a6 _ mR ?_
    refine ite_pos (by simp) ?_
    kd_p
    refine(bI (m:=6) h (by lia) hx (by decide) fun way hway=>?_).call
    have cl:c<V.length:=(List.getElem?_eq_some_iff.mp h).1
    have h1:(V.set c (be (s+1) xs))[c]? =some (be (s+1) xs):=List.getElem?_set_self cl
    kd_p
    refine a6 _ kw ?_
    by_cases w2:way<2
    ·refine ite_pos (by simp;lia) ?_
     kd_p
     refine md ?_
     kd_p
     refine(bI (m:=7) h1 (by lia) hx (by decide) fun r hr=>?_).call
     have hl:bV[r]? =some bV[r]:=List.getElem?_eq_getElem hr
     refine cS (x:=.tup [.str bV[r]]) (by exact a9 (Nat.le_of_lt hr) (by decide)) (by unfold mJ;refine a0 List.getElem?_map ?_;refine a0 hl ?_;rfl) ?_
     kd_p
     have:=q (.mk bV[r] []) (s+2) (.leaf (List.getElem_mem hr)) (by unfold kq;exact Nat.add_le_add_left (Nat.le_add_right_of_le (Nat.le_refl _)) _)
     rw[gk] at this
     refine a0 (List.set_set ..) ?_
     exact this
    ·refine ite_neg (by simp;lia) ?_
     kd_p
     refine a6 _ dK ?_
     have e1:Int.ofNat (f+1) - 1=Int.ofNat f:=by simp
     refine a0 e1 ?_
     kd_p
     refine(ih (n:=n) h1 (by lia) fun t s' ht hs'=>?_).call
     refine a0 (List.set_set ..) ?_
     have h2:(V.set c (be s' xs))[c]? =some (be s' xs):=List.getElem?_set_self cl
     kd_p
     refine a6 _ kw ?_
     by_cases w4:way<4
     ·refine ite_pos (by simp;lia) ?_
      kd_p
      refine⟨ao rfl,?_⟩
      kd_p
      refine a6 _ dK ?_
      obtain⟨o,ops⟩:∃ o,(["neg","lam"]:List Str)[way - 2]? =some o:=⟨_,List.getElem?_eq_getElem (by simp;lia)⟩
      have e2:Int.ofNat way - 2=Int.ofNat (way - 2):=by
       show(way:Int) - 2=((way - 2:Nat):Int)
       lia
      refine a0 e2 ?_
      refine cS (xs:=(["neg","lam"]:List Str).map .str) (x:=.str o) (by exact a9 (a9 (Nat.sub_le ..) (Nat.le_of_lt w4)) (by decide)) (by refine a0 List.getElem?_map ?_;refine a0 ops ?_;rfl) ?_
      kd_p
      refine⟨ao rfl,?_⟩
      have:=q (.mk o [t]) s' (.one (List.mem_of_getElem? ops) ht) (by unfold kq;lia)
      rw[gk] at this
      exact this
     ·refine ite_neg (by simp;lia) ?_
      kd_p
      refine⟨ao rfl,?_⟩
      kd_p
      refine a6 _ dK ?_
      obtain⟨o,ops⟩:∃ o,(["add","mul"]:List Str)[way - 4]? =some o:=⟨_,List.getElem?_eq_getElem (by simp;lia)⟩
      have e2:Int.ofNat way - 4=Int.ofNat (way - 4):=by
       show(way:Int) - 4=((way - 4:Nat):Int)
       lia
      refine a0 e2 ?_
      refine cS (xs:=(["add","mul"]:List Str).map .str) (x:=.str o) (by exact a9 (a9 (Nat.sub_le ..) (Nat.le_of_lt hway)) (by decide)) (by refine a0 List.getElem?_map ?_;refine a0 ops ?_;rfl) ?_
      kd_p
      refine a6 _ dK ?_
      refine a0 e1 ?_
      kd_p
      refine(ih (n:=n) h2 (by lia) fun u s'' hu hs''=>?_).call
      refine a0 (List.set_set ..) ?_
      kd_p
      refine⟨ao rfl,?_⟩
      have:=q (.mk o [t,u]) s'' (.two (List.mem_of_getElem? ops) ht hu) (by unfold kq;lia)
      rw[gk] at this
      exact this
end
mutual
noncomputable def dR:Tm->List Tm
 | .mk op ts=>.mk op ts::cT ts
noncomputable def cT:List Tm->List Tm
 | []=>[]
 | t::ts=>dR t++cT ts
end
theorem fD(t:Tm):t∈dR t:=by cases t;unfold dR;exact .head _
mutual
theorem tj:∀ t:Tm,(dR t).length=ix t
 | .mk op ts=>by unfold dR ix;refine a0 List.length_cons ?_;refine a0 (iz ts) ?_;lia
theorem iz:∀ ts:List Tm,(cT ts).length=eR ts
 | []=>by unfold cT eR;rfl
 | t::ts=>by unfold cT eR;refine a0 List.length_append ?_;refine a0 (tj t) ?_;refine a0 (iz ts) ?_;rfl
end
theorem bJ{u:Tm}:∀ {ts:List Tm},u∈cT ts↔∃ t∈ts,u∈dR t
 | []=>by unfold cT;simp
 | t::ts=>by unfold cT;refine bt List.mem_append ?_;refine bt (bJ (ts:=ts)) ?_;simp
theorem Tg.deep{d:Nat}{t:Tm}(h:Tg d t):gJ (d+1) t:=by
 induction h with
 | leaf _=>exact .mk fun Z h=>nomatch h
 | one _ _ ih=>exact .mk fun x hx=>by refine a0 (List.mem_singleton.mp hx) ?_;exact ih
 | two _ _ _ ih1 ih2=>
   exact .mk fun x hx=>by
    rcases List.mem_cons.mp hx with rfl | hx
    ·exact ih1
    ·refine a0 (List.mem_singleton.mp hx) ?_;exact ih2
noncomputable def wW:Nat->Nat
 | 0=>1
 | d+1=>1+2*wW d
theorem wc:∀ d,1≤wW d
 | 0=>Nat.le_refl _
 | d+1=>by unfold wW;exact Nat.le_add_right_of_le (Nat.le_refl _)
theorem Tg.size{d:Nat}{t:Tm}(h:Tg d t):ix t≤wW d:=by
 induction h with
 | leaf _=>simp[ix,eR];exact wc _
 | one _ _ ih=>simp[ix,eR,wW];lia
 | two _ _ _ ih1 ih2=>simp[ix,eR,wW];lia
theorem Tg.sub{d:Nat}{t:Tm}(h:Tg d t):∀ op ts,Tm.mk op ts∈dR t->eS op ts.length∧(∀ x∈ts,x∈dR t)∧ix (.mk op ts)≤ix t:=by
 induction h with
 | leaf ho=>
   intro op ts hm
   simp only[dR,cT,List.mem_singleton] at hm
   injection hm with e1 e2
   subst e1 e2
   exact i3 (.inl ⟨rfl,ho⟩) (fun Z h=>(nomatch h)) (Nat.le_refl _)
 | @one d o t ho _ ih=>
   intro op ts hm
   simp only[dR,cT,List.append_nil,List.mem_cons] at hm
   rcases hm with hm | hm
   ·injection hm with e1 e2
    subst e1 e2
    refine i3 (.inr (.inl ⟨rfl,ho⟩)) (fun x hx=>?_) (Nat.le_refl _)
    refine a0 (List.mem_singleton.mp hx) ?_
    simp only[dR,cT,List.append_nil,List.mem_cons]
    exact .inr (fD _)
   ·refine a3 (ih op ts hm) fun a b c=>?_
    refine i3 a (fun x hx=>?_) ?_
    ·simp only[dR,cT,List.append_nil,List.mem_cons]
     exact .inr (b x hx)
    ·refine a9 c ?_
     simp[ix,eR]
 | @two d o t u ho _ _ ih1 ih2=>
   intro op ts hm
   simp only[dR,cT,List.append_nil,List.mem_cons,List.mem_append] at hm
   rcases hm with hm | hm | hm
   ·injection hm with e1 e2
    subst e1 e2
    refine i3 (.inr (.inr ⟨rfl,ho⟩)) (fun x hx=>?_) (Nat.le_refl _)
    simp only[dR,cT,List.append_nil,List.mem_cons,List.mem_append]
    rcases List.mem_cons.mp hx with rfl | hx
    ·exact .inr (.inl (fD _))
    ·refine a0 (List.mem_singleton.mp hx) ?_;exact .inr (.inr (fD _))
   ·refine a3 (ih1 op ts hm) fun a b c=>?_
    refine i3 a (fun x hx=>?_) ?_
    ·simp only[dR,cT,List.append_nil,List.mem_cons,List.mem_append]
     exact .inr (.inl (b x hx))
    ·refine a9 c ?_
     simp[ix,eR];exact Nat.le_add_left_of_le (Nat.le_add_right_of_le (Nat.le_refl _))
   ·refine a3 (ih2 op ts hm) fun a b c=>?_
    refine i3 a (fun x hx=>?_) ?_
    ·simp only[dR,cT,List.append_nil,List.mem_cons,List.mem_append]
     exact .inr (.inr (b x hx))
    ·refine a9 c ?_
     simp[ix,eR];exact Nat.le_add_left_of_le (Nat.le_add_left_of_le (Nat.le_refl _))
noncomputable def dh(terms:List Tm):List Tm:=cT terms
section
variable{terms:List Tm}(h:∀ t∈terms,Tg 2 t)
include h
theorem iu:∀ t∈dh terms,ix t≤7:=fun t ht=>by
 refine a7 (bJ.mp ht) fun u hu hm=>?_
 obtain⟨op,ts⟩:=t
 have:=((h u hu).sub op ts hm).2.2
 have:=(h u hu).size
 simp[wW] at this
 lia
theorem gN:∀ op ts,Tm.mk op ts∈dh terms->eS op ts.length:=fun op ts ht=>by
 refine a7 (bJ.mp ht) fun u hu hm=>?_
 exact((h u hu).sub op ts hm).1
theorem mr(hl:terms.length≤5):zt (dh terms):=by
 refine⟨fun op ts ht=>?_,fun op ts ht x hx=>?_,?_⟩
 ·have o:=gN h op ts ht
  exact i3 (q6 op (gX o)) (ly op (gX o)) (ez o)
 ·refine a7 (bJ.mp ht) fun u hu hm=>?_
  exact bJ.mpr (a6 u hu (((h u hu).sub op ts hm).2.1 x hx))
 ·unfold dh
  refine a0 (iz ..) ?_
  have:∀ l:List Tm,(∀ t∈l,Tg 2 t)->eR l≤7*l.length:=by
   intro l
   induction l with
   | nil=>intro _;exact Nat.le_refl _
   | cons a l ih=>
     intro hl
     have h1:=(hl a (.head _)).size
     have h2:=ih fun t ht=>hl t (.tail _ ht)
     simp[wW] at h1
     simp[eR];lia
  have:=this terms h
  exact a9 (a9 this (Nat.mul_le_mul (Nat.le_refl _) hl)) (by decide)
end
theorem si{nodes:List ar}(kid:dP nodes):∀ {d:Nat} {t:Tm},gJ d t->∀ n,n<nodes.length->tm nodes n=t->∀ u∈dR t,∃ m,m<nodes.length∧tm nodes m=u:=by
 intro d t hd
 induction hd with
 | @mk d op ts _ ih=>
   intro n hn e u hu
   unfold dR at hu
   rcases List.mem_cons.mp hu with rfl | hu
   ·exact a6 n hn e
   ·refine a7 (bJ.mp hu) fun t ht hm=>?_
    refine a7 (nA kid hn e) fun ks k1 z2=>?_;subst z2
    refine a7 (List.mem_map.mp ht) fun k hk z2=>?_;subst z2
    have kl:=kid _ _ k1 k hk
    exact ih _ ht k (by exact a9 kl (Nat.le_of_lt hn)) rfl u hm
end
section
open PySem PySem.W PySem.Calls PySem.Spec PyProof.Rows
theorem kA{V V':St}{F:List Nat}(x:aK V [] V' F){a:a5}{xs:List a5}(h:cK V a=some xs):cK V' a=some xs:=by
 unfold cK at*
 cases a with
 | ref l=>
   dsimp only at h ⊢
   cases e:V[l]? with
   | none=>rw[e] at h;cases h
   | some o=>refine a0 (x.keep l (List.getElem?_eq_some_iff.mp e).1 List.not_mem_nil) ?_;refine a0 e ?_;rw[e] at h;exact h
 | _=>exact h
structure qW(S:HS)(r:List Tm):Prop where
 cov:∀ t∈r,∃ m,m<S.bank.nodes.length∧tm S.bank.nodes m=t
 like:∀ t u,r=[t,u]->∃ i j,i<S.bank.nodes.length∧j<S.bank.nodes.length∧tm S.bank.nodes i=t∧tm S.bank.nodes j=u∧a8 S.un.par i=a8 S.un.par j
theorem jp.tm{S S':HS}(X:jp S S')(kid:dP S.bank.nodes){m:Nat}(h:m<S.bank.nodes.length):m<S'.bank.nodes.length∧Mine.tm S'.bank.nodes m=Mine.tm S.bank.nodes m:=by
 refine aH X.nodes fun more e=>?_
 refine a0 e ?_
 exact⟨by refine a0 List.length_append ?_;exact Nat.le_add_right_of_le h,iy kid more m h⟩
theorem qW.ext{U:List Tm}{T:Tm->Tm->Prop}{K:Nat}{S S':HS}{r:List Tm}(h:qW S r)(I:aC U T K S [])(X:jp S S'):qW S' r:=by
 refine⟨fun t ht=>?_,fun t u e=>?_⟩
 ·refine a7 (h.cov t ht) fun m a b=>?_
  refine a2 (X.tm I.kid a) fun c d=>?_
  exact a6 m c (d.trans b)
 ·refine xB (h.like t u e) fun i j a b c d f=>?_
  refine a2 (X.tm I.kid a) fun a1 a2=>?_
  obtain⟨b1,b2⟩:=X.tm I.kid b
  exact⟨i,j,a1,b1,a2.trans c,b2.trans d,X.eq i j (by rw[I.pn];exact a) (by rw[I.pn];exact b) f⟩
theorem aK.partR{V0 V1 V2:St}{A B B':List Nat}(x:aK V0 [] V1 (A++B))(y:aK V1 B V2 B'):aK V0 [] V2 (A++B'):=
 ⟨a9 x.len y.len,fun q h1 h2=>(y.keep q (Nat.lt_of_lt_of_le h1 x.len) fun h=>(x.fresh q (List.mem_append_right _ h)).elim (fun z=>nomatch z) fun z=>absurd h1 (Nat.not_lt.mpr z)).trans (x.keep q h1 h2),fun q hq=>(List.mem_append.mp hq).elim (fun h=>x.fresh q (List.mem_append_left _ h)) fun h=>(y.fresh q h).elim (fun h=>x.fresh q (List.mem_append_right _ h)) fun h=>.inr (a9 x.len h)⟩
theorem aK.partL{V0 V1 V2:St}{A A' B:List Nat}(x:aK V0 [] V1 (A++B))(y:aK V1 A V2 A'):aK V0 [] V2 (A'++B):=
 ⟨a9 x.len y.len,fun q h1 h2=>(y.keep q (Nat.lt_of_lt_of_le h1 x.len) fun h=>(x.fresh q (List.mem_append_left _ h)).elim (fun z=>nomatch z) fun z=>absurd h1 (Nat.not_lt.mpr z)).trans (x.keep q h1 h2),fun q hq=>(List.mem_append.mp hq).elim (fun h=>(y.fresh q h).elim (fun h=>x.fresh q (List.mem_append_left _ h)) fun h=>.inr (a9 x.len h)) fun h=>x.fresh q (List.mem_append_right _ h)⟩
theorem fw.pre{A:An}{S:HS}{vals vals':List (Nat×A.D)}(h:fw A S vals vals'):mX A S vals':=
 ⟨h.nd,fun c hc=>(List.getElem?_eq_some_iff.mp (h.rt c hc)).1,h.vle⟩
theorem xM{U:List Tm}{T:Tm->Tm->Prop}{K:Nat}:aC U T K S0 []:=by
 constructor<;>first | (constructor<;>simp[S0];done) | simp[S0,dP,aA] | (intro n p h;simp[S0] at h)
theorem xL{A:An}{U:List Tm}(ok:A.Ok U):mX A S0 []:=⟨List.nodup_nil,fun Z h=>(nomatch h),⟨fun z hz c hc=>by simp[S0] at hc,fun c Z=>rfl⟩⟩
theorem j9{V V':St}{F:List Nat}(x:aK V [] V' F){a:a5}{xs:List a5}(h:bn V a=some xs):bn V' a=some xs:=by
 unfold bn at*
 cases a with
 | ref l=>
   dsimp only at h ⊢
   cases e:V[l]? with
   | none=>rw[e] at h;cases h
   | some o=>refine a0 (x.keep l (List.getElem?_eq_some_iff.mp e).1 List.not_mem_nil) ?_;refine a0 e ?_;rw[e] at h;exact h
 | _=>exact h
noncomputable def eX(r:List Tm):a5:=.tup (r.map fB)
noncomputable def eW(e:Nat×Bool):a5:=.tup [.int (Int.ofNat e.1),.bool e.2]
structure oU(U:List Tm)(T:Tm->Tm->Prop)(A:An)(C:Addr)(as:List (Str×a5))(V0 V:St)(L:HL)(S:HS)(k:KL)(vals:List (Nat×A.D))(K:Nat):Prop where
 b:cC A C as V L S k vals
 I:aC U T K S []
 p:mX A S vals
 x:aK V0 [] V (k.keys++L.fp S)
inductive yK(U:List Tm)(T:Tm->Tm->Prop)(A:An)(C:Addr)(as:List (Str×a5))(V0:St)(rws:List (List Tm))(hp kp:Nat)(dn rest:List (Nat×Bool))(V:St):Prop
 | mk (L:HL) (S:HS) (k:KL) (vals:List (Nat×A.D)) (K:Nat) (m:oU U T A C as V0 V L S k vals K) (e3:L.hp=hp) (e4:k.kp=kp) (hK:K≤dn.length) (tl:∀ e∈dn,∀ r,rws[e.1]? =some r->qW S r) (st:∀ d s,dn=d++[(s,true)]->S.waiting=[]∧∃ vals0,fw A S vals0 vals)
inductive yJ(U:List Tm)(T:Tm->Tm->Prop)(A:An)(C:Addr)(as:List (Str×a5))(V0:St)(hp:Nat)(S:HS)(k:KL)(vals:List (Nat×A.D))(K:Nat)(r:List Tm)(dn out:List a5)(V:St):Prop
 | mk (pr post:List Tm) (L2:HL) (S2:HS) (ns:List Nat) (e1:r=pr++post) (e2:dn=pr.map fB) (e3:out=nats ns) (m:oU U T A C as V0 V L2 S2 k vals K) (f1:L2.hp=hp) (X:jp S S2) (f2:ns.map (tm S2.bank.nodes)=pr) (f3:∀ z∈ns,z<S2.bank.nodes.length)
inductive yI(U:List Tm)(T:Tm->Tm->Prop)(A:An)(C:Addr)(as:List (Str×a5))(V0:St)(hp:Nat)(S:HS)(k:KL)(vals:List (Nat×A.D))(K0:Nat)(r:List Tm)(V:St):Prop
 | mk (L5:HL) (S5:HS) (K:Nat) (m:oU U T A C as V0 V L5 S5 k vals K) (f5:L5.hp=hp) (hK:K≤K0) (X:jp S S5) (t:qW S5 r)
theorem zi{U:List Tm}{T:Tm->Tm->Prop}{A:An}(ok:A.Ok U){C:Addr}{as:List (Str×a5)}{V V1 V2 V3:St}{L:HL}{kp an vp tp:Nat}(h1:ak V1 L S0)(x1:aK V [] V1 (L.fp S0))(ha:V2[an]? =some (.inst C as))(x2:aK V1 [] V2 [an])(hkp:V2.length≤kp)(g3:b8 V3 [(kp,hZ ⟨kp,an,vp,tp⟩ L.hp),(vp,.idict []),(tp,.idict [])])(y3:aK V2 [] V3 [kp,vp,tp]):oU U T A C as V V3 L S0 ⟨kp,an,vp,tp⟩ [] 0:=by
 have f1:=h1.lt
 have f2:∀ q∈[kp,vp,tp],V2.length≤q:=fun q hq=>(y3.fresh q hq).elim (fun z=>nomatch z) id
 have f3:V1.length≤an:=(x2.fresh an (.head _)).elim (fun z=>nomatch z) id
 have f4:an<V2.length:=(List.getElem?_eq_some_iff.mp ha).1
 have g4:b8 V3 [(an,.inst C as),(kp,hZ ⟨kp,an,vp,tp⟩ L.hp),(vp,.idict []),(tp,.idict [])]:=b8.join (G:=[(an,.inst C as)]) ⟨fun p hp=>by refine a0 (List.mem_singleton.mp hp) ?_;exact ha,List.pairwise_singleton _ _⟩ y3 g3
 have l12:=x2.len
 refine⟨⟨(h1.other x2 fun Z Z=>List.not_mem_nil).other y3 fun Z Z=>List.not_mem_nil,g4.pick [1,0,2] (by decide),fun q hq hq'=>?_⟩,xM,xL ok,?_⟩
 ·have:=f1 q hq'
  have g1:=f2 kp (.head _)
  have g2:=f2 vp (.tail _ (.head _))
  simp only[KL.keys,List.mem_cons,List.not_mem_nil,or_false] at hq
  lia
 ·have z:=(x1.join x2).join y3
  refine⟨z.len,z.keep,fun q hq=>z.fresh q ?_⟩
  simp only[KL.keys,List.mem_append,List.mem_cons,List.not_mem_nil,or_false] at hq ⊢
  rcases hq with(h | h | h) | h<;>simp[h]
structure xN(U:List Tm)(T:Tm->Tm->Prop)(rws:List (List Tm))(tn:List (Nat×Bool)):Prop where
 rl:rws.length≤20
 r0:0<rws.length
 tl:tn.length≤20
 spot:∀ e∈tn,e.1<rws.length
 row:∀ r∈rws,1≤r.length∧r.length≤2∧∀ t∈r,gJ 3 t∧t∈U
 told:∀ t u,[t,u]∈rws->Cl (fun x=>x∈U) T t u
 ok:zt U
 ops:∀ op ts,Tm.mk op ts∈U->eS op ts.length
 sz:∀ t∈U,ix t≤7
section
variable{prog:Program}{w:World}{H:Heap}{mg mb:Str->Option Value}{U:List Tm}{T:Tm->Tm->Prop}{K:Nat}{A:An}{C fo fj:Addr}{as:List (Str×a5)}
set_option maxHeartbeats 2000000 in
theorem lK{n:Nat}{V:St}{i:Nat}(hi:i<5){rws:List (List Tm)}{tn:List (Nat×Bool)}{vr vt:a5}{Q:a5->St->Prop}(P:xN U T rws tn)(hvr:cK V vr=some (rws.map eX))(hvt:bn V vt=some (tn.map eW))
 (q:∀ V' L S k vals vals0 K,oU U T (kd i).A (kd i).C (kd i).as V V' L S k vals K->K≤100->S.waiting=[]->fw (kd i).A S vals0 vals->(∀ e∈tn++[(0,true)],∀ r,rws[e.1]? =some r->qW S r)->Q (.tup [.ref L.hp,.ref k.kp]) V'):
 CC (W0 prog w H mg mb) (n+10) (.ref 637) [vr,vt,.int (Int.ofNat i)] V Q:=by
 have okA:=wU P.sz i
 have run:=tX (prog:=prog) (w:=w) (H:=H) (mg:=mg) (mb:=mb) i
 refine ag (ps:=["rows","turns","number"]) (by rfl) (by rfl) ?_ (by rfl) (by decide) (by rfl) (by decide) (by rfl) ?_ (by rfl) (by rfl) (by rfl)
 ·exact eF fun Z Z Z=>rfl
 ·kd_p
  refine io (f:=487) (by rfl) (by rfl) (by rfl) ?_
  have z0:b8 (V++[.inst 599 []]) [(V.length,.inst 599 [])]:=b8.push (l:=[]) ⟨fun Z hh=>(nomatch hh),List.Pairwise.nil⟩ _
  refine s8 z0 fun V1 L e1 h1 x1=>⟨rfl,?_⟩
  refine aX e1 ?_
  replace x1:aK V [] V1 (L.fp S0):=aK.trans (.push _) x1
  clear z0 e1
  kd_p
  refine(lf hi fun V2 an ha x2=>?_).call
  kd_p
  refine io (f:=189) (by rfl) (by rfl) (by rfl) ?_
  have z0:b8 (V2++[.inst 230 []]) [(V2.length,.inst 230 [])]:=b8.push (l:=[]) ⟨fun Z hh=>(nomatch hh),List.Pairwise.nil⟩ _
  refine og z0 fun V3 vp tp g3 x3=>⟨rfl,?_⟩
  have m0:=zi (U:=U) (T:=T) okA h1 x1 ha x2 (Nat.le_refl _) g3 (aK.trans (.push _) x3)
  clear z0 g3 x3 h1 x1 ha x2
  generalize V2.length=kp at m0 ⊢
  generalize ehp:L.hp=hp
  kd_p
  refine bP ?_ rfl
  kd_p
  refine ch ?_
  kd_p
  refine⟨ao rfl,?_⟩
  kd_p
  refine⟨ao rfl,?_⟩
  have tl20:=P.tl
  refine a6 _ (kz (j9 m0.x hvt) rfl (by exact a9 (Nat.le_of_eq (xH (List.length_map ..) ((List.length_cons ..).trans (congrArg (· +_) (List.length_nil ..))))) (a9 (Nat.add_le_add_right tl20 _) (by decide)))) ?_
  refine a6 ((tn++[(0,true)]).map eW) (by refine a0 List.map_append ?_;rfl) ?_
  refine dE eW (tn++[(0,true)]) (yK U T (kd i).A (kd i).C (kd i).as V rws hp kp) (fun V' h=>?_) (fun dn e rest V' KK e2 h hKK=>?_) ⟨L,S0,_,[],0,m0,ehp,rfl,Nat.le_refl _,fun Z h=>(nomatch h),fun d s h=>by simp at h⟩
  ·obtain⟨L',S,k,vals,K,m,e3,e4,hK,tl,st⟩:=h
   obtain⟨sw,vals0,sr⟩:=st tn 0 rfl
   have fin:=q V' L' S k vals vals0 K m (by simp at hK;exact a9 (a9 hK (Nat.add_le_add_right tl20 _)) (by decide)) sw sr tl
   rw[e3,e4] at fin
   kd_p
   exact⟨by simp,fin⟩
  ·obtain⟨L',S,k,vals,K,m,e3,e4,hK,tl,st⟩:=h
   have hdn:dn.length+rest.length+1=tn.length+1:=by
    have:=congrArg List.length e2
    simp at this;lia
   have es:e.1<rws.length:=by
    rcases List.mem_append.mp (show e∈tn++[(0,true)] by refine a0 e2 ?_;exact List.mem_append_right _ (.head _))with h | h
    ·exact P.spot e h
    ·refine a0 (List.mem_singleton.mp h) ?_;exact P.r0
   obtain⟨r,hr⟩:∃ r,rws[e.1]? =some r:=⟨_,List.getElem?_eq_getElem es⟩
   refine a3 (P.row r (List.mem_of_getElem? hr)) fun r1 r2 r3=>?_
   have hl20:=P.rl
   refine fy (xs:=[.int (Int.ofNat e.1),.bool e.2]) rfl rfl ?_
   show AT _ _ _ _ _ _ _ _
   kd_p
   show AT _ _ _ _ _ _ _ _
   kd_p
   show df _ _ _ _ _ _ _
   kd_p
   refine cg (new:=false) (eK (nm:="one") rfl rfl ?_) (by rfl) (by rfl)
   kd_p
   refine bC (xs:=rws.map eX) (x:=eX r) (kA m.x hvr) (Int.natCast_nonneg _) (by show((e.1:Nat):Int)<_;lia) (by refine a0 List.getElem?_map ?_;show(rws[e.1]?).map eX=_;refine a0 hr ?_;rfl) ?_
   refine⟨r.map fB,rfl,by exact a9 (Nat.le_of_eq (List.length_map ..)) (a9 r2 (by decide)),yJ U T (kd i).A (kd i).C (kd i).as V hp S k vals K r,⟨[],r,L',S,[],rfl,rfl,rfl,m,e3,.refl,rfl,fun Z h=>(nomatch h)⟩,fun Z Z Z Z=>rfl,fun dn2 out x xs V₂ K2 hys h hK2=>?_,fun out V₂ h=>?_⟩
   ·obtain⟨pr,post,L2,S2,ns,e0,rfl,rfl,m2,f1,X2,f2,f3⟩:=h
    rw[e0,List.map_append] at hys
    refine bR (di (List.append_cancel_left hys)) fun t post z2 z3 z4=>?_;subst z2;subst z3;subst z4
    refine a2 (r3 t (by rw[e0];exact List.mem_append_right _ (.head _))) fun td tU=>?_
    have h5:V₂[hp]? =some L2.heapO:=f1▸m2.b.h.hp'
    unfold HL.heapO at h5
    kd_p
    refine aX f1 ?_
    refine(tD P.ok (by lia) 3 (n:=n) td tU m2.b.h m2.I fun i' V5 L5 S5 ⟨I5,X5,il,et⟩ h5' e5 x5=>?_).call
    refine hK2 _ _ ⟨pr++[t],post,L5,S5,ns++[i'],by simp[e0],by simp,by simp[nats],⟨m2.b.heap x5 h5' e5,I5,m2.p.ext okA X5,m2.x.partR x5⟩,e5.trans f1,X2.trans X5,?_,fun z hz=>?_⟩
    ·refine a0 List.map_append ?_;refine a0 (List.map_congr_left fun z hz=>(X5.tm m2.I.kid (f3 z hz)).2) ?_;refine a0 f2 ?_
     simp[et]
    ·rcases List.mem_append.mp hz with hz | hz
     ·exact(X5.tm m2.I.kid (f3 z hz)).1
     ·refine a0 (List.mem_singleton.mp hz) ?_;exact il
   ·obtain⟨pr,post,L2,S2,ns,g1,g2,rfl,m2,f1,X2,f2,f3⟩:=h
    obtain rfl:r=pr:=by
     have:=congrArg List.length g2
     rw[g1] at this
     simp at this
     refine a0 g1 ?_;refine a0 this ?_;refine a0 (List.append_nil ..) ?_;rfl
    clear g1 g2
    have nl:ns.length=r.length:=by refine aX f2 ?_;exact(List.length_map ..).symm
    have pn2:=m2.I.pn
    have cov2:∀ t∈r,∃ m,m<S2.bank.nodes.length∧tm S2.bank.nodes m=t:=fun t ht=>by
     rw[← f2] at ht
     refine a7 (List.mem_map.mp ht) fun z hz e=>?_
     exact a6 z (f3 z hz) e
    unfold CK
    refine ite_neg (by decide) ?_
    refine a6 _ rfl ?_
    show df _ _ _ _ _ _ _
    refine wn (yI U T (kd i).A (kd i).C (kd i).as V hp S k vals (dn.length+1) r) ?_ fun V5 h=>?_
    ·kd_p
     refine bQ (k:=ns.length) (by exact List.length_map ..) (by exact a9 (Nat.le_of_eq nl) (a9 r2 (by decide))) ?_
     kd_p
     refine a6 _ aN ?_
     by_cases two:ns.length=2
     ·refine ite_pos (by refine a0 two ?_;rfl) ?_
      refine jh (fJ two) fun a b z2=>?_;subst z2
      have ha:=f3 a (by exact .head _)
      have hb:=f3 b (by simp)
      have hr2:r=[tm S2.bank.nodes a,tm S2.bank.nodes b]:=f2.symm
      have h5:V₂[hp]? =some L2.heapO:=f1▸m2.b.h.hp'
      unfold HL.heapO at h5
      kd_p
      refine bC (xs:=nats [a,b]) (i:=0) rfl (by lia) (by lia) rfl ?_
      kd_p
      refine bC (xs:=nats [a,b]) (i:=1) rfl (by lia) (by lia) rfl ?_
      kd_p
      refine⟨ao rfl,?_⟩
      kd_p
      refine aX f1 ?_
      refine(ou m2.b.h m2.I P.ok.size (by lia) (by exact a9 ha (fX pn2)) (by exact a9 hb (fX pn2)) (P.told _ _ (by rw[← hr2];exact List.mem_of_getElem? hr)) fun v V5 L5 S5 ⟨I5,F5,r5⟩ h5' e5 x5=>?_).call
      kd_p
      refine⟨rfl,rfl,L5,S5,K+1,⟨m2.b.heap x5 h5' e5,I5,m2.p.ext okA F5.ext,m2.x.partR x5⟩,e5,by exact Nat.add_le_add_right hK _,X2.trans F5.ext,fun t ht=>?_,fun t u e=>?_⟩
      ·refine a7 (cov2 t ht) fun z z1 z2=>?_
       refine a2 (F5.ext.tm m2.I.kid z1) fun z3 z4=>?_
       exact a6 z z3 (z4.trans z2)
      ·rw[hr2] at e
       injection e with e7 e8
       injection e8 with e8 _
       refine a2 (F5.ext.tm m2.I.kid ha) fun a3 a4=>?_
       refine a2 (F5.ext.tm m2.I.kid hb) fun b3 b4=>?_
       exact u7 a b a3 b3 (a4.trans e7) (b4.trans e8) r5
     ·refine ite_neg (by simp only[decide_eq_true_eq];intro z;exact two (Int.ofNat.inj z)) ?_
      kd_p
      exact⟨rfl,rfl,L2,S2,K,m2,f1,by exact Nat.le_add_right_of_le hK,X2,cov2,fun t u e=>absurd (by refine a0 nl ?_;refine a0 e ?_;rfl) two⟩
    ·obtain⟨L5,S5,K5,m5,f5,hK5,X5,t5⟩:=h
     have tl5:∀ e'∈dn++[e],∀ r',rws[e'.1]? =some r'->qW S5 r':=fun e' he r' hr'=>by
      rcases List.mem_append.mp he with he | he
      ·exact(tl e' he r' hr').ext m.I X5
      ·rw[List.mem_singleton.mp he,hr] at hr'
       cases hr'
       exact t5
     have k5:=m5.b.g.get (i:=0) (p:=kp) (by refine aX e4 ?_;rfl)
     have h5:V5[hp]? =some L5.heapO:=f5▸m5.b.h.hp'
     unfold hZ at k5
     unfold HL.heapO at h5
     rw[f5] at k5
     kd_p
     refine ip ?_ (by rfl)
     kd_p
     refine a6 e.2 rfl ?_
     cases hb5:e.2 with
     | false=>
       refine ite_neg (by exact fun z=>nomatch z) ?_
       kd_p
       refine⟨by refine a0 List.map_append ?_;rfl,hKK _ _ (Sub.app (ext:=[("spot",_),("is_settling",_),("numbers",_)])) ⟨L5,S5,k,vals,K5,m5,f5,e4,by simpa using hK5,tl5,fun d s hd=>?_⟩⟩
       have:=List.append_inj_right' hd rfl
       injection this with this _
       rw[this] at hb5
       cases hb5
     | true=>
       refine ite_pos rfl ?_
       kd_p
       refine aX f5 ?_
       refine(nK m5.b.h m5.I P.ok.size (by lia) fun V6 L6 S6 ⟨I6,F6,w6⟩ h6 e6 x6=>?_).call
       rw[f5]
       have m6:oU U T (kd i).A (kd i).C (kd i).as V V6 L6 S6 k vals _:=⟨m5.b.heap x6 h6 e6,I6,m5.p.ext okA F6.ext,m5.x.partR x6⟩
       have k6:=m6.b.g.get (i:=0) (p:=kp) (by refine aX e4 ?_;rfl)
       unfold hZ at k6
       clear k5 h5
       kd_p
       refine aX e4 ?_
       refine(hW (n:=n+3) okA run m6.b m6.I P.ok.size (by lia) P.ops m6.p fun V7 vp7 vals7 b7 x7 sr7=>?_).call
       refine a0 e4 ?_
       kd_p
       exact⟨by refine a0 List.map_append ?_;rfl,hKK _ _ (Sub.app (ext:=[("spot",_),("is_settling",_),("numbers",_)])) ⟨L6,S6,{k with vp:=vp7},vals7,_,⟨b7,I6,sr7.pre,m6.x.partL x7⟩,e6.trans f5,e4,by simpa using hK5,fun e' he r' hr'=>(tl5 e' he r' hr').ext m5.I F6.ext,fun d s hd=>⟨w6,_,sr7⟩⟩⟩
end
section
variable{A:An}{U:List Tm}{T:Tm->Tm->Prop}{K:Nat}{S:HS}{vals vals0:List (Nat×A.D)}(ok:A.Ok U)(I:aC U T K S [])(r:fw A S vals0 vals)
include ok I r
theorem fw.zs:Zs A S (fun n=>vf A vals (a8 S.un.par n)):=by
 refine⟨fun i j hi hj e=>congrArg (vf A vals) e,fun n x hx=>?_⟩
 have hn:n<S.un.par.length:=by refine a0 I.pn ?_;exact(List.getElem?_eq_some_iff.mp hx).1
 refine ok.trans (lJ ok I _ hx (c5 I.par hn).symm) ?_
 exact r.post _ (bj I.par hn)
theorem fw.fix{c:Nat}(hc:c<S.un.par.length):Fv A S (fun n=>vf A vals (a8 S.un.par n)) c=vf A vals (a8 S.un.par c):=by
 have z:=r.zs ok I
 refine ok.anti (z.Fv ok I hc) ?_
 have w:Zs A S (Fv A S (fun n=>vf A vals (a8 S.un.par n))):=by
  refine⟨fun i j hi hj e=>qr ok I _ e,fun n x hx=>?_⟩
  refine ok.trans (lJ ok I _ hx rfl) (eN ok I (fun m hm=>z.Fv ok I hm) n)
 have:=r.vle.le _ w (a8 S.un.par c) (bL hc)
 rw[qr ok I _ (c5 I.par hc)] at this
 exact this
end
section
variable{prog:Program}{w:World}{H:Heap}{mg mb:Str->Option Value}{U:List Tm}{T:Tm->Tm->Prop}{K:Nat}{A:An}{C fo fj:Addr}{as:List (Str×a5)}
theorem w9{S:HS}{vals vals0:List (Nat×A.D)}{c:Nat}{out:List ar}(ok:A.Ok U)(I:aC U T K S [])(r:fw A S vals0 vals)(crt:S.un.par[c]? =some c)(mem:∀ y,y∈out↔∃ i x,S.bank.nodes[i]? =some x∧a8 S.un.par i=a8 S.un.par c∧y=S.nodeKey x):
 out.foldl (fun acc y=>A.join acc (A.f y.1 (y.2.map fun k=>vf A vals (a8 S.un.par k)))) A.bot=vf A vals c:=by
 have fx:=r.fix ok I (bN crt)
 rw[ay crt] at fx
 refine aX fx ?_
 refine ok.eq_of fun y=>?_
 rw[ok.fold_le (fun y:ar=>A.f y.1 (y.2.map fun k=>vf A vals (a8 S.un.par k))),m8 ok I]
 have e9:∀ (i:Nat) (x:ar),S.bank.nodes[i]? =some x->(S.nodeKey x).2.map (fun k=>vf A vals (a8 S.un.par k))=x.2.map (fun k=>vf A vals (a8 S.un.par k)):=fun i x hx=>by
  unfold HS.nodeKey
  refine a0 List.map_map ?_
  exact List.map_congr_left fun z hz=>congrArg (vf A vals) (c5 I.par (I.hx hx z hz))
 refine⟨fun hh=>⟨ok.bot_le y,fun z hz=>?_⟩,fun hh i x hx hr=>e9 i x hx▸hh.2 (S.nodeKey x) ((mem _).mpr (d7 i x hx hr rfl))⟩
 refine bR ((mem z).mp hz) fun i x hx hr z4=>?_;subst z4
 refine a0 (e9 i x hx) ?_
 exact hh i x hx hr
set_option maxHeartbeats 2000000 in
theorem gW{n:Nat}{V:St}{L:HL}{S:HS}{k:KL}{vals vals0:List (Nat×A.D)}{Q:a5->St->Prop}(ok:A.Ok U)(run:ph (W0 prog w H mg mb) A C fo fj as)(b:cC A C as V L S k vals)(I:aC U T K S [])(r:fw A S vals0 vals)(hU:U.length≤40)(hK:K≤1000)(hops:∀ op ts,Tm.mk op ts∈U->eS op ts.length)
 (q:∀ V',aK V [] V' []->Q (.bool true) V'):CC (W0 prog w H mg mb) (n+6) (.ref 642) [.ref L.hp,.ref k.kp] V Q:=by
 refine ag (ps:=["heap","kept"]) (by rfl) (by rfl) ?_ (by rfl) (by decide) (by rfl) (by decide) (by rfl) ?_ (by rfl) (by rfl) (by rfl)
 ·exact dj fun Z Z=>rfl
 ·have m:=I.small hU
  have h3:=b.h.hp'
  walk_at "m"
  refine bP ?_ rfl
  kd_p
  refine(g8 b.h m ?_).call
  refine a6 (nats (aA S.un.par)) rfl ?_
  refine dE (fun n=>.int (Int.ofNat n)) (aA S.un.par) (fun Z Z V'=>aK V [] V' []) (fun V' X=>?_) (fun dn c rest V1 KK e2 X1 hKK=>?_) .refl
  ·kd_p
   exact q V' X
  ·have crt:S.un.par[c]? =some c:=dU.mp (by refine a0 e2 ?_;exact List.mem_append_right _ (.head _))
   have b1:=b.quiet X1
   have h4:=b1.h.hp'
   clear h3
   kd_p
   refine bP ?_ rfl
   kd_p
   refine(g7 b1.h I hU hK (bN crt) fun out mem ol=>?_).call
   refine a6 _ rfl ?_
   refine aX ok.encbot ?_
   refine n5 c8 out (fun dn Z ρ V'=>aK V [] V' []∧ρ=([("heap",.ref L.hp),("kept",.ref k.kp),("c",.int (Int.ofNat c)),("due",A.enc (dn.foldl (fun acc y=>A.join acc (A.f y.1 (y.2.map fun k=>vf A vals (a8 S.un.par k)))) A.bot))]:ai)) (fun ρ V2 h=>?_) (fun dn2 z rest2 ρ V2 K2 e2 h hK2=>?_) ⟨X1,rfl⟩
   ·refine a2 h ?_;clear h;intro X2 z1;subst z1
    refine a0 (w9 ok I r crt mem) ?_
    have b2:=b.quiet X2
    have k2:V2[k.kp]? =some (.inst 230 [("heap",.ref L.hp),("analysis",.ref k.an),("values",.ref k.vp),("told",.ref k.tp)]):=b2.g.get (i:=0) rfl
    kd_p
    refine(ee ok b2 m (bN crt) ?_).call
    refine a0 (ay crt) ?_
    kd_p
    refine a6 _ (gD (by refine a0 (bW (ok.okv _)) ?_;exact ok.okv _) (by refine a0 (bW (ok.okv _)) ?_;exact ok.okv _)) ?_
    refine a0 (bW (ok.okv _)) ?_;refine a0 ((ok.eq _ _).mpr rfl) ?_;refine ite_neg (by exact fun z=>nomatch z) ?_
    kd_p
    exact⟨rfl,hKK _ V2 (Sub.app (ext:=[("c",_),("due",_)])) X2⟩
   ·refine a2 h ?_;clear h;intro X2 z1;subst z1
    have b2:=b.quiet X2
    have k2:V2[k.kp]? =some (.inst 230 [("heap",.ref L.hp),("analysis",.ref k.an),("values",.ref k.vp),("told",.ref k.tp)]):=b2.g.get (i:=0) rfl
    have a2:V2[k.an]? =some (.inst C as):=b2.g.get (i:=1) rfl
    have hz:=(mem z).mp (by refine a0 e2 ?_;exact List.mem_append_right _ (.head _))
    have zop:=lG I hops hz
    have zl:=ez zop
    have zk:∀ j∈z.2,j<S.un.par.length:=by
     refine bR hz ?_;clear hz;intro i x hx _ z4;subst z4
     intro j hj
     refine a7 (List.mem_map.mp hj) fun j' hj' z2=>?_;subst z2
     exact bL (I.hx hx j' hj')
    kd_p
    refine a6 _ (run.mj a2) ?_
    kd_p
    refine a6 _ (run.mo a2) ?_
    kd_p
    refine cS (i:=0) (xs:=.str z.1::nats z.2) (Nat.zero_le _) rfl ?_
    kd_p
    refine aW (new:=false) (aE (nm:="kid") rfl ?_) (by rfl)
    refine bG (i:=1) ?_
    kd_p
    refine fh _ rfl (by exact Nat.succ_pos _) (by simp;exact a9 zl (by decide)) ?_
    refine .nats z.2 (fun k=>A.enc (vf A vals (a8 S.un.par k))) rfl (by exact a9 zl (by decide)) (fun j hj K hK=>?_) (List.map_map (f:=fun k=>vf A vals (a8 S.un.par k))).symm (a6 _ rfl ?_)
    ·kd_p
     exact(ee ok b2 m (zk j hj) hK).call
    ·kd_p
     refine run.co a2 (by refine a0 (List.length_map ..) ?_;exact zop) fun V₂ X3=>?_
     kd_p
     refine run.cj ((b.quiet (X2.trans X3)).g.get (i:=1) rfl) ?_
     kd_p
     exact⟨rfl,hK2 _ _ V₂ (Sub.app (ext:=[("node",_)])) ⟨X2.trans X3,by refine a0 List.foldl_append ?_;rfl;try rfl⟩⟩
end
section
variable{prog:Program}{w:World}{H:Heap}{mg mb:Str->Option Value}{U:List Tm}{T:Tm->Tm->Prop}{K:Nat}{A:An}{C fo fj:Addr}{as:List (Str×a5)}
theorem wj{n:Nat}{V:St}{L:HL}{S:HS}{x:ar}{i:Nat}{Q:a5->St->Prop}(h:ak V L S)(I:aC U T K S [])(hU:U.length≤40)(hi:S.bank.nodes[i]? =some x)(q:Q (.int (Int.ofNat i)) V):
 CC (W0 prog w H mg mb) (n+6) (.ref 504) [.ref L.hp,.str x.1,.tup (nats x.2)] V Q:=by
 refine ag (ps:=["self","op","numbers"]) (by rfl) (by rfl) ?_ (by rfl) (by decide) (by rfl) (by decide) (by rfl) ?_ (by rfl) (by rfl) (by rfl)
 ·exact eF fun Z Z Z=>rfl
 ·have h1:=h.hp'
  have hb1:=h.bk'
  have m:=I.small hU
  have size:=I.size
  have hil:=(List.getElem?_eq_some_iff.mp hi).1
  have h2:=I.kid2 x (List.mem_of_getElem? hi)
  kd_p
  refine(nC h.b I.nd hi (by exact a9 h2 (by decide)) ?_).call
  kd_p
  have hu1:=h.un'
  kd_p
  refine(gg hu1 h.pa' (by have:=I.pn;exact a9 (Nat.le_of_eq this) (a9 size (a9 hU (by decide)))) ?_).call
  refine a6 _ dI ?_
  refine ite_pos (by simpa using by refine a0 I.pn ?_;exact hil) ?_
  kd_p
  exact q
theorem vx:∀ (d:Nat) {n i:Nat} {t:Tm} {V:St} {L:HL} {S:HS} {Q:a5->St->Prop},gJ d t->ak V L S->aC U T K S []->U.length≤40->i<S.bank.nodes.length->tm S.bank.nodes i=t->Q (.int (Int.ofNat i)) V->
 CC (W0 prog w H mg mb) (n+d+6) (.ref 509) [.ref L.hp,fB t] V Q:=by
 intro d
 induction d with
 | zero=>intro n i t V L S Q hd;cases hd
 | succ d ih=>
   intro n i t V L S Q hd h I hU hi ht q
   cases hd with
   | @mk _ op ts hts=>
   refine a7 (nA I.kid hi ht) fun ks k1 z2=>?_;subst z2
   have kid:=I.kid _ _ k1
   have k2:=I.kid2 _ (List.mem_of_getElem? k1)
   refine a0 (gk ..) ?_
   refine ag (ps:=["self","term"]) (by rfl) (by rfl) ?_ (by rfl) (by decide) (by rfl) (by decide) (by rfl) ?_ (by rfl) (by rfl) (by rfl)
   ·exact dj fun Z Z=>rfl
   ·have h1:=h.hp'
    kd_p
    refine cS (i:=0) (xs:=.str op::(ks.map (tm S.bank.nodes)).map fB) (by decide) rfl ?_
    kd_p
    refine aW (new:=false) (eK (nm:="part") rfl rfl ?_) (by rfl)
    refine bG (i:=1) ?_
    kd_p
    refine fh _ rfl (by exact Nat.succ_pos _) (by simp;simp at k2;exact a9 k2 (by decide)) ?_
    refine sj ks (fB ∘ tm S.bank.nodes) (fun k=>.int (Int.ofNat k)) (congrArg some (List.map_map ..)) (by simp at k2;exact a9 k2 (by decide)) (fun k hk K hK=>?_) ?_
    ·have kl:=kid k hk
     kd_p
     exact(ih (n:=n) (hts _ (List.mem_map.mpr (a6 k hk rfl))) h I hU (a9 kl (Nat.le_of_lt hi)) rfl hK).call
    have k2:ks.length≤2:=k2
    unfold CK
    refine ite_neg (by decide) ?_
    refine a6 _ rfl ?_
    kd_p
    refine cZ (a:=.frz _) rfl (by simp at k2 ⊢;exact a9 k2 (by decide)) ?_
    kd_p
    exact(wj (n:=n+d) (x:=(op,ks)) h I hU k1 q).call
end
structure oR(A:An)(U:List Tm)(T:Tm->Tm->Prop)(S S':HS):Prop where
 ok:A.Ok U
 I:∃ K,aC U T K S []
 I':∃ K,aC U T K S' []
 cov':∀ n,n<S.bank.nodes.length->∃ m,m<S'.bank.nodes.length∧tm S'.bank.nodes m=tm S.bank.nodes n
 full':∀ {t u:Tm},Cl (fun x=>x∈U) T t u->∀ i j,i<S'.bank.nodes.length->j<S'.bank.nodes.length->tm S'.bank.nodes i=t->tm S'.bank.nodes j=u->a8 S'.un.par i=a8 S'.un.par j
theorem oR.le{A:An}{U:List Tm}{T:Tm->Tm->Prop}{S S':HS}(P:oR A U T S S'){v v':Nat->A.D}(hv:uJ A S v)(hz:Zs A S' v'){n m:Nat}(hn:n<S.bank.nodes.length)(hm:m<S'.bank.nodes.length)(e:tm S'.bank.nodes m=tm S.bank.nodes n):A.le (v n) (v' m):=by
 classical
 refine aH P.I fun K I=>?_
 refine aH P.I' fun K' I'=>?_
 let f:Nat->Nat:=fun n=>if h:n<S.bank.nodes.length then Classical.choose (P.cov' n h)else 0
 have f1:∀ n,n<S.bank.nodes.length->f n<S'.bank.nodes.length∧tm S'.bank.nodes (f n)=tm S.bank.nodes n:=fun n hn=>by
  have:=Classical.choose_spec (P.cov' n hn)
  show(if h:n<S.bank.nodes.length then Classical.choose (P.cov' n h)else 0)<_∧tm _ (if h:n<S.bank.nodes.length then Classical.choose (P.cov' n h)else 0)=_
  refine a0 (dif_pos hn) ?_;exact this
 have inj:=mu I'.kid I'.nd
 have fm:f n=m:=inj _ _ (f1 n hn).1 hm ((f1 n hn).2.trans e.symm)
 have z:Zs A S (fun n=>v' (f n)):=by
  refine⟨fun i j hi hj r=>?_,fun n x hx=>?_⟩
  ·have hi:=I.pn▸hi
   have hj:=I.pn▸hj
   refine a2 (f1 i hi) fun a1 a2=>?_
   obtain⟨b1,b2⟩:=f1 j hj
   have:=P.full' (nH I hi hj r) (f i) (f j) a1 b1 a2 b2
   exact hz.cls _ _ (by refine a0 I'.pn ?_;exact a1) (by refine a0 I'.pn ?_;exact b1) this
  ·have hn:=(List.getElem?_eq_some_iff.mp hx).1
   refine a2 (f1 n hn) fun a1 a2=>?_
   rw[dQ hx (I.kid _ _ hx)] at a2
   refine a7 (nA I'.kid a1 a2) fun ks k1 k2=>?_
   have e2:ks=x.2.map f:=by
    refine List.ext_getElem? fun j=>?_
    have:=congrArg (fun l:List Tm=>l[j]?) k2
    rw[List.getElem?_map,List.getElem?_map] at this
    refine a0 List.getElem?_map ?_
    cases h1:x.2[j]? with
    | none=>rw[h1] at this;cases h2:ks[j]? with
      | none=>rfl
      | some b=>rw[h2] at this;cases this
    | some a=>
      rw[h1] at this
      cases h2:ks[j]? with
      | none=>rw[h2] at this;cases this
      | some b=>
        rw[h2] at this
        injection this with this
        have al:a<S.bank.nodes.length:=by have:=I.kid _ _ hx a (List.mem_of_getElem? h1);exact a9 this (Nat.le_of_lt hn)
        have bl:b<S'.bank.nodes.length:=by have:=I'.kid _ _ k1 b (List.mem_of_getElem? h2);exact a9 this (Nat.le_of_lt a1)
        obtain⟨c1,c2⟩:=f1 a al
        show some b=some (f a)
        refine a0 (inj b (f a) bl c1 (this.symm.trans c2.symm)) ?_;rfl
   have:=hz.post (f n) _ k1
   rw[e2,List.map_map] at this
   exact this
 have:=hv.le _ z n (by refine a0 I.pn ?_;exact hn)
 rw[fm] at this
 exact this
theorem oR.size{A:An}{U:List Tm}{T:Tm->Tm->Prop}{S S':HS}(P:oR A U T S S'):S.bank.nodes.length≤S'.bank.nodes.length:=by
 classical
 refine aH P.I fun K I=>?_
 have nd:((List.range S.bank.nodes.length).map (tm S.bank.nodes)).Nodup:=by
  unfold List.Nodup
  refine bt List.pairwise_map ?_
  refine List.nodup_range.imp_of_mem fun{a b} ha hb ne e=>ne ?_
  exact mu I.kid I.nd a b (List.mem_range.mp ha) (List.mem_range.mp hb) e
 have sub:∀ t∈(List.range S.bank.nodes.length).map (tm S.bank.nodes),t∈(List.range S'.bank.nodes.length).map (tm S'.bank.nodes):=fun t ht=>by
  refine a7 (List.mem_map.mp ht) fun n hn z2=>?_;subst z2
  refine a7 (P.cov' n (List.mem_range.mp hn)) fun m hm e=>?_
  exact List.mem_map.mpr (a6 m (List.mem_range.mpr hm) e)
 have:=cL nd sub
 simpa using this
theorem oM(n:Nat):Builtin.Slice.sliceAdjust none none (-1) (n:Int)=((n:Int) - 1,-1):=by
 unfold Builtin.Slice.sliceAdjust
 exact rfl
theorem nQ(n:Nat):Builtin.Slice.slicePlaces ((n:Int) - 1) (-1) (-1)=n:=by
 unfold Builtin.Slice.slicePlaces
 have h1:¬((-1:Int) > 0):=by lia
 simp only[h1,if_false]
 refine a0 (show(- -1:Int)=1 from rfl) ?_;refine a0 (Int.ediv_one ..) ?_
 split<;>lia
theorem oy{α β:Type}{f g:α->Option β}:∀ {l:List α},(∀ a∈l,f a=g a)->l.filterMap f=l.filterMap g
 | [],_=>rfl
 | a::l,h=>by refine a0 List.filterMap_cons ?_;refine a0 List.filterMap_cons ?_;refine a0 (h a (.head _)) ?_;refine a0 (oy fun b hb=>h b (.tail _ hb)) ?_;rfl
theorem rN(xs:Array Value):((List.range xs.size).filterMap fun(k:Nat)=>xs[((xs.size:Int) - 1+(k:Int)* -1).toNat]?)=xs.toList.reverse:=by
 have e:∀ k∈List.range xs.size,xs[((xs.size:Int) - 1+(k:Int)* -1).toNat]? =xs.toList.reverse[k]? :=fun k hk=>by
  have hk:=List.mem_range.mp hk
  have:((xs.size:Int) - 1+(k:Int)* -1).toNat=xs.size - 1 - k:=by lia
  refine a0 this ?_;refine a0 (List.getElem?_reverse (by simpa using hk)) ?_;refine a0 Array.length_toList ?_;refine a0 Array.getElem?_toList ?_;rfl
 refine a0 (oy e) ?_
 have:∀ l:List Value,(List.range l.length).filterMap (fun k=>l[k]?)=l:=by
  intro l
  induction l with
  | nil=>rfl
  | cons a l ih=>
    refine a0 List.length_cons ?_;refine a0 List.range_succ_eq_map ?_;refine a0 List.filterMap_cons ?_;refine a0 List.filterMap_map ?_
    exact congrArg (a:: ·) ih
 have:=this xs.toList.reverse
 simpa using this
section
variable{prog:Program}{w:World}{s:Shared}{E:Value->Shared->Prop}{A:Around}
theorem gR{sl:Addr}{n:Nat}{u:Tok}{Q:Int×Int×Nat->Shared->Prop}(hs:s.heap.IsSliceOf sl .none .none (.int (-1) u))(h:Q ((n:Int) - 1,-1,n) s):
 wpAny (model prog w) A (Builtin.Slice.sliceApplied (.ref sl) (pure (n:Int))) Q E s:=by
 refine bw (id hs) fun os hos hcs hds=>?_
 unfold Builtin.Slice.sliceApplied Builtin.Slice.sliceFields
 refine wpAny_bind (wpAny_bind (wpAny_field hos hds (x:=.none) rfl (wpAny_bind (wpAny_field hos hds (x:=.none) rfl (wpAny_bind (wpAny_field hos hds (x:=.int (-1) u) rfl (wpAny_pure ?_)))))))
 refine wpAny_bind (slicePart_int ?_)
 show wpAny _ _ (if((-1:Int)==0)=true then _ else _) _ _ s
 refine a0 (if_neg (by decide)) ?_
 refine wpAny_bind (slicePart_none (wpAny_bind (slicePart_none (wpAny_bind (wpAny_pure ?_)))))
 show wpAny _ _ (match Builtin.Slice.sliceAdjust none none (-1) (n:Int)with | (lo,hi)=>pure (lo,(-1:Int),Builtin.Slice.slicePlaces lo hi (-1))) _ _ s
 refine a0 (oM n) ?_
 show wpAny _ _ (pure ((n:Int) - 1,(-1:Int),Builtin.Slice.slicePlaces ((n:Int) - 1) (-1) (-1))) _ _ s
 refine a0 (nQ n) ?_
 exact wpAny_pure h
theorem gy{t sl:Addr}{items:Array Value}{u:Tok}{Q:Value->Shared->Prop}(ht:IsTup s.heap t items)(hs:s.heap.IsSliceOf sl .none .none (.int (-1) u))
 (h:Q (.ref s.heap.objs.size) {s with heap:=s.heap.push {cls:=.type "tuple",data:=.seq items.toList.reverse.toArray}})
 (hsz:items.size≤sizeLine):wpAny (model prog w) A (getItem (.ref t) (.ref sl)) Q E s:=by
 have hdrop:sizeOk (.seq items.toList.reverse.toArray):=by
  show items.toList.reverse.toArray.size≤sizeLine
  refine a0 List.size_toArray ?_;refine a0 List.length_reverse ?_;refine a0 Array.length_toList ?_
  exact hsz
 refine bw (id hs) fun os hos hcs hds=>?_
 have hTs:s.TypeIs (.ref sl) "slice":=a6 os hos hcs
 unfold getItem
 try with_reducible refine wpAny_holding ?_
 first | refine wpAny_bind (wpAny_pure ?_) | skip
 refine wpAny_bind (wpAny_sequenceKey ht.typeIs (by decide) ?_)
 refine wpAny_bind (wpAny_callSpecial?_slot (name:=Str.ofString "__getitem__") ht.typeIs slot_tuple_getitem
  (wpAny_call_entry slot_tuple_getitem ht.typeIs entry_tuple_getitem ?_ (args_tuple_getitem _ _)))
 show wpAny _ _ (Builtin.Tuple.tupleItemsOf (.ref t) >>= _) _ _ s
 refine wpAny_bind (tupleItemsOf_ ht ?_)
 refine wpAny_bind (wpAny_typeOf hTs ?_)
 refine a0 (if_pos (by decide)) ?_
 refine wpAny_bind (gR hs ?_)
 have hno:¬((((items.size:Int) - 1)==0&&(-1:Int)==1&&items.size==items.size)=true):=by
  have:((-1:Int)==1)=false:=rfl
  refine a0 this ?_;simp
 show wpAny _ _ (if(((items.size:Int) - 1)==0&&(-1:Int)==1&&items.size==items.size)=true then _ else _) _ _ s
 refine a0 (if_neg hno) ?_;refine a0 (rN items) ?_
 first
  | exact wpAny_bind (m:=Builtin.Tuple.tupleExact _) (wpAny_newObj_type (wpAny_pure (a6 _ rfl (wpAny_pure h))) hdrop)
  | exact wpAny_bind (m:=Builtin.Tuple.tupleExact _) (wpAny_newObj_type (wpAny_bind (wpAny_pure (wpAny_pure ⟨_,rfl,wpAny_pure h⟩))) hdrop)
  | exact wpAny_bind (wpAny_bind (m:=Builtin.Tuple.tupleExact _) (wpAny_newObj_type (wpAny_pure (wpAny_pure ⟨_,rfl,wpAny_pure h⟩)) hdrop))
  | exact wpAny_bind (wpAny_bind (m:=Builtin.Tuple.tupleExact _) (wpAny_newObj_type (wpAny_pure ⟨_,rfl,wpAny_pure h⟩) hdrop))
end
section
variable{W:Wd}{n:Nat}{sc:ah}{ρ:ai}{V:St}
theorem ad.rev{φ:aj}{h:Heap}:∀ {vs:List Value} {xs:List a5},ad φ h vs xs->ad φ h vs.reverse xs.reverse
 | _,_,.nil=>.nil
 | _,_,.cons r rs=>by
   refine a0 List.reverse_cons ?_;refine a0 List.reverse_cons ?_
   exact(ad.rev rs).append (.cons r .nil)
theorem pd{o:Expr}{k:Nat}{cp p q pos:Pos}{Q:a5->St->Prop}(h:ET W n sc o ρ V (fun a V'=>∃ xs,a=.tup xs∧xs.length≤1000000∧Q (.tup xs.reverse) V')):ET W n sc (.Subscript o (.Slice none none (some (.UnaryOp .USub (.Constant (.int 1) k cp) q)) p) pos) ρ V Q:=by
 intro A env φ s R N F
 refine a0 (arm_eval_Subscript ..) ?_
 refine TT.bind (h A env φ s R N F) fun v φ₁ V₁ s₁ a E₁ ra q=>?_
 refine bw q ?_;clear q;intro xs z1 hl q;subst z1
 refine ra.tup_el fun b vs ht no rs=>?_
 ·have e1:=rs.length
  simp only[Array.length_toList] at e1
  refine wpAny_bind (wpAny_holding (pH fun t' tk=>wpAny_bind (wpAny_standAt ?_)))
  let s₂:Shared:={s₁ with heap:=s₁.heap.push {cls:=.type "slice",data:=.fields #[.none,.none,.int (-1) t']},toks:=tk}
  have E':aq W (fun Z=>False) φ₁ s₁ φ₁ V₁ s₂:=aq.push E₁.now _ tk
  have ht':IsTup s₂.heap b vs:=let ⟨o,e,r⟩:=ht;(a6 o (Heap.get?_push_of_some _ e) r)
  have hs:s₂.heap.IsSliceOf s₁.heap.objs.size .none .none (.int (-1) t'):=aP _ (Heap.get?_push_size _ rfl) rfl rfl
  refine tail_any (s:=s₂) (T:="tuple") ht'.typeIs slot_tuple_getitem.lookup ?_ rfl
  refine gy ht' hs ?_ (by refine a0 e1 ?_;refine a0 sizeLine_eq ?_;exact a9 hl (by decide))
  have r2:ad φ₁ s₂.heap vs.toList.reverse xs.reverse:=(rs.step E'.st (ae _ _)).rev
  exact⟨φ₁,V₁,_,E'.trans (aq.push E'.now _ tk),jk (s:=s₂) E'.now (vs:=vs.toList.reverse.toArray) (by simpa using r2),q⟩
end
theorem gJ.up{d:Nat}{t:Tm}(h:gJ d t):gJ (d+1) t:=by
 induction h with
 | mk _ ih=>exact .mk ih
theorem gJ.sub{d:Nat}{t:Tm}(h:gJ d t):∀ u∈dR t,gJ d u:=by
 induction h with
 | @mk d op ts hts ih=>
   intro u hu
   unfold dR at hu
   rcases List.mem_cons.mp hu with rfl | hu
   ·exact .mk hts
   ·refine a7 (bJ.mp hu) fun t ht hm=>?_
    exact(ih t ht u hm).up
structure iN(ts:List Tm)(rws:List (List Tm)):Prop where
 tg:∀ t∈ts,Tg 2 t
 tl:ts.length≤5
 rl:3≤rws.length∧rws.length≤9
 row:∀ r∈rws,(∃ t∈ts,r=[t])∨∃ t∈ts,∃ u∈ts,r=[t,u]
 one:∀ t∈ts,[t]∈rws
noncomputable def da(rws:List (List Tm))(t u:Tm):Prop:=[t,u]∈rws
section
variable{ts:List Tm}{rws:List (List Tm)}(M:iN ts rws)
include M
theorem iN.inU{t:Tm}(h:t∈ts):t∈dh ts:=bJ.mpr (a6 t h (fD t))
theorem iN.deepU{t:Tm}(h:t∈dh ts):gJ 3 t:=by
 refine a7 (bJ.mp h) fun u hu hm=>?_
 exact(M.tg u hu).deep.sub t hm
theorem iN.rowOk(r:List Tm)(hr:r∈rws):1≤r.length∧r.length≤2∧∀ t∈r,gJ 3 t∧t∈dh ts:=by
 rcases M.row r hr with⟨t,ht,rfl⟩ | ⟨t,ht,u,hu,rfl⟩
 ·refine i3 (by exact Nat.le_refl _) (by exact Nat.succ_pos _) (fun x hx=>?_)
  refine a0 (List.mem_singleton.mp hx) ?_
  exact⟨(M.tg t ht).deep,M.inU ht⟩
 ·refine i3 (by exact Nat.succ_pos _) (by exact Nat.le_refl _) (fun x hx=>?_)
  rcases List.mem_cons.mp hx with rfl | hx
  ·exact⟨(M.tg _ ht).deep,M.inU ht⟩
  ·refine a0 (List.mem_singleton.mp hx) ?_
   exact⟨(M.tg u hu).deep,M.inU hu⟩
theorem iN.hT(t u:Tm)(h:da rws t u):t∈dh ts∧u∈dh ts:=by
 have:=(M.rowOk _ h).2.2
 exact⟨(this t (by exact .head _)).2,(this u (by simp)).2⟩
theorem iN.play1:xN (dh ts) (da rws) rws ((List.range rws.length).map fun j=>(j,false)):=by
 have:=M.rl
 refine⟨by exact a9 this.2 (by decide),by lia,by exact a9 (Nat.le_of_eq ((List.length_map ..).trans (List.length_range ..))) (a9 this.2 (by decide)),fun e he=>?_,M.rowOk,fun t u h=>.told h,mr M.tg M.tl,gN M.tg,iu M.tg⟩
 refine a7 (List.mem_map.mp he) fun j hj z2=>?_;subst z2
 exact List.mem_range.mp hj
theorem iN.play2{tn:List (Nat×Bool)}(tl:tn.length≤20)(tb:∀ e∈tn,e.1<rws.length):xN (dh ts) (da rws) (rws.map List.reverse) tn:=by
 have:=M.rl
 refine⟨by exact a9 (Nat.le_of_eq (List.length_map ..)) (a9 this.2 (by decide)),by simp;lia,tl,fun e he=>by refine a0 (List.length_map ..) ?_;exact tb e he,fun r hr=>?_,fun t u h=>?_,mr M.tg M.tl,gN M.tg,iu M.tg⟩
 ·refine a7 (List.mem_map.mp hr) fun r' hr' z2=>?_;subst z2
  refine a3 (M.rowOk r' hr') fun a b c=>?_
  exact i3 (by simpa using a) (by simpa using b) (fun t ht=>c t (List.mem_reverse.mp ht))
 ·refine a7 (List.mem_map.mp h) fun r hr e=>?_
  have:r=[u,t]:=by
   have:=congrArg List.reverse e
   simpa using this
  subst this
  exact .symm (.told hr)
theorem iN.cover{rws':List (List Tm)}(h1:∀ t∈ts,[t]∈rws'){K:Nat}{S:HS}(I:aC (dh ts) (da rws) K S [])(all:∀ r∈rws',qW S r):∀ t∈dh ts,∃ n,n<S.bank.nodes.length∧tm S.bank.nodes n=t:=by
 intro t ht
 refine a7 (bJ.mp ht) fun u hu hm=>?_
 refine a7 ((all [u] (h1 u hu)).cov u (by exact .head _)) fun n hn e=>?_
 exact si I.kid (M.tg u hu).deep n hn e t hm
theorem iN.full1{K:Nat}{S:HS}(I:aC (dh ts) (da rws) K S [])(w:S.waiting=[])(all:∀ r∈rws,qW S r){t u:Tm}(c:Cl (fun x=>x∈dh ts) (da rws) t u):
 ∀ i j,i<S.bank.nodes.length->j<S.bank.nodes.length->tm S.bank.nodes i=t->tm S.bank.nodes j=u->a8 S.un.par i=a8 S.un.par j:=
 I.full w (M.cover M.one I all) M.hT (fun t u h=>(all _ h).like t u rfl) c
theorem iN.one2:∀ t∈ts,[t]∈rws.map List.reverse:=fun t ht=>List.mem_map.mpr (a6 ([t]) (M.one t ht) rfl)
theorem iN.full2{K:Nat}{S:HS}(I:aC (dh ts) (da rws) K S [])(w:S.waiting=[])(all:∀ r∈rws.map List.reverse,qW S r){t u:Tm}(c:Cl (fun x=>x∈dh ts) (da rws) t u):
 ∀ i j,i<S.bank.nodes.length->j<S.bank.nodes.length->tm S.bank.nodes i=t->tm S.bank.nodes j=u->a8 S.un.par i=a8 S.un.par j:=
 I.full w (M.cover M.one2 I all) M.hT (fun t u h=>by
   refine xB ((all [u,t] (List.mem_map.mpr ⟨_,h,rfl⟩)).like u t rfl) fun i j a b c d e=>?_
   exact u7 j i b a d c e.symm) c
end
theorem cC.keep{A:An}{C:Addr}{as:List (Str×a5)}{V V':St}{L:HL}{S:HS}{k:KL}{vals:List (Nat×A.D)}(b:cC A C as V L S k vals){F:List Nat}(x:aK V [] V' F):cC A C as V' L S k vals:=
 ⟨b.h.other x fun Z Z=>List.not_mem_nil,b.g.other x fun Z Z=>List.not_mem_nil,b.d⟩
theorem rA{A:An}{U:List Tm}{T:Tm->Tm->Prop}{S S':HS}{K K':Nat}(ok:A.Ok U)(I:aC U T K S [])(I':aC U T K' S' [])(c:∀ t∈U,∃ n,n<S.bank.nodes.length∧tm S.bank.nodes n=t)(c':∀ t∈U,∃ n,n<S'.bank.nodes.length∧tm S'.bank.nodes n=t)
 (f:∀ {t u:Tm},Cl (fun x=>x∈U) T t u->∀ i j,i<S.bank.nodes.length->j<S.bank.nodes.length->tm S.bank.nodes i=t->tm S.bank.nodes j=u->a8 S.un.par i=a8 S.un.par j)
 (f':∀ {t u:Tm},Cl (fun x=>x∈U) T t u->∀ i j,i<S'.bank.nodes.length->j<S'.bank.nodes.length->tm S'.bank.nodes i=t->tm S'.bank.nodes j=u->a8 S'.un.par i=a8 S'.un.par j)
 {v v0:List (Nat×A.D)}{v' v0':List (Nat×A.D)}(r:fw A S v0 v)(r':fw A S' v0' v'){n m:Nat}(hn:n<S.bank.nodes.length)(hm:m<S'.bank.nodes.length)(e:tm S'.bank.nodes m=tm S.bank.nodes n):vf A v (a8 S.un.par n)=vf A v' (a8 S'.un.par m):=by
 have P:oR A U T S S':=⟨ok,⟨K,I⟩,⟨K',I'⟩,fun n hn=>c' _ (I.inU n hn),f'⟩
 have P':oR A U T S' S:=⟨ok,⟨K',I'⟩,⟨K,I⟩,fun n hn=>c _ (I'.inU n hn),f⟩
 have up:∀ {K:Nat} {S:HS} {v v0:List (Nat×A.D)},aC U T K S []->fw A S v0 v->uJ A S (fun n=>vf A v (a8 S.un.par n)):=fun{K S v v0} I r=>⟨fun z hz c hc=>by
  have hr:=bj I.par hc
  have cl:=(List.getElem?_eq_some_iff.mp hr).1
  show A.le (vf A v (a8 S.un.par c)) (z c)
  refine a0 (hz.cls c _ hc cl (c5 I.par hc).symm) ?_
  exact r.vle.le z hz _ cl,fun c hc=>by
  show vf A v (a8 S.un.par c)=A.bot
  refine a0 (jH hc) ?_
  exact r.vle.out c hc⟩
 exact ok.anti (P.le (up I r) (r'.zs ok I') hn hm e) (P'.le (up I' r') (r.zs ok I) hm hn e.symm)
structure kO(V:St)(c pr pt:Nat)(xs:List Int)(s:Nat)(rws:List (List Tm))(tn:List (Nat×Bool)):Prop where
 hc:V[c]? =some (be s xs)
 hr:V[pr]? =some (.list (rws.map eX))
 ht:V[pt]? =some (.list (tn.map eW))
 n1:c≠pr
 n2:c≠pt
 n3:pr≠pt
section
variable{V:St}{c pr pt:Nat}{xs:List Int}{s:Nat}{rws:List (List Tm)}{tn:List (Nat×Bool)}
theorem kO.lc(h:kO V c pr pt xs s rws tn):c<V.length∧pr<V.length∧pt<V.length:=i3 ((List.getElem?_eq_some_iff.mp h.hc).1) ((List.getElem?_eq_some_iff.mp h.hr).1) ((List.getElem?_eq_some_iff.mp h.ht).1)
theorem kO.start{V:St}{c:Nat}{xs:List Int}{s:Nat}(h:V[c]? =some (be s xs))(rws:List (List Tm)):kO ((V++[.list (rws.map eX)])++[.list []]) c V.length (V.length+1) xs s rws []:=
 have l:=(List.getElem?_eq_some_iff.mp h).1
 ⟨by refine a0 (List.getElem?_append_left (by simp;lia)) ?_;refine a0 (List.getElem?_append_left l) ?_;exact h,by refine a0 (List.getElem?_append_left (by simp)) ?_;refine a0 (List.getElem?_append_right (Nat.le_refl _)) ?_;simp,by refine a0 (List.getElem?_append_right (by simp)) ?_;simp,Nat.ne_of_lt l,Nat.ne_of_lt (Nat.lt_succ_of_lt l),Nat.ne_of_lt (Nat.lt_succ_self _)⟩
theorem kO.cell(h:kO V c pr pt xs s rws tn)(s':Nat):kO (V.set c (be s' xs)) c pr pt xs s' rws tn:=
 ⟨List.getElem?_set_self h.lc.1,by refine a0 (List.getElem?_set_ne h.n1) ?_;exact h.hr,by refine a0 (List.getElem?_set_ne h.n2) ?_;exact h.ht,h.n1,h.n2,h.n3⟩
theorem kO.row(h:kO V c pr pt xs s rws tn)(rws':List (List Tm)):kO (V.set pr (.list (rws'.map eX))) c pr pt xs s rws' tn:=
 ⟨by refine a0 (List.getElem?_set_ne h.n1.symm) ?_;exact h.hc,List.getElem?_set_self h.lc.2.1,by refine a0 (List.getElem?_set_ne h.n3) ?_;exact h.ht,h.n1,h.n2,h.n3⟩
theorem kO.turn(h:kO V c pr pt xs s rws tn)(tn':List (Nat×Bool)):kO (V.set pt (.list (tn'.map eW))) c pr pt xs s rws tn':=
 ⟨by refine a0 (List.getElem?_set_ne h.n2.symm) ?_;exact h.hc,by refine a0 (List.getElem?_set_ne h.n3.symm) ?_;exact h.hr,List.getElem?_set_self h.lc.2.2,h.n1,h.n2,h.n3⟩
theorem kO.grow(h:kO V c pr pt xs s rws tn)(o:af):kO (V++[o]) c pr pt xs s rws tn:=
 ⟨by refine a0 (List.getElem?_append_left h.lc.1) ?_;exact h.hc,by refine a0 (List.getElem?_append_left h.lc.2.1) ?_;exact h.hr,by refine a0 (List.getElem?_append_left h.lc.2.2) ?_;exact h.ht,h.n1,h.n2,h.n3⟩
theorem kO.set(h:kO V c pr pt xs s rws tn){p:Nat}(o:af)(h1:p≠c)(h2:p≠pr)(h3:p≠pt):kO (V.set p o) c pr pt xs s rws tn:=
 ⟨by refine a0 (List.getElem?_set_ne h1) ?_;exact h.hc,by refine a0 (List.getElem?_set_ne h2) ?_;exact h.hr,by refine a0 (List.getElem?_set_ne h3) ?_;exact h.ht,h.n1,h.n2,h.n3⟩
end
inductive Ab(c:Nat)(xs:List Int)(dn out:List a5)(V:St):Prop
 | mk (s:Nat) (ts:List Tm) (h1:V[c]? =some (be s xs)) (e:out=ts.map fB) (h3:∀ t∈ts,Tg 2 t) (h4:ts.length=dn.length) (h5:s≤1+10*ts.length)
structure lX(ts:List Tm)(rws:List (List Tm)):Prop where
 a:∀ r∈rws,(∃ t∈ts,r=[t])∨∃ t∈ts,∃ u∈ts,r=[t,u]
 b:∀ t∈ts,[t]∈rws
inductive Ac(c pr pt:Nat)(xs:List Int)(ns:List Int)(ts:List Tm)(s r1:Nat)(dn rest:List Int)(ρ:ai)(V:St):Prop
 | mk (s':Nat) (rws:List (List Tm)) (P:kO V c pr pt xs s' rws []) (rl:rws.length=ts.length+dn.length) (sl:s'=s+1+2*dn.length) (R:lX ts rws) (hρ:ρ=([("script",.frz (aL ns)),("cells",.ref c),("terms",.frz (ts.map fB)),("turns",.ref pt),("rows",.ref pr)]:ai))
inductive Aa(c pr pt pl:Nat)(xs:List Int)(rws:List (List Tm))(s:Nat)(ρ₀:ai)(i:Nat)(ρ:ai)(V:St):Prop
 | mk (s2:Nat) (l:List Nat) (tn:List (Nat×Bool)) (P:kO V c pr pt xs s2 rws tn) (hl:V[pl]? =some (.list (nats l))) (e:i=l.length) (tnl:tn.length+l.length=rws.length) (s2l:s2+2*l.length≤s+2*rws.length) (cov:∀ j,j<rws.length->j∈l∨j∈tn.map (fun x=>x.1)) (lb:∀ j∈l,j<rws.length) (tb:∀ e∈tn,e.1<rws.length) (hρ:ρ=ρ₀)
theorem lX.start(ts:List Tm):lX ts (ts.map fun t=>[t]):=⟨fun r hr=>(List.mem_map.mp hr).elim fun t h=>.inl (a6 t h.1 h.2.symm),fun t ht=>List.mem_map.mpr (a6 t ht rfl)⟩
theorem lX.snoc{ts:List Tm}{rws:List (List Tm)}(R:lX ts rws){t u:Tm}(ht:t∈ts)(hu:u∈ts):lX ts (rws++[[t,u]]):=⟨fun r hr=>(List.mem_append.mp hr).elim (R.a r) fun h=>.inr ⟨t,ht,u,hu,List.mem_singleton.mp h⟩,fun t ht=>List.mem_append_left _ (R.b t ht)⟩
theorem lP{W:Wd}{n:Nat}{V:St}{ts:List Tm}{j:Nat}(hj:j<ts.length)(hl:ts.length≤60){Q:a5->St->Prop}(q:Q (fB ts[j]) V):n4 W n (.frz (ts.map fB)) (.int (Int.ofNat j)) V Q:=
 bC (xs:=ts.map fB) (x:=fB ts[j]) rfl (Int.natCast_nonneg _) (by show((j:Nat):Int)<_;lia) (by refine a0 List.getElem?_map ?_;show(ts[j]?).map fB=_;refine a0 (List.getElem?_eq_getElem hj) ?_;rfl) q
theorem sJ{W:Wd}{n:Nat}{sc:ah}{ρ:ai}{V:St}{t:Expr}{b:List Stmt}{a:a5}{all:List a5}{Q:cH->ai->St->Prop}{l:List Nat}(h:n6 W n sc t b a all Q (nats l) ρ V):n6 W n sc t b a all Q (aL (l.map Int.ofNat)) ρ V:=f0 l▸h
theorem nz{rws:List (List Tm)}{S:HS}{tn:List (Nat×Bool)}(h:∀ e∈tn++[(0,true)],∀ r,rws[e.1]? =some r->qW S r)(cov:∀ j,j<rws.length->j∈tn.map (fun x=>x.1)):∀ r∈rws,qW S r:=fun r hr=>by
 refine aH (List.getElem?_of_mem hr) fun j hj=>?_
 refine a7 (List.mem_map.mp (cov j (bN hj))) fun e he z2=>?_;subst z2
 exact h e (List.mem_append_left _ he) r hj
structure yD(num:Nat)(U:List Tm)(T1 T2:Tm->Tm->Prop)(V:St)(L1 L2:HL)(S1 S2:HS)(k1 k2:KL)(v1 v2 w2:List (Nat×(kd num).A.D))(K1 K2:Nat):Prop where
 b1:cC (kd num).A (kd num).C (kd num).as V L1 S1 k1 v1
 b2:cC (kd num).A (kd num).C (kd num).as V L2 S2 k2 v2
 I1:aC U T1 K1 S1 []
 I2:aC U T2 K2 S2 []
 sr2:fw (kd num).A S2 w2 v2
 sz:S1.bank.nodes.length=S2.bank.nodes.length
 cv:∀ n,n<S1.bank.nodes.length->∃ m,m<S2.bank.nodes.length∧tm S2.bank.nodes m=tm S1.bank.nodes n
 veq:∀ n m,n<S1.bank.nodes.length->m<S2.bank.nodes.length->tm S2.bank.nodes m=tm S1.bank.nodes n->vf (kd num).A v1 (a8 S1.un.par n)=vf (kd num).A v2 (a8 S2.un.par m)
 sep:∀ q∈L1.fp S1,q∉k2.keys
theorem xb{A:An}{v:List (Nat×A.D)}(nd:(v.map (fun x=>x.1)).Nodup){x:Nat×A.D}(h:x∈v):vf A v x.1=x.2:=by
 unfold vf
 have:v.find? (fun e=>decide (e.1=x.1))=some x:=by
  induction v with
  | nil=>cases h
  | cons a v ih=>
    rw[List.map_cons,List.nodup_cons] at nd
    refine a0 List.find?_cons ?_
    rcases List.mem_cons.mp h with rfl | h
    ·simp
    ·have:a.1≠x.1:=fun e=>nd.1 (e▸List.mem_map.mpr (a6 x h rfl))
     refine a0 (decide_eq_false this) ?_
     exact ih nd.2 h
 refine a0 this ?_;rfl
theorem vg{A:An}{U:List Tm}(ok:A.Ok U){v v':List (Nat×A.D)}(nd:(v.map (fun x=>x.1)).Nodup)(nd':(v'.map (fun x=>x.1)).Nodup)(sv:∀ c,vf A v' c=vf A v c)(sk:∀ c,c∈v'.map (fun x=>x.1)↔c∈v.map (fun x=>x.1)):
 (vD A v').length=(vD A v).length∧∀ e∈vD A v',∃ b,bb (vD A v) e.1=some b∧okv 50 e.2=true∧okv 50 b=true∧fu e.2 b=true:=by
 refine⟨?_,fun e he=>?_⟩
 ·have h1:=cL nd fun c hc=>(sk c).mpr hc
  have h2:=cL nd' fun c hc=>(sk c).mp hc
  simp[vD] at h1 h2 ⊢
  exact Nat.le_antisymm h2 h1
 ·refine a7 (List.mem_map.mp he) fun x hx z2=>?_;subst z2
  have xm:x.1∈v'.map (fun x=>x.1):=List.mem_map.mpr (a6 x hx rfl)
  refine fh _ (wR ((sk _).mp xm)) (ok.okv _) (ok.okv _) ?_
  refine aX (sv ..) ?_;refine a0 (xb nd' hx) ?_
  exact(ok.eq _ _).mpr rfl
theorem jQ:∀ (l:List Nat) (j:Nat),(nats l).eraseIdx j=nats (l.eraseIdx j)
 | [],_=>rfl
 | _::_,0=>rfl
 | a::l,j+1=>congrArg (a5.int (Int.ofNat a):: ·) (jQ l j)
theorem rW{l:List Nat}{x j:Nat}(h:x∈l):x∈l.eraseIdx j∨l[j]? =some x:=by
 refine aH (List.getElem?_of_mem h) fun i hi=>?_
 by_cases e:i=j
 ·subst e;exact .inr hi
 ·exact .inl (List.mem_eraseIdx_iff_getElem?.mpr (a6 i e hi))
theorem uw{W:Wd}{n:Nat}{V:St}{p:Nat}{l:List Nat}(h:V[p]? =some (.list (nats l))):cu W n .NotEq (.ref p) (.frz []) V (!l.isEmpty):=by
 have e:bA V (.ref p)=.frz (nats l):=by unfold bA;dsimp only;refine a0 h ?_;rfl
 have z:=gD (W:=W) (n:=n) (V:=V) (a:=.ref p) (b:=.frz []) (by refine a0 e ?_;exact nT) rfl
 rw[e] at z
 have e2:fu (.frz (nats l)) (bA V (.frz []))=l.isEmpty:=by
  cases l<;>rfl
 rw[e2] at z
 exact z
theorem xe{ts:List Tm}{rws:List (List Tm)}{num:Nat}{V Va Vb:St}{L1 L2:HL}{S1 S2:HS}{k1 k2:KL}{v1 v2 w1 w2:List (Nat×(kd num).A.D)}{K1 K2:Nat}{tn1 tn2:List (Nat×Bool)}(M:iN ts rws)(ok:(kd num).A.Ok (dh ts))
 (m1:oU (dh ts) (da rws) (kd num).A (kd num).C (kd num).as V Va L1 S1 k1 v1 K1)(sw1:S1.waiting=[])(sr1:fw (kd num).A S1 w1 v1)(tl1:∀ e∈tn1++[(0,true)],∀ r,rws[e.1]? =some r->qW S1 r)(c1:∀ j,j<rws.length->j∈tn1.map (fun x=>x.1))
 (m2:oU (dh ts) (da rws) (kd num).A (kd num).C (kd num).as Va Vb L2 S2 k2 v2 K2)(sw2:S2.waiting=[])(sr2:fw (kd num).A S2 w2 v2)(tl2:∀ e∈tn2++[(0,true)],∀ r,(rws.map List.reverse)[e.1]? =some r->qW S2 r)(c2:∀ j,j<rws.length->j∈tn2.map (fun x=>x.1)):yD num (dh ts) (da rws) (da rws) Vb L1 L2 S1 S2 k1 k2 v1 v2 w2 K1 K2:=by
 have mV:=nz tl1 c1
 have all2:=nz tl2 (by refine a0 (List.length_map ..) ?_;exact c2)
 have I1:=m1.I
 have I2:=m2.I
 have cv1:=M.cover M.one I1 mV
 have cv2:=M.cover M.one2 I2 all2
 have f1:=fun{t u}=>M.full1 I1 sw1 mV (t:=t) (u:=u)
 have f2:=fun{t u}=>M.full2 I2 sw2 all2 (t:=t) (u:=u)
 have P:oR (kd num).A (dh ts) (da rws) S1 S2:=⟨ok,⟨_,I1⟩,⟨_,I2⟩,fun n hn=>cv2 _ (I1.inU n hn),f2⟩
 have P':oR (kd num).A (dh ts) (da rws) S2 S1:=⟨ok,⟨_,I2⟩,⟨_,I1⟩,fun n hn=>cv1 _ (I2.inU n hn),f1⟩
 refine⟨m1.b.keep m2.x,m2.b,I1,I2,sr2,Nat.le_antisymm P.size P'.size,fun n hn=>cv2 _ (I1.inU n hn),fun n m hn hm e=>rA ok I1 I2 cv1 cv2 f1 f2 sr1 sr2 hn hm e,fun q hq hq'=>?_⟩
 rcases m2.x.fresh q (List.mem_append_left _ hq')with z | z
 ·cases z
 ·exact absurd (m1.b.h.lt q hq) (Nat.not_lt.mpr z)
theorem yD.quiet{num:Nat}{U:List Tm}{T1 T2:Tm->Tm->Prop}{V V':St}{L1 L2:HL}{S1 S2:HS}{k1 k2:KL}{v1 v2 w2:List (Nat×(kd num).A.D)}{K1 K2:Nat}(t:yD num U T1 T2 V L1 L2 S1 S2 k1 k2 v1 v2 w2 K1 K2)(x:aK V [] V' []):yD num U T1 T2 V' L1 L2 S1 S2 k1 k2 v1 v2 w2 K1 K2:=
 ⟨t.b1.quiet x,t.b2.quiet x,t.I1,t.I2,t.sr2,t.sz,t.cv,t.veq,t.sep⟩
theorem q8{rws:List (List Tm)}{l l0:List Nat}{v j:Nat}{b:Bool}{tn:List (Nat×Bool)}(h:∀ k,k<rws.length->k∈l∨k∈tn.map (fun x=>x.1))(gj:l[j]? =some v)(e:l0=l.eraseIdx j)(k:Nat)(hk:k<rws.length):k∈l0∨k∈(tn++[(v,b)]).map (fun x=>x.1):=by
 refine a0 List.map_append ?_;refine a0 e ?_
 rcases h k hk with h | h
 ·rcases rW (j:=j) h with h | h
  ·exact .inl h
  ·rw[gj] at h
   cases h
   exact .inr (List.mem_append_right _ (.head _))
 ·exact .inr (List.mem_append_left _ h)
section
variable{prog:Program}{w:World}{H:Heap}{mg mb:Str->Option Value}{U:List Tm}{T:Tm->Tm->Prop}{K:Nat}{A:An}{C fo fj:Addr}{as:List (Str×a5)}
set_option maxHeartbeats 8000000 in
theorem tS{n:Nat}{ns:List Int}(hns:ns.length≤63):CC (W0 prog w H mg mb) (n+11) (.ref 647) [.frz (aL ns)] [] (fun a Z=>a=.bool true):=by
 refine ag (ps:=["script"]) (by rfl) (by rfl) ?_ (by rfl) (by decide) (by rfl) (by decide) (by rfl) ?_ (by rfl) (by rfl) (by rfl)
 ·exact f9 fun Z=>rfl
 ·generalize hσ0:([]:St)=V0
  walk_at "m"
  refine lW ?_ (by rfl) (by rfl) (by rfl)
  refine pf ?_
  refine ch ?_
  kd_p
  refine⟨ao rfl,?_⟩
  kd_p
  refine qu ?_
  kd_p
  refine aP ns rfl (by exact a9 hns (by decide)) (fun xs hxs=>?_)
  kd_p
  refine r8 (a:=.frz _) rfl (by simp;exact a9 hxs (a9 hns (by decide))) ?_
  refine lU (be 0 xs) (xs:=[.int 0]) (ys:=aL xs) rfl (by unfold bn;dsimp only;refine a0 (List.getElem?_append_right (Nat.le_refl _)) ?_;simp) (by simp;exact a9 (Nat.add_le_add_left (a9 hxs hns) _) (by decide)) rfl ?_
  have hc:((V0++[af.list (aL xs)])++[be 0 xs])[V0.length+1]? =some (be 0 xs):=by refine a0 (List.getElem?_append_right (by simp)) ?_;simp
  refine a0 (show(V0++[af.list (aL xs)]).length=V0.length+1 by exact List.length_append ..) ?_
  generalize (V0++[af.list (aL xs)])++[be 0 xs]=V1 at hc ⊢
  generalize V0.length+1=c at hc ⊢
  have hx:xs.length≤1000:=by exact a9 hxs (a9 hns (by decide))
  kd_p
  refine cg (new:=false) (eK (nm:="lap") rfl rfl ?_) (by rfl) (by rfl)
  kd_p
  refine(bI (m:=4) hc (by decide) hx (by decide) fun r0 hr0=>?_).call
  have cl1:=(List.getElem?_eq_some_iff.mp hc).1
  have hc2:(V1.set c (be (0+1) xs))[c]? =some (be 1 xs):=List.getElem?_set_self cl1
  clear hc cl1
  generalize V1.set c (be (0+1) xs)=V2 at hc2 ⊢
  refine a6 _ (c7:gK _ _ .Add (.int 2) (.int (Int.ofNat r0)) _ (.int (Int.ofNat (2+r0)))) ?_
  kd_p
  refine ec (k:=2+r0) (by exact a9 (Nat.add_le_add_left (Nat.le_of_lt hr0) _) (by decide)) ?_
  refine⟨aL ((List.range (2+r0)).map Int.ofNat),rfl,by simp;exact a9 (Nat.add_le_add_left (Nat.le_of_lt hr0) _) (by decide),Ab c xs,⟨1,[],hc2,rfl,fun Z h=>(nomatch h),rfl,Nat.le_refl _⟩,fun Z Z Z Z=>rfl,fun dn out x zs V' KK hys h hKK=>?_,fun out V3 h=>?_⟩
  ·obtain⟨s,ts,h1,rfl,h3,h4,h5⟩:=h
   have dl:=congrArg List.length hys
   simp only[List.length_map,List.length_range,List.length_append,List.length_cons] at dl
   kd_p
   refine(ue (n:=n+6) hx 2 h1 (by simp[kq];lia) fun t s' ht hs'=>?_).call
   simp[kq] at hs'
   exact hKK _ _ ⟨s',ts++[t],List.getElem?_set_self (bN h1),by simp,fun u hu=>(List.mem_append.mp hu).elim (h3 u) fun h=>List.mem_singleton.mp h▸ht,by simp[h4],by simp;lia⟩
  obtain⟨s,ts,h1,rfl,h3,h4,h5⟩:=h
  have tl:ts.length=2+r0:=by refine a0 h4 ?_;simp
  clear hc2 h4
  unfold CK
  refine ite_neg (by decide) ?_
  refine a6 _ rfl ?_
  walk_at "m"
  refine ii ?_
  walk_at "m"
  refine aW (new:=true) (aE (nm:="one") rfl ?_) (by rfl)
  kd_p
  refine⟨ts.map fB,rfl,by exact a9 (Nat.le_of_eq (List.length_map ..)) (a9 (a9 (Nat.le_of_eq tl) (Nat.add_le_add_left (Nat.le_of_lt hr0) _)) (by decide)),fun Z=>true,fun y=>.tup [y],fun Z Z Z hK=>cD hK,fun y hy Z K hK=>?_,(ts.map fun t=>[t]).map eX,by refine a0 (sf ..) ?_;simp[eX,Function.comp_def],?_⟩
  ·kd_p
   exact⟨by exact Nat.succ_pos _,hK⟩
  unfold CK
  refine ite_pos rfl ?_
  kd_p
  refine sP ?_
  kd_p
  refine⟨ao rfl,?_⟩
  kd_p
  refine cN _ _ rfl ?_
  have P4:=kO.start h1 (ts.map fun t=>[t])
  refine a0 (show(V3++[af.list ((ts.map fun t=>[t]).map eX)]).length=V3.length+1 by exact List.length_append ..) ?_
  clear h1
  generalize (V3++[af.list ((ts.map fun t=>[t]).map eX)])++[.list []]=V4 at P4 ⊢
  generalize V3.length+1=pt at P4 ⊢
  generalize V3.length=pr at P4 ⊢
  walk_at "m"
  refine bP ?_ rfl
  kd_p
  refine(bI (m:=4) P4.hc (by exact a9 (a9 h5 (Nat.add_le_add_left (Nat.mul_le_mul (Nat.le_refl _) (a9 (Nat.le_of_eq tl) (Nat.add_le_add_left (Nat.le_of_lt hr0) _))) _)) (by decide)) hx (by decide) fun r1 hr1=>?_).call
  replace P4:=P4.cell (s+1)
  generalize V4.set c (be (s+1) xs)=V5 at P4 ⊢
  refine a6 _ (c7:gK _ _ .Add (.int 1) (.int (Int.ofNat r1)) _ (.int (Int.ofNat (1+r1)))) ?_
  kd_p
  refine ec (k:=1+r1) (by exact a9 (Nat.add_le_add_left (Nat.le_of_lt hr1) _) (by decide)) ?_
  refine a6 (aL ((List.range (1+r1)).map Int.ofNat)) rfl ?_
  refine n5 (fun i=>.int i) ((List.range (1+r1)).map Int.ofNat) (Ac c pr pt xs ns ts s r1) (fun ρ V6 h=>?_) (fun dn y zs ρ V6 KK e2 h hKK=>?_) ⟨s+1,_,P4,by exact List.length_map ..,rfl,.start ts,rfl⟩
  rotate_left 1
  ·obtain⟨s',rws,P6,rl,sl,rr,rfl⟩:=h
   have dl:=congrArg List.length e2
   simp only[List.length_map,List.length_range,List.length_append,List.length_cons] at dl
   kd_p
   refine bQ (k:=ts.length) (by exact List.length_map ..) (by exact a9 (a9 (Nat.le_of_eq tl) (Nat.add_le_add_left (Nat.le_of_lt hr0) _)) (by decide)) ?_
   kd_p
   refine(bI P6.hc (by lia) hx (by lia) fun j1 hj1=>?_).call
   have P7:=P6.cell (s'+1)
   generalize V6.set c (be (s'+1) xs)=V7 at P7 ⊢
   refine lP hj1 (by exact a9 (a9 (Nat.le_of_eq tl) (Nat.add_le_add_left (Nat.le_of_lt hr0) _)) (by decide)) ?_
   have hr7:=P7.hr
   kd_p
   refine bQ (k:=ts.length) (by exact List.length_map ..) (by exact a9 (a9 (Nat.le_of_eq tl) (Nat.add_le_add_left (Nat.le_of_lt hr0) _)) (by decide)) ?_
   kd_p
   refine(bI P7.hc (by lia) hx (by lia) fun j2 hj2=>?_).call
   have P8:=P7.cell (s'+1+1)
   clear hr7
   generalize V7.set c (be (s'+1+1) xs)=V8 at P8 ⊢
   refine lP hj2 (by exact a9 (a9 (Nat.le_of_eq tl) (Nat.add_le_add_left (Nat.le_of_lt hr0) _)) (by decide)) ?_
   kd_p
   refine⟨ao rfl,?_⟩
   kd_p
   refine b9 (.list ((rws++[[ts[j1],ts[j2]]]).map eX)) P8.hr (by simp;lia) (by simp[eX]) ?_
   kd_p
   exact⟨rfl,hKK _ _ _ (Sub.app (ext:=[("lap",_),("first",_)])) ⟨s'+2,rws++[[ts[j1],ts[j2]]],P8.row _,by simp;lia,by simp;lia,rr.snoc (List.getElem_mem hj1) (List.getElem_mem hj2),rfl⟩⟩
  obtain⟨s',rws,P6,rl,sl,rr,rfl⟩:=h
  simp only[List.length_map,List.length_range] at rl sl
  have s60:s'≤60:=by lia
  have N9:3≤rws.length∧rws.length≤9:=by lia
  clear P4 sl
  walk_at "m"
  refine ii ?_
  kd_p
  refine(bI (m:=5) P6.hc (by exact a9 s60 (by decide)) hx (by decide) fun num hnum=>?_).call
  have P7:=P6.cell (s'+1)
  clear P6
  generalize V6.set c (be (s'+1) xs)=V7 at P7 ⊢
  kd_p
  refine bo (k:=rws.length) P7.hr (by exact List.length_map ..) (by exact a9 N9.2 (by decide)) ?_
  kd_p
  refine ec (k:=rws.length) (by exact a9 N9.2 (by decide)) ?_
  kd_p
  refine lv ?_
  have P8:=P7.grow (.list (aL ((List.range rws.length).map Int.ofNat)))
  have hl8:(V7++[af.list (aL ((List.range rws.length).map Int.ofNat))])[V7.length]? =some (.list (nats (List.range rws.length))):=by
   refine a0 (List.getElem?_append_right (Nat.le_refl _)) ?_
   simp[nats,aL,Function.comp_def]
  have pl1:c<V7.length∧pr<V7.length∧pt<V7.length:=P7.lc
  clear P7
  generalize V7++[.list (aL ((List.range rws.length).map Int.ofNat))]=V8 at P8 hl8 ⊢
  generalize V7.length=pl at pl1 hl8 ⊢
  kd_p
  refine cN _ _ rfl ?_
  kd_p
  refine iL (ι:=Nat) (r:=(fun x y=>x<y)) Nat.lt_wfRel.wf (Aa c pr pt pl xs rws (s'+1) [("script",.frz (aL ns)),("cells",.ref c),("terms",.frz (ts.map fB)),("turns",.ref pt),("rows",.ref pr),("left",.ref pl),("number",.int (Int.ofNat num))]) (fun i ρ V9 h=>?_) (i:=rws.length) ⟨s'+1,List.range rws.length,[],P8,hl8,by simp,by simp,by simp,fun j hj=>.inl (List.mem_range.mpr hj),fun j hj=>List.mem_range.mp hj,fun Z h=>(nomatch h),rfl⟩
  obtain⟨s2,l,tn,P9,hl9,rfl,tnl,s2l,cov,lb,tb,rfl⟩:=h
  kd_p
  refine ch ?_
  kd_p
  refine⟨ao rfl,?_⟩
  refine a6 _ (uw hl9) ?_
  cases l with
  | cons j0 l0=>
    rw[List.length_cons] at s2l tnl
    refine ite_pos rfl ?_
    kd_p
    refine bo (k:=l0.length+1) hl9 (by exact List.length_map ..) (by lia) ?_
    kd_p
    refine(bI P9.hc (by lia) hx (by lia) fun j hj=>?_).call
    have P10:=P9.cell (s2+1)
    have hl10:(V9.set c (be (s2+1) xs))[pl]? =some (.list (nats (j0::l0))):=by refine a0 (List.getElem?_set_ne (Nat.ne_of_lt pl1.1)) ?_;exact hl9
    generalize V9.set c (be (s2+1) xs)=V10 at P10 hl10 ⊢
    obtain⟨v,gj⟩:∃ v,(j0::l0)[j]? =some v:=⟨_,List.getElem?_eq_getElem hj⟩
    have el:((j0::l0).eraseIdx j).length=l0.length:=by refine a0 (List.length_eraseIdx_of_lt hj) ?_;rfl
    kd_p
    refine sU (i:=j) (a:=.int (Int.ofNat v)) hl10 (hF gj) (by simp;lia) ?_
    refine a0 (jQ ..) ?_
    have P11:=P10.set (.list (nats ((j0::l0).eraseIdx j))) (Nat.ne_of_gt pl1.1) (Nat.ne_of_gt pl1.2.1) (Nat.ne_of_gt pl1.2.2)
    have hl11:(V10.set pl (.list (nats ((j0::l0).eraseIdx j))))[pl]? =some (.list (nats ((j0::l0).eraseIdx j))):=List.getElem?_set_self (bN hl10)
    generalize el':(j0::l0).eraseIdx j=l' at P11 hl11 el ⊢
    replace el':=el'.symm
    generalize V10.set pl (.list (nats l'))=V11 at P11 hl11 ⊢
    have ht11:=P11.ht
    kd_p
    refine(bI (m:=3) P11.hc (by lia) hx (by decide) fun r3 hr3=>?_).call
    have P12:=P11.cell (s2+1+1)
    have hl12:(V11.set c (be (s2+1+1) xs))[pl]? =some (.list (nats l')):=by refine a0 (List.getElem?_set_ne (Nat.ne_of_lt pl1.1)) ?_;exact hl11
    clear ht11
    generalize V11.set c (be (s2+1+1) xs)=V12 at P12 hl12 ⊢
    kd_p
    refine a6 _ aN ?_
    kd_p
    refine⟨ao rfl,?_⟩
    kd_p
    generalize decide (Int.ofNat r3=0)=r4
    refine b9 (.list ((tn++[(v,r4)]).map eW)) P12.ht (by simp;lia) (by simp[eW]) ?_
    have P13:=P12.turn (tn++[(v,r4)])
    have hl13:(V12.set pt (.list ((tn++[(v,r4)]).map eW)))[pl]? =some (.list (nats l')):=by refine a0 (List.getElem?_set_ne (Nat.ne_of_lt pl1.2.2)) ?_;exact hl12
    kd_p
    refine⟨l0.length,_,Nat.lt_succ_self _,Sub.app (ext:=[("spot",_)]),s2+1+1,l',tn++[(v,r4)],P13,hl13,el.symm,by refine a0 el ?_;simp;lia,by refine a0 el ?_;lia,q8 cov gj el',fun x hx=>lb x (List.mem_of_mem_eraseIdx (el'▸hx)),fun e he=>(List.mem_append.mp he).elim (tb e) fun h=>List.mem_singleton.mp h▸lb v (List.mem_of_getElem? gj),rfl⟩
  | nil=>
    refine ite_neg (by decide) ?_
    kd_p
    have M:iN ts rws:=⟨h3,by lia,N9,rr.a,rr.b⟩
    have okU:=(mr M.tg M.tl).size
    have hops:=gN M.tg
    have okA:=wU (iu M.tg) num
    have run:=tX (prog:=prog) (w:=w) (H:=H) (mg:=mg) (mb:=mb) num
    have tnl:tn.length=rws.length:=tnl
    have as9:cK V9 (.ref pr)=some (rws.map eX):=fP P9.hr
    have al9:bn V9 (.ref pt)=some (tn.map eW):=dy P9.ht
    have hr9:=P9.hr
    refine aW (new:=false) (aE (nm:="spot") rfl ?_) (by rfl)
    kd_p
    refine bo (k:=rws.length) hr9 (by exact List.length_map ..) (by exact a9 N9.2 (by decide)) ?_
    kd_p
    refine ec (k:=rws.length) (by exact a9 N9.2 (by decide)) ?_
    refine⟨aL ((List.range rws.length).map Int.ofNat),rfl,by simp;exact a9 N9.2 (by decide),fun Z=>true,fun y=>.tup [y,.bool false],fun Z Z Z hK=>cD hK,fun y hy Z K hK=>?_,((List.range rws.length).map fun j=>(j,false)).map eW,by refine a0 (sf ..) ?_;simp[eW,aL,Function.comp_def],_,rfl,?_⟩
    ·kd_p
     exact⟨by simp,hK⟩
    kd_p
    refine(lK (n:=n) hnum M.play1 as9 rfl fun Va L1 S1 k1 v1 w1 K1 m1 hK1 sw1 sr1 tl1=>?_).call
    refine fy (xs:=[.ref L1.hp,.ref k1.kp]) rfl rfl ?_
    show AT _ _ _ _ _ _ _ _
    kd_p
    show AT _ _ _ _ _ _ _ _
    kd_p
    show df _ _ _ _ _ _ _
    kd_p
    refine aW (new:=false) (aE (nm:="row") rfl ?_) (by rfl)
    kd_p
    refine⟨rws.map eX,kA m1.x as9,by exact a9 (Nat.le_of_eq (List.length_map ..)) (a9 N9.2 (by decide)),fun Z=>true,fun y=>match y with | .tup xs=>.tup xs.reverse | _=>.none,fun Z Z Z hK=>cD hK,fun y hy Z K hK=>?_,(rws.map List.reverse).map eX,by refine a0 (sf ..) ?_;simp[eX,Function.comp_def],_,rfl,?_⟩
    ·refine a7 (List.mem_map.mp hy) fun r hr z2=>?_;subst z2
     have:=(M.rowOk r hr).2.1
     refine pd ?_
     kd_p
     exact aP (r.map fB) rfl (by exact a9 (Nat.le_of_eq (List.length_map ..)) (a9 this (by decide))) hK
    kd_p
    refine(lK (n:=n) hnum (M.play2 (by exact a9 (Nat.le_of_eq tnl) (a9 N9.2 (by decide))) tb) rfl (j9 m1.x al9) fun Vb L2 S2 k2 v2 w2 K2 m2 hK2 sw2 sr2 tl2=>?_).call
    refine fy (xs:=[.ref L2.hp,.ref k2.kp]) rfl rfl ?_
    show AT _ _ _ _ _ _ _ _
    kd_p
    show AT _ _ _ _ _ _ _ _
    kd_p
    show df _ _ _ _ _ _ _
    kd_p
    have W2:=xe M okA m1 sw1 sr1 tl1 (fun j hj=>by refine a0 List.map_map ?_;exact List.mem_map.mpr (a6 j (List.mem_range.mpr hj) rfl)) m2 sw2 sr2 tl2 fun j hj=>(cov j hj).resolve_left List.not_mem_nil
    clear m1 m2 tl1 tl2 as9 al9 hr9 P9 hl9 sw1 sw2 cov lb tb tnl s2l pl1 P8 hl8
    refine ip ?_ (by rfl)
    kd_p
    refine(gW (n:=n+4) okA run W2.b1 W2.I1 sr1 okU (by exact a9 hK1 (by decide)) hops fun Vc xc=>?_).call
    refine a6 true rfl ?_
    refine ite_neg (by exact fun z=>nomatch z) ?_
    kd_p
    refine ip ?_ (by rfl)
    kd_p
    replace W2:=W2.quiet xc
    refine(gW (n:=n+4) okA run W2.b2 W2.I2 sr2 okU (by exact a9 hK2 (by decide)) hops fun Vd xd=>?_).call
    refine a6 true rfl ?_
    refine ite_neg (by exact fun z=>nomatch z) ?_
    replace W2:=W2.quiet xd
    clear xc xd sr1 sr2
    have sm1:=W2.I1.small okU
    have sm2:=W2.I2.small okU
    have size1:=W2.I1.size
    have sz:=W2.sz
    have pn1:=W2.I1.pn
    have pn2:=W2.I2.pn
    have h1d:=W2.b1.h.hp'
    have h2d:=W2.b2.h.hp'
    kd_p
    refine(du W2.b1.h sm1 ?_).call
    kd_p
    refine(du W2.b2.h sm2 ?_).call
    refine a6 _ dv ?_
    refine ite_neg (by refine a0 W2.sz ?_;simp) ?_
    kd_p
    refine ite_neg (by decide) ?_
    kd_p
    refine bP ?_ rfl
    kd_p
    refine(du W2.b1.h sm1 ?_).call
    kd_p
    have s40:S1.bank.nodes.length≤40:=by exact a9 size1 okU
    refine ec (k:=S1.bank.nodes.length) (by exact a9 s40 (by decide)) ?_
    refine a6 (aL ((List.range S1.bank.nodes.length).map Int.ofNat)) rfl ?_
    clear h1d h2d
    refine sJ ?_
    refine dE (fun n=>.int (Int.ofNat n)) (List.range S1.bank.nodes.length) (fun Z Z V'=>yD num (dh ts) (da rws) (da rws) V' L1 L2 S1 S2 k1 k2 v1 v2 w2 K1 K2) (fun Ve W3=>?_) (fun dn j rest Ve KK g2 W3 hKK=>?_) W2
    rotate_left 1
    ·have jl:j<S1.bank.nodes.length:=List.mem_range.mp (by refine a0 g2 ?_;exact List.mem_append_right _ (.head _))
     refine a7 (W3.cv j jl) fun m ml em=>?_
     have k1e:Ve[k1.kp]? =some (.inst 230 [("heap",.ref L1.hp),("analysis",.ref k1.an),("values",.ref k1.vp),("told",.ref k1.tp)]):=W3.b1.g.get (i:=0) rfl
     have k2e:Ve[k2.kp]? =some (.inst 230 [("heap",.ref L2.hp),("analysis",.ref k2.an),("values",.ref k2.vp),("told",.ref k2.tp)]):=W3.b2.g.get (i:=0) rfl
     have h1e:=W3.b1.h.hp'
     have h2e:=W3.b2.h.hp'
     have h3e:=W3.b1.h.bk'
     kd_p
     refine(ee okA W3.b1 sm1 (by exact a9 jl (fX pn1)) ?_).call
     kd_p
     refine(rF W3.b1.h.b W3.I1.kid W3.I1.kid2 jl (by exact a9 s40 (by decide)) fun Vf Xf=>?_).call
     have W4:=W3.quiet Xf
     kd_p
     refine(vx (n:=n+1) 3 (M.deepU (W4.I1.inU j jl)) W4.b2.h W4.I2 okU ml em ?_).call
     kd_p
     refine(ee okA W4.b2 sm2 (by exact a9 ml (fX pn2)) ?_).call
     kd_p
     refine a6 _ (gD (by refine a0 (bW (okA.okv _)) ?_;exact okA.okv _) (by refine a0 (bW (okA.okv _)) ?_;exact okA.okv _)) ?_
     refine a0 (bW (okA.okv _)) ?_;refine a0 (bW (okA.okv _)) ?_;refine a0 ((okA.eq _ _).mpr (W4.veq j m jl ml em)) ?_;refine ite_neg (by exact fun z=>nomatch z) ?_
     kd_p
     exact⟨rfl,hKK _ Vf (Sub.app (ext:=[("n",_)])) W4⟩
    have k2e:Ve[k2.kp]? =some (.inst 230 [("heap",.ref L2.hp),("analysis",.ref k2.an),("values",.ref k2.vp),("told",.ref k2.tp)]):=W3.b2.g.get (i:=0) rfl
    have vpe:=W3.b2.g.get (i:=2) (p:=k2.vp) rfl
    have v2l:=bT W3.sr2.nd fun c hc=>bN (W3.sr2.rt c hc)
    rw[List.length_map] at v2l
    clear W2
    kd_p
    refine wL vpe (by simp[vD];exact a9 (a9 v2l (a9 (Nat.le_of_eq pn2) (a9 (fX sz) (a9 size1 okU)))) (by decide)) ?_
    have W4:=W3.quiet (.grow (.idict (vD (kd num).A v2)))
    have hbf:(Ve++[.idict (vD (kd num).A v2)])[Ve.length]? =some (.idict (vD (kd num).A v2)):=by refine a0 (List.getElem?_append_right (Nat.le_refl _)) ?_;simp
    have keyl:∀ q∈k2.keys,q<Ve.length:=fun q hq=>W3.b2.g.lt hq
    clear k2e vpe W3
    generalize Ve++[.idict (vD (kd num).A v2)]=Vf at W4 hbf ⊢
    generalize Ve.length=pb at hbf keyl ⊢
    have k2f:Vf[k2.kp]? =some (.inst 230 [("heap",.ref L2.hp),("analysis",.ref k2.an),("values",.ref k2.vp),("told",.ref k2.tp)]):=W4.b2.g.get (i:=0) rfl
    kd_p
    refine(hW (n:=n+4) okA run W4.b2 W4.I2 okU (by exact a9 hK2 (by decide)) hops W4.sr2.pre fun Vg vp3 v3 b3 xg sr3=>?_).call
    refine a2 (sr3.same W4.sr2.rt W4.sr2.post) fun sv sk=>?_
    refine a2 (vg okA W4.sr2.nd sr3.nd sv sk) fun vs1 vs2=>?_
    have hbg:Vg[pb]? =some (.idict (vD (kd num).A v2)):=(xg.keep pb (bN hbf) fun z=>absurd (keyl pb z) (Nat.lt_irrefl _)).trans hbf
    have a1g:=W4.b1.h.other xg W4.sep
    have h1g:=a1g.hp'
    have h2g:=b3.h.hp'
    have k3g:Vg[k2.kp]? =some (.inst 230 [("heap",.ref L2.hp),("analysis",.ref k2.an),("values",.ref vp3),("told",.ref k2.tp)]):=b3.g.get (i:=0) rfl
    have v3g:=b3.g.get (i:=2) (p:=vp3) rfl
    clear k2f
    kd_p
    refine mf (rh ?_)
    kd_p
    refine a6 _ (ux v3g hbg vs1 vs2) ?_
    refine a6 true rfl ?_
    refine ite_pos rfl ?_
    refine rg ?_
    kd_p
    refine(du b3.h sm2 ?_).call
    kd_p
    refine(du a1g sm1 ?_).call
    refine a6 _ aN ?_
    kd_p
    exact congrArg a5.bool (decide_eq_true (congrArg Int.ofNat W4.sz.symm))
end
theorem zY(c:WalkO qv LS (XL qv []) (kHook KF KA m7).says PySem.Challenge.rw_pq0090_01.row.toRowW ((defOf qv PySem.Challenge.rw_pq0090_01.row.name).get (by decide+kernel)).1 ((defOf qv PySem.Challenge.rw_pq0090_01.row.name).get (by decide+kernel)).2 fun f vs=>PySem.call f vs):PySem.Challenge.rw_pq0090_01.Holds:=
 holds_law xi fun xi=>holds_open (q:=qv) (loose:=LS) (Xt:=XT) (XP:=XL qv []) (Yf:=(kHook KF KA m7).obs) (Ya:=(kHook KF KA m7).val) (YP:=(kHook KF KA m7).says) (N:=9174) yr (kHook KF KA m7).of (kHook KF KA m7).keeps (fun s e=>xl_of s (Bool.and_eq_true_iff.mp e).1) XL.keeps (by rfl) (by rfl) (by rfl) (fun s e=>recFacts_of (Bool.and_eq_true_iff.mp e).2) (by rfl) xi (by decide+kernel) ⟨rfl,rfl,rfl,rfl,rfl,by decide+kernel⟩ ⟨[.list []],by decide+kernel,by decide+kernel⟩ c
theorem pP{R:WRecords}{cl:Str->Option Addr}{φ:aj}{h:Heap}(xs:List WData):(∀ d∈xs,WShape.has R d .int=true)->∀ {vs:List Value} {as:List Addr},ReadsAllW R cl h vs xs as->∃ ns:List Int,ns.length=xs.length∧ad φ h vs (aL ns):=by
 induction xs with
 | nil=>
   intro _ vs as r
   refine a2 (readsAllW_nil_inv r) fun e Z=>?_
   subst e
   exact a6 [] rfl .nil
 | cons d ds ih=>
   intro q vs as r
   refine(readsAllW_cons_inv r).elim fun v x=>oz x fun us Z Z e Z r1 r2=>?_
   subst e
   refine aH (hasW_int (q d (.head _))) fun i e=>?_
   subst e
   refine a7 (readsW_int_inv r1) fun t e Z=>?_
   subst e
   exact a7 (ih (fun d hd=>q d (.tail _ hd)) r2) fun ns h1 h2=>a6 (i::ns) (congrArg Nat.succ h1) (.cons (.int i t) h2)
theorem yp{xs:List WData}(h:WTm.holds [] (.and (.not (.lt (.lit (.int 63)) (.len (.arg 0)))) (.lit (.bool true))) {args:=[WData.list xs]}=true):xs.length≤63:=by
 by_cases q:xs.length≤63
 ·exact q
 ·have:W.less? (.int 63) (.int (xs.length:Int))=some true:=congrArg some (decide_eq_true (by lia))
  simp[WTm.holds,WTm.value,this] at h
theorem yd(xs:List WData):(WShape.has [] (.bool true) .bool&&WTm.holds [] (.eq .res (.lit (.bool true))) {args:=[WData.list xs],res:=some (.bool true),after:=[WData.list xs]})=true:=by kernel_rfl
theorem yB{xs:List WData}{args:List WData}(h:WShape.hasAll [] args [.list .int]=true):∃ xs,args=[.list xs]∧∀ d∈xs,WShape.has [] d .int=true:=
 bR (hasAllW_cons h) fun d r e h3 h4=>by
  have z:=hasAllW_nil h4
  subst e
  subst z
  refine a7 (hasW_list h3) fun xs e h5=>?_
  subst e
  exact a6 xs rfl fun d hd=>hasItemsW_at h5 d hd
theorem xo{R:WRecords}{cl:Str->Option Addr}{φ:aj}{h:Heap}{xs:List WData}{vals:List Value}{as:List Addr}(q:∀ d∈xs,WShape.has R d .int=true)(n:∀ a,¬dO φ a)(r:ReadsAllW R cl h vals [.list xs] as):∃ ns:List Int,ns.length=xs.length∧ad φ h vals [.frz (aL ns)]:=
 (readsAllW_cons_inv r).elim fun v x=>oz x fun us Z Z e Z r1 r2=>by
  refine a2 (readsAllW_nil_inv r2) fun e2 Z=>?_
  subst e
  subst e2
  refine oz (readsW_list_inv r1) fun la vs as' e hl hr Z=>?_
  subst e
  exact a7 (pP (φ:=φ) xs q hr) fun ns hn hvs=>a6 ns hn (.cons (.frz hl (n la) hvs) .nil)
theorem zg(a:Addr):¬dO ⟨[],[]⟩ a:=fun x=>x.elim (fun x=>x.elim fun p hp=>nomatch hp.1) fun x=>nomatch x
theorem top(h:∀ (prog:Program) (w:World) (H:Heap) (mg mb:Str->Option Value) (ns:List Int),ns.length≤63->CC (W0 prog w H mg mb) 100 (.ref 647) [.frz (aL ns)] [] (fun a Z=>a=.bool true)):PySem.Challenge.rw_pq0090_01.Holds:=by
 refine zY fun w s₀ s₁ mg mb G Y fa o pm cd doc dV kV ho hd' hcd hD hmg hg args vals as hpre hlay hrd hwl hlo=>?_
 have T:=G.T
 have ok:(W0 PySem.Challenge.rw_pq0090_01.row.toRowW.prog w s₁.heap mg mb).Ok:=⟨kIn_of Y,T.g,T.b,T.nolimit,T.builtins,G.low,T.nodigits⟩
 have e2:Value.ref fa=.ref 647:=Option.some.inj (hmg.symm.trans (mg_of ok.X ok.g (by rfl)))
 injection e2 with e2
 subst e2
 refine a2 (pre_splitW hpre) fun h1 h2=>?_
 refine a7 (yB (xs:=[]) h1) fun xs e h5=>?_
 subst e
 refine a7 (xo (φ:=⟨[],[]⟩) h5 zg hrd) fun ns hn hvs=>?_
 have C:=(h _ w s₁.heap mg mb ns (a9 (Nat.le_of_eq hn) (yp h2))).call callerA ⟨[],[]⟩ s₁ vals ⟨rfl,by decide,by decide⟩ ⟨ok,rfl,fun l p o e=>(nomatch e),fun b o e=>e,Nat.le_refl _,fun p hp=>(nomatch hp),fun b hb=>(nomatch hb),List.Pairwise.nil⟩ hvs
 refine wpAny_mono C ?_ (fun Z Z x=>x.elim)
 intro v s' z
 obtain⟨φ',V',x,E,hv,rfl⟩:=z
 refine hv.bool_el ?_
 exact GoodW.toG ⟨.inl ⟨.bool true,.bool true,[],rfl,fun Z=>rfl,.bool true,yd xs,fun Z=>⟨.nil,fun Z hh=>nomatch hh⟩⟩,E.now.base,E.os,E.gens.trans hg⟩
theorem holds:PySem.Challenge.rw_pq0090_01.Holds:=top fun Z Z Z Z Z Z hns=>tS (n:=89) hns
end
end Mine
theorem PySem.Challenge.cw_pq0090_01_holds : PySem.Challenge.rw_pq0090_01.Holds :=
  Mine.holds
