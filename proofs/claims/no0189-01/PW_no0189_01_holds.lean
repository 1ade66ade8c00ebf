import PyProof.Rows.All
import Wide.All
import OpenK.AllK
import Wide.FinOn
import PySem.Challenge.RW_no0189_01
set_option linter.all false
set_option genInjectivity false
set_option genSizeOf false
set_option genCtorIdx false
set_option backward.match.sparseCases false
set_option Elab.async false
set_option maxRecDepth 100000
set_option maxHeartbeats 0
open PySem PySem.W PyProof.Rows PySem.SeqAt
namespace Mine
section
variable {P:Prop}
theorem E01 {A B:Prop} (h:A/\B) (k:A->B->P):P:=k h.1 h.2
theorem E02 {A B C:Prop} (h:A/\B/\C) (k:A->B->C->P):P:=k h.1 h.2.1 h.2.2
theorem E03 {A B C D:Prop} (h:A/\B/\C/\D) (k:A->B->C->D->P):P:=k h.1 h.2.1 h.2.2.1 h.2.2.2
theorem E04 {A B C D E:Prop} (h:A/\B/\C/\D/\E) (k:A->B->C->D->E->P):P:=k h.1 h.2.1 h.2.2.1 h.2.2.2.1 h.2.2.2.2
theorem E05 {A B C D E F:Prop} (h:A/\B/\C/\D/\E/\F) (k:A->B->C->D->E->F->P):P:=k h.1 h.2.1 h.2.2.1 h.2.2.2.1 h.2.2.2.2.1 h.2.2.2.2.2
theorem E06 {A B C D E F G:Prop} (h:A/\B/\C/\D/\E/\F/\G) (k:A->B->C->D->E->F->G->P):P:=k h.1 h.2.1 h.2.2.1 h.2.2.2.1 h.2.2.2.2.1 h.2.2.2.2.2.1 h.2.2.2.2.2.2
theorem E07 {A B C D E F G H:Prop} (h:A/\B/\C/\D/\E/\F/\G/\H) (k:A->B->C->D->E->F->G->H->P):P:=k h.1 h.2.1 h.2.2.1 h.2.2.2.1 h.2.2.2.2.1 h.2.2.2.2.2.1 h.2.2.2.2.2.2.1 h.2.2.2.2.2.2.2
theorem E10 {α:Type} {A:α->Prop} (h:∃ x,A x) (k:∀ x,A x->P):P:=Exists.elim h k
theorem E11 {α:Type} {A B:α->Prop} (h:∃ x,A x/\B x) (k:∀ x,A x->B x->P):P:=Exists.elim h fun x h=>E01 h (k x)
theorem E12 {α:Type} {A B C:α->Prop} (h:∃ x,A x/\B x/\C x) (k:∀ x,A x->B x->C x->P):P:=Exists.elim h fun x h=>E02 h (k x)
theorem E13 {α:Type} {A B C D:α->Prop} (h:∃ x,A x/\B x/\C x/\D x) (k:∀ x,A x->B x->C x->D x->P):P:=Exists.elim h fun x h=>E03 h (k x)
theorem E14 {α:Type} {A B C D E:α->Prop} (h:∃ x,A x/\B x/\C x/\D x/\E x) (k:∀ x,A x->B x->C x->D x->E x->P):P:=Exists.elim h fun x h=>E04 h (k x)
theorem E15 {α:Type} {A B C D E F:α->Prop} (h:∃ x,A x/\B x/\C x/\D x/\E x/\F x) (k:∀ x,A x->B x->C x->D x->E x->F x->P):P:=Exists.elim h fun x h=>E05 h (k x)
theorem E16 {α:Type} {A B C D E F G:α->Prop} (h:∃ x,A x/\B x/\C x/\D x/\E x/\F x/\G x) (k:∀ x,A x->B x->C x->D x->E x->F x->G x->P):P:=Exists.elim h fun x h=>E06 h (k x)
theorem E17 {α:Type} {A B C D E F G H:α->Prop} (h:∃ x,A x/\B x/\C x/\D x/\E x/\F x/\G x/\H x) (k:∀ x,A x->B x->C x->D x->E x->F x->G x->H x->P):P:=Exists.elim h fun x h=>E07 h (k x)
theorem E20 {α β:Type} {A:α->β->Prop} (h:∃ x y,A x y) (k:∀ x y,A x y->P):P:=Exists.elim h fun x h=>E10 h (k x)
theorem E21 {α β:Type} {A B:α->β->Prop} (h:∃ x y,A x y/\B x y) (k:∀ x y,A x y->B x y->P):P:=Exists.elim h fun x h=>E11 h (k x)
theorem E22 {α β:Type} {A B C:α->β->Prop} (h:∃ x y,A x y/\B x y/\C x y) (k:∀ x y,A x y->B x y->C x y->P):P:=Exists.elim h fun x h=>E12 h (k x)
theorem E23 {α β:Type} {A B C D:α->β->Prop} (h:∃ x y,A x y/\B x y/\C x y/\D x y) (k:∀ x y,A x y->B x y->C x y->D x y->P):P:=Exists.elim h fun x h=>E13 h (k x)
theorem E24 {α β:Type} {A B C D E:α->β->Prop} (h:∃ x y,A x y/\B x y/\C x y/\D x y/\E x y) (k:∀ x y,A x y->B x y->C x y->D x y->E x y->P):P:=Exists.elim h fun x h=>E14 h (k x)
theorem E25 {α β:Type} {A B C D E F:α->β->Prop} (h:∃ x y,A x y/\B x y/\C x y/\D x y/\E x y/\F x y) (k:∀ x y,A x y->B x y->C x y->D x y->E x y->F x y->P):P:=Exists.elim h fun x h=>E15 h (k x)
theorem E26 {α β:Type} {A B C D E F G:α->β->Prop} (h:∃ x y,A x y/\B x y/\C x y/\D x y/\E x y/\F x y/\G x y) (k:∀ x y,A x y->B x y->C x y->D x y->E x y->F x y->G x y->P):P:=Exists.elim h fun x h=>E16 h (k x)
theorem E27 {α β:Type} {A B C D E F G H:α->β->Prop} (h:∃ x y,A x y/\B x y/\C x y/\D x y/\E x y/\F x y/\G x y/\H x y) (k:∀ x y,A x y->B x y->C x y->D x y->E x y->F x y->G x y->H x y->P):P:=Exists.elim h fun x h=>E17 h (k x)
theorem E30 {α β γ:Type} {A:α->β->γ->Prop} (h:∃ x y z,A x y z) (k:∀ x y z,A x y z->P):P:=Exists.elim h fun x h=>E20 h (k x)
theorem E31 {α β γ:Type} {A B:α->β->γ->Prop} (h:∃ x y z,A x y z/\B x y z) (k:∀ x y z,A x y z->B x y z->P):P:=Exists.elim h fun x h=>E21 h (k x)
theorem E32 {α β γ:Type} {A B C:α->β->γ->Prop} (h:∃ x y z,A x y z/\B x y z/\C x y z) (k:∀ x y z,A x y z->B x y z->C x y z->P):P:=Exists.elim h fun x h=>E22 h (k x)
theorem E33 {α β γ:Type} {A B C D:α->β->γ->Prop} (h:∃ x y z,A x y z/\B x y z/\C x y z/\D x y z) (k:∀ x y z,A x y z->B x y z->C x y z->D x y z->P):P:=Exists.elim h fun x h=>E23 h (k x)
theorem E34 {α β γ:Type} {A B C D E:α->β->γ->Prop} (h:∃ x y z,A x y z/\B x y z/\C x y z/\D x y z/\E x y z) (k:∀ x y z,A x y z->B x y z->C x y z->D x y z->E x y z->P):P:=Exists.elim h fun x h=>E24 h (k x)
theorem E35 {α β γ:Type} {A B C D E F:α->β->γ->Prop} (h:∃ x y z,A x y z/\B x y z/\C x y z/\D x y z/\E x y z/\F x y z) (k:∀ x y z,A x y z->B x y z->C x y z->D x y z->E x y z->F x y z->P):P:=Exists.elim h fun x h=>E25 h (k x)
theorem E40 {α β γ δ:Type} {A:α->β->γ->δ->Prop} (h:∃ x y z w,A x y z w) (k:∀ x y z w,A x y z w->P):P:=Exists.elim h fun x h=>E30 h (k x)
theorem E41 {α β γ δ:Type} {A B:α->β->γ->δ->Prop} (h:∃ x y z w,A x y z w/\B x y z w) (k:∀ x y z w,A x y z w->B x y z w->P):P:=Exists.elim h fun x h=>E31 h (k x)
theorem E42 {α β γ δ:Type} {A B C:α->β->γ->δ->Prop} (h:∃ x y z w,A x y z w/\B x y z w/\C x y z w) (k:∀ x y z w,A x y z w->B x y z w->C x y z w->P):P:=Exists.elim h fun x h=>E32 h (k x)
theorem E44 {α β γ δ:Type} {A B C D E:α->β->γ->δ->Prop} (h:∃ x y z w,A x y z w/\B x y z w/\C x y z w/\D x y z w/\E x y z w) (k:∀ x y z w,A x y z w->B x y z w->C x y z w->D x y z w->E x y z w->P):P:=Exists.elim h fun x h=>E34 h (k x)
theorem E45 {α β γ δ:Type} {A B C D E F:α->β->γ->δ->Prop} (h:∃ x y z w,A x y z w/\B x y z w/\C x y z w/\D x y z w/\E x y z w/\F x y z w) (k:∀ x y z w,A x y z w->B x y z w->C x y z w->D x y z w->E x y z w->F x y z w->P):P:=Exists.elim h fun x h=>E35 h (k x)
theorem E50 {α β γ δ ε:Type} {A:α->β->γ->δ->ε->Prop} (h:∃ x y z w u,A x y z w u) (k:∀ x y z w u,A x y z w u->P):P:=Exists.elim h fun x h=>E40 h (k x)
theorem E60 {α β γ δ ε ζ:Type} {A:α->β->γ->δ->ε->ζ->Prop} (h:∃ x y z w u t,A x y z w u t) (k:∀ x y z w u t,A x y z w u t->P):P:=Exists.elim h fun x h=>E50 h (k x)
theorem E37 {α β γ:Type} {A B C D E F G H:α->β->γ->Prop} (h:∃ x y z,A x y z/\B x y z/\C x y z/\D x y z/\E x y z/\F x y z/\G x y z/\H x y z) (k:∀ x y z,A x y z->B x y z->C x y z->D x y z->E x y z->F x y z->G x y z->H x y z->P):P:=Exists.elim h fun x h=>E27 h (k x)
end
noncomputable abbrev pw:Program:=PySem.Challenge.pw_no0189_01
noncomputable abbrev sO (x:String):Str:=Str.ofString x
noncomputable def dN (i:Nat):Stmt:=pw.main.body.getD i default
noncomputable def bS (i j:Nat):Stmt:=match dN i with
  |.ClassDef _ _ _ b _ _ _ _ _ _ _=>b.getD j default
  |_=>default
noncomputable def yb:Stmt->Arguments
  |.FunctionDef _ a _ _ _ _ _ _ _ _=>a
  |_=>default
noncomputable def hX:Stmt->List Stmt
  |.FunctionDef _ _ b _ _ _ _ _ _ _=>b
  |_=>[]
noncomputable def lE:Stmt->Scope
  |.FunctionDef _ _ _ _ _ _ sc _ _ _=>sc
  |_=>default
noncomputable def en (P:Params) (n:String) (t:Tok) (v:Value):DictEntry:=⟨PyData.keyHash P (sO n),.str (sO n) t,v⟩
noncomputable def aP (name qual:Str) (st:Stmt) (dV pm cd:Value):Obj:={ cls:=.type "function",data:=.func (fnX name qual (yb st) (hX st) (lE st) [] dV .none .none pm none cd .none) }
noncomputable def cdO (x q:Str) (a l:Nat) (k:Int) (r b:Nat):Obj:={ cls:=.type "code",data:=.fields #[.str x a,.str q (a+1),.str (sO "/claim/cut.py") (a+2),.int l 0,.int k 0,.int 0 0,.int 0 0,.int 3 0,.ref r,.bool true,.int 181 0,.ref (r+1),.none,.ref (r+2),.ref (r+3),.ref (r+4),.int b 0,.int l 0,.str (sO "/claim/cut.py") (b+1)] }
noncomputable def cdP (x q:Str) (a l:Nat) (k:Int) (r b:Nat):Obj:={ cls:=.type "code",data:=.fields #[.str x a,.str q (a+1),.str (sO "/claim/cut.py") (a+2),.int l 0,.int k 0,.int 0 0,.int 0 0,.int 3 0,.ref r,.bool true,.int 181 0,.ref (r+1),.none,.none,.none,.ref (r+2),.int b 0,.int l 0,.str (sO "/claim/cut.py") (b+1)] }
noncomputable def KK (P:Params):Frag:=[
  (2,{ cls:=.none,data:=.dict [en P "type.__subclasses__.Exception.0" 212 (.int 31 0),en P "type.__subclasses__.Exception.n" 213 (.int 1 0)].toArray 2 }),
  (3,{ cls:=.type "dict",data:=.dict [en P "__name__" 165 (.str (sO "law_no0189_01") 1090),en P "__doc__" 166 (.none),en P "__package__" 167 (.none),en P "__loader__" 168 (.builtin "__main__.__loader__#opaque"),en P "__spec__" 169 (.none),en P "__annotations__" 170 (.ref 6),en P "__builtins__" 171 (.ref 4),en P "__file__" 173 (.str (sO "/claim/cut.py") 172),en P "__cached__" 174 (.none),en P "_wall" 193 (.ref 21),en P "ClausemillError" 215 (.ref 31),en P "PrologError" 240 (.ref 51),en P "A_NIL" 242 (.int 0 241),en P "A_SYSTEM" 244 (.int 25 243),en P "F_DOT" 246 (.int 0 245),en P "F_CARET" 248 (.int 11 247),en P "F_ERROR" 250 (.int 16 249),en P "fixed_atoms" 256 (.ref 60),en P "fixed_functors" 262 (.ref 67),en P "Symbols" 382 (.ref 154),en P "system_error" 391 (.ref 165),en P "formal_of" 402 (.ref 172),en P "type_error" 411 (.ref 179),en P "resource_error" 419 (.ref 186),en P "REF" 423 (.int 0 422),en P "SRF" 425 (.int 1 424),en P "STR" 427 (.int 2 426),en P "LIS" 429 (.int 3 428),en P "CON" 431 (.int 4 430),en P "INT" 433 (.int 5 432),en P "FUN" 435 (.int 6 434),en P "VOID" 437 (.ref 187),en P "VISIT" 439 (.int 0 438),en P "BUILD" 441 (.int 1 440),en P "Cells" 635 (.ref 331),en P "Store" 720 (.ref 381),en P "PairSet" 762 (.ref 407),en P "push_arguments" 773 (.ref 418),en P "push_pairs" 786 (.ref 425),en P "same_shape" 795 (.ref 432),en P "is_variable" 802 (.ref 439),en P "unify" 816 (.ref 446),en P "unify_unify" 817 (.ref 446),en P "bind_checked" 827 (.ref 453),en P "occurs_in" 838 (.ref 460),en P "variables" 850 (.ref 467),en P "pred_free_variables" 865 (.ref 474),en P "is_caret" 873 (.ref 481),en P "READ" 877 (.str (sO "read") 876),en P "EXTRA" 879 (.int 8 878),en P "Areas" 1089 (.ref 639),en P "_law_pick" 1101 (.ref 650),en P "_law_end" 1109 (.ref 657),en P "_law_inside" 1115 (.ref 662),en P "_law_meet" 1125 (.ref 669),en P "_law_full" 1131 (.ref 674),en P "_law_match" 1137 (.ref 679),en P "_law_error" 1143 (.ref 684),en P "_law_agrees" 1149 (.ref 689),en P "_law_tree" 1155 (.ref 694),en P "_law_row" 1164 (.ref 701),en P "_law_free" 1173 (.ref 708),en P "_law_freed" 1180 (.ref 715),en P "law" 1186 (.ref 720)].toArray 64 }),
  (30,{ cls:=.type "dict",data:=.dict [en P "__module__" 203 (.str (sO "clausemill.symbols") 194),en P "__firstlineno__" 207 (.int 5 206),en P "__static_attributes__" 208 (.ref 29),en P "__weakref__" 210 (.ref 32),en P "__doc__" 211 (.none)].toArray 3 }),
  (31,{ cls:=.type "type",data:=.cls { name:=sO "ClausemillError",bases:=[.type "Exception"],mro:=[.ref 31,.type "Exception",.type "BaseException",.type "object"],ns:=30,qualname:=sO "ClausemillError",hasDict:=true,slotNames:=[],subclasses:=[.ref 51],abstract:=false,collection:=none,hasDel:=false },slots:=#[some (.ref 22),none,some (.str (sO "ClausemillError") 196),some (.str (sO "ClausemillError") 204),some (.builtin "Exception.__new__"),some (.bool true)] }),
  (47,cdO (sO "__init__") (sO "PrologError.__init__") 228 9 2 42 233),
  (48,aP (sO "__init__") (sO "PrologError.__init__") (bS 3 0) (.none) (.str (sO "clausemill.symbols") 194) (.ref 47)),
  (50,{ cls:=.type "dict",data:=.dict [en P "__module__" 223 (.str (sO "clausemill.symbols") 194),en P "__firstlineno__" 227 (.int 7 226),en P "__init__" 235 (.ref 48),en P "__static_attributes__" 237 (.ref 49),en P "__doc__" 238 (.none)].toArray 2 }),
  (51,{ cls:=.type "type",data:=.cls { name:=sO "PrologError",bases:=[.ref 31],mro:=[.ref 51,.ref 31,.type "Exception",.type "BaseException",.type "object"],ns:=50,qualname:=sO "PrologError",hasDict:=true,slotNames:=[],subclasses:=[],abstract:=false,collection:=none,hasDel:=false },slots:=#[some (.ref 35),none,some (.str (sO "PrologError") 216),some (.str (sO "PrologError") 224),some (.builtin "Exception.__new__"),some (.bool true)] }),
  (59,cdO (sO "fixed_atoms") (sO "fixed_atoms") 251 16 0 54 254),
  (60,aP (sO "fixed_atoms") (sO "fixed_atoms") (dN 9) (.none) (.str (sO "clausemill.symbols") 194) (.ref 59)),
  (66,cdO (sO "fixed_functors") (sO "fixed_functors") 257 18 0 61 260),
  (67,aP (sO "fixed_functors") (sO "fixed_functors") (dN 10) (.none) (.str (sO "clausemill.symbols") 194) (.ref 66)),
  (80,cdO (sO "__init__") (sO "Symbols.__init__") 275 22 1 75 281),
  (81,aP (sO "__init__") (sO "Symbols.__init__") (bS 11 0) (.none) (.str (sO "clausemill.symbols") 194) (.ref 80)),
  (87,cdO (sO "atom") (sO "Symbols.atom") 284 32 2 82 291),
  (88,aP (sO "atom") (sO "Symbols.atom") (bS 11 1) (.none) (.str (sO "clausemill.symbols") 194) (.ref 87)),
  (101,cdO (sO "functor") (sO "Symbols.functor") 302 44 3 96 311),
  (102,aP (sO "functor") (sO "Symbols.functor") (bS 11 3) (.none) (.str (sO "clausemill.symbols") 194) (.ref 101)),
  (108,cdO (sO "func") (sO "Symbols.func") 314 54 3 103 320),
  (109,aP (sO "func") (sO "Symbols.func") (bS 11 4) (.none) (.str (sO "clausemill.symbols") 194) (.ref 108)),
  (122,cdO (sO "arity") (sO "Symbols.arity") 331 60 2 117 336),
  (123,aP (sO "arity") (sO "Symbols.arity") (bS 11 6) (.none) (.str (sO "clausemill.symbols") 194) (.ref 122)),
  (153,{ cls:=.type "dict",data:=.dict [en P "__module__" 270 (.str (sO "clausemill.symbols") 194),en P "__firstlineno__" 274 (.int 20 273),en P "__init__" 283 (.ref 81),en P "atom" 293 (.ref 88),en P "text" 301 (.ref 95),en P "functor" 313 (.ref 102),en P "func" 322 (.ref 109),en P "name" 330 (.ref 116),en P "arity" 338 (.ref 123),en P "label" 346 (.ref 130),en P "count" 353 (.ref 137),en P "functor_count" 360 (.ref 144),en P "known" 370 (.ref 151),en P "__static_attributes__" 375 (.ref 152),en P "__dict__" 377 (.ref 155),en P "__weakref__" 379 (.ref 156),en P "__doc__" 380 (.none)].toArray 4 }),
  (154,{ cls:=.type "type",data:=.cls { name:=sO "Symbols",bases:=[.type "object"],mro:=[.ref 154,.type "object"],ns:=153,qualname:=sO "Symbols",hasDict:=true,slotNames:=[],subclasses:=[],abstract:=false,collection:=none,hasDel:=false },slots:=#[none,none,some (.str (sO "Symbols") 263),some (.str (sO "Symbols") 271),some (.builtin "object.__new__"),some (.bool true)] }),
  (164,cdO (sO "system_error") (sO "system_error") 385 78 1 159 389),
  (165,aP (sO "system_error") (sO "system_error") (dN 13) (.none) (.str (sO "clausemill.terms") 383) (.ref 164)),
  (171,cdO (sO "formal_of") (sO "formal_of") 392 80 3 166 400),
  (172,aP (sO "formal_of") (sO "formal_of") (dN 14) (.none) (.str (sO "clausemill.terms") 383) (.ref 171)),
  (178,cdO (sO "type_error") (sO "type_error") 403 85 3 173 409),
  (179,aP (sO "type_error") (sO "type_error") (dN 15) (.none) (.str (sO "clausemill.terms") 383) (.ref 178)),
  (187,{ cls:=.type "tuple",data:=.seq #[.int 5 432,.int 0 436] 0 }),
  (195,{ cls:=.type "tuple",data:=.seq #[.int 100000 454] 0 }),
  (201,cdO (sO "__init__") (sO "Cells.__init__") 455 102 3 196 461),
  (202,aP (sO "__init__") (sO "Cells.__init__") (bS 28 0) (.ref 195) (.str (sO "clausemill.store") 420) (.ref 201)),
  (208,cdO (sO "push") (sO "Cells.push") 464 111 2 203 470),
  (209,aP (sO "push") (sO "Cells.push") (bS 28 1) (.none) (.str (sO "clausemill.store") 420) (.ref 208)),
  (215,cdO (sO "new_var") (sO "Cells.new_var") 473 118 1 210 478),
  (216,aP (sO "new_var") (sO "Cells.new_var") (bS 28 2) (.none) (.str (sO "clausemill.store") 420) (.ref 215)),
  (222,cdO (sO "reserve") (sO "Cells.reserve") 481 123 2 217 488),
  (223,aP (sO "reserve") (sO "Cells.reserve") (bS 28 3) (.none) (.str (sO "clausemill.store") 420) (.ref 222)),
  (236,cdO (sO "deref") (sO "Cells.deref") 499 134 2 231 506),
  (237,aP (sO "deref") (sO "Cells.deref") (bS 28 5) (.none) (.str (sO "clausemill.store") 420) (.ref 236)),
  (250,cdO (sO "bind") (sO "Cells.bind") 517 150 3 245 524),
  (251,aP (sO "bind") (sO "Cells.bind") (bS 28 7) (.none) (.str (sO "clausemill.store") 420) (.ref 250)),
  (257,cdO (sO "bind_pair") (sO "Cells.bind_pair") 527 161 3 252 533),
  (258,aP (sO "bind_pair") (sO "Cells.bind_pair") (bS 28 8) (.none) (.str (sO "clausemill.store") 420) (.ref 257)),
  (264,cdO (sO "globalise") (sO "Cells.globalise") 536 174 2 259 542),
  (265,aP (sO "globalise") (sO "Cells.globalise") (bS 28 9) (.none) (.str (sO "clausemill.store") 420) (.ref 264)),
  (292,cdO (sO "is_compound") (sO "Cells.is_compound") 569 191 2 287 574),
  (293,aP (sO "is_compound") (sO "Cells.is_compound") (bS 28 13) (.none) (.str (sO "clausemill.store") 420) (.ref 292)),
  (299,cdO (sO "functor_of") (sO "Cells.functor_of") 577 194 2 294 583),
  (300,aP (sO "functor_of") (sO "Cells.functor_of") (bS 28 14) (.none) (.str (sO "clausemill.store") 420) (.ref 299)),
  (306,cdO (sO "width") (sO "Cells.width") 586 204 2 301 592),
  (307,aP (sO "width") (sO "Cells.width") (bS 28 15) (.none) (.str (sO "clausemill.store") 420) (.ref 306)),
  (313,cdO (sO "base") (sO "Cells.base") 595 212 2 308 600),
  (314,aP (sO "base") (sO "Cells.base") (bS 28 16) (.none) (.str (sO "clausemill.store") 420) (.ref 313)),
  (320,cdO (sO "arg") (sO "Cells.arg") 603 217 3 315 609),
  (321,aP (sO "arg") (sO "Cells.arg") (bS 28 17) (.none) (.str (sO "clausemill.store") 420) (.ref 320)),
  (327,cdO (sO "new_block") (sO "Cells.new_block") 612 220 2 322 618),
  (328,aP (sO "new_block") (sO "Cells.new_block") (bS 28 18) (.none) (.str (sO "clausemill.store") 420) (.ref 327)),
  (330,{ cls:=.type "dict",data:=.dict [en P "__module__" 449 (.str (sO "clausemill.store") 420),en P "__firstlineno__" 453 (.int 100 452),en P "__init__" 463 (.ref 202),en P "push" 472 (.ref 209),en P "new_var" 480 (.ref 216),en P "reserve" 490 (.ref 223),en P "trim" 498 (.ref 230),en P "deref" 508 (.ref 237),en P "is_unbound" 516 (.ref 244),en P "bind" 526 (.ref 251),en P "bind_pair" 535 (.ref 258),en P "globalise" 544 (.ref 265),en P "mark" 551 (.ref 272),en P "undo_to" 559 (.ref 279),en P "stack_put" 568 (.ref 286),en P "is_compound" 576 (.ref 293),en P "functor_of" 585 (.ref 300),en P "width" 594 (.ref 307),en P "base" 602 (.ref 314),en P "arg" 611 (.ref 321),en P "new_block" 620 (.ref 328),en P "__static_attributes__" 628 (.ref 329),en P "__dict__" 630 (.ref 332),en P "__weakref__" 632 (.ref 333),en P "__doc__" 633 (.none)].toArray 4 }),
  (331,{ cls:=.type "type",data:=.cls { name:=sO "Cells",bases:=[.type "object"],mro:=[.ref 331,.type "object"],ns:=330,qualname:=sO "Cells",hasDict:=true,slotNames:=[],subclasses:=[.ref 381],abstract:=false,collection:=none,hasDel:=false },slots:=#[none,none,some (.str (sO "Cells") 442),some (.str (sO "Cells") 450),some (.builtin "object.__new__"),some (.bool true)] }),
  (350,{ cls:=.type "tuple",data:=.seq #[.none] 0 }),
  (356,cdO (sO "build_list") (sO "Store.build_list") 657 231 3 351 669),
  (357,aP (sO "build_list") (sO "Store.build_list") (bS 29 1) (.ref 350) (.str (sO "clausemill.store") 420) (.ref 356)),
  (370,cdO (sO "put_term") (sO "Store.put_term") 680 253 3 365 695),
  (371,aP (sO "put_term") (sO "Store.put_term") (bS 29 3) (.none) (.str (sO "clausemill.store") 420) (.ref 370)),
  (377,cdO (sO "take_term") (sO "Store.take_term") 698 290 3 372 714),
  (378,aP (sO "take_term") (sO "Store.take_term") (bS 29 4) (.none) (.str (sO "clausemill.store") 420) (.ref 377)),
  (380,{ cls:=.type "dict",data:=.dict [en P "__module__" 643 (.str (sO "clausemill.store") 420),en P "__firstlineno__" 647 (.int 226 646),en P "new_struct" 656 (.ref 349),en P "build_list" 671 (.ref 357),en P "list_cells" 679 (.ref 364),en P "put_term" 697 (.ref 371),en P "take_term" 716 (.ref 378),en P "__static_attributes__" 717 (.ref 379),en P "__doc__" 718 (.none)].toArray 2 }),
  (381,{ cls:=.type "type",data:=.cls { name:=sO "Store",bases:=[.ref 331],mro:=[.ref 381,.ref 331,.type "object"],ns:=380,qualname:=sO "Store",hasDict:=true,slotNames:=[],subclasses:=[],abstract:=false,collection:=none,hasDel:=false },slots:=#[some (.ref 336),none,some (.str (sO "Store") 636),some (.str (sO "Store") 644),some (.builtin "object.__new__"),some (.bool true)] }),
  (396,cdO (sO "__init__") (sO "PairSet.__init__") 735 329 2 391 740),
  (397,aP (sO "__init__") (sO "PairSet.__init__") (bS 31 0) (.none) (.str (sO "clausemill.unify") 721) (.ref 396)),
  (403,cdO (sO "add") (sO "PairSet.add") 743 333 3 398 750),
  (404,aP (sO "add") (sO "PairSet.add") (bS 31 1) (.none) (.str (sO "clausemill.unify") 721) (.ref 403)),
  (406,{ cls:=.type "dict",data:=.dict [en P "__module__" 730 (.str (sO "clausemill.unify") 721),en P "__firstlineno__" 734 (.int 327 733),en P "__init__" 742 (.ref 397),en P "add" 752 (.ref 404),en P "__static_attributes__" 755 (.ref 405),en P "__dict__" 757 (.ref 408),en P "__weakref__" 759 (.ref 409),en P "__doc__" 760 (.none)].toArray 4 }),
  (407,{ cls:=.type "type",data:=.cls { name:=sO "PairSet",bases:=[.type "object"],mro:=[.ref 407,.type "object"],ns:=406,qualname:=sO "PairSet",hasDict:=true,slotNames:=[],subclasses:=[],abstract:=false,collection:=none,hasDel:=false },slots:=#[none,none,some (.str (sO "PairSet") 723),some (.str (sO "PairSet") 731),some (.builtin "object.__new__"),some (.bool true)] }),
  (417,cdO (sO "push_arguments") (sO "push_arguments") 763 339 3 412 771),
  (418,aP (sO "push_arguments") (sO "push_arguments") (dN 32) (.none) (.str (sO "clausemill.unify") 721) (.ref 417)),
  (424,cdO (sO "push_pairs") (sO "push_pairs") 774 343 4 419 784),
  (425,aP (sO "push_pairs") (sO "push_pairs") (dN 33) (.none) (.str (sO "clausemill.unify") 721) (.ref 424)),
  (431,cdO (sO "same_shape") (sO "same_shape") 787 348 3 426 793),
  (432,aP (sO "same_shape") (sO "same_shape") (dN 34) (.none) (.str (sO "clausemill.unify") 721) (.ref 431)),
  (438,cdO (sO "is_variable") (sO "is_variable") 796 354 1 433 800),
  (439,aP (sO "is_variable") (sO "is_variable") (dN 35) (.none) (.str (sO "clausemill.unify") 721) (.ref 438)),
  (445,cdO (sO "unify") (sO "unify") 803 356 4 440 814),
  (446,aP (sO "unify") (sO "unify") (dN 36) (.none) (.str (sO "clausemill.unify") 721) (.ref 445)),
  (452,cdO (sO "bind_checked") (sO "bind_checked") 818 380 4 447 825),
  (453,aP (sO "bind_checked") (sO "bind_checked") (dN 38) (.none) (.str (sO "clausemill.unify") 721) (.ref 452)),
  (459,cdO (sO "occurs_in") (sO "occurs_in") 828 385 3 454 836),
  (460,aP (sO "occurs_in") (sO "occurs_in") (dN 39) (.none) (.str (sO "clausemill.unify") 721) (.ref 459)),
  (466,cdO (sO "variables") (sO "variables") 839 401 2 461 848),
  (467,aP (sO "variables") (sO "variables") (dN 40) (.none) (.str (sO "clausemill.unify") 721) (.ref 466)),
  (473,cdO (sO "pred_free_variables") (sO "pred_free_variables") 853 417 1 468 863),
  (474,aP (sO "pred_free_variables") (sO "pred_free_variables") (dN 42) (.none) (.str (sO "clausemill.preds_data") 851) (.ref 473)),
  (480,cdO (sO "is_caret") (sO "is_caret") 866 435 2 475 871),
  (481,aP (sO "is_caret") (sO "is_caret") (dN 43) (.none) (.str (sO "clausemill.preds_data") 851) (.ref 480)),
  (489,{ cls:=.type "tuple",data:=.seq #[.int 100000 892,.bool true,.int 4096 893] 0 }),
  (495,cdO (sO "__init__") (sO "Areas.__init__") 894 442 6 490 903),
  (496,aP (sO "__init__") (sO "Areas.__init__") (bS 47 0) (.ref 489) (.str (sO "clausemill.areas") 874) (.ref 495)),
  (502,cdO (sO "reset") (sO "Areas.reset") 906 450 1 497 910),
  (503,aP (sO "reset") (sO "Areas.reset") (bS 47 1) (.none) (.str (sO "clausemill.areas") 874) (.ref 502)),
  (509,cdO (sO "set_x") (sO "Areas.set_x") 913 465 3 504 919),
  (510,aP (sO "set_x") (sO "Areas.set_x") (bS 47 2) (.none) (.str (sO "clausemill.areas") 874) (.ref 509)),
  (516,cdO (sO "set_arguments") (sO "Areas.set_arguments") 922 470 2 511 929),
  (517,aP (sO "set_arguments") (sO "Areas.set_arguments") (bS 47 3) (.none) (.str (sO "clausemill.areas") 874) (.ref 516)),
  (523,cdO (sO "arg") (sO "Areas.arg") 932 476 2 518 937),
  (524,aP (sO "arg") (sO "Areas.arg") (bS 47 4) (.none) (.str (sO "clausemill.areas") 874) (.ref 523)),
  (530,cdO (sO "unify") (sO "Areas.unify") 940 479 3 525 946),
  (531,aP (sO "unify") (sO "Areas.unify") (bS 47 5) (.none) (.str (sO "clausemill.areas") 874) (.ref 530)),
  (537,cdO (sO "take") (sO "Areas.take") 949 482 2 532 954),
  (538,aP (sO "take") (sO "Areas.take") (bS 47 6) (.none) (.str (sO "clausemill.areas") 874) (.ref 537)),
  (638,{ cls:=.type "dict",data:=.dict [en P "__module__" 887 (.str (sO "clausemill.areas") 874),en P "__firstlineno__" 891 (.int 440 890),en P "__init__" 905 (.ref 496),en P "reset" 912 (.ref 503),en P "set_x" 921 (.ref 510),en P "set_arguments" 931 (.ref 517),en P "arg" 939 (.ref 524),en P "unify" 948 (.ref 531),en P "take" 956 (.ref 538),en P "put" 964 (.ref 545),en P "top" 971 (.ref 552),en P "push_environment" 979 (.ref 559),en P "pop_environment" 986 (.ref 566),en P "in_chain" 994 (.ref 573),en P "set_choice" 1002 (.ref 580),en P "push_choice" 1011 (.ref 587),en P "set_alternative" 1019 (.ref 594),en P "choice_part" 1027 (.ref 601),en P "restore_choice" 1034 (.ref 608),en P "pop_choice" 1041 (.ref 615),en P "cut_back" 1049 (.ref 622),en P "choices" 1056 (.ref 629),en P "environments" 1063 (.ref 636),en P "__static_attributes__" 1082 (.ref 637),en P "__dict__" 1084 (.ref 640),en P "__weakref__" 1086 (.ref 641),en P "__doc__" 1087 (.none)].toArray 4 }),
  (639,{ cls:=.type "type",data:=.cls { name:=sO "Areas",bases:=[.type "object"],mro:=[.ref 639,.type "object"],ns:=638,qualname:=sO "Areas",hasDict:=true,slotNames:=[],subclasses:=[],abstract:=false,collection:=none,hasDel:=false },slots:=#[none,none,some (.str (sO "Areas") 880),some (.str (sO "Areas") 888),some (.builtin "object.__new__"),some (.bool true)] }),
  (649,cdO (sO "_law_pick") (sO "_law_pick") 1092 531 2 644 1099),
  (650,aP (sO "_law_pick") (sO "_law_pick") (dN 49) (.none) (.str (sO "law_no0189_01") 1090) (.ref 649)),
  (656,cdO (sO "_law_end") (sO "_law_end") 1102 542 2 651 1107),
  (657,aP (sO "_law_end") (sO "_law_end") (dN 50) (.none) (.str (sO "law_no0189_01") 1090) (.ref 656)),
  (661,cdP (sO "_law_inside") (sO "_law_inside") 1110 546 3 658 1113),
  (662,aP (sO "_law_inside") (sO "_law_inside") (dN 51) (.none) (.str (sO "law_no0189_01") 1090) (.ref 661)),
  (668,cdO (sO "_law_meet") (sO "_law_meet") 1116 551 3 663 1123),
  (669,aP (sO "_law_meet") (sO "_law_meet") (dN 52) (.none) (.str (sO "law_no0189_01") 1090) (.ref 668)),
  (673,cdP (sO "_law_full") (sO "_law_full") 1126 569 2 670 1129),
  (674,aP (sO "_law_full") (sO "_law_full") (dN 53) (.none) (.str (sO "law_no0189_01") 1090) (.ref 673)),
  (678,cdP (sO "_law_match") (sO "_law_match") 1132 574 4 675 1135),
  (679,aP (sO "_law_match") (sO "_law_match") (dN 54) (.none) (.str (sO "law_no0189_01") 1090) (.ref 678)),
  (683,cdP (sO "_law_error") (sO "_law_error") 1138 587 3 680 1141),
  (684,aP (sO "_law_error") (sO "_law_error") (dN 55) (.none) (.str (sO "law_no0189_01") 1090) (.ref 683)),
  (688,cdP (sO "_law_agrees") (sO "_law_agrees") 1144 593 4 685 1147),
  (689,aP (sO "_law_agrees") (sO "_law_agrees") (dN 56) (.none) (.str (sO "law_no0189_01") 1090) (.ref 688)),
  (693,cdP (sO "_law_tree") (sO "_law_tree") 1150 616 3 690 1153),
  (694,aP (sO "_law_tree") (sO "_law_tree") (dN 57) (.none) (.str (sO "law_no0189_01") 1090) (.ref 693)),
  (700,cdO (sO "_law_row") (sO "_law_row") 1156 626 2 695 1162),
  (701,aP (sO "_law_row") (sO "_law_row") (dN 58) (.none) (.str (sO "law_no0189_01") 1090) (.ref 700)),
  (707,cdO (sO "_law_free") (sO "_law_free") 1165 630 2 702 1171),
  (708,aP (sO "_law_free") (sO "_law_free") (dN 59) (.none) (.str (sO "law_no0189_01") 1090) (.ref 707)),
  (714,cdO (sO "_law_freed") (sO "_law_freed") 1174 637 1 709 1178),
  (715,aP (sO "_law_freed") (sO "_law_freed") (dN 60) (.none) (.str (sO "law_no0189_01") 1090) (.ref 714)),
  (719,cdP (sO "law") (sO "law") 1181 639 1 716 1184),
  (720,aP (sO "law") (sO "law") (dN 61) (.none) (.str (sO "law_no0189_01") 1090) (.ref 719))]
noncomputable def KA:List Addr:=[2,3,30,31,47,48,50,51,59,60,66,67,80,81,87,88,101,102,108,109,122,123,153,154,164,165,171,172,178,179,187,195,201,202,208,209,215,216,222,223,236,237,250,251,257,258,264,265,292,293,299,300,306,307,313,314,320,321,327,328,330,331,350,356,357,370,371,377,378,380,381,396,397,403,404,406,407,417,418,424,425,431,432,438,439,445,446,452,453,459,460,466,467,473,474,480,481,489,495,496,502,503,509,510,516,517,523,524,530,531,537,538,638,639,649,650,656,657,661,662,668,669,673,674,678,679,683,684,688,689,693,694,700,701,707,708,714,715,719,720]
abbrev Tx:Type:=Fin 39
namespace Tx
noncomputable def t_a:Tx:=(⟨0,by decide⟩:Fin 39)
noncomputable def pJ:Tx:=(⟨1,by decide⟩:Fin 39)
noncomputable def AN:Tx:=(⟨2,by decide⟩:Fin 39)
noncomputable def mO:Tx:=(⟨3,by decide⟩:Fin 39)
noncomputable def fO:Tx:=(⟨4,by decide⟩:Fin 39)
noncomputable def pK:Tx:=(⟨5,by decide⟩:Fin 39)
noncomputable def pL:Tx:=(⟨6,by decide⟩:Fin 39)
noncomputable def pM:Tx:=(⟨7,by decide⟩:Fin 39)
noncomputable def yh:Tx:=(⟨8,by decide⟩:Fin 39)
noncomputable def yi:Tx:=(⟨9,by decide⟩:Fin 39)
noncomputable def yj:Tx:=(⟨10,by decide⟩:Fin 39)
noncomputable def uG:Tx:=(⟨11,by decide⟩:Fin 39)
noncomputable def iQ:Tx:=(⟨12,by decide⟩:Fin 39)
noncomputable def Ca:Tx:=(⟨13,by decide⟩:Fin 39)
noncomputable def dO:Tx:=(⟨14,by decide⟩:Fin 39)
noncomputable def t_f:Tx:=(⟨15,by decide⟩:Fin 39)
noncomputable def sR:Tx:=(⟨16,by decide⟩:Fin 39)
noncomputable def pN:Tx:=(⟨17,by decide⟩:Fin 39)
noncomputable def iz:Tx:=(⟨18,by decide⟩:Fin 39)
noncomputable def t_i:Tx:=(⟨19,by decide⟩:Fin 39)
noncomputable def Dh:Tx:=(⟨20,by decide⟩:Fin 39)
noncomputable def lF:Tx:=(⟨21,by decide⟩:Fin 39)
noncomputable def pO:Tx:=(⟨22,by decide⟩:Fin 39)
noncomputable def n9:Tx:=(⟨23,by decide⟩:Fin 39)
noncomputable def yk:Tx:=(⟨24,by decide⟩:Fin 39)
noncomputable def sV:Tx:=(⟨25,by decide⟩:Fin 39)
noncomputable def pP:Tx:=(⟨26,by decide⟩:Fin 39)
noncomputable def yl:Tx:=(⟨27,by decide⟩:Fin 39)
noncomputable def t_s:Tx:=(⟨28,by decide⟩:Fin 39)
noncomputable def sX:Tx:=(⟨29,by decide⟩:Fin 39)
noncomputable def pQ:Tx:=(⟨30,by decide⟩:Fin 39)
noncomputable def ym:Tx:=(⟨31,by decide⟩:Fin 39)
noncomputable def qZ:Tx:=(⟨32,by decide⟩:Fin 39)
noncomputable def ak:Tx:=(⟨33,by decide⟩:Fin 39)
noncomputable def pR:Tx:=(⟨34,by decide⟩:Fin 39)
noncomputable def sY:Tx:=(⟨35,by decide⟩:Fin 39)
noncomputable def aL:Tx:=(⟨36,by decide⟩:Fin 39)
noncomputable def t_v:Tx:=(⟨37,by decide⟩:Fin 39)
noncomputable def yn:Tx:=(⟨38,by decide⟩:Fin 39)
end Tx
abbrev Nm:Type:=Fin 59
namespace Nm
noncomputable def kL:Nm:=(⟨0,by decide⟩:Fin 59)
noncomputable def aT:Nm:=(⟨1,by decide⟩:Fin 59)
noncomputable def kM:Nm:=(⟨2,by decide⟩:Fin 59)
noncomputable def lA:Nm:=(⟨3,by decide⟩:Fin 59)
noncomputable def gV:Nm:=(⟨4,by decide⟩:Fin 59)
noncomputable def cF:Nm:=(⟨5,by decide⟩:Fin 59)
noncomputable def n_b:Nm:=(⟨6,by decide⟩:Fin 59)
noncomputable def C0:Nm:=(⟨7,by decide⟩:Fin 59)
noncomputable def xA:Nm:=(⟨8,by decide⟩:Fin 59)
noncomputable def ck:Nm:=(⟨9,by decide⟩:Fin 59)
noncomputable def gW:Nm:=(⟨10,by decide⟩:Fin 59)
noncomputable def zO:Nm:=(⟨11,by decide⟩:Fin 59)
noncomputable def i7:Nm:=(⟨12,by decide⟩:Fin 59)
noncomputable def kN:Nm:=(⟨13,by decide⟩:Fin 59)
noncomputable def gr:Nm:=(⟨14,by decide⟩:Fin 59)
noncomputable def r7:Nm:=(⟨15,by decide⟩:Fin 59)
noncomputable def fU:Nm:=(⟨16,by decide⟩:Fin 59)
noncomputable def C1:Nm:=(⟨17,by decide⟩:Fin 59)
noncomputable def dK:Nm:=(⟨18,by decide⟩:Fin 59)
noncomputable def n_e:Nm:=(⟨19,by decide⟩:Fin 59)
noncomputable def gu:Nm:=(⟨20,by decide⟩:Fin 59)
noncomputable def kb:Nm:=(⟨21,by decide⟩:Fin 59)
noncomputable def bT:Nm:=(⟨22,by decide⟩:Fin 59)
noncomputable def eY:Nm:=(⟨23,by decide⟩:Fin 59)
noncomputable def fw:Nm:=(⟨24,by decide⟩:Fin 59)
noncomputable def iP:Nm:=(⟨25,by decide⟩:Fin 59)
noncomputable def cG:Nm:=(⟨26,by decide⟩:Fin 59)
noncomputable def ug:Nm:=(⟨27,by decide⟩:Fin 59)
noncomputable def zP:Nm:=(⟨28,by decide⟩:Fin 59)
noncomputable def aX:Nm:=(⟨29,by decide⟩:Fin 59)
noncomputable def bj:Nm:=(⟨30,by decide⟩:Fin 59)
noncomputable def i8:Nm:=(⟨31,by decide⟩:Fin 59)
noncomputable def a8:Nm:=(⟨32,by decide⟩:Fin 59)
noncomputable def jG:Nm:=(⟨33,by decide⟩:Fin 59)
noncomputable def xB:Nm:=(⟨34,by decide⟩:Fin 59)
noncomputable def gX:Nm:=(⟨35,by decide⟩:Fin 59)
noncomputable def kc:Nm:=(⟨36,by decide⟩:Fin 59)
noncomputable def gY:Nm:=(⟨37,by decide⟩:Fin 59)
noncomputable def n_p:Nm:=(⟨38,by decide⟩:Fin 59)
noncomputable def gZ:Nm:=(⟨39,by decide⟩:Fin 59)
noncomputable def xC:Nm:=(⟨40,by decide⟩:Fin 59)
noncomputable def dU:Nm:=(⟨41,by decide⟩:Fin 59)
noncomputable def iq:Nm:=(⟨42,by decide⟩:Fin 59)
noncomputable def uh:Nm:=(⟨43,by decide⟩:Fin 59)
noncomputable def ui:Nm:=(⟨44,by decide⟩:Fin 59)
noncomputable def n_s:Nm:=(⟨45,by decide⟩:Fin 59)
noncomputable def gB:Nm:=(⟨46,by decide⟩:Fin 59)
noncomputable def uj:Nm:=(⟨47,by decide⟩:Fin 59)
noncomputable def gv:Nm:=(⟨48,by decide⟩:Fin 59)
noncomputable def gw:Nm:=(⟨49,by decide⟩:Fin 59)
noncomputable def b8:Nm:=(⟨50,by decide⟩:Fin 59)
noncomputable def aW:Nm:=(⟨51,by decide⟩:Fin 59)
noncomputable def xD:Nm:=(⟨52,by decide⟩:Fin 59)
noncomputable def fI:Nm:=(⟨53,by decide⟩:Fin 59)
noncomputable def lB:Nm:=(⟨54,by decide⟩:Fin 59)
noncomputable def jH:Nm:=(⟨55,by decide⟩:Fin 59)
noncomputable def lC:Nm:=(⟨56,by decide⟩:Fin 59)
noncomputable def ir:Nm:=(⟨57,by decide⟩:Fin 59)
noncomputable def n_x:Nm:=(⟨58,by decide⟩:Fin 59)
end Nm
abbrev Fn:Type:=Fin 60
namespace Fn
noncomputable def jT:Fn:=(⟨0,by decide⟩:Fin 60)
noncomputable def qD:Fn:=(⟨1,by decide⟩:Fin 60)
noncomputable def ml:Fn:=(⟨2,by decide⟩:Fin 60)
noncomputable def jg:Fn:=(⟨3,by decide⟩:Fin 60)
noncomputable def gc:Fn:=(⟨4,by decide⟩:Fin 60)
noncomputable def gA:Fn:=(⟨5,by decide⟩:Fin 60)
noncomputable def gf:Fn:=(⟨6,by decide⟩:Fin 60)
noncomputable def iJ:Fn:=(⟨7,by decide⟩:Fin 60)
noncomputable def jQ:Fn:=(⟨8,by decide⟩:Fin 60)
noncomputable def nD:Fn:=(⟨9,by decide⟩:Fin 60)
noncomputable def mP:Fn:=(⟨10,by decide⟩:Fin 60)
noncomputable def fk:Fn:=(⟨11,by decide⟩:Fin 60)
noncomputable def lN:Fn:=(⟨12,by decide⟩:Fin 60)
noncomputable def iH:Fn:=(⟨13,by decide⟩:Fin 60)
noncomputable def iI:Fn:=(⟨14,by decide⟩:Fin 60)
noncomputable def kz:Fn:=(⟨15,by decide⟩:Fin 60)
noncomputable def lM:Fn:=(⟨16,by decide⟩:Fin 60)
noncomputable def gz:Fn:=(⟨17,by decide⟩:Fin 60)
noncomputable def eP:Fn:=(⟨18,by decide⟩:Fin 60)
noncomputable def dz:Fn:=(⟨19,by decide⟩:Fin 60)
noncomputable def fP:Fn:=(⟨20,by decide⟩:Fin 60)
noncomputable def kA:Fn:=(⟨21,by decide⟩:Fin 60)
noncomputable def lL:Fn:=(⟨22,by decide⟩:Fin 60)
noncomputable def nk:Fn:=(⟨23,by decide⟩:Fin 60)
noncomputable def cY:Fn:=(⟨24,by decide⟩:Fin 60)
noncomputable def bK:Fn:=(⟨25,by decide⟩:Fin 60)
noncomputable def fm:Fn:=(⟨26,by decide⟩:Fin 60)
noncomputable def eR:Fn:=(⟨27,by decide⟩:Fin 60)
noncomputable def jf:Fn:=(⟨28,by decide⟩:Fin 60)
noncomputable def kB:Fn:=(⟨29,by decide⟩:Fin 60)
noncomputable def fy:Fn:=(⟨30,by decide⟩:Fin 60)
noncomputable def mA:Fn:=(⟨31,by decide⟩:Fin 60)
noncomputable def dZ:Fn:=(⟨32,by decide⟩:Fin 60)
noncomputable def fH:Fn:=(⟨33,by decide⟩:Fin 60)
noncomputable def unify:Fn:=(⟨34,by decide⟩:Fin 60)
noncomputable def eW:Fn:=(⟨35,by decide⟩:Fin 60)
noncomputable def kg:Fn:=(⟨36,by decide⟩:Fin 60)
noncomputable def iA:Fn:=(⟨37,by decide⟩:Fin 60)
noncomputable def bt:Fn:=(⟨38,by decide⟩:Fin 60)
noncomputable def mq:Fn:=(⟨39,by decide⟩:Fin 60)
noncomputable def de:Fn:=(⟨40,by decide⟩:Fin 60)
noncomputable def kq:Fn:=(⟨41,by decide⟩:Fin 60)
noncomputable def ku:Fn:=(⟨42,by decide⟩:Fin 60)
noncomputable def eT:Fn:=(⟨43,by decide⟩:Fin 60)
noncomputable def nj:Fn:=(⟨44,by decide⟩:Fin 60)
noncomputable def kx:Fn:=(⟨45,by decide⟩:Fin 60)
noncomputable def lI:Fn:=(⟨46,by decide⟩:Fin 60)
noncomputable def bg:Fn:=(⟨47,by decide⟩:Fin 60)
noncomputable def jC:Fn:=(⟨48,by decide⟩:Fin 60)
noncomputable def dT:Fn:=(⟨49,by decide⟩:Fin 60)
noncomputable def cf:Fn:=(⟨50,by decide⟩:Fin 60)
noncomputable def cV:Fn:=(⟨51,by decide⟩:Fin 60)
noncomputable def bR:Fn:=(⟨52,by decide⟩:Fin 60)
noncomputable def nK:Fn:=(⟨53,by decide⟩:Fin 60)
noncomputable def dR:Fn:=(⟨54,by decide⟩:Fin 60)
noncomputable def fv:Fn:=(⟨55,by decide⟩:Fin 60)
noncomputable def pe:Fn:=(⟨56,by decide⟩:Fin 60)
noncomputable def gU:Fn:=(⟨57,by decide⟩:Fin 60)
noncomputable def bL:Fn:=(⟨58,by decide⟩:Fin 60)
noncomputable def law:Fn:=(⟨59,by decide⟩:Fin 60)
end Fn
@[simp] theorem Tx.vs:¬(Tx.t_v=Tx.t_s):=by decide
@[simp] theorem Tx.as:¬(Tx.t_a=Tx.t_s):=by decide
@[simp] theorem Tx.is:¬(Tx.t_i=Tx.t_s):=by decide
@[simp] theorem Tx.sv:¬(Tx.t_s=Tx.t_v):=by decide
noncomputable def nth {α:Type} (d:α):List α->Nat->α
  |[],_=>d
  |x::_,0=>x
  |_::r,n+1=>nth d r n
inductive Bi (u:Unit)|len|range|list|tuple|set|isinstance|sum
noncomputable def Bi.ctorIdx (b:Bi u):Nat:=b.casesOn 0 1 2 3 4 5 6
inductive Ty (u:Unit)|str|bool
noncomputable def Ty.ctorIdx (b:Ty u):Nat:=b.casesOn 0 1
inductive Cl (u:Unit)|symbols|store|pairset|areas|perr
noncomputable def Cl.ctorIdx (b:Cl u):Nat:=b.casesOn 0 1 2 3 4
inductive DK (u:Unit)|I|S|P
noncomputable def DK.ctorIdx (b:DK u):Nat:=b.casesOn 0 1 2
set_option genInjectivity true in
inductive V where
  |none|bool (b:Bool)|int (i:Int)|str (t:Tx)|tup (xs:List V)|ref (n:Nat)
  |fn (f:Fn)|cls (c:Cl ())|ty (t:Ty ())|bi (b:Bi ())|rng (a b c:Int)
set_option genInjectivity true in
inductive O where
  |list (xs:List V)|dI (kvs:List (Int×V))|dS (kvs:List (Tx×V))|dP (kvs:List ((Int×Int)×V))|set (xs:List Int)|inst (c:Cl ()) (as:List (Nm×V))|exc (x:V) (p:Bool)
noncomputable def V.ctorIdx (b:V):Nat:=b.casesOn 0 (fun _=>1) (fun _=>2) (fun _=>3) (fun _=>4) (fun _=>5) (fun _=>6) (fun _=>7) (fun _=>8) (fun _=>9) fun _ _ _=>10
noncomputable def O.ctorIdx (b:O):Nat:=b.casesOn (fun _=>0) (fun _=>1) (fun _=>2) (fun _=>3) (fun _=>4) (fun _ _=>5) fun _ _=>6
inductive Bo (u:Unit)|add|sub|mul|fdiv|mod
noncomputable def Bo.ctorIdx (b:Bo u):Nat:=b.casesOn 0 1 2 3 4
inductive Co (u:Unit)|eq|ne|lt|le|gt|ge|is|isin|notin
noncomputable def Co.ctorIdx (b:Co u):Nat:=b.casesOn 0 1 2 3 4 5 6 7 8
set_option genInjectivity false in
inductive ME where
  |none|bool (b:Bool)|int (i:Int)|str (t:Tx)
  |loc (i:Nat)|cell (i:Nat)|glob (v:V)
  |bin (op:Bo ()) (a b:ME)|neg (a:ME)|not (a:ME)|cmp (op:Co ()) (a b:ME)
  |and (a b:ME)|or (a b:ME)|or3 (a b c:ME)|ife (t a b:ME)
  |call (f args:ME)|mcall (o:ME) (m:Nm) (args:ME)|attr (o:ME) (m:Nm)
  |sub (o i:ME)|slFrom (o a:ME)|slTo (o b:ME)|slRev (o:ME)
  |list (args:ME)|tuple (args:ME)|dict0 (k:DK ())
  |comp (it elt:ME)|compIf (it c elt:ME)
  |nil|cons (a r:ME)|bad
set_option genInjectivity false in
inductive MS where
  |nil|cons (s r:MS)
  |expr (e:ME)|asg (i:Nat) (e:ME)|asgC (i:Nat) (e:ME)|asgComp (i:Nat) (e:ME)|asg2 (i j:Nat) (e:ME)
  |setattr (o:ME) (m:Nm) (e:ME)|setitem (o i e:ME)|aug (i:Nat) (op:Bo ()) (e:ME)
  |ite (c:ME) (a b:MS)|while (c:ME) (b:MS)|for (i:Nat) (it:ME) (b:MS)
  |ret (e:ME)|cont|delFrom (o a:ME)|raise (e:ME)|try (b:MS) (i:Nat) (h:MS)
structure Fr where
  locs:List (Option V)
  cells:List (Option V)
abbrev St:=List O
noncomputable def jz (xs:List V) (i:Int):Option V:=if 0<=i then xs[i.toNat]? else none
noncomputable def fits (n:Nat):Bool:=decide (n<1000000)
noncomputable def i0 (i:Int):Bool:=decide (-1000000<=i)&&decide (i<=1000000)
noncomputable def small (i:Int):Bool:=decide (-(2 ^ 62)<=i)&&decide (i<=2 ^ 62)
noncomputable def nh (a b c:Int):Nat:=(if c=1 then b - a else a - b).toNat
noncomputable def fZ (a b c:Int):List V:=(List.range (nh a b c)).map fun (k:Nat)=>V.int (a+c * (k:Int))
noncomputable def cQ (as:List (Nm×V)) (m:Nm):Option V:=match as with
  |[]=>none
  |(k,v)::r=>if k=m then some v else cQ r m
noncomputable def fN (as:List (Nm×V)) (m:Nm) (x:V):List (Nm×V):=match as with
  |[]=>[(m,x)]
  |(k,v)::r=>if k=m then (k,x)::r else (k,v)::fN r m x
noncomputable def aZ {α:Type} [DecidableEq α] (kvs:List (α×V)) (k:α):Option V:=match kvs with
  |[]=>none
  |(j,v)::r=>if j=k then some v else aZ r k
noncomputable def dput {α:Type} [DecidableEq α] (kvs:List (α×V)) (k:α) (x:V):List (α×V):=match kvs with
  |[]=>[(k,x)]
  |(j,v)::r=>if j=k then (j,x)::r else (j,v)::dput r k x
noncomputable def intsOf:List V->Option (List Int)
  |[]=>some []
  |x::r=>match x with
    |.int i=>(intsOf r).map (i::·)
    |_=>none
section
variable {α β γ:Type} {a a':α} {b b':β} {c c':γ}
theorem in3 (h:some (a,b,c)=some (a',b',c')):a=a'/\b=b'/\c=c':=by cases h;exact ⟨rfl,rfl,rfl⟩
theorem in2 (h:some (a,b)=some (a',b')):a=a'/\b=b':=by cases h;exact ⟨rfl,rfl⟩
theorem cg {P:Prop} {a b:Bool} (h:(a&&b)=true) (q:a=true->b=true->P):P:=q (Bool.and_eq_true_iff.mp h).1 (Bool.and_eq_true_iff.mp h).2
theorem no {P:Prop} (h:none=some a):P:=nomatch h
theorem uk {o:Option α} (h:∀ x,o=some x->False):o=none:=by
  cases o with
  |none=>rfl
  |some x=>exact (h x rfl).elim
theorem nof {P:Prop} (h:false=true):P:=nomatch h
theorem sm {o:Option α} (h:o=some a) (h':o=some a'):a=a':=Option.some.inj (h.symm.trans h')
theorem ns {P:Prop} {o:Option α} (h:o=none) (h':o=some a):P:=nomatch h.symm.trans h'
end
noncomputable def bnd {β:Type} (o:Option (V×St)) (f:V->St->Option β):Option β:=match o with
  |some (x,σ)=>f x σ
  |none=>none
noncomputable def bh {α β:Type} (o:Option α) (f:α->Option β):Option β:=match o with
  |some x=>f x
  |none=>none
noncomputable def ja (o:Option V) (σ:St):Option (V×St):=bh o fun x=>some (x,σ)
noncomputable def onB {β:Type} (v:V) (k:Bool->Option β):Option β:=match v with
  |.bool b=>k b
  |_=>none
noncomputable def onI {β:Type} (v:V) (k:Int->Option β):Option β:=match v with
  |.int b=>k b
  |_=>none
noncomputable def onT {β:Type} (v:V) (k:List V->Option β):Option β:=match v with
  |.tup b=>k b
  |_=>none
noncomputable def onR {β:Type} (v:V) (k:Nat->Option β):Option β:=match v with
  |.ref b=>k b
  |_=>none
noncomputable def onL {β:Type} (o:Option O) (k:List V->Option β):Option β:=match o with
  |some (.list xs)=>k xs
  |_=>none
section
variable {β:Type}
noncomputable def onS (v:V) (k:Tx->Option β):Option β:=match v with
  |.str b=>k b
  |_=>none
noncomputable def C4 (v:V) (k:Ty ()->Option β):Option β:=match v with
  |.ty b=>k b
  |_=>none
noncomputable def onN (v:V) (k:Option β):Option β:=match v with
  |.none=>k
  |_=>none
noncomputable def BM (o:Option O) (k:List (Int×V)->Option β):Option β:=match o with
  |some (.dI xs)=>k xs
  |_=>none
noncomputable def onSet (o:Option O) (k:List Int->Option β):Option β:=match o with
  |some (.set xs)=>k xs
  |_=>none
noncomputable def ar0 (l:List V) (k:Option β):Option β:=match l with
  |[]=>k
  |_::_=>none
noncomputable def arC (l:List V) (k:V->List V->Option β):Option β:=match l with
  |[]=>none
  |x::r=>k x r
noncomputable def ar1 (l:List V) (k:V->Option β):Option β:=arC l fun x r=>ar0 r (k x)
noncomputable def ar2 (l:List V) (k:V->V->Option β):Option β:=arC l fun x r=>ar1 r (k x)
end
noncomputable def gd {β:Type} (c:Bool) (k:Option β):Option β:=cond c k none
noncomputable def sel {β:Type} (c:Bool) (a b:Option β):Option β:=cond c a b
theorem wk {β:Type} {o:Option (V×St)} {f:V->St->Option β} {r:β} (h:bnd o f=some r):∃ x σ,o=some (x,σ)/\f x σ=some r:=by
  cases o with
  |none=>exact no h
  |some p=>exact ⟨p.1,p.2,rfl,h⟩
theorem uZ {α β:Type} {o:Option α} {f:α->Option β} {r:β} (h:bh o f=some r):∃ x,o=some x/\f x=some r:=by
  cases o with
  |none=>exact no h
  |some p=>exact ⟨p,rfl,h⟩
theorem nR {o:Option V} {σ σ':St} {r:V} (h:ja o σ=some (r,σ')):o=some r/\σ=σ':=by
  cases o<;>cases h;exact ⟨rfl,rfl⟩
theorem xI {β:Type} {v:V} {k:Bool->Option β} {r:β} (h:onB v k=some r):∃ b,v=.bool b/\k b=some r:=by
  cases v<;>first | exact ⟨_,rfl,h⟩ | exact no h
theorem xK {β:Type} {v:V} {k:Int->Option β} {r:β} (h:onI v k=some r):∃ b,v=.int b/\k b=some r:=by
  cases v<;>first | exact ⟨_,rfl,h⟩ | exact no h
theorem xO {β:Type} {v:V} {k:List V->Option β} {r:β} (h:onT v k=some r):∃ b,v=.tup b/\k b=some r:=by
  cases v<;>first | exact ⟨_,rfl,h⟩ | exact no h
theorem xN {β:Type} {v:V} {k:Nat->Option β} {r:β} (h:onR v k=some r):∃ b,v=.ref b/\k b=some r:=by
  cases v<;>first | exact ⟨_,rfl,h⟩ | exact no h
theorem xM {β:Type} {o:Option O} {k:List V->Option β} {r:β} (h:onL o k=some r):∃ xs,o=some (.list xs)/\k xs=some r:=by
  cases o with
  |none=>exact no h
  |some o=>cases o<;>first|exact ⟨_,rfl,h⟩|exact no h
theorem tV {β:Type} {c:Bool} {k:Option β} {r:β} (h:gd c k=some r):c=true/\k=some r:=by
  cases c<;>first | exact ⟨rfl,h⟩ | exact no h
section
variable {β:Type} {r:β} {P:Prop}
theorem aK {o:Option (V×St)} {f:V->St->Option β} (h:bnd o f=some r) (k:∀ x σ,o=some (x,σ)->f x σ=some r->P):P:=let ⟨x,σ,a,b⟩:=wk h;k x σ a b
theorem aR {α:Type} {o:Option α} {f:α->Option β} (h:bh o f=some r) (k:∀ x,o=some x->f x=some r->P):P:=let ⟨x,a,b⟩:=uZ h;k x a b
theorem mG {o:Option V} {σ σ':St} {r:V} (h:ja o σ=some (r,σ')) (k:o=some r->σ=σ'->P):P:=k (nR h).1 (nR h).2
theorem uu {v:V} {f:Bool->Option β} (h:onB v f=some r) (k:∀ b,v=.bool b->f b=some r->P):P:=let ⟨x,a,b⟩:=xI h;k x a b
theorem bu {v:V} {f:Int->Option β} (h:onI v f=some r) (k:∀ b,v=.int b->f b=some r->P):P:=let ⟨x,a,b⟩:=xK h;k x a b
theorem g9 {v:V} {f:List V->Option β} (h:onT v f=some r) (k:∀ b,v=.tup b->f b=some r->P):P:=let ⟨x,a,b⟩:=xO h;k x a b
theorem fW {v:V} {f:Nat->Option β} (h:onR v f=some r) (k:∀ b,v=.ref b->f b=some r->P):P:=let ⟨x,a,b⟩:=xN h;k x a b
theorem fV {o:Option O} {f:List V->Option β} (h:onL o f=some r) (k:∀ b,o=some (.list b)->f b=some r->P):P:=let ⟨x,a,b⟩:=xM h;k x a b
theorem cR {c:Bool} {o:Option β} (h:gd c o=some r) (k:c=true->o=some r->P):P:=k (tV h).1 (tV h).2
theorem qN {v:V} {f:Tx->Option β} (h:onS v f=some r) (k:∀ b,v=.str b->f b=some r->P):P:=by
  cases v<;>first | exact k _ rfl h | exact no h
theorem BO {v:V} {f:Ty ()->Option β} (h:C4 v f=some r) (k:∀ b,v=.ty b->f b=some r->P):P:=by
  cases v<;>first | exact k _ rfl h | exact no h
theorem uv {v:V} {f:Option β} (h:onN v f=some r) (k:v=.none->f=some r->P):P:=by
  cases v<;>first | exact k rfl h | exact no h
theorem BN {o:Option O} {f:List (Int×V)->Option β} (h:BM o f=some r) (k:∀ b,o=some (.dI b)->f b=some r->P):P:=by
  cases o with
  |none=>exact no h
  |some o=>cases o<;>first|exact k _ rfl h|exact no h
theorem zS {o:Option O} {f:List Int->Option β} (h:onSet o f=some r) (k:∀ b,o=some (.set b)->f b=some r->P):P:=by
  cases o with
  |none=>exact no h
  |some o=>cases o<;>first|exact k _ rfl h|exact no h
theorem tm {l:List V} {f:Option β} (h:ar0 l f=some r) (k:l=[]->f=some r->P):P:=by
  cases l<;>first | exact k rfl h | exact no h
theorem v7 {l:List V} {f:V->List V->Option β} (h:arC l f=some r) (k:∀ x t,l=x::t->f x t=some r->P):P:=by
  cases l<;>first | exact k _ _ rfl h | exact no h
theorem jk {l:List V} {f:V->Option β} (h:ar1 l f=some r) (k:∀ x,l=[x]->f x=some r->P):P:=v7 h fun x t e h=>tm h fun e' h=>k x (e'.subst (motive:=fun t=>l=x::t) e) h
theorem v5 {l:List V} {f:V->V->Option β} (h:ar2 l f=some r) (k:∀ x y,l=[x,y]->f x y=some r->P):P:=v7 h fun x t e h=>jk h fun y e' h=>k x y (e'.subst (motive:=fun t=>l=x::t) e) h
end
noncomputable def gy (f:V->V->Option Bool):List V->List V->Option Bool
  |[],ys=>some ys.isEmpty
  |x::xs,ys=>match ys with
    |[]=>some false
    |y::ys=>bh (f x y) fun a=>bh (gy f xs ys) fun b=>some (a&&b)
noncomputable def yz (f:List V->List V->Option Bool) (x y:V):Option Bool:=match x with
  |.int a=>onI y fun b=>some (decide (a=b))
  |.str a=>onS y fun b=>some (decide (a=b))
  |.tup xs=>onT y fun ys=>f xs ys
  |_=>none
noncomputable def veq:Nat->V->V->Option Bool
  |0=>yz fun _ _=>none
  |n+1=>yz (gy (veq n))
noncomputable def eq1 (x y:V):Option Bool:=match x with
  |.int a=>onI y fun b=>some (decide (b=a))
  |.bool a=>onB y fun b=>some (decide (b=a))
  |_=>none
noncomputable def qK (x:V):List V->Option Bool
  |[]=>some false
  |y::ys=>bh (eq1 x y) fun a=>bh (qK x ys) fun b=>some (a||b)
noncomputable def itemsOf (it:V) (σ:St):Option (List V):=match it with
  |.tup xs=>some xs
  |.rng a b c=>some (fZ a b c)
  |.ref n=>onL σ[n]? some
  |_=>none
noncomputable def gP (op:Bo ()) (x y:V):Option V:=match op with
  |.add=>match x with
    |.int a=>onI y fun b=>some (.int (a+b))
    |.tup a=>onT y fun b=>gd (fits (a.length+b.length)) (some (.tup (a++b)))
    |_=>none
  |.sub=>onI x fun a=>onI y fun b=>some (.int (a - b))
  |.mul=>onI x fun a=>onI y fun b=>gd (small a&&small b) (some (.int (a * b)))
  |.fdiv=>onI x fun a=>onI y fun b=>gd (decide (0<b)&&decide (b<=1000)) (some (.int (a / b)))
  |.mod=>onI x fun a=>onI y fun b=>gd (decide (0<b)) (some (.int (a % b)))
noncomputable def inO (x:V) (o:O):Option Bool:=match o with
  |.list xs=>qK x xs
  |.dI kvs=>onI x fun i=>some (aZ kvs i).isSome
  |.set xs=>onI x fun i=>some (decide (i∈xs))
  |_=>none
noncomputable def o8 (x c:V) (σ:St):Option Bool:=onR c fun n=>bh σ[n]? fun o=>inO x o
noncomputable def ltI (a b:V) (f:Int->Int->Bool):Option Bool:=onI a fun a=>onI b fun b=>some (f a b)
noncomputable def Br (a b:V) (σ:St):Option Bool:=match a with
  |.ref n=>onR b fun k=>onL σ[n]? fun xs=>onL σ[k]? fun ys=>ar0 ys (some xs.isEmpty)
  |.int a=>onI b fun b=>some (decide (a=b))
  |.str a=>onS b fun b=>some (decide (a=b))
  |.tup xs=>onT b fun ys=>veq 12 (.tup xs) (.tup ys)
  |_=>none
noncomputable def CF (a b:V):Option Bool:=match a with
  |.int a=>onI b fun b=>some (!decide (a=b))
  |.str a=>onS b fun b=>some (!decide (a=b))
  |_=>none
noncomputable def CE (a b:V):Option Bool:=match a with
  |.none=>onN b (some true)
  |.tup _=>onN b (some false)
  |.int _=>onN b (some false)
  |.str _=>onN b (some false)
  |_=>none
noncomputable def gQ (op:Co ()) (a b:V) (σ:St):Option Bool:=match op with
  |.eq=>Br a b σ
  |.ne=>CF a b
  |.lt=>ltI a b fun a b=>decide (a<b)
  |.le=>ltI a b fun a b=>decide (a<=b)
  |.gt=>ltI a b fun a b=>decide (a>b)
  |.ge=>ltI a b fun a b=>decide (a>=b)
  |.is=>CE a b
  |.isin=>o8 a b σ
  |.notin=>(o8 a b σ).map (!·)
noncomputable def DG (o:O) (i:V):Option V:=match o with
  |.list xs=>onI i fun i=>jz xs i
  |.dI kvs=>onI i fun i=>aZ kvs i
  |_=>none
noncomputable def tR (o i:V) (σ:St):Option V:=match o with
  |.tup xs=>onI i fun i=>jz xs i
  |.ref n=>bh σ[n]? fun o=>DG o i
  |_=>none
section
variable {P:Prop} {x y r:V} {σ:St} {b:Bool}
theorem yA {f:List V->List V->Option Bool} (e:yz f x y=some b) (k1:∀ a c,x=.int a->y=.int c->decide (a=c)=b->P) (k2:∀ a c,x=.str a->y=.str c->decide (a=c)=b->P) (k3:∀ xs ys,x=.tup xs->y=.tup ys->f xs ys=some b->P):P:=by
  cases x with
  |int a=>exact bu e fun c ec e=>k1 a c rfl ec (Option.some.inj e)
  |str a=>exact qN e fun c ec e=>k2 a c rfl ec (Option.some.inj e)
  |tup xs=>exact g9 e fun ys ey e=>k3 xs ys rfl ey e
  |_=>exact no e
theorem Cs (e:gP .add x y=some r) (k1:∀ a b,x=.int a->y=.int b->.int (a+b)=r->P) (k2:∀ a b,x=.tup a->y=.tup b->fits (a.length+b.length)=true->.tup (a++b)=r->P):P:=by
  cases x with
  |int a=>exact bu e fun b eb e=>k1 a b rfl eb (Option.some.inj e)
  |tup a=>exact g9 e fun b eb e=>cR e fun hf e=>k2 a b rfl eb hf (Option.some.inj e)
  |_=>exact no e
theorem zo (e:tR x y σ=some r) (k1:∀ xs j,x=.tup xs->y=.int j->jz xs j=some r->P) (k2:∀ n xs j,x=.ref n->y=.int j->σ[n]?=some (.list xs)->jz xs j=some r->P) (k3:∀ n kvs j,x=.ref n->y=.int j->σ[n]?=some (.dI kvs)->aZ kvs j=some r->P):P:=by
  cases x with
  |tup xs=>exact bu e fun j ej e=>k1 xs j rfl ej e
  |ref n=>
    refine aR e fun o ho e=>?_
    cases o with
    |list xs=>exact bu e fun j ej e=>k2 n xs j rfl ej ho e
    |dI kvs=>exact bu e fun j ej e=>k3 n kvs j rfl ej ho e
    |_=>exact no e
  |_=>exact no e
theorem Dw (e:o8 x y σ=some b) (k:∀ n o,y=.ref n->σ[n]?=some o->inO x o=some b->P):P:=fW e fun n en e=>aR e fun o eo e=>k n o en eo e
theorem ub {f:Int->Int->Bool} (e:ltI x y f=some b) (k:∀ a c,x=.int a->y=.int c->f a c=b->P):P:=bu e fun a ea e=>bu e fun c ec e=>k a c ea ec (Option.some.inj e)
theorem Du (e:Br x y σ=some b) (k1:∀ n m xs,x=.ref n->y=.ref m->σ[n]?=some (.list xs)->σ[m]?=some (.list [])->xs.isEmpty=b->P) (k2:∀ a c,x=.int a->y=.int c->decide (a=c)=b->P) (k3:∀ a c,x=.str a->y=.str c->decide (a=c)=b->P)
    (k4:∀ xs ys,x=.tup xs->y=.tup ys->veq 12 (.tup xs) (.tup ys)=some b->P):P:=by
  cases x with
  |ref n=>exact fW e fun m em e=>fV e fun xs h e=>fV e fun ys h2 e=>tm e fun h3 e=>k1 n m xs rfl em h (h3▸h2) (Option.some.inj e)
  |int a=>exact bu e fun c ec e=>k2 a c rfl ec (Option.some.inj e)
  |str a=>exact qN e fun c ec e=>k3 a c rfl ec (Option.some.inj e)
  |tup a=>exact g9 e fun c ec e=>k4 a c rfl ec e
  |_=>exact no e
theorem DA (e:CF x y=some b) (k2:∀ a c,x=.int a->y=.int c->(!decide (a=c))=b->P) (k3:∀ a c,x=.str a->y=.str c->(!decide (a=c))=b->P):P:=by
  cases x with
  |int a=>exact bu e fun c ec e=>k2 a c rfl ec (Option.some.inj e)
  |str a=>exact qN e fun c ec e=>k3 a c rfl ec (Option.some.inj e)
  |_=>exact no e
theorem Dx (e:CE x y=some b) (k1:x=.none->y=.none->true=b->P) (k2:((∃ a,x=.tup a)\/(∃ a,x=.int a)\/∃ a,x=.str a)->y=.none->false=b->P):P:=by
  cases x with
  |none=>exact uv e fun ey e=>k1 rfl ey (Option.some.inj e)
  |tup a=>exact uv e fun ey e=>k2 (.inl ⟨_,rfl⟩) ey (Option.some.inj e)
  |int a=>exact uv e fun ey e=>k2 (.inr (.inl ⟨_,rfl⟩)) ey (Option.some.inj e)
  |str a=>exact uv e fun ey e=>k2 (.inr (.inr ⟨_,rfl⟩)) ey (Option.some.inj e)
  |_=>exact no e
end
theorem rV {P c:Prop} {α:Type} [Decidable c] {x y:Option α} {r:α} (h:(if c then x else y)=some r) (k1:c->x=some r->P) (k2:y=some r->P):P:=by
  by_cases hc:c
  · rw [if_pos hc] at h;exact k1 hc h
  · rw [if_neg hc] at h;exact k2 h
noncomputable def v8 (m:Nm) (o:O):Option V:=match o with
  |.inst _ as=>cQ as m
  |.exc x _=>if m=.ck then some x else none
  |_=>none
noncomputable def rS (o:V) (m:Nm) (σ:St):Option V:=onR o fun n=>bh σ[n]? (v8 m)
theorem A3 {P:Prop} {o r:V} {m:Nm} {σ:St} (e:rS o m σ=some r) (k1:∀ n c as,o=.ref n->σ[n]?=some (.inst c as)->cQ as m=some r->P) (k2:∀ n x p,o=.ref n->σ[n]?=some (.exc x p)->m=.ck->x=r->P):P:=
  fW e fun n en e=>aR e fun ob h e=>by
    cases ob with
    |inst c as=>exact k1 n c as en h e
    |exc x p=>exact rV e (fun q e=>k2 n x p en h q (Option.some.inj e)) no
    |_=>exact no e
noncomputable def CU (o:O):Option Int:=match o with
  |.list xs=>some xs.length
  |.dI kvs=>some kvs.length
  |_=>none
noncomputable def BD (x:V) (σ:St):Option Int:=match x with
  |.tup xs=>some xs.length
  |.ref n=>bh σ[n]? CU
  |_=>none
noncomputable def Bu (x:V) (t:Ty ()):Option Bool:=match x with
  |.str _=>match t with|.str=>some true|_=>none
  |.tup _=>some false
  |.int _=>some false
  |_=>none
noncomputable def jx (hs:Bool) (b:Bi ()) (args:List V) (σ:St):Option (V×St):=match b with
  |.len=>ar1 args fun x=>bh (BD x σ) fun k=>some (.int k,σ)
  |.range=>arC args fun x r=>onI x fun a=>match r with
    |[]=>gd (i0 a) (some (.rng 0 a 1,σ))
    |y::r=>onI y fun b=>ar1 r fun z=>onI z fun c=>gd (i0 a&&i0 b&&decide (c=-1)) (some (.rng a b c,σ))
  |.list=>ar1 args fun x=>onR x fun n=>gd hs (BM σ[n]? fun kvs=>gd (fits kvs.length) (some (.ref σ.length,σ++[.list (kvs.map fun kv=>.int kv.1)])))
  |.tuple=>ar1 args fun x=>onR x fun n=>onL σ[n]? fun xs=>gd (fits xs.length) (some (.tup xs,σ))
  |.set=>ar0 args (some (.ref σ.length,σ++[.set []]))
  |.isinstance=>ar2 args fun x y=>C4 y fun t=>bh (Bu x t) fun b=>some (.bool b,σ)
  |.sum=>ar1 args fun x=>onR x fun n=>gd hs (onL σ[n]? fun xs=>bh (intsOf xs) fun ns=>some (.int ns.sum,σ))
section
variable {P:Prop} {x:V} {σ σ':St} {r:V}
theorem BE {k:Int} (e:BD x σ=some k) (k1:∀ xs:List V,x=.tup xs->(xs.length:Int)=k->P) (k2:∀ n o,x=.ref n->σ[n]?=some o->CU o=some k->P):P:=by
  cases x with
  |tup xs=>exact k1 xs rfl (Option.some.inj e)
  |ref n=>exact aR e fun o ho e=>k2 n o rfl ho e
  |_=>exact no e
theorem Bv {t:Ty ()} {b:Bool} (e:Bu x t=some b) (k1:∀ a,x=.str a->t=.str->true=b->P) (k2:∀ a,x=.tup a->false=b->P) (k3:∀ a,x=.int a->false=b->P):P:=by
  cases x with
  |str a=>cases t with
    |str=>exact k1 a rfl rfl (Option.some.inj e)
    |bool=>exact no e
  |tup a=>exact k2 a rfl (Option.some.inj e)
  |int a=>exact k3 a rfl (Option.some.inj e)
  |_=>exact no e
theorem De {hs:Bool} {l:List V} (e:jx hs .range l σ=some (r,σ')) (k1:∀ a,l=[.int a]->i0 a=true->some (V.rng 0 a 1,σ)=some (r,σ')->P) (k2:∀ a b,l=[.int a,.int b,.int (-1)]->i0 a=true->i0 b=true->some (V.rng a b (-1),σ)=some (r,σ')->P):P:=
  v7 e fun x t el e=>bu e fun a ea e=>by
    cases t with
    |nil=>exact cR e fun hf e=>k1 a (ea▸el) hf e
    |cons y t=>
      refine bu e fun b eb e=>jk e fun z ez e=>bu e fun c ec e=>cR e fun hf e=>cg hf fun hf hc=>cg hf fun f1 f2=>?_
      obtain rfl:=of_decide_eq_true hc
      exact k2 a b (by rw [el,ea,eb,ez,ec]) f1 f2 e
end
noncomputable def CZ:Cl ()->List (Nm×Fn)
  |.symbols=>[(.gV,.gc),(.kb,.gA),(.gu,.gf),(.lA,.iJ)]
  |.store=>[(.xC,.lN),(.kc,.iH),(.iq,.iI),(.dK,.kz),(.i7,.lM),(.kN,.gz),(.cG,.eP),(.bj,.dz),(.eY,.fP),(.ir,.kA),(.gW,.lL),(.kM,.nk),(.gX,.cY),(.gr,.bK),(.dU,.fm),(.fI,.eR)]
  |.pairset=>[(.kL,.kB)]
  |.areas=>[(.uh,.kq),(.uj,.ku),(.gB,.eT),(.kM,.nj),(.lC,.kx),(.xD,.lI)]
  |.perr=>[]
noncomputable def cS (c:Cl ()) (m:Nm):Option Fn:=(CZ c).lookup m
noncomputable def gS:Cl ()->Fn
  |.symbols=>.jg
  |.store=>.fk
  |.pairset=>.jf
  |.areas=>.de
  |.perr=>.jT
set_option genInjectivity true in
inductive Me|fn (f:Fn)|append|pop|get|add
noncomputable def Me.ctorIdx (b:Me):Nat:=b.casesOn (fun _=>0) 1 2 3 4
noncomputable def xu (o:O) (m:Nm):Option Me:=match o with
  |.inst c _=>(cS c m).map .fn
  |.list _=>if m=.aT then some .append else if m=.gZ then some .pop else none
  |.dI _|.dS _|.dP _=>if m=.iP then some .get else none
  |.set _=>if m=.kL then some .add else none
  |.exc _ _=>none
noncomputable def on2 {β:Type} (v:V) (k:V->V->Option β):Option β:=onT v fun xs=>ar2 xs k
theorem mw {β:Type} {v:V} {k:V->V->Option β} {r:β} (h:on2 v k=some r):∃ x y,v=.tup [x,y]/\k x y=some r:=
  g9 h fun xs e h=>v5 h fun x y e2 h=>⟨x,y,e2▸e,h⟩
noncomputable def CI (o:O) (x:V):Option (Option V):=match o with
  |.dI kvs=>onI x fun k=>some (aZ kvs k)
  |.dS kvs=>onS x fun k=>some (aZ kvs k)
  |.dP kvs=>on2 x fun a b=>onI a fun a=>onI b fun b=>some (aZ kvs (a,b))
  |_=>none
noncomputable def gE (k:Me) (n:Nat) (args:List V) (σ:St):Option (V×St):=match k with
  |.append=>ar1 args fun x=>onL σ[n]? fun xs=>gd (fits xs.length) (some (.none,σ.set n (.list (xs++[x]))))
  |.pop=>ar0 args (onL σ[n]? fun xs=>bh xs.getLast? fun y=>some (y,σ.set n (.list xs.dropLast)))
  |.get=>ar2 args fun x d=>bh σ[n]? fun o=>bh (CI o x) fun r=>some (r.getD d,σ)
  |.add=>ar1 args fun x=>onI x fun i=>onSet σ[n]? fun xs=>gd (decide (xs.length<4000)) (some (.none,σ.set n (.set (if i∈xs then xs else xs++[i]))))
  |.fn _=>none
noncomputable def DB (o:O) (i x:V):Option O:=match o with
  |.list xs=>onI i fun i=>gd (decide (0<=i)&&decide (i.toNat<xs.length)) (some (.list (xs.set i.toNat x)))
  |.dI kvs=>onI i fun k=>gd (fits kvs.length) (some (.dI (dput kvs k x)))
  |.dS kvs=>onS i fun k=>gd (fits kvs.length) (some (.dS (dput kvs k x)))
  |.dP kvs=>on2 i fun a b=>onI a fun a=>onI b fun b=>gd (fits kvs.length) (some (.dP (dput kvs (a,b) x)))
  |_=>none
noncomputable def setItem (o i x:V) (σ:St):Option St:=onR o fun n=>bh σ[n]? fun ob=>bh (DB ob i x) fun ob'=>some (σ.set n ob')
noncomputable def DF (n:Nat) (m:Nm) (x:V) (σ:St) (o:O):Option St:=match o with
  |.inst c as=>gd ((cS c m).isNone&&decide (as.length<40)) (some (σ.set n (.inst c (fN as m x))))
  |_=>none
noncomputable def setAttr (o:V) (m:Nm) (x:V) (σ:St):Option St:=onR o fun n=>bh σ[n]? (DF n m x σ)
theorem BW {P:Prop} {o x:V} {m:Nm} {σ σ':St} (e:setAttr o m x σ=some σ') (k:∀ n c as,o=.ref n->σ[n]?=some (.inst c as)->cS c m=none->as.length<40->σ.set n (.inst c (fN as m x))=σ'->P):P:=
  fW e fun n en e=>aR e fun ob h e=>by
    cases ob with
    |inst c as=>exact cR e fun q e=>cg q fun q1 q2=>k n c as en h (Option.isNone_iff_eq_none.mp q1) (of_decide_eq_true q2) (Option.some.inj e)
    |_=>exact no e
abbrev aD:=Fn->List V->St->Option (Except V V×St)
noncomputable def oN {β:Type} (o:Option (Except V V×St)) (f g:V->St->Option β):Option β:=match o with
  |some (.ok v,σ)=>f v σ
  |some (.error x,σ)=>g x σ
  |none=>none
theorem nv {β:Type} {o:Option (Except V V×St)} {f g:V->St->Option β} {r:β} (h:oN o f g=some r):(∃ v σ,o=some (.ok v,σ)/\f v σ=some r)\/∃ v σ,o=some (.error v,σ)/\g v σ=some r:=by
  cases o with
  |none=>exact no h
  |some p=>
    obtain ⟨r,σ⟩:=p
    cases r with
    |ok v=>exact .inl ⟨v,σ,rfl,h⟩
    |error v=>exact .inr ⟨v,σ,rfl,h⟩
noncomputable def pq (r:Option (Except V V×St)):Option (V×St):=oN r (fun v σ=>some (v,σ)) fun _ _=>none
theorem iu {r:Option (Except V V×St)} {v:V} {σ:St} (h:pq r=some (v,σ)):r=some (.ok v,σ):=by
  rcases nv h with ⟨_,_,e,h⟩ | ⟨_,_,_,h⟩
  · obtain ⟨rfl,rfl⟩:=in2 h;exact e
  · exact no h
noncomputable def jB:V->Bool
  |.none=>true
  |_=>false
noncomputable def pa:Cl ()->Bool
  |.perr=>true
  |_=>false
noncomputable def jt (C:aD) (hs:Bool) (f:V) (args:List V) (σ:St):Option (Except V V×St):=match f with
  |.fn f=>C f args σ
  |.bi b=>bnd (jx hs b args σ) fun v σ=>some (.ok v,σ)
  |.cls c=>sel (pa c) (ar1 args fun x=>some (.ok (.ref σ.length),σ++[.exc x true])) (bnd (pq (C (gS c) (.ref σ.length::args) (σ++[.inst c []]))) fun v σ'=>gd (jB v) (some (.ok (.ref σ.length),σ')))
  |_=>none
theorem tE {P:Prop} {C:aD} {hs:Bool} {v:V} {args:List V} {σ σ':St} {res:Except V V} (e:jt C hs v args σ=some (res,σ')) (k1:∀ f,v=.fn f->C f args σ=some (res,σ')->P) (k2:∀ b r,v=.bi b->jx hs b args σ=some (r,σ')->.ok r=res->P)
    (k3:∀ x,v=.cls .perr->args=[x]->.ok (.ref σ.length)=res->σ++[.exc x true]=σ'->P) (k4:∀ c v0,v=.cls c->pa c=false->pq (C (gS c) (.ref σ.length::args) (σ++[.inst c []]))=some (v0,σ')->jB v0=true->.ok (.ref σ.length)=res->P):P:=by
  cases v with
  |fn f=>exact k1 f rfl e
  |bi b=>exact aK e fun r s1 e1 e=>k2 b r rfl ((in2 e).2▸e1) (in2 e).1
  |cls c=>
    have old:∀ c,pa c=false->bnd (pq (C (gS c) (.ref σ.length::args) (σ++[.inst c []]))) (fun v σ'=>gd (jB v) (some (.ok (.ref σ.length),σ')))=some (res,σ')->(∀ v0,pq (C (gS c) (.ref σ.length::args) (σ++[.inst c []]))=some (v0,σ')->jB v0=true->.ok (.ref σ.length)=res->P)->P:=fun c hc e k=>
      aK e fun v0 s1 e1 e=>cR e fun q e=>k v0 ((in2 e).2▸e1) q (in2 e).1
    cases c with
    |perr=>exact jk e fun x ea e=>k3 x rfl ea (in2 e).1 (in2 e).2
    |_=>exact old _ rfl e fun v0=>k4 _ v0 rfl rfl
  |_=>exact no e
noncomputable def cj (body:V->St->Option (Option V×St)) (it:V) (d:Nat):List V->Nat->St->Option St
  |[],i,σ=>bh (itemsOf it σ) fun xs=>gd (decide (xs.length<=i)) (some σ)
  |_::r,i,σ=>bh (itemsOf it σ) fun xs=>bh xs[i]? fun x=>bh (body x σ) fun yσ=>match yσ.1 with
    |some y=>bnd (gE .append d [y] yσ.2) fun _ σ=>cj body it d r (i+1) σ
    |none=>cj body it d r (i+1) yσ.2
noncomputable def ev (C:aD) (hs:Bool):ME->Fr->St->Option (V×St)
  |.none,_,σ=>some (.none,σ)
  |.bool b,_,σ=>some (.bool b,σ)
  |.int i,_,σ=>some (.int i,σ)
  |.str t,_,σ=>some (.str t,σ)
  |.loc i,fr,σ=>ja (fr.locs[i]?.join) σ
  |.cell i,fr,σ=>ja (fr.cells[i]?.join) σ
  |.glob v,_,σ=>some (v,σ)
  |.bin op a b,fr,σ=>bnd (ev C hs a fr σ) fun x σ=>bnd (ev C hs b fr σ) fun y σ=>ja (gP op x y) σ
  |.neg a,fr,σ=>bnd (ev C hs a fr σ) fun x σ=>onI x fun i=>some (.int (-i),σ)
  |.not a,fr,σ=>bnd (ev C hs a fr σ) fun x σ=>onB x fun b=>some (.bool (!b),σ)
  |.cmp op a b,fr,σ=>bnd (ev C hs a fr σ) fun x σ=>bnd (ev C hs b fr σ) fun y σ=>bh (gQ op x y σ) fun r=>some (.bool r,σ)
  |.and a b,fr,σ=>bnd (ev C hs a fr σ) fun x σ=>onB x fun t=>sel t (ev C hs b fr σ) (some (.bool false,σ))
  |.or a b,fr,σ=>bnd (ev C hs a fr σ) fun x σ=>onB x fun t=>sel t (some (.bool true,σ)) (ev C hs b fr σ)
  |.or3 a b c,fr,σ=>bnd (ev C hs a fr σ) fun x σ=>onB x fun t=>sel t (some (.bool true,σ)) (bnd (ev C hs b fr σ) fun y σ=>onB y fun u=>sel u (some (.bool true,σ)) (ev C hs c fr σ))
  |.ife t a b,fr,σ=>bnd (ev C hs t fr σ) fun x σ=>onB x fun t=>sel t (ev C hs a fr σ) (ev C hs b fr σ)
  |.call f args,fr,σ=>bnd (ev C hs f fr σ) fun g σ=>bnd (ev C hs args fr σ) fun y σ=>onT y fun xs=>pq (jt C hs g xs σ)
  |.mcall o m args,fr,σ=>bnd (ev C hs o fr σ) fun x σ=>onR x fun n=>bh σ[n]? fun ob=>bh (xu ob m) fun k=>bnd (ev C hs args fr σ) fun y σ=>onT y fun xs=>match k with
    |.fn f=>pq (C f (.ref n::xs) σ)
    |k=>gE k n xs σ
  |.attr o m,fr,σ=>bnd (ev C hs o fr σ) fun x σ=>ja (rS x m σ) σ
  |.sub o i,fr,σ=>bnd (ev C hs o fr σ) fun x σ=>bnd (ev C hs i fr σ) fun y σ=>ja (tR x y σ) σ
  |.slFrom o a,fr,σ=>bnd (ev C hs o fr σ) fun x σ=>onR x fun n=>bnd (ev C hs a fr σ) fun y σ=>onI y fun i=>onL σ[n]? fun xs=>
    gd (decide (0<=i)&&(small i&&fits xs.length)) (some (.ref σ.length,σ++[.list (xs.drop i.toNat)]))
  |.slTo o b,fr,σ=>bnd (ev C hs o fr σ) fun x σ=>bnd (ev C hs b fr σ) fun y σ=>onI y fun i=>match x with
    |.ref n=>onL σ[n]? fun xs=>gd (decide (0<=i)&&(small i&&fits xs.length)) (some (.ref σ.length,σ++[.list (xs.take i.toNat)]))
    |.tup xs=>gd (decide (i=-1)&&decide (0<xs.length)) (some (.tup xs.dropLast,σ))
    |_=>none
  |.slRev o,fr,σ=>bnd (ev C hs o fr σ) fun x σ=>onR x fun n=>onL σ[n]? fun xs=>gd (fits xs.length) (some (.ref σ.length,σ++[.list xs.reverse]))
  |.list args,fr,σ=>bnd (ev C hs args fr σ) fun x σ=>onT x fun xs=>gd (fits xs.length) (some (.ref σ.length,σ++[.list xs]))
  |.tuple args,fr,σ=>bnd (ev C hs args fr σ) fun x σ=>onT x fun xs=>gd (fits xs.length) (some (.tup xs,σ))
  |.dict0 k,_,σ=>some (.ref σ.length,σ++[match k with|.I=>.dI []|.S=>.dS []|.P=>.dP []])
  |.comp it elt,fr,σ=>bnd (ev C hs it fr σ) fun x σ=>bh (itemsOf x σ) fun xs=>
    bh (cj (fun v σ=>bnd (ev C hs elt ⟨[some v],fr.cells⟩ σ) fun y σ=>some (some y,σ)) x σ.length xs 0 (σ++[.list []])) fun σ'=>some (.ref σ.length,σ')
  |.compIf it c elt,fr,σ=>bnd (ev C hs it fr σ) fun x σ=>bh (itemsOf x σ) fun xs=>
    bh (cj (fun v σ=>bnd (ev C hs c ⟨[some v],fr.cells⟩ σ) fun t σ=>onB t fun t=>sel t (bnd (ev C hs elt ⟨[some v],fr.cells⟩ σ) fun y σ=>some (some y,σ)) (some (none,σ))) x σ.length xs 0 (σ++[.list []])) fun σ'=>some (.ref σ.length,σ')
  |.nil,_,σ=>some (.tup [],σ)
  |.cons a r,fr,σ=>bnd (ev C hs a fr σ) fun x σ=>bnd (ev C hs r fr σ) fun y σ=>onT y fun xs=>some (.tup (x::xs),σ)
  |.bad,_,_=>none
inductive Fl|nxt|cnt|ret (v:V)|err (v:V)
noncomputable def evX (C:aD) (hs:Bool) (e:ME) (fr:Fr) (σ:St):Option (Except V V×St):=match e with
  |.call f args=>bnd (ev C hs f fr σ) fun g σ=>bnd (ev C hs args fr σ) fun y σ=>onT y fun xs=>jt C hs g xs σ
  |e=>bnd (ev C hs e fr σ) fun r σ=>some (.ok r,σ)
abbrev fR:=Option (Fl×Fr×St)
noncomputable def cz (c:Fr->St->Option (V×St)) (b:Fr->St->fR):Nat->Fr->St->fR
  |0,_,_=>none
  |n+1,fr,σ=>bnd (c fr σ) fun x σ=>onB x fun t=>sel t (bh (b fr σ) fun r=>match r.1 with
    |.nxt=>cz c b n r.2.1 r.2.2
    |.cnt=>cz c b n r.2.1 r.2.2
    |.ret v=>some (.ret v,r.2)
    |.err _=>none) (some (.nxt,fr,σ))
noncomputable def ft (b:V->Fr->St->fR) (it:V):List V->Nat->Fr->St->fR
  |[],i,fr,σ=>bh (itemsOf it σ) fun xs=>gd (decide (xs.length<=i)) (some (.nxt,fr,σ))
  |_::r,i,fr,σ=>bh (itemsOf it σ) fun xs=>bh xs[i]? fun x=>bh (b x fr σ) fun q=>match q.1 with
    |.nxt=>ft b it r (i+1) q.2.1 q.2.2
    |.cnt=>ft b it r (i+1) q.2.1 q.2.2
    |.ret v=>some (.ret v,q.2)
    |.err _=>none
noncomputable def Fr.put (fr:Fr) (i:Nat) (v:V):Fr:=⟨fr.locs.set i (some v),fr.cells⟩
noncomputable def Fr.sd (fr:Fr) (i:Nat) (v:V):Fr:=⟨fr.locs,fr.cells.set i (some v)⟩
noncomputable def onE {β:Type} (o:Option O) (k:V->Option β):Option β:=match o with
  |some (.exc x b)=>gd b (k x)
  |_=>none
theorem xJ {β:Type} {o:Option O} {k:V->Option β} {r:β} (h:onE o k=some r):∃ x,o=some (.exc x true)/\k x=some r:=by
  cases o with
  |none=>exact no h
  |some o=>cases o with
    |exc x b=>exact cR h fun q h=>⟨x,by rw [q],h⟩
    |_=>exact no h
noncomputable def AH {β:Type} (fl:Fl) (k:V->Option β):Option β:=match fl with
  |.ret v=>k v
  |_=>none
theorem Dd {β:Type} {P:Prop} {fl:Fl} {f:V->Option β} {r:β} (h:AH fl f=some r) (k:∀ v,fl=.ret v->f v=some r->P):P:=by
  cases fl with
  |ret v=>exact k v rfl h
  |_=>exact no h
noncomputable def isAdd:Bo ()->Bool
  |.add=>true
  |_=>false
noncomputable def evS (C:Bool->aD) (W:Nat) (hs:Bool):MS->Fr->St->fR
  |.nil,fr,σ=>some (.nxt,fr,σ)
  |.cons s r,fr,σ=>bh (evS C W hs s fr σ) fun q=>match q.1 with
    |.nxt=>evS C W hs r q.2.1 q.2.2
    |fl=>some (fl,q.2)
  |.expr e,fr,σ=>bnd (ev (C hs) hs e fr σ) fun _ σ=>some (.nxt,fr,σ)
  |.asg i e,fr,σ=>oN (evX (C hs) hs e fr σ) (fun v σ=>some (.nxt,fr.put i v,σ)) fun x σ=>some (.err x,fr,σ)
  |.asgC i e,fr,σ=>bnd (ev (C hs) hs e fr σ) fun v σ=>some (.nxt,fr.sd i v,σ)
  |.asgComp i e,fr,σ=>bnd (ev (C hs) hs e fr σ) fun v σ=>some (.nxt,fr.put i v,σ)
  |.asg2 i j e,fr,σ=>gd hs (bnd (ev (C hs) hs e fr σ) fun v σ=>on2 v fun x y=>some (.nxt,(fr.put i x).put j y,σ))
  |.setattr o m e,fr,σ=>bnd (ev (C hs) hs e fr σ) fun v σ=>bnd (ev (C hs) hs o fr σ) fun x σ=>bh (setAttr x m v σ) fun σ=>some (.nxt,fr,σ)
  |.setitem o i e,fr,σ=>bnd (ev (C hs) hs e fr σ) fun v σ=>bnd (ev (C hs) hs o fr σ) fun x σ=>bnd (ev (C hs) hs i fr σ) fun y σ=>bh (setItem x y v σ) fun σ=>some (.nxt,fr,σ)
  |.aug i op e,fr,σ=>bh (fr.locs[i]?.join) fun x=>bnd (ev (C hs) hs e fr σ) fun y σ=>onI x fun a=>onI y fun b=>gd (isAdd op) (some (.nxt,fr.put i (.int (a+b)),σ))
  |.ite c a b,fr,σ=>bnd (ev (C hs) hs c fr σ) fun x σ=>onB x fun t=>sel t (evS C W hs a fr σ) (evS C W hs b fr σ)
  |.while c b,fr,σ=>cz (ev (C hs) hs c) (evS C W hs b) W fr σ
  |.for i it b,fr,σ=>bnd (ev (C hs) hs it fr σ) fun x σ=>bh (itemsOf x σ) fun xs=>ft (fun v fr σ=>evS C W hs b (fr.put i v) σ) x xs 0 fr σ
  |.ret e,fr,σ=>oN (evX (C hs) hs e fr σ) (fun v σ=>some (.ret v,fr,σ)) fun x σ=>some (.err x,fr,σ)
  |.cont,fr,σ=>some (.cnt,fr,σ)
  |.delFrom o a,fr,σ=>bnd (ev (C hs) hs o fr σ) fun x σ=>onR x fun n=>bnd (ev (C hs) hs a fr σ) fun y σ=>onI y fun i=>onL σ[n]? fun xs=>
    gd (decide (0<=i)&&small i) (some (.nxt,fr,σ.set n (.list (xs.take i.toNat))))
  |.raise e,fr,σ=>gd hs (bnd (ev (C hs) hs e fr σ) fun v σ=>onR v fun n=>onE σ[n]? fun x=>some (.err (.ref n),fr,σ.set n (.exc x false)))
  |.try b i h,fr,σ=>gd hs (bh (evS C W hs b fr σ) fun q=>match q.1 with
    |.err x=>bh (evS C W false h (q.2.1.put i x) q.2.2) fun r=>AH r.1 fun v=>some (.ret v,r.2)
    |fl=>some (fl,q.2))
noncomputable def iS:MS:=
    (.cons (.setattr (.loc 0) .ck (.loc 1))
    .nil)
noncomputable def mZ:MS:=
    (.cons (.ret (.tuple (.cons (.str .n9) (.cons (.str .yj) (.cons (.str .mO) (.cons (.str .lF) (.cons (.str .sV) (.cons (.str .ym) (.cons (.str .pQ) (.cons (.str .pM) (.cons (.str .AN) (.cons (.str .sX) (.cons (.str .pJ) (.cons (.str .yk) (.cons (.str .pO) (.cons (.str .pP) (.cons (.str .yi) (.cons (.str .yh) (.cons (.str .sY) (.cons (.str .sR) (.cons (.str .pN) (.cons (.str .fO) (.cons (.str .Ca) (.cons (.str .pK) (.cons (.str .dO) (.cons (.str .uG) (.cons (.str .iQ) (.cons (.str .qZ) (.cons (.str .yn) (.cons (.str .pL) (.cons (.str .pR) .nil)))))))))))))))))))))))))))))))
    .nil)
noncomputable def jV:MS:=
    (.cons (.ret (.tuple (.cons (.tuple (.cons (.str .yj) (.cons (.int 2) .nil))) (.cons (.tuple (.cons (.str .pM) (.cons (.int 2) .nil))) (.cons (.tuple (.cons (.str .sX) (.cons (.int 2) .nil))) (.cons (.tuple (.cons (.str .pJ) (.cons (.int 2) .nil))) (.cons (.tuple (.cons (.str .yk) (.cons (.int 1) .nil))) (.cons (.tuple (.cons (.str .pO) (.cons (.int 2) .nil))) (.cons (.tuple (.cons (.str .pO) (.cons (.int 1) .nil))) (.cons (.tuple (.cons (.str .pP) (.cons (.int 1) .nil))) (.cons (.tuple (.cons (.str .yi) (.cons (.int 2) .nil))) (.cons (.tuple (.cons (.str .mO) (.cons (.int 1) .nil))) (.cons (.tuple (.cons (.str .Ca) (.cons (.int 2) .nil))) (.cons (.tuple (.cons (.str .pK) (.cons (.int 2) .nil))) (.cons (.tuple (.cons (.str .lF) (.cons (.int 1) .nil))) (.cons (.tuple (.cons (.str .lF) (.cons (.int 2) .nil))) (.cons (.tuple (.cons (.str .sV) (.cons (.int 2) .nil))) (.cons (.tuple (.cons (.str .pQ) (.cons (.int 2) .nil))) (.cons (.tuple (.cons (.str .dO) (.cons (.int 2) .nil))) (.cons (.tuple (.cons (.str .yn) (.cons (.int 1) .nil))) (.cons (.tuple (.cons (.str .pL) (.cons (.int 3) .nil))) (.cons (.tuple (.cons (.str .pR) (.cons (.int 1) .nil))) (.cons (.tuple (.cons (.str .yh) (.cons (.int 0) .nil))) (.cons (.tuple (.cons (.str .sY) (.cons (.int 0) .nil))) (.cons (.tuple (.cons (.str .sR) (.cons (.int 0) .nil))) (.cons (.tuple (.cons (.str .pN) (.cons (.int 0) .nil))) (.cons (.tuple (.cons (.str .fO) (.cons (.int 1) .nil))) (.cons (.tuple (.cons (.str .fO) (.cons (.int 2) .nil))) (.cons (.tuple (.cons (.str .fO) (.cons (.int 3) .nil))) (.cons (.tuple (.cons (.str .fO) (.cons (.int 4) .nil))) (.cons (.tuple (.cons (.str .fO) (.cons (.int 5) .nil))) (.cons (.tuple (.cons (.str .fO) (.cons (.int 6) .nil))) (.cons (.tuple (.cons (.str .fO) (.cons (.int 7) .nil))) (.cons (.tuple (.cons (.str .fO) (.cons (.int 8) .nil))) .nil))))))))))))))))))))))))))))))))))
    .nil)
noncomputable def lV:MS:=
    (.cons (.setattr (.loc 0) .lB (.list .nil))
    (.cons (.setattr (.loc 0) .cF (.dict0 .S))
    (.cons (.setattr (.loc 0) .fw (.list .nil))
    (.cons (.setattr (.loc 0) .bT (.dict0 .P))
    (.cons (.for 1 (.call (.glob (.fn .qD)) .nil) (.cons (.expr (.mcall (.loc 0) .gV (.cons (.loc 1) .nil)))
    .nil))
    (.cons (.for 2 (.call (.glob (.fn .ml)) .nil) (.cons (.expr (.mcall (.loc 0) .gu (.cons (.sub (.loc 2) (.int 0)) (.cons (.sub (.loc 2) (.int 1)) .nil))))
    .nil))
    .nil))))))
noncomputable def lT:MS:=
    (.cons (.asg 2 (.mcall (.attr (.loc 0) .cF) .iP (.cons (.loc 1) (.cons (.neg (.int 1)) .nil))))
    (.cons (.ite (.cmp .ge (.loc 2) (.int 0)) (.cons (.ret (.loc 2))
    .nil) .nil)
    (.cons (.asg 3 (.call (.glob (.bi .len)) (.cons (.attr (.loc 0) .lB) .nil)))
    (.cons (.expr (.mcall (.attr (.loc 0) .lB) .aT (.cons (.loc 1) .nil)))
    (.cons (.setitem (.attr (.loc 0) .cF) (.loc 1) (.loc 3))
    (.cons (.ret (.loc 3))
    .nil))))))
noncomputable def jo:MS:=
    (.cons (.asg 3 (.tuple (.cons (.loc 1) (.cons (.loc 2) .nil))))
    (.cons (.asg 4 (.mcall (.attr (.loc 0) .bT) .iP (.cons (.loc 3) (.cons (.neg (.int 1)) .nil))))
    (.cons (.ite (.cmp .ge (.loc 4) (.int 0)) (.cons (.ret (.loc 4))
    .nil) .nil)
    (.cons (.asg 5 (.call (.glob (.bi .len)) (.cons (.attr (.loc 0) .fw) .nil)))
    (.cons (.expr (.mcall (.attr (.loc 0) .fw) .aT (.cons (.loc 3) .nil)))
    (.cons (.setitem (.attr (.loc 0) .bT) (.loc 3) (.loc 5))
    (.cons (.ret (.loc 5))
    .nil)))))))
noncomputable def lU:MS:=
    (.cons (.ret (.mcall (.loc 0) .kb (.cons (.mcall (.loc 0) .gV (.cons (.loc 1) .nil)) (.cons (.loc 2) .nil))))
    .nil)
noncomputable def kT:MS:=
    (.cons (.ret (.sub (.sub (.attr (.loc 0) .fw) (.loc 1)) (.int 1)))
    .nil)
noncomputable def lY:MS:=
    (.cons (.ret (.call (.glob (.cls .perr)) (.cons (.tuple (.cons (.str .t_s) (.cons (.glob (.int 16)) (.cons (.tuple (.cons (.loc 0) (.cons (.tuple (.cons (.str .t_a) (.cons (.glob (.int 25)) .nil))) .nil))) .nil)))) .nil)))
    .nil)
noncomputable def qg:MS:=
    (.cons (.asg 3 (.list .nil))
    (.cons (.for 4 (.loc 2) (.cons (.expr (.mcall (.loc 3) .aT (.cons (.ife (.call (.glob (.bi .isinstance)) (.cons (.loc 4) (.cons (.glob (.ty .str)) .nil))) (.tuple (.cons (.str .t_a) (.cons (.mcall (.loc 0) .gV (.cons (.loc 4) .nil)) .nil))) (.loc 4)) .nil)))
    .nil))
    (.cons (.ret (.tuple (.cons (.str .t_s) (.cons (.mcall (.loc 0) .gu (.cons (.loc 1) (.cons (.call (.glob (.bi .len)) (.cons (.loc 3) .nil)) .nil))) (.cons (.call (.glob (.bi .tuple)) (.cons (.loc 3) .nil)) .nil)))))
    .nil)))
noncomputable def oK:MS:=
    (.cons (.ret (.call (.glob (.fn .jQ)) (.cons (.call (.glob (.fn .nD)) (.cons (.loc 0) (.cons (.str .aL) (.cons (.tuple (.cons (.loc 1) (.cons (.loc 2) .nil))) .nil)))) .nil)))
    .nil)
noncomputable def oE:MS:=
    (.cons (.setattr (.loc 0) .aW (.loc 1))
    (.cons (.setattr (.loc 0) .a8 (.loc 2))
    (.cons (.setattr (.loc 0) .aX (.list .nil))
    (.cons (.setattr (.loc 0) .gw (.list .nil))
    (.cons (.setattr (.loc 0) .jH (.list .nil))
    (.cons (.setattr (.loc 0) .zP (.int 0))
    (.cons (.setattr (.loc 0) .zO (.int 0))
    .nil)))))))
noncomputable def oF:MS:=
    (.cons (.asg 2 (.call (.glob (.bi .len)) (.cons (.attr (.loc 0) .aX) .nil)))
    (.cons (.ite (.cmp .ge (.loc 2) (.attr (.loc 0) .a8)) (.cons (.raise .bad)
    .nil) .nil)
    (.cons (.expr (.mcall (.attr (.loc 0) .aX) .aT (.cons (.loc 1) .nil)))
    (.cons (.ret (.loc 2))
    .nil))))
noncomputable def kR:MS:=
    (.cons (.asg 1 (.tuple (.cons (.glob (.int 0)) (.cons (.call (.glob (.bi .len)) (.cons (.attr (.loc 0) .aX) .nil)) .nil))))
    (.cons (.expr (.mcall (.loc 0) .xC (.cons (.loc 1) .nil)))
    (.cons (.ret (.loc 1))
    .nil)))
noncomputable def kS:MS:=
    (.cons (.asg 2 (.call (.glob (.bi .len)) (.cons (.attr (.loc 0) .aX) .nil)))
    (.cons (.ite (.cmp .gt (.bin .add (.loc 2) (.loc 1)) (.attr (.loc 0) .a8)) (.cons (.raise .bad)
    .nil) .nil)
    (.cons (.for 3 (.call (.glob (.bi .range)) (.cons (.loc 1) .nil)) (.cons (.expr (.mcall (.attr (.loc 0) .aX) .aT (.cons (.tuple (.cons (.glob (.int 0)) (.cons (.bin .add (.loc 2) (.loc 3)) .nil))) .nil)))
    .nil))
    (.cons (.ret (.loc 2))
    .nil))))
noncomputable def mW:MS:=
    (.cons (.while (.bool true) (.cons (.asg 2 (.sub (.loc 1) (.int 0)))
    (.cons (.ite (.cmp .eq (.loc 2) (.glob (.int 0))) (.cons (.asg 3 (.sub (.attr (.loc 0) .aX) (.sub (.loc 1) (.int 1))))
    .nil) (.cons (.ite (.cmp .eq (.loc 2) (.glob (.int 1))) (.cons (.asg 3 (.sub (.attr (.loc 0) .gw) (.sub (.loc 1) (.int 1))))
    .nil) (.cons (.ret (.loc 1))
    .nil))
    .nil))
    (.cons (.ite (.cmp .eq (.loc 3) (.loc 1)) (.cons (.ret (.loc 1))
    .nil) .nil)
    (.cons (.asg 1 (.loc 3))
    .nil)))))
    .nil)
noncomputable def oD:MS:=
    (.cons (.asg 3 (.sub (.loc 1) (.int 1)))
    (.cons (.ite (.cmp .eq (.sub (.loc 1) (.int 0)) (.glob (.int 0))) (.cons (.setitem (.attr (.loc 0) .aX) (.loc 3) (.loc 2))
    (.cons (.ite (.cmp .lt (.loc 3) (.attr (.loc 0) .zP)) (.cons (.expr (.mcall (.attr (.loc 0) .jH) .aT (.cons (.loc 3) .nil)))
    .nil) .nil)
    .nil)) (.cons (.setitem (.attr (.loc 0) .gw) (.loc 3) (.loc 2))
    (.cons (.ite (.cmp .lt (.loc 3) (.attr (.loc 0) .zO)) (.cons (.expr (.mcall (.attr (.loc 0) .jH) .aT (.cons (.bin .sub (.neg (.int 1)) (.loc 3)) .nil)))
    .nil) .nil)
    .nil)))
    .nil))
noncomputable def jl:MS:=
    (.cons (.ite (.cmp .eq (.loc 1) (.loc 2)) (.cons (.ret .none)
    .nil) .nil)
    (.cons (.ite (.cmp .eq (.sub (.loc 1) (.int 0)) (.sub (.loc 2) (.int 0))) (.cons (.ite (.cmp .lt (.sub (.loc 1) (.int 1)) (.sub (.loc 2) (.int 1))) (.cons (.expr (.mcall (.loc 0) .i7 (.cons (.loc 2) (.cons (.loc 1) .nil))))
    .nil) (.cons (.expr (.mcall (.loc 0) .i7 (.cons (.loc 1) (.cons (.loc 2) .nil))))
    .nil))
    .nil) (.cons (.ite (.cmp .eq (.sub (.loc 1) (.int 0)) (.glob (.int 1))) (.cons (.expr (.mcall (.loc 0) .i7 (.cons (.loc 1) (.cons (.loc 2) .nil))))
    .nil) (.cons (.expr (.mcall (.loc 0) .i7 (.cons (.loc 2) (.cons (.loc 1) .nil))))
    .nil))
    .nil))
    .nil))
noncomputable def jm:MS:=
    (.cons (.asg 1 (.mcall (.loc 0) .dK (.cons (.loc 1) .nil)))
    (.cons (.ite (.cmp .eq (.sub (.loc 1) (.int 0)) (.glob (.int 1))) (.cons (.asg 2 (.mcall (.loc 0) .kc .nil))
    (.cons (.expr (.mcall (.loc 0) .i7 (.cons (.loc 1) (.cons (.loc 2) .nil))))
    (.cons (.ret (.loc 2))
    .nil))) .nil)
    (.cons (.ret (.loc 1))
    .nil)))
noncomputable def iF:MS:=
    (.cons (.ret (.or (.cmp .eq (.sub (.loc 1) (.int 0)) (.glob (.int 2))) (.cmp .eq (.sub (.loc 1) (.int 0)) (.glob (.int 3)))))
    .nil)
noncomputable def iR:MS:=
    (.cons (.asg 2 (.sub (.loc 1) (.int 0)))
    (.cons (.ite (.cmp .eq (.loc 2) (.glob (.int 2))) (.cons (.ret (.sub (.sub (.attr (.loc 0) .aX) (.sub (.loc 1) (.int 1))) (.int 1)))
    .nil) .nil)
    (.cons (.ite (.cmp .eq (.loc 2) (.glob (.int 3))) (.cons (.ret (.glob (.int 0)))
    .nil) .nil)
    (.cons (.ite (.cmp .eq (.loc 2) (.glob (.int 4))) (.cons (.ret (.mcall (.attr (.loc 0) .aW) .kb (.cons (.sub (.loc 1) (.int 1)) (.cons (.int 0) .nil))))
    .nil) .nil)
    (.cons (.ret (.neg (.int 1)))
    .nil)))))
noncomputable def mX:MS:=
    (.cons (.asg 2 (.sub (.loc 1) (.int 0)))
    (.cons (.ite (.cmp .eq (.loc 2) (.glob (.int 3))) (.cons (.ret (.int 2))
    .nil) .nil)
    (.cons (.ite (.cmp .eq (.loc 2) (.glob (.int 2))) (.cons (.ret (.mcall (.attr (.loc 0) .aW) .lA (.cons (.sub (.sub (.attr (.loc 0) .aX) (.sub (.loc 1) (.int 1))) (.int 1)) .nil)))
    .nil) .nil)
    (.cons (.ret (.int 0))
    .nil))))
noncomputable def oB:MS:=
    (.cons (.ite (.cmp .eq (.sub (.loc 1) (.int 0)) (.glob (.int 3))) (.cons (.ret (.sub (.loc 1) (.int 1)))
    .nil) .nil)
    (.cons (.ret (.bin .add (.sub (.loc 1) (.int 1)) (.int 1)))
    .nil))
noncomputable def qf:MS:=
    (.cons (.ret (.sub (.attr (.loc 0) .aX) (.bin .sub (.bin .add (.mcall (.loc 0) .gW (.cons (.loc 1) .nil)) (.loc 2)) (.int 1))))
    .nil)
noncomputable def jn:MS:=
    (.cons (.ite (.cmp .eq (.loc 1) (.glob (.int 0))) (.cons (.ret (.tuple (.cons (.glob (.int 3)) (.cons (.mcall (.loc 0) .iq (.cons (.int 2) .nil)) .nil))))
    .nil) .nil)
    (.cons (.asg 2 (.mcall (.loc 0) .iq (.cons (.bin .add (.int 1) (.mcall (.attr (.loc 0) .aW) .lA (.cons (.loc 1) .nil))) .nil)))
    (.cons (.setitem (.attr (.loc 0) .aX) (.loc 2) (.tuple (.cons (.glob (.int 6)) (.cons (.loc 1) .nil))))
    (.cons (.ret (.tuple (.cons (.glob (.int 2)) (.cons (.loc 2) .nil))))
    .nil))))
noncomputable def fo:MS:=
    (.cons (.ite (.cmp .is (.loc 2) .none) (.cons (.asg 3 (.tuple (.cons (.glob (.int 4)) (.cons (.glob (.int 0)) .nil))))
    .nil) (.cons (.asg 3 (.mcall (.loc 0) .cG (.cons (.loc 2) .nil)))
    .nil))
    (.cons (.asg 4 (.list .nil))
    (.cons (.for 5 (.loc 1) (.cons (.expr (.mcall (.loc 4) .aT (.cons (.mcall (.loc 0) .cG (.cons (.loc 5) .nil)) .nil)))
    .nil))
    (.cons (.ite (.cmp .eq (.call (.glob (.bi .len)) (.cons (.loc 4) .nil)) (.int 0)) (.cons (.ret (.loc 3))
    .nil) .nil)
    (.cons (.asg 6 (.mcall (.loc 0) .iq (.cons (.bin .mul (.int 2) (.call (.glob (.bi .len)) (.cons (.loc 4) .nil))) .nil)))
    (.cons (.asg 7 (.loc 6))
    (.cons (.for 8 (.loc 4) (.cons (.setitem (.attr (.loc 0) .aX) (.loc 7) (.loc 8))
    (.cons (.setitem (.attr (.loc 0) .aX) (.bin .add (.loc 7) (.int 1)) (.tuple (.cons (.glob (.int 3)) (.cons (.bin .add (.loc 7) (.int 2)) .nil))))
    (.cons (.aug 7 .add (.int 2))
    .nil))))
    (.cons (.setitem (.attr (.loc 0) .aX) (.bin .sub (.loc 7) (.int 1)) (.loc 3))
    (.cons (.ret (.tuple (.cons (.glob (.int 3)) (.cons (.loc 6) .nil))))
    .nil)))))))))
noncomputable def bW:MS:=
    (.cons (.for 3 (.call (.glob (.bi .list)) (.cons (.loc 2) .nil)) (.cons (.ite (.cmp .eq (.sub (.sub (.loc 2) (.loc 3)) (.int 0)) (.glob (.int 1))) (.cons (.setitem (.loc 2) (.loc 3) (.mcall (.loc 0) .cG (.cons (.sub (.loc 2) (.loc 3)) .nil)))
    .nil) .nil)
    .nil))
    (.cons (.asg 4 (.sub (.loc 1) (.int 0)))
    (.cons (.ite (.cmp .eq (.loc 4) (.str .t_v)) (.cons (.ite (.cmp .notin (.sub (.loc 1) (.int 1)) (.loc 2)) (.cons (.setitem (.loc 2) (.sub (.loc 1) (.int 1)) (.mcall (.loc 0) .kc .nil))
    .nil) .nil)
    (.cons (.ret (.sub (.loc 2) (.sub (.loc 1) (.int 1))))
    .nil)) .nil)
    (.cons (.ite (.cmp .eq (.loc 4) (.str .t_a)) (.cons (.ret (.tuple (.cons (.glob (.int 4)) (.cons (.sub (.loc 1) (.int 1)) .nil))))
    .nil) .nil)
    (.cons (.ite (.cmp .eq (.loc 4) (.str .t_i)) (.cons (.ret (.tuple (.cons (.glob (.int 5)) (.cons (.sub (.loc 1) (.int 1)) .nil))))
    .nil) .nil)
    (.cons (.asg 5 (.mcall (.loc 0) .gX (.cons (.sub (.loc 1) (.int 1)) .nil)))
    (.cons (.asg 6 (.list (.cons (.tuple (.cons (.mcall (.loc 0) .gW (.cons (.loc 5) .nil)) (.cons (.sub (.loc 1) (.int 2)) .nil))) .nil)))
    (.cons (.asg 7 (.int 0))
    (.cons (.while (.cmp .lt (.loc 7) (.call (.glob (.bi .len)) (.cons (.loc 6) .nil))) (.cons (.asg2 8 9 (.sub (.loc 6) (.loc 7)))
    (.cons (.aug 7 .add (.int 1))
    (.cons (.for 10 (.loc 9) (.cons (.asg 4 (.sub (.loc 10) (.int 0)))
    (.cons (.ite (.cmp .eq (.loc 4) (.str .t_v)) (.cons (.ite (.cmp .isin (.sub (.loc 10) (.int 1)) (.loc 2)) (.cons (.setitem (.attr (.loc 0) .aX) (.loc 8) (.sub (.loc 2) (.sub (.loc 10) (.int 1))))
    .nil) (.cons (.setitem (.loc 2) (.sub (.loc 10) (.int 1)) (.tuple (.cons (.glob (.int 0)) (.cons (.loc 8) .nil))))
    .nil))
    .nil) (.cons (.ite (.cmp .eq (.loc 4) (.str .t_a)) (.cons (.setitem (.attr (.loc 0) .aX) (.loc 8) (.tuple (.cons (.glob (.int 4)) (.cons (.sub (.loc 10) (.int 1)) .nil))))
    .nil) (.cons (.ite (.cmp .eq (.loc 4) (.str .t_i)) (.cons (.setitem (.attr (.loc 0) .aX) (.loc 8) (.tuple (.cons (.glob (.int 5)) (.cons (.sub (.loc 10) (.int 1)) .nil))))
    .nil) (.cons (.asg 11 (.mcall (.loc 0) .gX (.cons (.sub (.loc 10) (.int 1)) .nil)))
    (.cons (.setitem (.attr (.loc 0) .aX) (.loc 8) (.loc 11))
    (.cons (.expr (.mcall (.loc 6) .aT (.cons (.tuple (.cons (.mcall (.loc 0) .gW (.cons (.loc 11) .nil)) (.cons (.sub (.loc 10) (.int 2)) .nil))) .nil)))
    .nil))))
    .nil))
    .nil))
    (.cons (.aug 8 .add (.int 1))
    .nil))))
    .nil))))
    (.cons (.ret (.loc 5))
    .nil))))))))))
noncomputable def bG:MS:=
    (.cons (.asg 3 (.dict0 .I))
    (.cons (.asg 4 (.list .nil))
    (.cons (.asg 5 (.list (.cons (.tuple (.cons (.glob (.int 0)) (.cons (.mcall (.loc 0) .cG (.cons (.loc 1) .nil)) .nil))) .nil)))
    (.cons (.while (.cmp .gt (.call (.glob (.bi .len)) (.cons (.loc 5) .nil)) (.int 0)) (.cons (.asg2 6 1 (.mcall (.loc 5) .gZ .nil))
    (.cons (.ite (.cmp .eq (.loc 6) (.glob (.int 1))) (.cons (.asg 7 (.mcall (.loc 0) .eY (.cons (.loc 1) .nil)))
    (.cons (.asg 8 (.bin .sub (.call (.glob (.bi .len)) (.cons (.loc 4) .nil)) (.mcall (.loc 0) .ir (.cons (.loc 1) .nil))))
    (.cons (.asg 9 (.tuple (.cons (.str .t_s) (.cons (.loc 7) (.cons (.call (.glob (.bi .tuple)) (.cons (.slFrom (.loc 4) (.loc 8)) .nil)) .nil)))))
    (.cons (.delFrom (.loc 4) (.loc 8))
    (.cons (.setitem (.loc 3) (.sub (.loc 1) (.int 1)) (.loc 9))
    (.cons (.expr (.mcall (.loc 4) .aT (.cons (.loc 9) .nil)))
    (.cons .cont
    .nil))))))) .nil)
    (.cons (.asg 1 (.mcall (.loc 0) .dK (.cons (.loc 1) .nil)))
    (.cons (.asg 10 (.sub (.loc 1) (.int 0)))
    (.cons (.ite (.cmp .eq (.loc 10) (.glob (.int 0))) (.cons (.ite (.cmp .notin (.sub (.loc 1) (.int 1)) (.loc 2)) (.cons (.setitem (.loc 2) (.sub (.loc 1) (.int 1)) (.call (.glob (.bi .len)) (.cons (.loc 2) .nil)))
    .nil) .nil)
    (.cons (.expr (.mcall (.loc 4) .aT (.cons (.tuple (.cons (.str .t_v) (.cons (.sub (.loc 2) (.sub (.loc 1) (.int 1))) .nil))) .nil)))
    .nil)) (.cons (.ite (.cmp .eq (.loc 10) (.glob (.int 4))) (.cons (.expr (.mcall (.loc 4) .aT (.cons (.tuple (.cons (.str .t_a) (.cons (.sub (.loc 1) (.int 1)) .nil))) .nil)))
    .nil) (.cons (.ite (.cmp .eq (.loc 10) (.glob (.int 5))) (.cons (.expr (.mcall (.loc 4) .aT (.cons (.tuple (.cons (.str .t_i) (.cons (.sub (.loc 1) (.int 1)) .nil))) .nil)))
    .nil) (.cons (.ite (.cmp .isin (.sub (.loc 1) (.int 1)) (.loc 3)) (.cons (.asg 9 (.sub (.loc 3) (.sub (.loc 1) (.int 1))))
    (.cons (.ite (.cmp .is (.loc 9) .none) (.cons (.raise .bad)
    .nil) .nil)
    (.cons (.expr (.mcall (.loc 4) .aT (.cons (.loc 9) .nil)))
    .nil))) (.cons (.setitem (.loc 3) (.sub (.loc 1) (.int 1)) .none)
    (.cons (.expr (.mcall (.loc 5) .aT (.cons (.tuple (.cons (.glob (.int 1)) (.cons (.loc 1) .nil))) .nil)))
    (.cons (.asg 11 (.mcall (.loc 0) .gW (.cons (.loc 1) .nil)))
    (.cons (.for 12 (.call (.glob (.bi .range)) (.cons (.bin .sub (.mcall (.loc 0) .ir (.cons (.loc 1) .nil)) (.int 1)) (.cons (.neg (.int 1)) (.cons (.neg (.int 1)) .nil)))) (.cons (.expr (.mcall (.loc 5) .aT (.cons (.tuple (.cons (.glob (.int 0)) (.cons (.sub (.attr (.loc 0) .aX) (.bin .add (.loc 11) (.loc 12))) .nil))) .nil)))
    .nil))
    .nil)))))
    .nil))
    .nil))
    .nil))
    .nil))))))
    (.cons (.ret (.sub (.loc 4) (.int 0)))
    .nil)))))
noncomputable def lS:MS:=
    (.cons (.setattr (.loc 0) .gv (.bin .add (.call (.glob (.bi .len)) (.cons (.attr (.loc 1) .aX) .nil)) (.int 1)))
    (.cons (.setattr (.loc 0) .jG (.call (.glob (.bi .set)) .nil))
    .nil))
noncomputable def mY:MS:=
    (.cons (.asg 3 (.bin .add (.bin .mul (.sub (.loc 1) (.int 1)) (.attr (.loc 0) .gv)) (.sub (.loc 2) (.int 1))))
    (.cons (.ite (.cmp .isin (.loc 3) (.attr (.loc 0) .jG)) (.cons (.ret (.bool false))
    .nil) .nil)
    (.cons (.expr (.mcall (.attr (.loc 0) .jG) .kL (.cons (.loc 3) .nil)))
    (.cons (.ret (.bool true))
    .nil))))
noncomputable def jW:MS:=
    (.cons (.asg 3 (.mcall (.loc 0) .gW (.cons (.loc 1) .nil)))
    (.cons (.for 4 (.call (.glob (.bi .range)) (.cons (.bin .sub (.mcall (.loc 0) .ir (.cons (.loc 1) .nil)) (.int 1)) (.cons (.neg (.int 1)) (.cons (.neg (.int 1)) .nil)))) (.cons (.expr (.mcall (.loc 2) .aT (.cons (.sub (.attr (.loc 0) .aX) (.bin .add (.loc 3) (.loc 4))) .nil)))
    .nil))
    .nil))
noncomputable def oH:MS:=
    (.cons (.asg 4 (.mcall (.loc 0) .gW (.cons (.loc 1) .nil)))
    (.cons (.asg 5 (.mcall (.loc 0) .gW (.cons (.loc 2) .nil)))
    (.cons (.for 6 (.call (.glob (.bi .range)) (.cons (.bin .sub (.mcall (.loc 0) .ir (.cons (.loc 1) .nil)) (.int 1)) (.cons (.neg (.int 1)) (.cons (.neg (.int 1)) .nil)))) (.cons (.expr (.mcall (.loc 3) .aT (.cons (.tuple (.cons (.sub (.attr (.loc 0) .aX) (.bin .add (.loc 4) (.loc 6))) (.cons (.sub (.attr (.loc 0) .aX) (.bin .add (.loc 5) (.loc 6))) .nil))) .nil)))
    .nil))
    .nil)))
noncomputable def oJ:MS:=
    (.cons (.ite (.cmp .ne (.sub (.loc 1) (.int 0)) (.sub (.loc 2) (.int 0))) (.cons (.ret (.bool false))
    .nil) .nil)
    (.cons (.ite (.cmp .eq (.sub (.loc 1) (.int 0)) (.glob (.int 3))) (.cons (.ret (.bool true))
    .nil) .nil)
    (.cons (.ret (.cmp .eq (.sub (.attr (.loc 0) .aX) (.sub (.loc 1) (.int 1))) (.sub (.attr (.loc 0) .aX) (.sub (.loc 2) (.int 1)))))
    .nil)))
noncomputable def m7:MS:=
    (.cons (.ret (.or (.cmp .eq (.sub (.loc 0) (.int 0)) (.glob (.int 0))) (.cmp .eq (.sub (.loc 0) (.int 0)) (.glob (.int 1)))))
    .nil)
noncomputable def ie:MS:=
    (.cons (.asg 4 (.call (.glob (.cls .pairset)) (.cons (.loc 0) .nil)))
    (.cons (.asg 5 (.list (.cons (.tuple (.cons (.loc 1) (.cons (.loc 2) .nil))) .nil)))
    (.cons (.while (.cmp .gt (.call (.glob (.bi .len)) (.cons (.loc 5) .nil)) (.int 0)) (.cons (.asg2 6 7 (.mcall (.loc 5) .gZ .nil))
    (.cons (.asg 6 (.mcall (.loc 0) .dK (.cons (.loc 6) .nil)))
    (.cons (.asg 7 (.mcall (.loc 0) .dK (.cons (.loc 7) .nil)))
    (.cons (.ite (.cmp .eq (.loc 6) (.loc 7)) (.cons .cont
    .nil) .nil)
    (.cons (.ite (.call (.glob (.fn .fH)) (.cons (.loc 6) .nil)) (.cons (.ite (.call (.glob (.fn .fH)) (.cons (.loc 7) .nil)) (.cons (.expr (.mcall (.loc 0) .kN (.cons (.loc 6) (.cons (.loc 7) .nil))))
    .nil) (.cons (.ite (.not (.call (.glob (.fn .eW)) (.cons (.loc 0) (.cons (.loc 6) (.cons (.loc 7) (.cons (.loc 3) .nil)))))) (.cons (.ret (.bool false))
    .nil) .nil)
    .nil))
    .nil) (.cons (.ite (.call (.glob (.fn .fH)) (.cons (.loc 7) .nil)) (.cons (.ite (.not (.call (.glob (.fn .eW)) (.cons (.loc 0) (.cons (.loc 7) (.cons (.loc 6) (.cons (.loc 3) .nil)))))) (.cons (.ret (.bool false))
    .nil) .nil)
    .nil) (.cons (.ite (.and (.mcall (.loc 0) .bj (.cons (.loc 6) .nil)) (.call (.glob (.fn .dZ)) (.cons (.loc 0) (.cons (.loc 6) (.cons (.loc 7) .nil))))) (.cons (.ite (.mcall (.loc 4) .kL (.cons (.loc 6) (.cons (.loc 7) .nil))) (.cons (.expr (.call (.glob (.fn .mA)) (.cons (.loc 0) (.cons (.loc 6) (.cons (.loc 7) (.cons (.loc 5) .nil))))))
    .nil) .nil)
    .nil) (.cons (.ret (.bool false))
    .nil))
    .nil))
    .nil))
    .nil))))))
    (.cons (.ret (.bool true))
    .nil))))
noncomputable def lW:MS:=
    (.cons (.ite (.and (.loc 3) (.call (.glob (.fn .kg)) (.cons (.loc 0) (.cons (.loc 1) (.cons (.loc 2) .nil))))) (.cons (.ret (.bool false))
    .nil) .nil)
    (.cons (.expr (.mcall (.loc 0) .i7 (.cons (.loc 1) (.cons (.loc 2) .nil))))
    (.cons (.ret (.bool true))
    .nil)))
noncomputable def eG:MS:=
    (.cons (.asg 2 (.mcall (.loc 0) .dK (.cons (.loc 2) .nil)))
    (.cons (.ite (.cmp .eq (.loc 2) (.loc 1)) (.cons (.ret (.bool true))
    .nil) .nil)
    (.cons (.ite (.or (.cmp .eq (.sub (.loc 1) (.int 0)) (.glob (.int 1))) (.not (.mcall (.loc 0) .bj (.cons (.loc 2) .nil)))) (.cons (.ret (.bool false))
    .nil) .nil)
    (.cons (.asg 3 (.call (.glob (.bi .set)) .nil))
    (.cons (.asg 4 (.list (.cons (.loc 2) .nil)))
    (.cons (.while (.cmp .gt (.call (.glob (.bi .len)) (.cons (.loc 4) .nil)) (.int 0)) (.cons (.asg 2 (.mcall (.loc 0) .dK (.cons (.mcall (.loc 4) .gZ .nil) .nil)))
    (.cons (.ite (.cmp .eq (.loc 2) (.loc 1)) (.cons (.ret (.bool true))
    .nil) .nil)
    (.cons (.ite (.and (.mcall (.loc 0) .bj (.cons (.loc 2) .nil)) (.cmp .notin (.sub (.loc 2) (.int 1)) (.loc 3))) (.cons (.expr (.mcall (.loc 3) .kL (.cons (.sub (.loc 2) (.int 1)) .nil)))
    (.cons (.expr (.call (.glob (.fn .fy)) (.cons (.loc 0) (.cons (.loc 2) (.cons (.loc 4) .nil)))))
    .nil)) .nil)
    .nil))))
    (.cons (.ret (.bool false))
    .nil)))))))
noncomputable def eH:MS:=
    (.cons (.asg 2 (.list .nil))
    (.cons (.asg 3 (.call (.glob (.bi .set)) .nil))
    (.cons (.asg 4 (.call (.glob (.bi .set)) .nil))
    (.cons (.asg 5 (.list (.cons (.mcall (.loc 0) .cG (.cons (.loc 1) .nil)) .nil)))
    (.cons (.while (.cmp .gt (.call (.glob (.bi .len)) (.cons (.loc 5) .nil)) (.int 0)) (.cons (.asg 1 (.mcall (.loc 0) .dK (.cons (.mcall (.loc 5) .gZ .nil) .nil)))
    (.cons (.ite (.cmp .eq (.sub (.loc 1) (.int 0)) (.glob (.int 0))) (.cons (.ite (.cmp .notin (.sub (.loc 1) (.int 1)) (.loc 3)) (.cons (.expr (.mcall (.loc 3) .kL (.cons (.sub (.loc 1) (.int 1)) .nil)))
    (.cons (.expr (.mcall (.loc 2) .aT (.cons (.loc 1) .nil)))
    .nil)) .nil)
    .nil) (.cons (.ite (.and (.mcall (.loc 0) .bj (.cons (.loc 1) .nil)) (.cmp .notin (.sub (.loc 1) (.int 1)) (.loc 4))) (.cons (.expr (.mcall (.loc 4) .kL (.cons (.sub (.loc 1) (.int 1)) .nil)))
    (.cons (.expr (.call (.glob (.fn .fy)) (.cons (.loc 0) (.cons (.loc 1) (.cons (.loc 5) .nil)))))
    .nil)) .nil)
    .nil))
    .nil)))
    (.cons (.ret (.loc 2))
    .nil))))))
noncomputable def bz:MS:=
    (.cons (.asg 1 (.attr (.loc 0) .b8))
    (.cons (.asg 2 (.mcall (.loc 0) .kM (.cons (.int 1) .nil)))
    (.cons (.ite (.not (.call (.glob (.fn .mq)) (.cons (.loc 1) (.cons (.loc 2) .nil)))) (.cons (.raise (.call (.glob (.fn .mP)) (.cons (.attr (.loc 0) .aW) (.cons (.str .ak) (.cons (.mcall (.loc 0) .xD (.cons (.loc 2) .nil)) .nil)))))
    .nil) .nil)
    (.cons (.asg 3 (.dict0 .I))
    (.cons (.asg 4 (.loc 2))
    (.cons (.while (.call (.glob (.fn .mq)) (.cons (.loc 1) (.cons (.loc 4) .nil))) (.cons (.for 5 (.call (.glob (.fn .iA)) (.cons (.loc 1) (.cons (.mcall (.loc 1) .kM (.cons (.loc 4) (.cons (.int 1) .nil))) .nil))) (.cons (.setitem (.loc 3) (.sub (.loc 5) (.int 1)) (.bool true))
    .nil))
    (.cons (.asg 4 (.mcall (.loc 1) .dK (.cons (.mcall (.loc 1) .kM (.cons (.loc 4) (.cons (.int 2) .nil))) .nil)))
    .nil)))
    (.cons (.asg 6 (.list .nil))
    (.cons (.for 5 (.call (.glob (.fn .iA)) (.cons (.loc 1) (.cons (.loc 4) .nil))) (.cons (.ite (.cmp .notin (.sub (.loc 5) (.int 1)) (.loc 3)) (.cons (.expr (.mcall (.loc 6) .aT (.cons (.loc 5) .nil)))
    .nil) .nil)
    .nil))
    (.cons (.ite (.not (.mcall (.loc 0) .lC (.cons (.mcall (.loc 0) .kM (.cons (.int 2) .nil)) (.cons (.mcall (.loc 1) .gr (.cons (.loc 6) .nil)) .nil)))) (.cons (.ret (.bool false))
    .nil) .nil)
    (.cons (.ret (.mcall (.loc 0) .lC (.cons (.mcall (.loc 0) .kM (.cons (.int 3) .nil)) (.cons (.loc 4) .nil))))
    .nil))))))))))
noncomputable def rz:MS:=
    (.cons (.ret (.and (.mcall (.loc 0) .bj (.cons (.loc 1) .nil)) (.cmp .eq (.mcall (.loc 0) .eY (.cons (.loc 1) .nil)) (.glob (.int 11)))))
    .nil)
noncomputable def oz:MS:=
    (.cons (.setattr (.loc 0) .aW (.loc 1))
    (.cons (.setattr (.loc 0) .r7 (.loc 2))
    (.cons (.setattr (.loc 0) .a8 (.loc 3))
    (.cons (.setattr (.loc 0) .gY (.loc 4))
    (.cons (.setattr (.loc 0) .i8 (.loc 5))
    (.cons (.expr (.mcall (.loc 0) .uh .nil))
    .nil))))))
noncomputable def mT:MS:=
    (.cons (.setattr (.loc 0) .b8 (.call (.glob (.cls .store)) (.cons (.attr (.loc 0) .aW) (.cons (.attr (.loc 0) .a8) .nil))))
    (.cons (.setattr (.loc 0) .n_x (.list (.cons (.glob (.tup [.int 5,.int 0])) .nil)))
    (.cons (.setattr (.loc 0) .n_p (.int 0))
    (.cons (.setattr (.loc 0) .C1 (.int 0))
    (.cons (.setattr (.loc 0) .n_e (.neg (.int 1)))
    (.cons (.setattr (.loc 0) .n_b (.neg (.int 1)))
    (.cons (.setattr (.loc 0) .C0 (.neg (.int 1)))
    (.cons (.setattr (.loc 0) .xB (.glob (.str .yl)))
    (.cons (.setattr (.loc 0) .n_s (.int 0))
    (.cons (.setattr (.loc 0) .ug (.glob (.tup [.int 5,.int 0])))
    (.cons (.setattr (.loc 0) .ui (.list .nil))
    (.cons (.setattr (.loc 0) .xA (.dict0 .I))
    (.cons (.setattr (.loc 0) .fU (.bool false))
    .nil)))))))))))))
noncomputable def mU:MS:=
    (.cons (.while (.cmp .le (.call (.glob (.bi .len)) (.cons (.attr (.loc 0) .n_x) .nil)) (.loc 1)) (.cons (.expr (.mcall (.attr (.loc 0) .n_x) .aT (.cons (.glob (.tup [.int 5,.int 0])) .nil)))
    .nil))
    (.cons (.setitem (.attr (.loc 0) .n_x) (.loc 1) (.loc 2))
    .nil))
noncomputable def gD:MS:=
    (.cons (.asg 2 (.int 0))
    (.cons (.for 3 (.loc 1) (.cons (.aug 2 .add (.int 1))
    (.cons (.expr (.mcall (.loc 0) .uj (.cons (.loc 2) (.cons (.loc 3) .nil))))
    .nil)))
    .nil))
noncomputable def qe:MS:=
    (.cons (.ret (.mcall (.attr (.loc 0) .b8) .cG (.cons (.sub (.attr (.loc 0) .n_x) (.loc 1)) .nil)))
    .nil)
noncomputable def mV:MS:=
    (.cons (.ret (.call (.glob (.fn .unify)) (.cons (.attr (.loc 0) .b8) (.cons (.loc 1) (.cons (.loc 2) (.cons (.attr (.loc 0) .gY) .nil))))))
    .nil)
noncomputable def oA:MS:=
    (.cons (.ret (.mcall (.attr (.loc 0) .b8) .fI (.cons (.loc 1) (.cons (.dict0 .I) .nil))))
    .nil)
noncomputable def rB:MS:=
    (.cons (.ite (.cmp .eq (.sub (.loc 0) (.int 2)) (.int 0)) (.cons (.ite (.cmp .eq (.sub (.loc 0) (.int 1)) (.call (.glob (.bi .len)) (.cons (.sub (.loc 0) (.int 0)) .nil))) (.cons (.setitem (.loc 0) (.int 3) (.bin .mod (.bin .mul (.sub (.loc 0) (.int 3)) (.int 48271)) (.int 2147483647)))
    (.cons (.ret (.bin .mod (.bin .fdiv (.sub (.loc 0) (.int 3)) (.int 7)) (.loc 1)))
    .nil)) .nil)
    (.cons (.asg 2 (.sub (.sub (.loc 0) (.int 0)) (.sub (.loc 0) (.int 1))))
    (.cons (.setitem (.loc 0) (.int 1) (.bin .add (.sub (.loc 0) (.int 1)) (.int 1)))
    (.cons (.setitem (.loc 0) (.int 2) (.ife (.cmp .ge (.loc 2) (.int 0)) (.loc 2) (.neg (.loc 2))))
    .nil)))) .nil)
    (.cons (.asg 3 (.bin .mod (.sub (.loc 0) (.int 2)) (.loc 1)))
    (.cons (.setitem (.loc 0) (.int 2) (.bin .fdiv (.sub (.loc 0) (.int 2)) (.loc 1)))
    (.cons (.ret (.loc 3))
    .nil))))
noncomputable def uX:MS:=
    (.cons (.while (.and (.cmp .eq (.sub (.loc 0) (.int 0)) (.str .t_v)) (.cmp .isin (.sub (.loc 0) (.int 1)) (.loc 1))) (.cons (.asg 0 (.sub (.loc 1) (.sub (.loc 0) (.int 1))))
    .nil))
    (.cons (.ret (.loc 0))
    .nil))
noncomputable def jq:MS:=
    (.cons (.asg 0 (.call (.glob (.fn .jC)) (.cons (.loc 0) (.cons (.cell 1) .nil))))
    (.cons (.ite (.cmp .eq (.sub (.loc 0) (.int 0)) (.str .t_s)) (.cons (.ret (.cmp .isin (.bool true) (.comp (.sub (.loc 0) (.int 2)) (.call (.glob (.fn .dT)) (.cons (.cell 0) (.cons (.loc 0) (.cons (.cell 1) .nil)))))))
    .nil) .nil)
    (.cons (.ret (.cmp .eq (.loc 0) (.tuple (.cons (.str .t_v) (.cons (.cell 0) .nil)))))
    .nil)))
noncomputable def bU:MS:=
    (.cons (.asg 0 (.call (.glob (.fn .jC)) (.cons (.loc 0) (.cons (.loc 2) .nil))))
    (.cons (.asg 1 (.call (.glob (.fn .jC)) (.cons (.loc 1) (.cons (.loc 2) .nil))))
    (.cons (.ite (.cmp .eq (.loc 0) (.loc 1)) (.cons (.ret (.bool true))
    .nil) .nil)
    (.cons (.ite (.cmp .eq (.sub (.loc 0) (.int 0)) (.str .t_v)) (.cons (.ite (.call (.glob (.fn .dT)) (.cons (.sub (.loc 0) (.int 1)) (.cons (.loc 1) (.cons (.loc 2) .nil)))) (.cons (.ret (.bool false))
    .nil) .nil)
    (.cons (.setitem (.loc 2) (.sub (.loc 0) (.int 1)) (.loc 1))
    (.cons (.ret (.bool true))
    .nil))) .nil)
    (.cons (.ite (.cmp .eq (.sub (.loc 1) (.int 0)) (.str .t_v)) (.cons (.ret (.call (.glob (.fn .cf)) (.cons (.loc 1) (.cons (.loc 0) (.cons (.loc 2) .nil)))))
    .nil) .nil)
    (.cons (.ite (.or3 (.cmp .ne (.sub (.loc 0) (.int 0)) (.str .t_s)) (.cmp .ne (.sub (.loc 1) (.int 0)) (.str .t_s)) (.cmp .ne (.sub (.loc 0) (.int 1)) (.sub (.loc 1) (.int 1)))) (.cons (.ret (.bool false))
    .nil) .nil)
    (.cons (.for 3 (.call (.glob (.bi .range)) (.cons (.call (.glob (.bi .len)) (.cons (.sub (.loc 0) (.int 2)) .nil)) .nil)) (.cons (.ite (.not (.call (.glob (.fn .cf)) (.cons (.sub (.sub (.loc 0) (.int 2)) (.loc 3)) (.cons (.sub (.sub (.loc 1) (.int 2)) (.loc 3)) (.cons (.loc 2) .nil))))) (.cons (.ret (.bool false))
    .nil) .nil)
    .nil))
    (.cons (.ret (.bool true))
    .nil))))))))
noncomputable def lX:MS:=
    (.cons (.asg 0 (.call (.glob (.fn .jC)) (.cons (.loc 0) (.cons (.cell 0) .nil))))
    (.cons (.ite (.cmp .eq (.sub (.loc 0) (.int 0)) (.str .t_s)) (.cons (.ret (.tuple (.cons (.str .t_s) (.cons (.sub (.loc 0) (.int 1)) (.cons (.call (.glob (.bi .tuple)) (.cons (.comp (.sub (.loc 0) (.int 2)) (.call (.glob (.fn .cV)) (.cons (.loc 0) (.cons (.cell 0) .nil)))) .nil)) .nil)))))
    .nil) .nil)
    (.cons (.ret (.loc 0))
    .nil)))
noncomputable def di:MS:=
    (.cons (.ite (.cmp .ne (.sub (.cell 0) (.int 0)) (.sub (.cell 1) (.int 0))) (.cons (.ret (.bool false))
    .nil) .nil)
    (.cons (.ite (.cmp .eq (.sub (.cell 0) (.int 0)) (.str .t_v)) (.cons (.ite (.and (.cmp .notin (.sub (.cell 0) (.int 1)) (.cell 2)) (.cmp .notin (.sub (.cell 1) (.int 1)) (.cell 3))) (.cons (.setitem (.cell 2) (.sub (.cell 0) (.int 1)) (.sub (.cell 1) (.int 1)))
    (.cons (.setitem (.cell 3) (.sub (.cell 1) (.int 1)) (.sub (.cell 0) (.int 1)))
    .nil)) .nil)
    (.cons (.ret (.and (.cmp .eq (.mcall (.cell 2) .iP (.cons (.sub (.cell 0) (.int 1)) (.cons (.neg (.int 1)) .nil))) (.sub (.cell 1) (.int 1))) (.cmp .eq (.mcall (.cell 3) .iP (.cons (.sub (.cell 1) (.int 1)) (.cons (.neg (.int 1)) .nil))) (.sub (.cell 0) (.int 1)))))
    .nil)) .nil)
    (.cons (.ite (.cmp .eq (.sub (.cell 0) (.int 0)) (.str .t_s)) (.cons (.ite (.or (.cmp .ne (.sub (.cell 0) (.int 1)) (.sub (.cell 1) (.int 1))) (.cmp .ne (.call (.glob (.bi .len)) (.cons (.sub (.cell 0) (.int 2)) .nil)) (.call (.glob (.bi .len)) (.cons (.sub (.cell 1) (.int 2)) .nil)))) (.cons (.ret (.bool false))
    .nil) .nil)
    (.cons (.ret (.cmp .notin (.bool false) (.comp (.call (.glob (.bi .range)) (.cons (.call (.glob (.bi .len)) (.cons (.sub (.cell 0) (.int 2)) .nil)) .nil)) (.call (.glob (.fn .bR)) (.cons (.sub (.sub (.cell 0) (.int 2)) (.loc 0)) (.cons (.sub (.sub (.cell 1) (.int 2)) (.loc 0)) (.cons (.cell 2) (.cons (.cell 3) .nil))))))))
    .nil)) .nil)
    (.cons (.ret (.and (.cmp .eq (.sub (.cell 0) (.int 1)) (.sub (.cell 1) (.int 1))) (.not (.call (.glob (.bi .isinstance)) (.cons (.sub (.cell 1) (.int 1)) (.cons (.glob (.ty .bool)) .nil))))))
    .nil))))
noncomputable def qh:MS:=
    (.cons (.asgComp 2 (.comp (.loc 1) (.ife (.call (.glob (.bi .isinstance)) (.cons (.loc 0) (.cons (.glob (.ty .str)) .nil))) (.tuple (.cons (.str .t_a) (.cons (.mcall (.cell 0) .gV (.cons (.loc 0) .nil)) .nil))) (.loc 0))))
    (.cons (.asg 3 (.tuple (.cons (.str .t_s) (.cons (.mcall (.cell 0) .gu (.cons (.loc 0) (.cons (.call (.glob (.bi .len)) (.cons (.loc 2) .nil)) .nil))) (.cons (.call (.glob (.bi .tuple)) (.cons (.loc 2) .nil)) .nil)))))
    (.cons (.ite (.cmp .eq (.loc 2) (.list .nil)) (.cons (.asg 3 (.tuple (.cons (.str .t_a) (.cons (.mcall (.cell 0) .gV (.cons (.loc 0) .nil)) .nil))))
    .nil) .nil)
    (.cons (.ret (.tuple (.cons (.str .dO) (.cons (.tuple (.cons (.str .t_s) (.cons (.glob (.int 16)) (.cons (.tuple (.cons (.loc 3) (.cons (.tuple (.cons (.str .t_a) (.cons (.glob (.int 25)) .nil))) .nil))) .nil)))) .nil))))
    .nil))))
noncomputable def cM:MS:=
    (.cons (.asgC 1 (.dict0 .I))
    (.cons (.asgComp 3 (.comp (.loc 1) (.mcall (.attr (.cell 0) .b8) .dU (.cons (.loc 0) (.cons (.cell 1) .nil)))))
    (.cons (.expr (.mcall (.cell 0) .gB (.cons (.loc 3) .nil)))
    (.cons (.try (.cons (.asg 4 (.call (.loc 0) (.cons (.cell 0) .nil)))
    .nil) 5 (.cons (.ret (.and (.cmp .eq (.sub (.loc 2) (.int 0)) (.str .dO)) (.call (.glob (.fn .bR)) (.cons (.sub (.loc 2) (.int 1)) (.cons (.attr (.loc 5) .ck) (.cons (.dict0 .I) (.cons (.dict0 .I) .nil)))))))
    .nil))
    (.cons (.ite (.cmp .eq (.sub (.loc 2) (.int 0)) (.str .dO)) (.cons (.ret (.bool false))
    .nil) .nil)
    (.cons (.asg 6 (.dict0 .I))
    (.cons (.for 7 (.sub (.loc 2) (.int 1)) (.cons (.ite (.not (.call (.glob (.fn .cf)) (.cons (.sub (.loc 7) (.int 0)) (.cons (.sub (.loc 7) (.int 1)) (.cons (.loc 6) .nil))))) (.cons (.ret (.not (.loc 4)))
    .nil) .nil)
    .nil))
    (.cons (.ite (.not (.loc 4)) (.cons (.ret (.bool false))
    .nil) .nil)
    (.cons (.asg 8 (.dict0 .I))
    (.cons (.asg 9 (.dict0 .I))
    (.cons (.asg 10 (.dict0 .I))
    (.cons (.for 11 (.call (.glob (.bi .range)) (.cons (.call (.glob (.bi .len)) (.cons (.loc 1) .nil)) .nil)) (.cons (.ite (.not (.call (.glob (.fn .bR)) (.cons (.call (.glob (.fn .cV)) (.cons (.sub (.loc 1) (.loc 11)) (.cons (.loc 6) .nil))) (.cons (.mcall (.attr (.cell 0) .b8) .fI (.cons (.sub (.loc 3) (.loc 11)) (.cons (.loc 8) .nil))) (.cons (.loc 9) (.cons (.loc 10) .nil)))))) (.cons (.ret (.bool false))
    .nil) .nil)
    .nil))
    (.cons (.ret (.bool true))
    .nil)))))))))))))
noncomputable def iU:MS:=
    (.cons (.asg 0 (.call (.glob (.fn .bg)) (.cons (.cell 0) (.cons (.int 4) .nil))))
    (.cons (.ite (.or3 (.cmp .eq (.loc 0) (.int 0)) (.cmp .eq (.cell 2) (.int 0)) (.cmp .eq (.sub (.cell 0) (.int 4)) (.int 0))) (.cons (.asg 1 (.call (.glob (.fn .bg)) (.cons (.cell 0) (.cons (.int 6) .nil))))
    (.cons (.ite (.cmp .lt (.loc 1) (.int 4)) (.cons (.ret (.tuple (.cons (.str .t_v) (.cons (.call (.glob (.fn .bg)) (.cons (.cell 0) (.cons (.int 4) .nil))) .nil))))
    .nil) .nil)
    (.cons (.ret (.ife (.cmp .eq (.loc 1) (.int 4)) (.tuple (.cons (.str .t_i) (.cons (.call (.glob (.fn .bg)) (.cons (.cell 0) (.cons (.int 3) .nil))) .nil))) (.tuple (.cons (.str .t_a) (.cons (.mcall (.cell 1) .gV (.cons (.sub (.list (.cons (.str .n9) (.cons (.str .t_f) .nil))) (.call (.glob (.fn .bg)) (.cons (.cell 0) (.cons (.int 2) .nil)))) .nil)) .nil)))))
    .nil))) .nil)
    (.cons (.setitem (.cell 0) (.int 4) (.bin .sub (.sub (.cell 0) (.int 4)) (.int 1)))
    (.cons (.asg 2 (.ife (.and (.cmp .eq (.loc 0) (.int 2)) (.cmp .eq (.call (.glob (.fn .bg)) (.cons (.cell 0) (.cons (.int 2) .nil))) (.int 0))) (.glob (.int 0)) (.mcall (.cell 1) .gu (.cons (.str .t_f) (.cons (.loc 0) .nil)))))
    (.cons (.ret (.tuple (.cons (.str .t_s) (.cons (.loc 2) (.cons (.call (.glob (.bi .tuple)) (.cons (.comp (.call (.glob (.bi .range)) (.cons (.loc 0) .nil)) (.call (.glob (.fn .fv)) (.cons (.cell 0) (.cons (.cell 1) (.cons (.bin .sub (.cell 2) (.int 1)) .nil))))) .nil)) .nil)))))
    .nil)))))
noncomputable def uY:MS:=
    (.cons (.for 2 (.slRev (.loc 0)) (.cons (.asg 1 (.tuple (.cons (.str .t_s) (.cons (.glob (.int 0)) (.cons (.tuple (.cons (.loc 2) (.cons (.loc 1) .nil))) .nil)))))
    .nil))
    (.cons (.ret (.loc 1))
    .nil))
noncomputable def rA:MS:=
    (.cons (.ite (.and (.cmp .eq (.sub (.loc 0) (.int 0)) (.str .t_v)) (.cmp .notin (.sub (.loc 0) (.int 1)) (.loc 1))) (.cons (.expr (.mcall (.loc 1) .aT (.cons (.sub (.loc 0) (.int 1)) .nil)))
    .nil) .nil)
    (.cons (.ite (.cmp .eq (.sub (.loc 0) (.int 0)) (.str .t_s)) (.cons (.for 2 (.sub (.loc 0) (.int 2)) (.cons (.expr (.call (.glob (.fn .gU)) (.cons (.loc 2) (.cons (.loc 1) .nil))))
    .nil))
    .nil) .nil)
    (.cons (.ret (.loc 1))
    .nil)))
noncomputable def qi:MS:=
    (.cons (.ret (.call (.glob (.fn .bt)) (.cons (.loc 0) .nil)))
    .nil)
noncomputable def cB:MS:=
    (.cons (.asg 1 (.slTo (.loc 0) (.int 63)))
    (.cons (.asg 2 (.list (.cons (.loc 1) (.cons (.int 0) (.cons (.int 0) (.cons (.bin .mul (.bin .mod (.call (.glob (.bi .sum)) (.cons (.loc 1) .nil)) (.int 100003)) (.int 7)) (.cons (.int 4) .nil)))))))
    (.cons (.asg 3 (.call (.glob (.cls .symbols)) .nil))
    (.cons (.asg 4 (.call (.glob (.fn .bg)) (.cons (.loc 2) (.cons (.int 4) .nil))))
    (.cons (.asg 5 (.list .nil))
    (.cons (.for 6 (.call (.glob (.bi .range)) (.cons (.loc 4) .nil)) (.cons (.setitem (.loc 2) (.int 4) (.int 2))
    (.cons (.expr (.mcall (.loc 5) .aT (.cons (.call (.glob (.fn .fv)) (.cons (.loc 2) (.cons (.loc 3) (.cons (.int 2) .nil)))) .nil)))
    .nil)))
    (.cons (.setitem (.loc 2) (.int 4) (.int 4))
    (.cons (.asg 7 (.call (.glob (.fn .fv)) (.cons (.loc 2) (.cons (.loc 3) (.cons (.int 3) .nil)))))
    (.cons (.ite (.and (.cmp .eq (.sub (.loc 7) (.int 0)) (.str .t_s)) (.cmp .eq (.call (.glob (.fn .bg)) (.cons (.loc 2) (.cons (.int 3) .nil))) (.int 0))) (.cons (.asg 7 (.tuple (.cons (.str .t_s) (.cons (.sub (.loc 7) (.int 1)) (.cons (.bin .add (.slTo (.sub (.loc 7) (.int 2)) (.neg (.int 1))) (.tuple (.cons (.tuple (.cons (.str .t_s) (.cons (.glob (.int 11)) (.cons (.tuple (.cons (.tuple (.cons (.str .t_v) (.cons (.int 1) .nil))) (.cons (.tuple (.cons (.str .t_v) (.cons (.int 5) .nil))) .nil))) .nil)))) .nil))) .nil)))))
    .nil) .nil)
    (.cons (.asg 8 (.loc 7))
    (.cons (.for 9 (.slRev (.loc 5)) (.cons (.asg 8 (.tuple (.cons (.str .t_s) (.cons (.glob (.int 11)) (.cons (.tuple (.cons (.loc 9) (.cons (.loc 8) .nil))) .nil)))))
    .nil))
    (.cons (.asgC 0 (.dict0 .I))
    (.cons (.ite (.cmp .eq (.call (.glob (.fn .bg)) (.cons (.loc 2) (.cons (.int 2) .nil))) (.int 0)) (.cons (.setitem (.cell 0) (.call (.glob (.fn .bg)) (.cons (.loc 2) (.cons (.int 4) .nil))) (.tuple (.cons (.str .t_s) (.cons (.mcall (.loc 3) .gu (.cons (.str .t_f) (.cons (.int 2) .nil))) (.cons (.tuple (.cons (.tuple (.cons (.str .t_v) (.cons (.int 6) .nil))) (.cons (.tuple (.cons (.str .t_i) (.cons (.int 1) .nil))) .nil))) .nil)))))
    .nil) .nil)
    (.cons (.asg 8 (.call (.glob (.fn .cV)) (.cons (.loc 8) (.cons (.cell 0) .nil))))
    (.cons (.asg 7 (.call (.glob (.fn .cV)) (.cons (.loc 7) (.cons (.cell 0) .nil))))
    (.cons (.asgComp 5 (.comp (.loc 5) (.call (.glob (.fn .cV)) (.cons (.loc 0) (.cons (.cell 0) .nil)))))
    (.cons (.asg 10 (.list (.cons (.loc 8) (.cons (.tuple (.cons (.str .t_v) (.cons (.int 7) .nil))) (.cons (.tuple (.cons (.str .t_v) (.cons (.int 8) .nil))) .nil)))))
    (.cons (.ite (.cmp .eq (.call (.glob (.fn .bg)) (.cons (.loc 2) (.cons (.int 3) .nil))) (.int 0)) (.cons (.setitem (.loc 10) (.int 1) (.call (.glob (.fn .pe)) (.cons (.list (.cons (.tuple (.cons (.str .t_v) (.cons (.int 9) .nil))) .nil)) (.cons (.tuple (.cons (.str .t_a) (.cons (.glob (.int 0)) .nil))) .nil))))
    .nil) .nil)
    (.cons (.ite (.cmp .eq (.call (.glob (.fn .bg)) (.cons (.loc 2) (.cons (.int 3) .nil))) (.int 0)) (.cons (.setitem (.loc 10) (.int 2) (.tuple (.cons (.str .t_s) (.cons (.mcall (.loc 3) .gu (.cons (.str .t_f) (.cons (.int 1) .nil))) (.cons (.tuple (.cons (.tuple (.cons (.str .t_v) (.cons (.int 9) .nil))) .nil)) .nil)))))
    .nil) .nil)
    (.cons (.ite (.cmp .eq (.loc 4) (.int 0)) (.cons (.asg 11 (.call (.glob (.fn .nK)) (.cons (.loc 3) (.cons (.str .aL) (.cons (.list (.cons (.str .ak) (.cons (.loc 8) .nil))) .nil)))))
    (.cons (.ret (.call (.glob (.fn .dR)) (.cons (.call (.glob (.cls .areas)) (.cons (.loc 3) (.cons (.list .nil) .nil))) (.cons (.glob (.fn .bL)) (.cons (.loc 10) (.cons (.loc 11) .nil))))))
    .nil)) .nil)
    (.cons (.asgC 1 (.list .nil))
    (.cons (.for 9 (.loc 5) (.cons (.expr (.call (.glob (.fn .gU)) (.cons (.loc 9) (.cons (.cell 1) .nil))))
    .nil))
    (.cons (.asgComp 12 (.compIf (.call (.glob (.fn .gU)) (.cons (.loc 7) (.cons (.list .nil) .nil))) (.cmp .notin (.loc 0) (.cell 1)) (.tuple (.cons (.str .t_v) (.cons (.loc 0) .nil)))))
    (.cons (.asg 11 (.tuple (.cons (.str .iz) (.cons (.list (.cons (.tuple (.cons (.sub (.loc 10) (.int 1)) (.cons (.call (.glob (.fn .pe)) (.cons (.loc 12) (.cons (.tuple (.cons (.str .t_a) (.cons (.glob (.int 0)) .nil))) .nil))) .nil))) (.cons (.tuple (.cons (.sub (.loc 10) (.int 2)) (.cons (.loc 7) .nil))) .nil))) .nil))))
    (.cons (.ret (.call (.glob (.fn .dR)) (.cons (.call (.glob (.cls .areas)) (.cons (.loc 3) (.cons (.list .nil) .nil))) (.cons (.glob (.fn .bL)) (.cons (.loc 10) (.cons (.loc 11) .nil))))))
    .nil)))))))))))))))))))))))))
structure FE where
  nl:Nat
  nc:Nat
  params:List (Bool×Nat)
  dfl:List V
  body:MS
noncomputable def fe (f:Fn):FE:=nth ⟨0,0,[],[],.nil⟩ [⟨2,0,[(false,0),(false,1)],[],iS⟩,⟨0,0,[],[],mZ⟩,⟨0,0,[],[],jV⟩,⟨3,0,[(false,0)],[],lV⟩,⟨4,0,[(false,0),(false,1)],[],lT⟩,⟨6,0,[(false,0),(false,1),(false,2)],[],jo⟩,⟨3,0,[(false,0),(false,1),(false,2)],[],lU⟩,⟨2,0,[(false,0),(false,1)],[],kT⟩,⟨1,0,[(false,0)],[],lY⟩,⟨5,0,[(false,0),(false,1),(false,2)],[],qg⟩,⟨3,0,[(false,0),(false,1),(false,2)],[],oK⟩,⟨3,0,[(false,0),(false,1),(false,2)],[.int 100000],oE⟩,⟨3,0,[(false,0),(false,1)],[],oF⟩,⟨2,0,[(false,0)],[],kR⟩,⟨4,0,[(false,0),(false,1)],[],kS⟩,⟨4,0,[(false,0),(false,1)],[],mW⟩,⟨4,0,[(false,0),(false,1),(false,2)],[],oD⟩,⟨3,0,[(false,0),(false,1),(false,2)],[],jl⟩,⟨3,0,[(false,0),(false,1)],[],jm⟩,⟨2,0,[(false,0),(false,1)],[],iF⟩,⟨3,0,[(false,0),(false,1)],[],iR⟩,⟨3,0,[(false,0),(false,1)],[],mX⟩,⟨2,0,[(false,0),(false,1)],[],oB⟩,⟨3,0,[(false,0),(false,1),(false,2)],[],qf⟩,⟨3,0,[(false,0),(false,1)],[],jn⟩,⟨9,0,[(false,0),(false,1),(false,2)],[.none],fo⟩,⟨12,0,[(false,0),(false,1),(false,2)],[],bW⟩,⟨13,0,[(false,0),(false,1),(false,2)],[],bG⟩,⟨2,0,[(false,0),(false,1)],[],lS⟩,⟨4,0,[(false,0),(false,1),(false,2)],[],mY⟩,⟨5,0,[(false,0),(false,1),(false,2)],[],jW⟩,⟨7,0,[(false,0),(false,1),(false,2),(false,3)],[],oH⟩,⟨3,0,[(false,0),(false,1),(false,2)],[],oJ⟩,⟨1,0,[(false,0)],[],m7⟩,⟨8,0,[(false,0),(false,1),(false,2),(false,3)],[],ie⟩,⟨4,0,[(false,0),(false,1),(false,2),(false,3)],[],lW⟩,⟨5,0,[(false,0),(false,1),(false,2)],[],eG⟩,⟨6,0,[(false,0),(false,1)],[],eH⟩,⟨7,0,[(false,0)],[],bz⟩,⟨2,0,[(false,0),(false,1)],[],rz⟩,⟨6,0,[(false,0),(false,1),(false,2),(false,3),(false,4),(false,5)],[.int 100000,.bool true,.int 4096],oz⟩,⟨1,0,[(false,0)],[],mT⟩,⟨3,0,[(false,0),(false,1),(false,2)],[],mU⟩,⟨4,0,[(false,0),(false,1)],[],gD⟩,⟨2,0,[(false,0),(false,1)],[],qe⟩,⟨3,0,[(false,0),(false,1),(false,2)],[],mV⟩,⟨2,0,[(false,0),(false,1)],[],oA⟩,⟨4,0,[(false,0),(false,1)],[],rB⟩,⟨2,0,[(false,0),(false,1)],[],uX⟩,⟨1,2,[(true,0),(false,0),(true,1)],[],jq⟩,⟨4,0,[(false,0),(false,1),(false,2)],[],bU⟩,⟨1,1,[(false,0),(true,0)],[],lX⟩,⟨0,4,[(true,0),(true,1),(true,2),(true,3)],[],di⟩,⟨4,1,[(true,0),(false,0),(false,1)],[],qh⟩,⟨12,2,[(true,0),(false,0),(false,1),(false,2)],[],cM⟩,⟨3,3,[(true,0),(true,1),(true,2)],[],iU⟩,⟨3,0,[(false,0),(false,1)],[],uY⟩,⟨3,0,[(false,0),(false,1)],[],rA⟩,⟨1,0,[(false,0)],[],qi⟩,⟨13,2,[(false,0)],[],cB⟩] f.1
noncomputable def cU (n:Nat) (dfl args:List V):List V:=args++dfl.drop (dfl.length - (n - args.length))
noncomputable def oM:List (Bool×Nat)->List V->Fr->Fr
  |[],_,fr=>fr
  |p::ps,vs,fr=>match vs with
    |[]=>fr
    |v::vs=>oM ps vs (cond p.1 (fr.sd p.2 v) (fr.put p.2 v))
noncomputable def frameOf (i:FE) (args:List V):Fr:=oM i.params (cU i.params.length i.dfl args) ⟨List.replicate i.nl none,List.replicate i.nc none⟩
noncomputable def af (W:Nat):Nat->Bool->aD
  |0,_,_,_,_=>none
  |n+1,hs,f,args,σ=>gd (decide ((cU (fe f).params.length (fe f).dfl args).length=(fe f).params.length))
      (bh (evS (af W n) W hs (fe f).body (frameOf (fe f) args) σ) fun q=>match q.1 with
      |.ret v=>some (.ok v,q.2.2)
      |.nxt=>some (.ok .none,q.2.2)
      |.err x=>some (.error x,q.2.2)
      |.cnt=>none)
noncomputable def Di (t:Tx):String:=nth "" ["a","->","|","{}","call","^","catch",",","!","-->",".","","end_of_file","=","error","f","fail","false","holds","i","memory","-",":-","[]","\\+","+","?-","read","s",";","/","*","system","template","throw","true","type_error","v","$VAR"] t.1
noncomputable def C2 (m:Nm):String:=nth "" ["add","append","arg","arity","atom","atom_numbers","b","b0","bags","ball","base","bb","bind","bind_pair","build_list","code","collect_wanted","cp","deref","e","func","functor","functor_numbers","functor_of","functors","get","globalise","guard","hb","heap","is_compound","max_bits","max_heap","met","mode","new_block","new_var","occurs","p","pop","push","put_term","reserve","reset","roots","s","set_arguments","set_x","span","stack","store","symbols","take","take_term","texts","trail","unify","width","x"] m.1
structure FC where
  addr:Addr
  locs:List String
  cells:List String
noncomputable def fc (f:Fn):FC:=nth ⟨0,[],[]⟩ [⟨48,["self","ball"],[]⟩,⟨60,[],[]⟩,⟨67,[],[]⟩,⟨81,["self","text","row"],[]⟩,⟨88,["self","text","found","number"],[]⟩,⟨102,["self","atom","arity","key","found","number"],[]⟩,⟨109,["self","text","arity"],[]⟩,⟨123,["self","functor"],[]⟩,⟨165,["formal"],[]⟩,⟨172,["symbols","name","parts","args","part"],[]⟩,⟨179,["symbols","kind","culprit"],[]⟩,⟨202,["self","symbols","max_heap"],[]⟩,⟨209,["self","cell","address"],[]⟩,⟨216,["self","cell"],[]⟩,⟨223,["self","count","first","step"],[]⟩,⟨237,["self","cell","tag","found"],[]⟩,⟨251,["self","cell","value","place"],[]⟩,⟨258,["self","c1","c2"],[]⟩,⟨265,["self","cell","fresh"],[]⟩,⟨293,["self","cell"],[]⟩,⟨300,["self","cell","tag"],[]⟩,⟨307,["self","cell","tag"],[]⟩,⟨314,["self","cell"],[]⟩,⟨321,["self","cell","i"],[]⟩,⟨328,["self","f","start"],[]⟩,⟨357,["self","cells","tail","end","values","cell","start","place","value"],[]⟩,⟨371,["self","term","table","k","kind","made","waiting","at","place","items","item","inner"],[]⟩,⟨378,["self","cell","table","known","results","work","what","f","first","term","tag","place","step"],[]⟩,⟨397,["self","store"],[]⟩,⟨404,["self","left","right","number"],[]⟩,⟨418,["store","cell","work","place","step"],[]⟩,⟨425,["store","left","right","work","left_place","right_place","step"],[]⟩,⟨432,["store","left","right"],[]⟩,⟨439,["cell"],[]⟩,⟨446,["store","c1","c2","occurs","met","work","left","right"],[]⟩,⟨453,["store","variable","value","occurs"],[]⟩,⟨460,["store","variable","cell","met","work"],[]⟩,⟨467,["store","cell","found","noted","met","work"],[]⟩,⟨474,["m","store","pair","bound","goal","cell","free"],[]⟩,⟨481,["store","cell"],[]⟩,⟨496,["self","symbols","code","max_heap","occurs","max_bits"],[]⟩,⟨503,["self"],[]⟩,⟨510,["self","number","cell"],[]⟩,⟨517,["self","cells","number","cell"],[]⟩,⟨524,["self","i"],[]⟩,⟨531,["self","c1","c2"],[]⟩,⟨538,["self","cell"],[]⟩,⟨650,["hand","limit","number","digit"],[]⟩,⟨657,["tree","bound"],[]⟩,⟨662,["tree"],["number","bound"]⟩,⟨669,["left","right","bound","place"],[]⟩,⟨674,["tree"],["bound"]⟩,⟨679,[],["left","right","there","back"]⟩,⟨684,["kind","parts","row","formal"],["names"]⟩,⟨689,["pred","sides","due","places","told","error","bound","pair","seen","there","back","place"],["machine","table"]⟩,⟨694,["arity","kind","shape"],["hand","names","depth"]⟩,⟨701,["parts","end","part"],[]⟩,⟨708,["tree","found","part"],[]⟩,⟨715,["machine"],[]⟩,⟨720,["script","cells","hand","names","count","fronts","_","goal","whole","front","sides","due","found"],["bindings","taken"]⟩] f.1
noncomputable def a9:Cl ()->Addr
  |.symbols=>154
  |.store=>381
  |.pairset=>407
  |.areas=>639
  |.perr=>51
theorem CY {P:Prop} {ob:O} {m:Nm} {me:Me} (h:xu ob m=some me) (k0:∀ c as f,ob=.inst c as->cS c m=some f->.fn f=me->P) (k1:∀ xs,ob=.list xs->m=.aT->.append=me->P) (k2:∀ xs,ob=.list xs->m=.gZ->.pop=me->P)
    (k3:(∃ xs,ob=.dI xs\/∃ ys,ob=.dS ys\/∃ zs,ob=.dP zs)->m=.iP->.get=me->P) (k4:∀ xs,ob=.set xs->m=.kL->.add=me->P):P:=by
  cases ob with
  |inst c as=>exact (Option.map_eq_some_iff.mp h).elim fun f q=>k0 c as f rfl q.1 q.2
  |list xs=>exact rV h (fun q e=>k1 xs rfl q (Option.some.inj e)) fun h=>rV h (fun q e=>k2 xs rfl q (Option.some.inj e)) no
  |dI xs=>exact rV h (fun q e=>k3 ⟨xs,.inl rfl⟩ q (Option.some.inj e)) no
  |dS xs=>exact rV h (fun q e=>k3 ⟨[],.inr ⟨xs,.inl rfl⟩⟩ q (Option.some.inj e)) no
  |dP xs=>exact rV h (fun q e=>k3 ⟨[],.inr ⟨[],.inr ⟨xs,rfl⟩⟩⟩ q (Option.some.inj e)) no
  |set xs=>exact rV h (fun q e=>k4 xs rfl q (Option.some.inj e)) no
  |exc=>exact no h
theorem l7 {β:Type} {P:Prop} {r:β} {o:fR} {f:Fl×Fr×St->Option β} (h:bh o f=some r) (k:∀ fl fr σ,o=some (fl,fr,σ)->f (fl,fr,σ)=some r->P):P:=aR h fun q=>k q.1 q.2.1 q.2.2
theorem d7 {β:Type} {P:Prop} {x:V} {a b:Option β} {r:β} (h:onB x (fun t=>sel t a b)=some r) (k1:x=.bool true->a=some r->P) (k2:x=.bool false->b=some r->P):P:=
  uu h fun t e h=>by
    cases t with
    |true=>exact k1 e h
    |false=>exact k2 e h
theorem nB {n:Nat} {p:Fin n->Bool} (h:(List.finRange n).all p=true) (i:Fin n):p i=true:=List.all_eq_true.mp h i (List.mem_finRange i)
theorem tS {α:Type} {n:Nat} {f g:Fin n->α} (h:(List.finRange n).map f=(List.finRange n).map g) (i:Fin n):f i=g i:=List.map_inj_left.mp h i (List.mem_finRange i)
structure OA where
  a:Nat
  d:Nat
noncomputable def own (θ:List OA) (b:Nat):Prop:=∃ p∈θ,b=p.a\/b=p.d
noncomputable def uK:Ty ()->String
  |.str=>"str"
  |.bool=>"bool"
noncomputable def qk:Bi ()->Value
  |.len=>.builtin "len"
  |.range=>.type "range"
  |.list=>.type "list"
  |.tuple=>.type "tuple"
  |.set=>.type "set"
  |.isinstance=>.builtin "isinstance"
  |.sum=>.builtin "sum"
noncomputable abbrev tx (t:Tx):Str:=Str.ofString (Di t)
noncomputable abbrev nmS (m:Nm):Str:=Str.ofString (C2 m)
mutual
inductive R (θ:List OA) (h:Heap):V->Value->Prop
  |none:R θ h .none .none
  |bool (b:Bool):R θ h (.bool b) (.bool b)
  |int (i:Int) (t:Tok):R θ h (.int i) (.int i t)
  |str (x:Tx) (t:Tok):R θ h (.str x) (.str (tx x) t)
  |tup {xs:List V} {a:Addr} {vs:List Value} {n:Nat} (ht:IsT h a vs.toArray n) (ho:¬ own θ a) (hl:vs.length<=2000000) (hr:RL θ h xs vs):R θ h (.tup xs) (.ref a)
  |ref {n:Nat} {p:OA} (hp:θ[n]?=some p):R θ h (.ref n) (.ref p.a)
  |fn (f:Fn):R θ h (.fn f) (.ref (fc f).addr)
  |cls (c:Cl ()):R θ h (.cls c) (.ref (a9 c))
  |ty (t:Ty ()):R θ h (.ty t) (.type (uK t))
  |bi (b:Bi ()):R θ h (.bi b) (qk b)
  |rng {a b c:Int} {r:Addr} {t u v:Tok} (hr:IsRange h r a b c t u v) (ho:¬ own θ r) (hs:Builtin.Range.small a b c=true) (hc:c=1\/c=-1):R θ h (.rng a b c) (.ref r)
inductive RL (θ:List OA) (h:Heap):List V->List Value->Prop
  |nil:RL θ h [] []
  |cons {x:V} {xs:List V} {v:Value} {vs:List Value} (h1:R θ h x v) (h2:RL θ h xs vs):RL θ h (x::xs) (v::vs)
end
noncomputable def zN (T:String):Bool:=["list_iterator","tuple_iterator","range_iterator","traceback"].contains T
noncomputable def gR (o:Obj):Prop:=(∃ v,o.data=.cell v)\/(∃ es ep,o.data=.dict es ep)\/(∃ fs T,o.data=.fields fs/\o.cls=.type T/\zN T=true)
noncomputable def ExcAt (h:Heap) (b:Nat):Prop:=∃ o fs,h.get? b=some o/\o.cls=.ref 51/\o.data=.fields fs/\fs[2]?=some .none
noncomputable def Above (h:Heap) (a:Nat):Prop:=∀ (b:Nat) (o:Obj),h.get? b=some o->b<a
structure Ext (W:Addr->Prop) (θ:List OA) (h:Heap) (θ':List OA) (h':Heap):Prop where
  pre:∃ l,θ'=θ++l/\∀ p∈l,Above h p.a/\Above h p.d
  keep:∀ b o,¬ own θ b->h.get? b=some o->h'.get? b=some o\/(W b/\gR o)\/(∃ es ep sl,o.data=.dict es ep/\h'.get? b=some { o with slots:=sl })
  live:∀ (b:Nat) (o:Obj),h.get? b=some o->∃ o',h'.get? b=some o'
  exc:∀ b,ExcAt h b->ExcAt h' b
noncomputable def noW:Addr->Prop:=fun _=>False
structure je (W:Addr->Prop) (θ:List OA) (h:Heap) (θ':List OA) (h':Heap):Prop where
  pre:∃ l,θ'=θ++l/\∀ p∈l,Above h p.a/\Above h p.d
  keep:∀ b o,¬ own θ b->h.get? b=some o->h'.get? b=some o\/(W b/\gR o)\/(∃ es ep sl,o.data=.dict es ep/\h'.get? b=some { o with slots:=sl })
theorem Ext.e0 {W:Addr->Prop} {θ θ':List OA} {h h':Heap} (x:Ext W θ h θ' h'):je W θ h θ' h':=⟨x.pre,x.keep⟩
theorem r9 {θ l:List OA} {b:Addr}:own (θ++l) b↔own θ b\/own l b:=by
  unfold own
  constructor
  · rintro ⟨p,hp,q⟩
    rcases List.mem_append.mp hp with hp | hp
    · exact .inl ⟨p,hp,q⟩
    · exact .inr ⟨p,hp,q⟩
  · rintro (⟨p,hp,q⟩ | ⟨p,hp,q⟩)
    · exact ⟨p,List.mem_append_left _ hp,q⟩
    · exact ⟨p,List.mem_append_right _ hp,q⟩
theorem Above.back {h h':Heap} (l:∀ (b:Nat) (o:Obj),h.get? b=some o->∃ o',h'.get? b=some o') {a:Nat} (x:Above h' a):Above h a:=fun b o e=>by
  refine E10 (l b o e) fun o' e'=>?_
  exact x b o' e'
theorem Above.size (h:Heap):Above h h.objs.size:=fun _ _ e=>Heap.lt_size e
theorem Above.mono {h:Heap} {a b:Nat} (x:Above h a) (l:a<=b):Above h b:=fun c o e=>Nat.lt_of_lt_of_le (x c o e) l
theorem Ext.refl (W:Addr->Prop) (θ:List OA) (h:Heap):Ext W θ h θ h:=⟨⟨[],by simp,fun _ hp=>nomatch hp⟩,fun _ _ _ e=>.inl e,fun _ o e=>⟨o,e⟩,fun _ e=>e⟩
theorem je.bH {W:Addr->Prop} {θ θ':List OA} {h h':Heap} (x:je W θ h θ' h') {b:Nat} {o:Obj} (hb:h.get? b=some o) (hn:¬ own θ b):¬ own θ' b:=by
  refine E11 x.pre fun l z1 hl=>?_
  subst z1
  intro q
  rcases r9.mp q with q | ⟨p,hp,q⟩
  · exact hn q
  · have ⟨h1,h2⟩:=hl p hp
    have h1:=h1 b o hb
    have h2:=h2 b o hb
    rcases q with q | q<;>lia
theorem je.get {W:Addr->Prop} {θ θ':List OA} {h h':Heap} (x:je W θ h θ' h') {n:Nat} {p:OA} (hp:θ[n]?=some p):θ'[n]?=some p:=by
  refine E11 x.pre fun l z1 _=>?_
  subst z1
  rw [List.getElem?_append_left (List.getElem?_eq_some_iff.mp hp).1];exact hp
theorem Ext.bH {W:Addr->Prop} {θ θ':List OA} {h h':Heap} (x:Ext W θ h θ' h') {b:Nat} {o:Obj} (hb:h.get? b=some o) (hn:¬ own θ b):¬ own θ' b:=x.e0.bH hb hn
theorem Ext.get {W:Addr->Prop} {θ θ':List OA} {h h':Heap} (x:Ext W θ h θ' h') {n:Nat} {p:OA} (hp:θ[n]?=some p):θ'[n]?=some p:=x.e0.get hp
theorem Ext.mono {W W':Addr->Prop} {θ θ':List OA} {h h':Heap} (x:Ext W θ h θ' h') (hW:∀ b,W b->W' b):Ext W' θ h θ' h':=
  ⟨x.pre,fun b o hn e=>(x.keep b o hn e).imp id (Or.imp (fun q=>⟨hW _ q.1,q.2⟩) id),x.live,x.exc⟩
theorem Ext.trans {W:Addr->Prop} {θ θ' θ'':List OA} {h h' h'':Heap} (x:Ext W θ h θ' h') (y:Ext W θ' h' θ'' h''):Ext W θ h θ'' h'':=by
  refine ⟨?_,fun b o hn e=>?_,fun b o e=>?_,fun b e=>y.exc b (x.exc b e)⟩
  · refine E11 x.pre fun l z1 hl=>?_
    subst z1
    refine E11 y.pre fun l' z1 hl'=>?_
    subst z1
    refine ⟨l++l',by simp,fun p hp=>?_⟩
    rcases List.mem_append.mp hp with hp | hp
    · exact hl p hp
    · exact ⟨(hl' p hp).1.back x.live,(hl' p hp).2.back x.live⟩
  · have hn':=x.bH e hn
    rcases x.keep b o hn e with q | ⟨q,f⟩ | ⟨es,ep,sl,hd,q⟩
    · exact y.keep b o hn' q
    · exact .inr (.inl ⟨q,f⟩)
    · rcases y.keep b _ hn' q with r | ⟨r,f⟩ | ⟨es',ep',sl',hd',r⟩
      · exact .inr (.inr ⟨es,ep,sl,hd,r⟩)
      · refine .inr (.inl ⟨r,?_⟩)
        exact .inr (.inl ⟨es,ep,hd⟩)
      · exact .inr (.inr ⟨es,ep,sl',hd,r⟩)
  · refine E10 (x.live b o e) fun o' e'=>?_
    exact y.live b o' e'
theorem je.exact {W:Addr->Prop} {θ θ':List OA} {h h':Heap} (x:je W θ h θ' h') {b:Addr} {o:Obj} (hn:¬ own θ b) (e:h.get? b=some o)
    (h1:∀ v,o.data≠.cell v) (h2:∀ es ep,o.data≠.dict es ep) (h3:∀ fs T,o.data=.fields fs->o.cls=.type T->zN T=false):h'.get? b=some o:=by
  rcases x.keep b o hn e with q | ⟨_,⟨v,f⟩ | ⟨es,ep,f⟩ | ⟨fs,T,f,g,k⟩⟩ | ⟨es,ep,_,hd,_⟩
  · exact q
  · exact absurd f (h1 v)
  · exact absurd f (h2 es ep)
  · rw [h3 fs T f g] at k;exact nof k
  · exact absurd hd (h2 es ep)
theorem Ext.exact {W:Addr->Prop} {θ θ':List OA} {h h':Heap} (x:Ext W θ h θ' h') {b:Addr} {o:Obj} (hn:¬ own θ b) (e:h.get? b=some o)
    (h1:∀ v,o.data≠.cell v) (h2:∀ es ep,o.data≠.dict es ep) (h3:∀ fs T,o.data=.fields fs->o.cls=.type T->zN T=false):h'.get? b=some o:=x.e0.exact hn e h1 h2 h3
theorem R.cy {W:Addr->Prop} {θ θ':List OA} {h h':Heap} (x:je W θ h θ' h') {v:V} {w:Value} (r:R θ h v w):R θ' h' v w:=
  R.rec (motive_1:=fun v w _=>R θ' h' v w) (motive_2:=fun v w _=>RL θ' h' v w) .none .bool .int .str
    (fun ht ho hl _ r=>.tup (x.exact ho ht (by simp) (by simp) (by simp)) (x.bH ht ho) hl r) (fun hp=>.ref (x.get hp)) .fn .cls .ty .bi
    (fun hr ho hs hc=>.rng (x.exact ho hr (by simp) (by simp) (fun _ T _ q=>by cases q;decide)) (x.bH hr ho) hs hc) .nil (fun _ _ a b=>.cons a b) r
theorem R.mono {W:Addr->Prop} {θ θ':List OA} {h h':Heap} (x:Ext W θ h θ' h') {v:V} {w:Value} (r:R θ h v w):R θ' h' v w:=r.cy x.e0
theorem RL.ind {θ:List OA} {h:Heap} {M:List V->List Value->Prop} {xs:List V} {vs:List Value} (r:RL θ h xs vs) (n:M [] []) (c:∀ {x v xs vs},R θ h x v->RL θ h xs vs->M xs vs->M (x::xs) (v::vs)):M xs vs:=
  RL.rec (motive_1:=fun _ _ _=>True) (motive_2:=fun xs vs _=>M xs vs) trivial (fun _=>trivial) (fun _ _=>trivial) (fun _ _=>trivial) (fun _ _ _ _ _=>trivial) (fun _=>trivial) (fun _=>trivial) (fun _=>trivial) (fun _=>trivial) (fun _=>trivial) (fun _ _ _ _=>trivial) n (fun a b _ d=>c a b d) r
section
variable {θ:List OA} {h:Heap} {xs ys:List V} {vs ws:List Value}
theorem RL.cy {W:Addr->Prop} {θ':List OA} {h':Heap} (x:je W θ h θ' h') (r:RL θ h xs vs):RL θ' h' xs vs:=RL.ind r .nil fun a _ b=>.cons (a.cy x) b
theorem RL.mono {W:Addr->Prop} {θ':List OA} {h':Heap} (x:Ext W θ h θ' h') (r:RL θ h xs vs):RL θ' h' xs vs:=r.cy x.e0
theorem RL.length (r:RL θ h xs vs):xs.length=vs.length:=RL.ind (M:=fun xs vs=>xs.length=vs.length) r rfl fun _ _ e=>congrArg (·+1) e
theorem RL.append (r:RL θ h xs vs) (q:RL θ h ys ws):RL θ h (xs++ys) (vs++ws):=RL.ind (M:=fun xs vs=>RL θ h (xs++ys) (vs++ws)) r q fun a _ b=>.cons a b
theorem RL.at (r:RL θ h xs vs):∀ {i:Nat} {x:V},xs[i]?=some x->∃ v,vs[i]?=some v/\R θ h x v:=
  RL.ind (M:=fun xs vs=>∀ {i:Nat} {x:V},xs[i]?=some x->∃ v,vs[i]?=some v/\R θ h x v) r (fun e=>by simp at e) fun a _ b i x e=>by
    cases i with
    |zero=>exact ⟨_,rfl,Option.some.inj e▸a⟩
    |succ i=>exact b (i:=i) e
theorem RL.set (r:RL θ h xs vs) {x:V} {v:Value} (q:R θ h x v):∀ {i:Nat},RL θ h (xs.set i x) (vs.set i v):=
  RL.ind (M:=fun xs vs=>∀ {i:Nat},RL θ h (xs.set i x) (vs.set i v)) r .nil fun a b c i=>by
    cases i with
    |zero=>exact .cons q b
    |succ i=>exact .cons a c
theorem RL.take (r:RL θ h xs vs):∀ i:Nat,RL θ h (xs.take i) (vs.take i):=
  RL.ind (M:=fun xs vs=>∀ i:Nat,RL θ h (xs.take i) (vs.take i)) r (fun i=>by rw [List.take_nil,List.take_nil];exact .nil) fun a _ c i=>by
    cases i with
    |zero=>exact .nil
    |succ i=>exact .cons a (c i)
theorem RL.drop (r:RL θ h xs vs):∀ i:Nat,RL θ h (xs.drop i) (vs.drop i):=
  RL.ind (M:=fun xs vs=>∀ i:Nat,RL θ h (xs.drop i) (vs.drop i)) r (fun i=>by rw [List.drop_nil,List.drop_nil];exact .nil) fun a b c i=>by
    cases i with
    |zero=>exact .cons a b
    |succ i=>exact c i
theorem RL.reverse (r:RL θ h xs vs):RL θ h xs.reverse vs.reverse:=
  RL.ind (M:=fun xs vs=>RL θ h xs.reverse vs.reverse) r .nil fun a _ c=>by rw [List.reverse_cons,List.reverse_cons];exact c.append (.cons a .nil)
end
theorem RL.one {θ:List OA} {h:Heap} {x:V} {v:Value} (r:R θ h x v):RL θ h [x] [v]:=.cons r .nil
inductive RK {α κ:Type} (k:α->κ) (θ:List OA) (h:Heap):List (α×V)->List (κ×Value)->Prop
  |nil:RK k θ h [] []
  |cons {a:α} {x:V} {v:Value} {r:List (α×V)} {s:List (κ×Value)} (h1:R θ h x v) (h2:RK k θ h r s):RK k θ h ((a,x)::r) ((k a,v)::s)
theorem RK.cy {α κ:Type} {k:α->κ} {W:Addr->Prop} {θ θ':List OA} {h h':Heap} (x:je W θ h θ' h') {r:List (α×V)} {s:List (κ×Value)} (q:RK k θ h r s):RK k θ' h' r s:=by
  induction q with
  |nil=>exact .nil
  |cons h1 _ ih=>exact .cons (h1.cy x) ih
theorem RK.mono {α κ:Type} {k:α->κ} {W:Addr->Prop} {θ θ':List OA} {h h':Heap} (x:Ext W θ h θ' h') {r:List (α×V)} {s:List (κ×Value)} (q:RK k θ h r s):RK k θ' h' r s:=q.cy x.e0
theorem RK.length {α κ:Type} {k:α->κ} {θ:List OA} {h:Heap} {r:List (α×V)} {s:List (κ×Value)} (q:RK k θ h r s):r.length=s.length:=by
  induction q with
  |nil=>rfl
  |cons _ _ ih=>exact congrArg (·+1) ih
inductive RP (θ:List OA) (h:Heap):List ((Int×Int)×V)->List (List Int×Addr×Value)->Prop
  |nil:RP θ h [] []
  |cons {a b:Int} {x:V} {ka:Addr} {v:Value} {r:List ((Int×Int)×V)} {s:List (List Int×Addr×Value)} (hn:¬ own θ ka) (h1:R θ h x v) (h2:RP θ h r s):RP θ h (((a,b),x)::r) (([a,b],ka,v)::s)
inductive RA (θ:List OA) (h:Heap):List (Nm×V)->List DictEntry->Prop
  |nil:RA θ h [] []
  |cons {m:Nm} {x:V} {hs:Int} {t:Tok} {v:Value} {r:List (Nm×V)} {s:List DictEntry} (h1:R θ h x v) (h2:RA θ h r s):RA θ h ((m,x)::r) (⟨hs,.str (nmS m) t,v⟩::s)
theorem RA.cy {W:Addr->Prop} {θ θ':List OA} {h h':Heap} (x:je W θ h θ' h') {r:List (Nm×V)} {s:List DictEntry} (q:RA θ h r s):RA θ' h' r s:=by
  induction q with
  |nil=>exact .nil
  |cons h1 _ ih=>exact .cons (h1.cy x) ih
theorem RA.mono {W:Addr->Prop} {θ θ':List OA} {h h':Heap} (x:Ext W θ h θ' h') {r:List (Nm×V)} {s:List DictEntry} (q:RA θ h r s):RA θ' h' r s:=q.cy x.e0
theorem RA.length {θ:List OA} {h:Heap} {r:List (Nm×V)} {s:List DictEntry} (q:RA θ h r s):r.length=s.length:=by
  induction q with
  |nil=>rfl
  |cons _ _ ih=>exact congrArg (·+1) ih
noncomputable abbrev iK (w:World):=intKind pw w
noncomputable abbrev sK (w:World):=PySem.strKind pw w
noncomputable abbrev tK (w:World):=tupleKind (intKind pw w)
noncomputable def kU (c:Cl ()):Bool:=match c with|.perr=>false|_=>true
noncomputable def OR (w:World) (θ:List OA) (h:Heap) (p:OA):O->Prop
  |.list xs=>∃ vs n,IsL h p.a vs.toArray n/\RL θ h xs vs/\p.d=p.a/\xs.length<=1000000
  |.dI kvs=>∃ s,h.DictOf (iK w) p.a s/\RK id θ h kvs s/\p.d=p.a/\kvs.length<=1000000
  |.dS kvs=>∃ s,h.DictOf (sK w) p.a s/\RK tx θ h kvs s/\p.d=p.a/\kvs.length<=1000000
  |.dP kvs=>∃ s,h.DictOfH (tK w) p.a s/\RP θ h kvs s/\p.d=p.a/\kvs.length<=1000000
  |.set xs=>∃ n,h.SetOf (iK w) p.a (fun k=>decide (k∈xs)) n/\n<=xs.length/\p.d=p.a
  |.inst c as=>∃ es n,h.get? p.a=some (instObj (a9 c) p.d)/\h.get? p.d=some { cls:=.type "dict",data:=.dict es n }/\RA θ h as es.toList/\as.length<=40/\kU c=true/\∀ kv∈as,cS c kv.1=none
  |.exc x pr=>∃ fs es n v,h.get? p.a=some { cls:=.ref 51,dict:=some p.d,data:=.fields fs }/\h.get? p.d=some { cls:=.type "dict",data:=.dict es n }/\lookIn (nmS .ck) { cls:=.type "dict",data:=.dict es n }=some (some v)/\R θ h x v/\
      (pr=true->∃ t,fs=#[.ref t,.none,.none,.none,.bool false,.none])/\fs[2]?=some .none
structure Inv (w:World) (h₁:Heap) (θ:List OA) (σ:St) (h:Heap):Prop where
  base:∀ b o,h₁.get? b=some o->h.get? b=some o
  len:θ.length=σ.length
  obj:∀ (n:Nat) (o:O) (p:OA),σ[n]?=some o->θ[n]?=some p->OR w θ h p o
  lo:∀ p∈θ,Above h₁ p.a/\Above h₁ p.d
  sep:∀ (i j:Nat) (p q:OA),θ[i]?=some p->θ[j]?=some q->(p.a=q.a\/p.a=q.d\/p.d=q.a\/p.d=q.d)->i=j
theorem iO {h:Heap} {a:Nat} {o:Obj} (e:h.get? a=some o):a<h.objs.size:=Heap.lt_size e
noncomputable def eQ (h h':Heap) (a:Addr):Prop:=∀ o,h.get? a=some o->h'.get? a=some o
noncomputable def Keeps (h h':Heap):Prop:=∀ b o,h.get? b=some o->h'.get? b=some o
theorem Ext.of_keeps {W:Addr->Prop} {θ:List OA} {h h':Heap} (k:Keeps h h'):Ext W θ h θ h':=
  ⟨⟨[],by simp,fun _ hp=>nomatch hp⟩,fun _ _ _ e=>.inl (k _ _ e),fun b o e=>⟨o,k b o e⟩,fun b ⟨o,fs,e,r⟩=>⟨o,fs,k b o e,r⟩⟩
theorem Keeps.push (h:Heap) (o:Obj):Keeps h (h.push o):=fun _ _ e=>Heap.get?_push_of_some o e
theorem Keeps.trans {h h' h'':Heap} (x:Keeps h h') (y:Keeps h' h''):Keeps h h'':=fun b o e=>y b o (x b o e)
theorem Ext.push {W:Addr->Prop} {θ:List OA} {h:Heap} (o:Obj):Ext W θ h θ (h.push o):=.of_keeps (.push h o)
theorem j9 {h h':Heap} {a:Nat} (hs:Heap.SameBut a h h') (ha:∃ o,h'.get? a=some o) (b:Nat) (o:Obj) (e:h.get? b=some o):∃ o',h'.get? b=some o':=by
  by_cases q:b=a
  · subst q;exact ha
  · exact ⟨o,(hs.2 b q).trans e⟩
theorem qB {h h':Heap} {a:Nat} (hs:Heap.SameBut a h h') (hf:¬ ExcAt h a) (b:Nat) (e:ExcAt h b):ExcAt h' b:=by
  by_cases q:b=a
  · subst q;exact absurd e hf
  · refine E21 e fun o fs e1 r=>?_
    exact ⟨o,fs,(hs.2 b q).trans e1,r⟩
theorem dM {h:Heap} {a:Nat} {o:Obj} (e:h.get? a=some o) (hf:∀ fs,o.data≠.fields fs):¬ ExcAt h a:=fun ⟨o',fs,e',_,hd,_⟩=>by
  obtain rfl:=sm e e';exact hf fs hd
theorem vr {h:Heap} {a:Nat} {o:Obj} (e:h.get? a=some o) (hf:o.cls≠.ref 51):¬ ExcAt h a:=fun ⟨o',fs,e',hd,_⟩=>by
  obtain rfl:=sm e e';exact hf hd
theorem Ext.same {W:Addr->Prop} {θ:List OA} {h h':Heap} {a:Nat} (hs:Heap.SameBut a h h') (ho:own θ a) (ha:∃ o,h'.get? a=some o) (hf:¬ ExcAt h a):Ext W θ h θ h':=
  ⟨⟨[],by simp,fun _ hp=>nomatch hp⟩,fun b _ hn e=>.inl ((hs.2 b fun q=>hn (q▸ho)).trans e),j9 hs ha,qB hs hf⟩
theorem Ext.frame {W:Addr->Prop} {θ:List OA} {h h':Heap} {a:Nat} (hs:Heap.SameBut a h h') (hW:W a) (hf:∀ o,h.get? a=some o->gR o) (ha:∃ o,h'.get? a=some o) (he:¬ ExcAt h a):Ext W θ h θ h':=by
  refine ⟨⟨[],by simp,fun _ hp=>nomatch hp⟩,fun b o _ e=>?_,j9 hs ha,qB hs he⟩
  by_cases q:b=a
  · subst q;exact .inr (.inl ⟨hW,hf o e⟩)
  · exact .inl ((hs.2 b q).trans e)
theorem Ext.fresh {W:Addr->Prop} {θ:List OA} {h h':Heap} {p:OA} (k:Keeps h h') (h1:Above h p.a) (h2:Above h p.d):Ext W θ h (θ++[p]) h':=
  ⟨⟨[p],rfl,fun q hq=>by simp at hq;subst hq;exact ⟨h1,h2⟩⟩,fun _ _ _ e=>.inl (k _ _ e),fun b o e=>⟨o,k b o e⟩,fun b ⟨o,fs,e,r⟩=>⟨o,fs,k b o e,r⟩⟩
theorem Ext.forget {W:Addr->Prop} {θ θ':List OA} {h h':Heap} (x:Ext W θ h θ' h') (hW:∀ b,W b->h.get? b=none):Ext noW θ h θ' h':=
  ⟨x.pre,fun b o hn e=>by
    rcases x.keep b o hn e with q | ⟨q,_⟩ | q
    · exact .inl q
    · rw [hW b q] at e;exact no e
    · exact .inr (.inr q),x.live,x.exc⟩
theorem eQ.of {h h':Heap} (k:Keeps h h') (a:Addr):eQ h h' a:=fun o e=>k a o e
theorem eQ.same {h h':Heap} {a b:Addr} (hs:Heap.SameBut a h h') (hb:b≠a):eQ h h' b:=fun _ e=>(hs.2 b hb).trans e
section
variable {θ:List OA} {h:Heap} {r:List ((Int×Int)×V)} {s:List (List Int×Addr×Value)}
theorem RP.cy {W:Addr->Prop} {θ':List OA} {h':Heap} (x:je W θ h θ' h') (q:RP θ h r s) (hz:∀ p∈s,∃ o,h.get? p.2.1=some o):RP θ' h' r s:=by
  induction q with
  |nil=>exact .nil
  |cons hn h1 _ ih=>exact .cons (x.bH (hz _ (.head _)).choose_spec hn) (h1.cy x) (ih fun p hp=>hz p (.tail _ hp))
theorem RP.mono {W:Addr->Prop} {θ':List OA} {h':Heap} (x:Ext W θ h θ' h') (q:RP θ h r s) (hz:∀ p∈s,∃ o,h.get? p.2.1=some o):RP θ' h' r s:=q.cy x.e0 hz
theorem RP.bH (q:RP θ h r s) (p:List Int×Addr×Value) (hp:p∈s):¬ own θ p.2.1:=by
  induction q with
  |nil=>exact absurd hp List.not_mem_nil
  |cons hn _ _ ih=>exact (List.mem_cons.mp hp).elim (fun e=>e▸hn) ih
theorem RP.length (q:RP θ h r s):r.length=s.length:=by
  induction q with
  |nil=>rfl
  |cons _ _ _ ih=>exact congrArg (·+1) ih
end
section
variable {w:World} {h₁:Heap} {W:Addr->Prop} {θ θ':List OA} {h h':Heap} {σ:St} {p:OA}
theorem kI {κ:Type} [DecidableEq κ] {K:KeyKind pw w κ} {a:Addr} {t:List (κ×Value)} (ka:eQ h h' a) (H:h.DictOf K a t):h'.DictOf K a t:=by
  refine E31 H fun o es ep ho r=>?_;exact ⟨o,es,ep,ka _ ho,r⟩
theorem sA {κ:Type} [DecidableEq κ] {K:KeyKind pw w κ} {a:Addr} {f:κ->Bool} {n:Nat} (ka:eQ h h' a) (H:h.SetOf K a f n):h'.SetOf K a f n:=by
  refine E41 H fun o es ep t ho r=>?_;exact ⟨o,es,ep,t,ka _ ho,r⟩
theorem OR.cy (x:je W θ h θ' h') (ka:eQ h h' p.a) (kd:eQ h h' p.d) {o:O} (H:OR w θ h p o):OR w θ' h' p o:=by
  cases o with
  |list=>refine E22 H fun vs n hl hr r=>?_;exact ⟨vs,n,ka _ hl,hr.cy x,r⟩
  |dI=>refine E12 H fun s hd hr r=>?_;exact ⟨s,kI ka hd,hr.cy x,r⟩
  |dS=>refine E12 H fun s hd hr r=>?_;exact ⟨s,kI ka hd,hr.cy x,r⟩
  |dP=>
    refine E12 H fun s y1 hr e=>?_
    obtain ⟨o,es,ep,ho,h1,h2,h3,h4,h5⟩:=y1
    refine ⟨s,⟨o,es,ep,ka _ ho,h1,h2,h3,fun y hy=>?_,h5⟩,hr.cy x fun q hq=>?_,e⟩
    · refine E33 (h4 y hy) fun oo its n a1 a2 a3 a4=>?_
      exact ⟨oo,its,n,x.exact (hr.bH y hy) a1 (fun v z=>by rw [a3] at z;cases z) (fun _ _ z=>by rw [a3] at z;cases z) (fun _ _ z=>by rw [a3] at z;cases z),a2,a3,a4⟩
    · refine E31 (h4 q hq) fun oo its n a1 _=>?_
      exact ⟨_,a1⟩
  |set=>refine E11 H fun n hs r=>?_;exact ⟨n,sA ka hs,r⟩
  |inst=>refine E23 H fun es n h1 h2 h3 r=>?_;exact ⟨es,n,ka _ h1,kd _ h2,h3.cy x,r⟩
  |exc=>refine E44 H fun fs es n v h1 h2 h3 h4 h5=>?_;exact ⟨fs,es,n,v,ka _ h1,kd _ h2,h3,h4.cy x,h5⟩
theorem OR.mono (x:Ext W θ h θ' h') (ka:eQ h h' p.a) (kd:eQ h h' p.d) {o:O} (H:OR w θ h p o):OR w θ' h' p o:=H.cy x.e0 ka kd
theorem Inv.ext (I:Inv w h₁ θ σ h) (x:Ext W θ h θ h') (hb:Keeps h₁ h') (k:∀ p∈θ,eQ h h' p.a/\eQ h h' p.d):Inv w h₁ θ σ h':=
  ⟨hb,I.len,fun n o p a b=>(I.obj n o p a b).mono x (k p (List.mem_of_getElem? b)).1 (k p (List.mem_of_getElem? b)).2,I.lo,I.sep⟩
theorem Inv.keeps (I:Inv w h₁ θ σ h) (k:Keeps h h'):Inv w h₁ θ σ h':=
  I.ext (W:=noW) (.of_keeps k) (fun b o e=>k b o (I.base b o e)) fun p _=>⟨.of k _,.of k _⟩
theorem Inv.push (I:Inv w h₁ θ σ h) (o:Obj):Inv w h₁ θ σ (h.push o):=I.keeps (.push h o)
theorem Inv.um (I:Inv w h₁ θ σ h) {b:Nat} {o:Obj} (e:h₁.get? b=some o):¬ own θ b:=fun ⟨p,hp,q⟩=>by
  have ⟨h1,h2⟩:=I.lo p hp
  have h1:=h1 b o e
  have h2:=h2 b o e
  rcases q with q | q<;>lia
theorem Inv.Cf (I:Inv w h₁ θ σ h) {a:Nat} (hs:Heap.SameBut a h h') {n:Nat} {o:O} (hp:θ[n]?=some p) (ha:a=p.a\/a=p.d) (x:Ext noW θ h θ h') (ho:OR w θ h' p o):Inv w h₁ θ (σ.set n o) h':=by
  have hmem:=List.mem_of_getElem? hp
  have hown:own θ a:=⟨p,hmem,ha⟩
  refine ⟨fun b o e=>(hs.2 b fun q=>I.um e (q▸hown)).trans (I.base b o e),by rw [List.length_set];exact I.len,fun m o' q e1 e2=>?_,I.lo,I.sep⟩
  rw [List.getElem?_set] at e1
  split at e1
  · rename_i q'
    subst q'
    obtain rfl:=sm hp e2
    split at e1
    · obtain rfl:=Option.some.inj e1;exact ho
    · exact no e1
  · rename_i hne
    refine (I.obj m o' q e1 e2).mono x (.same hs fun z=>hne ?_) (.same hs fun z=>hne ?_)
    · rcases ha with rfl | rfl
      · exact I.sep n m p q hp e2 (.inl z.symm)
      · exact I.sep n m p q hp e2 (.inr (.inr (.inl z.symm)))
    · rcases ha with rfl | rfl
      · exact I.sep n m p q hp e2 (.inr (.inl z.symm))
      · exact I.sep n m p q hp e2 (.inr (.inr (.inr z.symm)))
theorem Inv.upd (I:Inv w h₁ θ σ h) {a:Nat} (hs:Heap.SameBut a h h') {n:Nat} {o:O} (hp:θ[n]?=some p) (ha:a=p.a\/a=p.d) (hlv:∃ o,h'.get? a=some o) (hx:¬ ExcAt h a) (ho:OR w θ h' p o):Inv w h₁ θ (σ.set n o) h':=
  I.Cf hs hp ha (.same hs ⟨p,List.mem_of_getElem? hp,ha⟩ hlv hx) ho
theorem Inv.new (I:Inv w h₁ θ σ h) (k:Keeps h h') {o:O} (h1:Above h p.a) (h2:Above h p.d) (hlt:∀ q∈θ,(∃ o,h.get? q.a=some o)/\∃ o,h.get? q.d=some o) (ho:OR w (θ++[p]) h' p o):
    Inv w h₁ (θ++[p]) (σ++[o]) h':=by
  have x:Ext noW θ h (θ++[p]) h':=.fresh k h1 h2
  have hlt:∀ q∈θ,q.a<p.a/\q.d<p.a/\q.a<p.d/\q.d<p.d:=fun q hq=>by
    obtain ⟨⟨o1,e1⟩,o2,e2⟩:=hlt q hq
    exact ⟨h1 _ _ e1,h1 _ _ e2,h2 _ _ e1,h2 _ _ e2⟩
  refine ⟨fun b o e=>k b o (I.base b o e),by simp [I.len],fun m o' q e1 e2=>?_,fun q hq=>?_,fun i j q r e1 e2 z=>?_⟩
  · by_cases hm:m<θ.length
    · rw [List.getElem?_append_left hm] at e2
      rw [List.getElem?_append_left (I.len▸hm)] at e1
      exact (I.obj m o' q e1 e2).mono x (.of k _) (.of k _)
    · have hm':m=θ.length:=by
        have:=(List.getElem?_eq_some_iff.mp e2).1
        simp at this;lia
      subst hm'
      rw [List.getElem?_append_right (Nat.le_refl _)] at e2
      rw [I.len,List.getElem?_append_right (Nat.le_refl _)] at e1
      simp at e1 e2
      subst e1 e2;exact ho
  · rcases List.mem_append.mp hq with hq | hq
    · exact I.lo q hq
    · simp at hq;subst hq;exact ⟨h1.back fun b o e=>⟨o,I.base b o e⟩,h2.back fun b o e=>⟨o,I.base b o e⟩⟩
  · have at_:∀ (i:Nat) (q:OA),(θ++[p])[i]?=some q->(θ[i]?=some q/\q.a<p.a/\q.d<p.a/\q.a<p.d/\q.d<p.d)\/(i=θ.length/\q=p):=fun i q e=>by
      by_cases hm:i<θ.length
      · rw [List.getElem?_append_left hm] at e
        exact .inl ⟨e,hlt q (List.mem_of_getElem? e)⟩
      · have hm':i=θ.length:=by
          have:=(List.getElem?_eq_some_iff.mp e).1
          simp at this;lia
        subst hm'
        rw [List.getElem?_append_right (Nat.le_refl _)] at e
        simp at e
        exact .inr ⟨rfl,e.symm⟩
    rcases at_ i q e1 with ⟨a1,a2,a3,a4,a5⟩ | ⟨a1,a2⟩<;>rcases at_ j r e2 with ⟨b1,b2,b3,b4,b5⟩ | ⟨b1,b2⟩
    · exact I.sep i j q r a1 b1 z
    · subst b2;exfalso;clear e1 e2;lia
    · subst a2;exfalso;clear e1 e2;lia
    · rw [a1,b1]
theorem Inv.lt (I:Inv w h₁ θ σ h):∀ q∈θ,(∃ o,h.get? q.a=some o)/\∃ o,h.get? q.d=some o:=fun q hq=>by
  refine E10 (List.mem_iff_getElem?.mp hq) fun n hn=>?_
  have hl:=(List.getElem?_eq_some_iff.mp hn).1
  rw [I.len] at hl
  have ho:=I.obj n _ q (List.getElem?_eq_getElem hl) hn
  cases hh:σ[n] with
  |list xs=>rw [hh] at ho;refine E23 ho fun _ _ a _ e _=>?_;rw [e];exact ⟨⟨_,a⟩,_,a⟩
  |dI xs=>rw [hh] at ho;refine E13 ho fun _ y1 _ e _=>?_;obtain ⟨_,_,_,a,_⟩:=y1;rw [e];exact ⟨⟨_,a⟩,_,a⟩
  |dS xs=>rw [hh] at ho;refine E13 ho fun _ y1 _ e _=>?_;obtain ⟨_,_,_,a,_⟩:=y1;rw [e];exact ⟨⟨_,a⟩,_,a⟩
  |dP xs=>rw [hh] at ho;refine E13 ho fun _ y1 _ e _=>?_;obtain ⟨_,_,_,a,_⟩:=y1;rw [e];exact ⟨⟨_,a⟩,_,a⟩
  |set xs=>rw [hh] at ho;refine E12 ho fun _ y1 _ e=>?_;obtain ⟨_,_,_,_,a,_⟩:=y1;rw [e];exact ⟨⟨_,a⟩,_,a⟩
  |inst c as=>rw [hh] at ho;refine E22 ho fun _ _ a b _=>?_;exact ⟨⟨_,a⟩,_,b⟩
  |exc x pr=>rw [hh] at ho;refine E42 ho fun _ _ _ _ a b _=>?_;exact ⟨⟨_,a⟩,_,b⟩
theorem Inv.alloc (I:Inv w h₁ θ σ h) {b:Obj} {o:O} (ho:OR w (θ++[⟨h.objs.size,h.objs.size⟩]) (h.push b) ⟨h.objs.size,h.objs.size⟩ o):Inv w h₁ (θ++[⟨h.objs.size,h.objs.size⟩]) (σ++[o]) (h.push b):=
  I.new (.push h b) (.size h) (.size h) I.lt ho
end
theorem R.kh {θ:List OA} {h:Heap} {p:OA} {σ:St} (e:θ.length=σ.length):R (θ++[p]) h (.ref σ.length) (.ref p.a):=.ref (by rw [← e];simp)
structure FI where
  locs:List Str
  cells:List Str
  scope:Scope
noncomputable def Cw:Bi ()->Str
  |.len=>"len"|.range=>"range"|.list=>"list"|.tuple=>"tuple"|.set=>"set"|.isinstance=>"isinstance"|.sum=>"sum"
noncomputable def Dj (t:Ty ()):Str:=Str.ofString (uK t)
structure Base (w:World) (h₁:Heap):Prop where
  X:(KK w.params).In h₁
  bi:∃ mb,h₁.Ns builtinsNs mb/\(∀ b,mb (Cw b)=some (qk b))/\∀ t,mb (Dj t)=some (.type (uK t))
structure rh (n:Nat) (hs:Bool) (A:Around):Prop where
  depth:A.depth+2 * n+6<recursionLimit
  units:A.units+8 * n+16<cLine
  hnd:hs=true->A.handled=none
theorem rh.u {n:Nat} {hs:Bool} {A:Around} {k:Nat} (r:rh n hs A) (h:k<=16):A.units+k<cLine:=Nat.lt_of_le_of_lt (Nat.le_trans (Nat.add_le_add_left h _) (Nat.add_le_add_right (Nat.le_add_right _ _) _)) r.units
noncomputable def bY (o:Obj):Prop:=∃ es ep,o.data=.dict es ep
theorem bY.slots {o:Obj} (f:bY o) (sl:Array (Option Value)):bY { o with slots:=sl }:=f
noncomputable def bN (h₁:Heap) (θ:List OA) (h:Heap) (A:Around):Prop:=(A.handled=none\/∃ ea:Nat,A.handled=some (.ref ea)/\ExcAt h ea)/\∃ l,A.frames=some l/\∀ env∈l,env.scope.kind≠.module/\∃ L o,env.frame=some L/\h₁.get? L=none/\¬ own θ L/\h.get? L=some o/\bY o
noncomputable def jS (i:FI) (fr:Fr) (θ:List OA) (h:Heap) (m:Str->Option Value):Prop:=∀ (k:Nat) (x:Str) (v:V),i.locs[k]?=some x->fr.locs[k]?=some (some v)->∃ u,m x=some u/\R θ h v u
noncomputable def jd (i:FI) (cs:List (Str×Addr)) (fr:Fr) (θ:List OA) (h:Heap):Prop:=
  ∀ (k:Nat) (x:Str),i.cells[k]?=some x->i.scope.names.lookup x=some .cell->∃ c ov,cs.lookup x=some c/\¬ own θ c/\h.IsCell c ov/\∀ v,fr.cells[k]?=some (some v)->∃ u,ov=some u/\R θ h v u
structure yK (i:FI) (env:Env) (fr:Fr) (θ:List OA) (h:Heap):Prop where
  sc:env.scope=i.scope
  kd:i.scope.kind=.function
  nd:i.locs.Nodup
  gl:env.globals=mainGlobals
  bn:env.builtins=builtinsNs
  own:¬ own θ env.locals
  ns:∃ m,h.Ns env.locals m/\jS i fr θ h m
  cl:jd i env.cells fr θ h
theorem jI {h:Heap} {L:Addr} {m:Str->Option Value} (n:h.Ns L m):∃ o,h.get? L=some o/\bY o:=by
  refine E32 n fun o es ep ho hd _=>?_
  exact ⟨o,ho,es,ep,hd⟩
section
variable {W:Addr->Prop} {θ θ':List OA} {h h':Heap}
theorem Ext.ns (x:Ext noW θ h θ' h') {L:Addr} {m:Str->Option Value} (hn:¬ Mine.own θ L) (n:h.Ns L m):h'.Ns L m:=by
  refine E32 n fun o es ep ho hd r=>?_
  rcases x.keep L o hn ho with q | ⟨q,_⟩ | ⟨_,_,sl,_,q⟩
  · exact ⟨o,es,ep,q,hd,r⟩
  · exact q.elim
  · exact ⟨_,es,ep,q,hd,r⟩
theorem Ext.cell (x:Ext noW θ h θ' h') {c:Addr} {v:Option Value} (hn:¬ Mine.own θ c) (n:h.IsCell c v):h'.IsCell c v:=by
  refine E11 n fun o ho hd=>?_
  rcases x.keep c o hn ho with q | ⟨q,_⟩ | ⟨es,ep,_,hd',_⟩
  · exact ⟨o,q,hd⟩
  · exact q.elim
  · rw [hd] at hd';cases hd'
theorem yK.ext {i:FI} {env:Env} {fr:Fr} (F:yK i env fr θ h) (x:Ext noW θ h θ' h'):yK i env fr θ' h':=by
  refine E11 F.ns fun m n hl=>?_
  refine E31 (id n) fun oL _ _ eL _=>?_
  refine ⟨F.sc,F.kd,F.nd,F.gl,F.bn,x.bH eL F.own,⟨m,x.ns F.own n,fun k y v a b=>?_⟩,fun k y a b=>?_⟩
  · refine E11 (hl k y v a b) fun u c r=>?_;exact ⟨u,c,r.mono x⟩
  · refine E23 (F.cl k y a b) fun c ov e1 e2 e3 e4=>?_
    refine E11 (id e3) fun oc ec _=>?_
    refine ⟨c,ov,e1,x.bH ec e2,x.cell e2 e3,fun v q=>?_⟩
    refine E11 (e4 v q) fun u f r=>?_;exact ⟨u,f,r.mono x⟩
theorem bN.ext {h₁:Heap} {A:Around} (F:bN h₁ θ h A) (x:Ext noW θ h θ' h'):bN h₁ θ' h' A:=by
  obtain ⟨hh,l,a,b⟩:=F
  refine ⟨hh.imp id fun ⟨ea,e,z⟩=>⟨ea,e,x.exc _ z⟩,l,a,fun env he=>?_⟩
  obtain ⟨hk,L,o,hf,h1,hn,ho,fl⟩:=b env he
  rcases x.keep L o hn ho with q | ⟨q,_⟩ | ⟨_,_,sl,_,q⟩
  · exact ⟨hk,L,o,hf,h1,x.bH ho hn,q,fl⟩
  · exact q.elim
  · exact ⟨hk,L,_,hf,h1,x.bH ho hn,q,fl.slots sl⟩
end
structure To (w:World) (h₁:Heap) (W:Addr->Prop) (θ:List OA) (s:Shared) (σ':St) (θ':List OA) (s':Shared):Prop where
  ext:Ext W θ s.heap θ' s'.heap
  inv:Inv w h₁ θ' σ' s'.heap
  os:s'.os=s.os
  gens:s'.gens=s.gens
theorem To.trans {w:World} {h₁:Heap} {W:Addr->Prop} {θ θ' θ'':List OA} {s s' s'':Shared} {σ' σ'':St} (x:To w h₁ W θ s σ' θ' s') (y:To w h₁ W θ' s' σ'' θ'' s''):To w h₁ W θ s σ'' θ'' s'':=
  ⟨x.ext.trans y.ext,y.inv,y.os.trans x.os,y.gens.trans x.gens⟩
theorem To.refl {w:World} {h₁:Heap} {W:Addr->Prop} {θ:List OA} {s:Shared} {σ:St} (I:Inv w h₁ θ σ s.heap):To w h₁ W θ s σ θ s:=⟨.refl ..,I,rfl,rfl⟩
theorem To.tk {w:World} {h₁:Heap} {W:Addr->Prop} {θ:List OA} {s:Shared} {σ:St} {t:Nat} (I:Inv w h₁ θ σ s.heap):To w h₁ W θ s σ θ { s with toks:=t }:=⟨.refl ..,I,rfl,rfl⟩
theorem To.mono {w:World} {h₁:Heap} {W W':Addr->Prop} {θ θ':List OA} {s s':Shared} {σ':St} (x:To w h₁ W θ s σ' θ' s') (hW:∀ b,W b->W' b):To w h₁ W' θ s σ' θ' s':=⟨x.ext.mono hW,x.inv,x.os,x.gens⟩
theorem bA {W:Addr->Prop}:∀ b,noW b->W b:=fun _ q=>q.elim
structure Go (w:World) (h₁:Heap) (n:Nat) (hs:Bool) (A:Around) (i:FI) (env:Env) (fr:Fr) (σ:St) (θ:List OA) (s:Shared):Prop where
  room:rh n hs A
  frs:bN h₁ θ s.heap A
  inv:Inv w h₁ θ σ s.heap
  frm:yK i env fr θ s.heap
section
variable {w:World} {h₁:Heap} {n:Nat} {hs:Bool} {A:Around} {i:FI} {env:Env} {fr:Fr} {σ σ':St} {θ θ':List OA} {s s':Shared}
theorem Go.go (G:Go w h₁ n hs A i env fr σ θ s) (t:To w h₁ noW θ s σ' θ' s'):Go w h₁ n hs A i env fr σ' θ' s':=⟨G.room,G.frs.ext t.ext,t.inv,G.frm.ext t.ext⟩
theorem Base.at (B:Base w h₁) (I:Inv w h₁ θ σ s.heap):(KK w.params).In s.heap:=B.X.keeps I.base
noncomputable def isI (k:Int) (v:V):Bool:=match v with|.int j=>decide (j=k)|_=>false
noncomputable def uI (i:Int) (u:Value):Bool:=match u with|.int j _=>decide (j=i)|_=>false
noncomputable def uS (x:Str) (u:Value):Bool:=match u with|.str y _=>y==x|_=>false
noncomputable def two (p q:V->Bool) (l:List V):Bool:=match l with|[]=>false|x::r=>p x&&(match r with|[]=>false|y::r=>q y&&r.isEmpty)
noncomputable def nG (u:Value) (v:V):Bool:=match v with
  |.int i=>uI i u
  |.str t=>uS (tx t) u
  |.fn f=>u==.ref (fc f).addr
  |.cls c=>u==.ref (a9 c)
  |.tup l=>u==.ref 187&&two (isI 5) (isI 0) l
  |_=>false
noncomputable def Dt (x:Str) (v:V):Bool:=match v with|.bi b=>x==Cw b|.ty t=>x==Dj t|_=>false
noncomputable def C5 {α:Type} (f:α->Bool) (o:Option α):Bool:=match o with|some x=>f x|none=>false
noncomputable def C6 {α:Type} (f:α->Bool) (b:Bool) (o:Option α):Bool:=match o with|some x=>f x|none=>b
noncomputable def xb (P:Params) (x:Str) (v:V):Bool:=C5 (C6 (fun u=>nG u v) (Dt x v)) (nsIn (KK P) mainGlobals x)
theorem BP {P:Prop} {α:Type} {f:α->Bool} {o:Option α} (h:C5 f o=true) (k:∀ x,o=some x->f x=true->P):P:=by
  cases o with | none=>exact nof h | some x=>exact k x rfl h
theorem BQ {P:Prop} {α:Type} {f:α->Bool} {b:Bool} {o:Option α} (h:C6 f b o=true) (k:∀ x,o=some x->f x=true->P) (k2:o=none->b=true->P):P:=by
  cases o with | none=>exact k2 rfl h | some x=>exact k x rfl h
theorem xg {k:Int} {v:V} (h:isI k v=true):v=.int k:=by
  cases v with | int j=>rw [of_decide_eq_true h] | _=>exact nof h
theorem Aq {p q:V->Bool} {l:List V} (h:two p q l=true):∃ x y,l=[x,y]/\p x=true/\q y=true:=by
  cases l with
  |nil=>exact nof h
  |cons x r=>cases r with
    |nil=>exact cg h fun _ h=>nof h
    |cons y r=>exact cg h fun a h=>cg h fun b c=>⟨x,y,by rw [List.isEmpty_iff.mp c],a,b⟩
theorem qF (B:Base w h₁) (I:Inv w h₁ θ σ s.heap) {u:Value} {v:V} (e:nG u v=true):R θ s.heap v u:=by
  cases v with
  |int i=>cases u with|int j t=>rw [of_decide_eq_true e];exact .int i t|_=>exact nof e
  |str x=>cases u with|str y t=>rw [eq_of_beq e];exact .str x t|_=>exact nof e
  |fn f=>rw [eq_of_beq e];exact .fn f
  |cls c=>rw [eq_of_beq e];exact .cls c
  |tup l=>
    refine cg e fun e1 e2=>E22 (Aq e2) fun x y el ex ey=>?_
    rw [eq_of_beq e1,el,xg ex,xg ey]
    have k:(KK w.params).lookup 187=some { cls:=.type "tuple",data:=.seq #[.int 5 432,.int 0 436] 0 }:=by kernel_rfl
    have k1:=B.X _ _ k
    exact .tup (vs:=[.int 5 432,.int 0 436]) (I.base _ _ k1) (I.um k1) (by decide) (.cons (.int _ _) (.cons (.int _ _) .nil))
  |_=>exact nof e
theorem ld_global (B:Base w h₁) (G:Go w h₁ n hs A i env fr σ θ s) {x:Str} {v:V} (hx:i.scope.names.lookup x=some .globalImplicit) (hg:xb w.params x v=true)
    {Q:Value->Shared->Prop} {E:Value->Shared->Prop} (h:∀ u,R θ s.heap v u->Q u s):wpAny (model pw w) A (loadName env x) Q E s:=by
  have hk:env.scope.kind=.function:=by rw [G.frm.sc];exact G.frm.kd
  have hx':env.kindOf x=some .globalImplicit:=by unfold Env.kindOf;rw [G.frm.sc];exact hx
  have gl:wpAny (model pw w) A (loadGlobal env x) Q E s:=by
    unfold loadGlobal
    rw [G.frm.gl,G.frm.bn]
    refine BP hg fun o ho hg=>BQ hg (fun u eu hg=>?_) fun eo hg=>?_
    · subst eu
      exact wpAny_bind ((looks_nsIn (B.at G.inv) ho).here (wpAny_pure (h u (qF B G.inv hg))))
    · subst eo
      refine wpAny_bind ((looks_nsIn (B.at G.inv) ho).here ?_)
      refine E12 B.bi fun mb m1 m2 m3=>?_
      have m1:=m1.keeps G.inv.base
      cases v with
      |bi b=>
        obtain rfl:=eq_of_beq hg
        refine wpAny_bind (wpAny_nsGet m1 ?_)
        rw [m2];exact wpAny_pure (h _ (.bi b))
      |ty t=>
        obtain rfl:=eq_of_beq hg
        refine wpAny_bind (wpAny_nsGet m1 ?_)
        rw [m3];exact wpAny_pure (h _ (.ty t))
      |_=>exact nof hg
  rw [loadName_read hk hx']
  exact gl
theorem qJ (G:Go w h₁ n hs A i env fr σ θ s) {k:Nat} {x:Str} {v:V} (hi:i.locs[k]?=some x) (hx:i.scope.names.lookup x=some .local) (hv:fr.locs[k]?=some (some v))
    {Q:Value->Shared->Prop} {E:Value->Shared->Prop} (h:∀ u,R θ s.heap v u->Q u s):wpAny (model pw w) A (loadName env x) Q E s:=by
  refine E11 G.frm.ns fun m n l=>?_
  refine E11 (l k x v hi hv) fun u a r=>?_
  exact wpAny_loadName_local (by rw [G.frm.sc];exact G.frm.kd) (by unfold Env.kindOf;rw [G.frm.sc];exact hx) n a (h u r)
theorem zF (G:Go w h₁ n hs A i env fr σ θ s) {k:Nat} {x:Str} {v:V} (hi:i.cells[k]?=some x) (hx:i.scope.names.lookup x=some .cell) (hv:fr.cells[k]?=some (some v))
    {Q:Value->Shared->Prop} {E:Value->Shared->Prop} (h:∀ u,R θ s.heap v u->Q u s):wpAny (model pw w) A (loadName env x) Q E s:=by
  refine E23 (G.frm.cl k x hi hx) fun c ov e1 e2 e3 e4=>?_
  refine E11 (e4 v hv) fun u z1 r=>?_
  subst z1
  exact wpAny_loadName_cell (by rw [G.frm.sc];exact G.frm.kd) (by unfold Env.kindOf;rw [G.frm.sc];exact hx) e1 e3 (h u r)
end
noncomputable def Dm (s:Str):Option Tx:=(List.finRange 39).find? fun (t:Tx)=>tx t==s
theorem uM (t:Tx):Dm (tx t)=some t:=tS (n:=39) (f:=fun t=>Dm (tx t)) (g:=some) (by kernel_rfl) t
theorem pT {a b:Tx} (e:tx a=tx b):a=b:=by
  have h:=uM a
  rw [e,uM b] at h
  exact (Option.some.inj h).symm
theorem s7 (a b:Tx):(tx a==tx b)=decide (a=b):=by
  by_cases h:a=b
  · subst h;simp
  · rw [decide_eq_false h,beq_eq_false_iff_ne];exact fun q=>h (pT q)
section
variable {w:World} {h₁:Heap} {n:Nat} {hs:Bool} {A:Around} {i:FI} {env:Env} {fr:Fr} {σ σ':St} {θ θ':List OA} {s s':Shared}
theorem R.int_inv {h:Heap} {x:Int} {u:Value} (r:R θ h (.int x) u):∃ t,u=.int x t:=by cases r;exact ⟨_,rfl⟩
theorem R.str_inv {h:Heap} {x:Tx} {u:Value} (r:R θ h (.str x) u):∃ t,u=.str (tx x) t:=by cases r;exact ⟨_,rfl⟩
theorem R.bool_inv {h:Heap} {x:Bool} {u:Value} (r:R θ h (.bool x) u):u=.bool x:=by cases r;rfl
theorem R.none_inv {h:Heap} {u:Value} (r:R θ h .none u):u=.none:=by cases r;rfl
theorem R.bV {h:Heap} {xs:List V} {u:Value} (r:R θ h (.tup xs) u):∃ a vs n,u=.ref a/\IsT h a vs.toArray n/\¬ own θ a/\vs.length<=2000000/\RL θ h xs vs:=by
  cases r with | tup ht ho hl hr=>exact ⟨_,_,_,rfl,ht,ho,hl,hr⟩
theorem R.bq {h:Heap} {n:Nat} {u:Value} (r:R θ h (.ref n) u):∃ p,θ[n]?=some p/\u=.ref p.a:=by cases r;exact ⟨_,‹_›,rfl⟩
theorem R.w7 {h:Heap} {f:Fn} {u:Value} (r:R θ h (.fn f) u):u=.ref (fc f).addr:=by cases r;rfl
theorem R.ju {h:Heap} {c:Cl ()} {u:Value} (r:R θ h (.cls c) u):u=.ref (a9 c):=by cases r;rfl
theorem R.Cd {h:Heap} {t:Ty ()} {u:Value} (r:R θ h (.ty t) u):u=.type (uK t):=by cases r;rfl
theorem R.we {h:Heap} {b:Bi ()} {u:Value} (r:R θ h (.bi b) u):u=qk b:=by cases r;rfl
theorem RL.nil_inv {h:Heap} {us:List Value} (r:RL θ h [] us):us=[]:=by cases r;rfl
theorem RL.cons_inv {h:Heap} {x:V} {xs:List V} {us:List Value} (r:RL θ h (x::xs) us):∃ u us',us=u::us'/\R θ h x u/\RL θ h xs us':=by cases r;exact ⟨_,_,rfl,‹_›,‹_›⟩
theorem RL.eZ {h:Heap} {x:V} {l:List V} {us:List Value} (r:RL θ h l us) (e:l=[x]):∃ u,us=[u]/\R θ h x u:=by
  subst e;cases r with | cons a b=>cases b;exact ⟨_,rfl,a⟩
theorem RL.vK {h:Heap} {x y z:V} {l:List V} {us:List Value} (r:RL θ h l us) (e:l=[x,y,z]):∃ u v w,us=[u,v,w]/\R θ h x u/\R θ h y v/\R θ h z w:=by
  subst e;refine E22 r.cons_inv fun u us z2 a b=>?_;subst z2;refine E22 b.cons_inv fun v us z2 c d=>?_;subst z2;refine E11 (d.eZ rfl) fun w z1 e=>?_;subst z1;exact ⟨_,_,_,rfl,a,c,e⟩
theorem RL.uJ {h:Heap} {x y:V} {l:List V} {us:List Value} (r:RL θ h l us) (e:l=[x,y]):∃ u v,us=[u,v]/\R θ h x u/\R θ h y v:=by
  subst e;refine E22 r.cons_inv fun u us z2 a b=>?_;subst z2;refine E11 (b.eZ rfl) fun v z1 c=>?_;subst z1;exact ⟨_,_,rfl,a,c⟩
theorem R.DI {h:Heap} {xs ys:List V} {u:Value} (rx:R θ h (.tup xs) u) (ry:R θ h (.tup ys) u):∃ vs,RL θ h xs vs/\RL θ h ys vs:=by
  refine E34 rx.bV fun a vs n q h1 _ _ h2=>E34 ry.bV fun a' vs' n' q' h1' _ _ h2'=>?_
  have ea:a=a':=Value.ref.inj (q.symm.trans q')
  have ed:vs.toArray=vs'.toArray:=(Data.seq.inj (congrArg Obj.data (Option.some.inj (h1.symm.trans (ea▸h1'))))).1
  exact ⟨vs,h2,(show vs=vs' from congrArg Array.toList ed)▸h2'⟩
theorem oh {f:List V->List V->Option Bool} {x y:V} {u:Value} {b:Bool} {h:Heap} (hf:∀ xs ys vs b,RL θ h xs vs->RL θ h ys vs->f xs ys=some b->b=true)
    (rx:R θ h x u) (ry:R θ h y u) (e:yz f x y=some b):b=true:=
  yA e (fun a c ea ec e=>E10 (ea▸rx).int_inv fun _ q=>E10 (ec▸ry).int_inv fun _ q'=>e.symm.trans (decide_eq_true (Value.int.inj (q.symm.trans q')).1))
    (fun a c ea ec e=>E10 (ea▸rx).str_inv fun _ q=>E10 (ec▸ry).str_inv fun _ q'=>e.symm.trans (decide_eq_true (pT (Value.str.inj (q.symm.trans q')).1)))
    fun xs ys ex ey e=>E11 ((ex▸rx).DI (ey▸ry)) fun vs h1 h2=>hf xs ys vs b h1 h2 e
theorem vM {f:V->V->Option Bool} {h:Heap} (hf:∀ {x y u b},R θ h x u->R θ h y u->f x y=some b->b=true) {xs:List V} {vs:List Value} (r:RL θ h xs vs):∀ (ys:List V) (b:Bool),RL θ h ys vs->gy f xs ys=some b->b=true:=
  RL.ind (M:=fun xs vs=>∀ (ys:List V) (b:Bool),RL θ h ys vs->gy f xs ys=some b->b=true) r (fun ys b r e=>by
    cases r;exact (Option.some.inj e).symm) fun {x v xs vs} a _ ih ys b r e=>by
    cases r with
    |cons c d=>exact aR e fun b1 e1 e=>aR e fun b2 e2 e=>(Option.some.inj e).symm.trans (by rw [hf a c e1,ih _ _ d e2];rfl)
theorem q0:∀ (k:Nat) {x y:V} {u:Value} {b:Bool} {h:Heap},R θ h x u->R θ h y u->veq k x y=some b->b=true
  |0,_,_,_,_,_,rx,ry,e=>oh (fun _ _ _ _ _ _ q=>no q) rx ry e
  |k+1,_,_,_,_,_,rx,ry,e=>oh (fun _ ys _ b r q e=>vM (q0 k) r ys b q e) rx ry e
theorem range_all {a:Bool} {e:Nat->Bool} {n:Nat}:(List.range (n+1)).all (fun | 0=>a | j+1=>e j)=(a&&(List.range n).all e):=by
  rw [List.range_succ_eq_map,List.all_cons,List.all_map];rfl
theorem mS {f:V->V->Option Bool}:∀ {xs ys:List V} {b:Bool},gy f xs ys=some b->∃ e:Nat->Bool,(∀ j x y,xs[j]?=some x->ys[j]?=some y->f x y=some (e j))/\
    b=((List.range (min xs.length ys.length)).all e&&xs.length==ys.length)
  |[],[],_,h=>⟨fun _=>true,fun _ _ _ q=>no q,(Option.some.inj h).symm⟩
  |[],_::_,_,h=>⟨fun _=>true,fun _ _ _ q=>no q,(Option.some.inj h).symm.trans (by rw [List.length_nil,Nat.zero_min];rfl)⟩
  |_::_,[],_,h=>⟨fun _=>true,fun _ _ _ _ q=>no q,(Option.some.inj h).symm.trans (by rw [List.length_nil,Nat.min_zero];rfl)⟩
  |x::xs,y::ys,b,h=>aR h fun a ea h=>aR h fun c ec h=>E11 (mS ec) fun e h1 h2=>⟨fun|0=>a|j+1=>e j,fun j x' y' hx hy=>match j,hx,hy with
      |0,hx,hy=>by rw [← Option.some.inj hx,← Option.some.inj hy];exact ea
      |j+1,hx,hy=>h1 j x' y' hx hy,by
        rw [← Option.some.inj h,h2,List.length_cons,List.length_cons,Nat.add_min_add_right,range_all,Bool.and_assoc]
        congr 2
        rw [Bool.eq_iff_iff,beq_iff_eq,beq_iff_eq]
        exact Nat.succ_inj.symm⟩
theorem uN {f:List V->List V->Option Bool} {A:Around} {x y:V} {u v:Value} {b:Bool}
    (hf:∀ {xs ys:List V} {a a':Addr} {vs vs':List Value} {n n':Nat} {b},IsT s.heap a vs.toArray n->IsT s.heap a' vs'.toArray n'->R θ s.heap (.tup xs) (.ref a)->R θ s.heap (.tup ys) (.ref a')->RL θ s.heap xs vs->RL θ s.heap ys vs'->f xs ys=some b->EqAt A s (.ref a) (.ref a') b)
    (rx:R θ s.heap x u) (ry:R θ s.heap y v) (e:yz f x y=some b):EqAt A s u v b:=
  yA e (fun a c ea ec e=>E10 (ea▸rx).int_inv fun _ q=>E10 (ec▸ry).int_inv fun _ q'=>by rw [q,q',← e];exact EqAt.int_int _ _ _ _)
    (fun a c ea ec e=>E10 (ea▸rx).str_inv fun _ q=>E10 (ec▸ry).str_inv fun _ q'=>by rw [q,q',← e,← s7];exact EqAt.str_str _ _ _ _)
    fun xs ys ex ey e=>E34 (ex▸rx).bV fun a vs n q ht _ _ hr=>E34 (ey▸ry).bV fun a' vs' n' q' ht' _ _ hr'=>by
      rw [q,q'];exact hf ht ht' (q▸ex▸rx) (q'▸ey▸ry) hr hr' e
theorem qH {f:V->V->Option Bool} {A:Around} {xs ys:List V} {vs vs':List Value} {e:Nat->Bool} (hr:RL θ s.heap xs vs) (hr':RL θ s.heap ys vs')
    (h1:∀ j x y,xs[j]?=some x->ys[j]?=some y->f x y=some (e j)) (hf:∀ {x y u v b},R θ s.heap x u->R θ s.heap y v->f x y=some b->EqAt A s u v b):
    ∀ (j:Nat) (g1:j<vs.toArray.size) (g2:j<vs'.toArray.size),EqAt A s vs.toArray[j] vs'.toArray[j] (e j):=fun j g1 g2=>by
  have g1':j<xs.length:=by rw [hr.length];simpa using g1
  have g2':j<ys.length:=by rw [hr'.length];simpa using g2
  refine E11 (hr.at (List.getElem?_eq_getElem g1')) fun v1 e1 r1=>?_
  refine E11 (hr'.at (List.getElem?_eq_getElem g2')) fun v2 e2 r2=>?_
  have q1:vs.toArray[j]=v1:=by
    obtain ⟨_,this⟩:=List.getElem?_eq_some_iff.mp e1;simpa using this
  have q2:vs'.toArray[j]=v2:=by
    obtain ⟨_,this⟩:=List.getElem?_eq_some_iff.mp e2;simpa using this
  rw [q1,q2]
  exact hf r1 r2 (h1 j _ _ (List.getElem?_eq_getElem g1') (List.getElem?_eq_getElem g2'))
theorem yB:∀ (k:Nat) {A:Around} {x y:V} {u v:Value} {b:Bool},A.units+k<cLine->R θ s.heap x u->R θ s.heap y v->veq k x y=some b->EqAt A s u v b
  |0,_,_,_,_,_,_,hu,rx,ry,e=>uN (fun _ _ _ _ _ _ q=>no q) rx ry e
  |k+1,A,_,_,_,_,_,hu,rx,ry,e=>by
    refine uN (fun {xs ys a a' vs vs' n n' b} ht ht' rx ry hr hr' e=>?_) rx ry e
    by_cases hab:a=a'
    · subst hab
      have:=q0 (k+1) rx ry e
      subst this;exact EqAt.same _
    · refine E11 (mS e) fun ee h1 h2=>?_
      refine EqAt.of_refs hab ?_
      have z:=RcAt.tuples (A:=A) (s:=s) (items:=vs.toArray) (items2:=vs'.toArray) (e:=ee) ⟨_,ht,rfl,_,rfl⟩ ⟨_,ht',rfl,_,rfl⟩ (by lia)
        (qH hr hr' h1 fun r1 r2 q=>yB k (A:=A.in1) (by show A.units+1+k<cLine;lia) r1 r2 q)
      rw [h2,hr.length,hr'.length]
      simpa using z
theorem nf {a:Int} (h:small a=true):Builtin.Int.intBits a<=64:=by
  unfold small at h
  simp only [Bool.and_eq_true,decide_eq_true_eq] at h
  have hlt:a.natAbs<2 ^ 63:=by lia
  unfold Builtin.Int.intBits
  split
  · exact Nat.zero_le _
  · rename_i h0
    have h0:a.natAbs≠0:=by simpa using h0
    have:=(Nat.log2_lt h0).mpr hlt
    (refine Nat.le_trans (by assumption) ?_;decide)
end
noncomputable def wm:Bo ()->Operator
  |.add=>.Add|.sub=>.Sub|.mul=>.Mult|.fdiv=>.FloorDiv|.mod=>.Mod
noncomputable def Bl:Co ()->CmpOp
  |.eq=>.Eq|.ne=>.NotEq|.lt=>.Lt|.le=>.LtE|.gt=>.Gt|.ge=>.GtE|.is=>.Is|.isin=>.In|.notin=>.NotIn
section
variable {w:World} {h₁:Heap} {n:Nat} {hs:Bool} {A:Around} {i:FI} {env:Env} {fr:Fr} {σ σ':St} {θ θ':List OA} {s s':Shared} {Q:Value->Shared->Prop} {E:Value->Shared->Prop}
abbrev KQ (w:World) (h₁:Heap) (θ:List OA) (s:Shared) (σ':St) (r:V) (Q:Value->Shared->Prop):Prop:=∀ v s' θ',To w h₁ noW θ s σ' θ' s'->R θ' s'.heap r v->Q v s'
theorem eU {r1:V} {σ1:St} (q:KQ w h₁ θ s σ' r Q) (h:some (r1,σ1)=some (r,σ')):KQ w h₁ θ s σ1 r1 Q:=by
  obtain ⟨rfl,rfl⟩:=in2 h;exact q
theorem KQ.int (I:Inv w h₁ θ σ s.heap) {a:Int} {t tk:Nat} (k:KQ w h₁ θ s σ (.int a) Q):Q (.int a t) { s with toks:=tk }:=k _ _ θ (To.tk I) (.int a t)
theorem KQ.bool (I:Inv w h₁ θ σ s.heap) {a:Bool} (k:KQ w h₁ θ s σ (.bool a) Q):Q (.bool a) s:=k _ _ θ (To.refl I) (.bool a)
theorem KQ.nz (I:Inv w h₁ θ σ s.heap) {a:Bool} {tk:Nat} (k:KQ w h₁ θ s σ (.bool a) Q):Q (.bool a) { s with toks:=tk }:=k _ _ θ (To.tk I) (.bool a)
theorem To.push (I:Inv w h₁ θ σ s.heap) (o:Obj):To w h₁ noW θ s σ θ { s with heap:=s.heap.push o }:=⟨.push o,I.push o,rfl,rfl⟩
theorem Inv.dX (I:Inv w h₁ θ σ s.heap) {b:Nat} (hb:Above s.heap b):¬ own θ b:=fun ⟨p,hp,q⟩=>by
  obtain ⟨⟨o1,e1⟩,o2,e2⟩:=I.lt p hp
  have:=hb _ _ e1
  have:=hb _ _ e2
  rcases q with q | q<;>lia
theorem KQ.tup (I:Inv w h₁ θ σ s.heap) {xs:List V} {vs:List Value} (hr:RL θ s.heap xs vs) (hl:vs.length<=2000000) (k:KQ w h₁ θ s σ (.tup xs) Q):
    Q (.ref s.heap.objs.size) { s with heap:=s.heap.push { cls:=.type "tuple",data:=.seq vs.toArray } }:=
  k _ _ θ (To.push I _) (.tup (n:=0) (Heap.get?_push_size _ rfl) (I.dX (.size _)) hl (hr.mono (Ext.push (W:=noW) _)))
theorem yq {a b:Addr} {vs vs':List Value} {n n':Nat} (ht:IsT s.heap a vs.toArray n) (hb:IsT s.heap b vs'.toArray n') (he:vs=[]) (h:Q (.ref b) s):wpAny (model pw w) A (binaryOp .Add (.ref a) (.ref b)) Q E s:=
  concat_meets ⟨_,ht,rfl⟩ ⟨_,hb,rfl⟩ noFill_tuple_add seq_tuple_add F.slot_tuple_add F.entry_tuple_add (F.args_tuple_add_2 _ _) (AutoSeq1.tuple___add___tuple_tuple_0 a vs.toArray n b vs'.toArray n' (by subst he;rfl)) ⟨ht,hb,h⟩
theorem yr {a b:Addr} {vs vs':List Value} {n n':Nat} (ht:IsT s.heap a vs.toArray n) (hb:IsT s.heap b vs'.toArray n') (hn:vs≠[]) (he:vs'=[]) (h:Q (.ref a) s):wpAny (model pw w) A (binaryOp .Add (.ref a) (.ref b)) Q E s:=
  concat_meets ⟨_,ht,rfl⟩ ⟨_,hb,rfl⟩ noFill_tuple_add seq_tuple_add F.slot_tuple_add F.entry_tuple_add (F.args_tuple_add_2 _ _)
    (AutoSeq1.tuple___add___tuple_tuple_1 a vs.toArray n b vs'.toArray n' (by simpa using hn) (by subst he;rfl)) ⟨ht,hb,h⟩
theorem Ap (I:Inv w h₁ θ σ s.heap) {xs ys:List V} {u v:Value} (rx:R θ s.heap (.tup xs) u) (ry:R θ s.heap (.tup ys) v) (hf:fits (xs.length+ys.length)=true) (k:KQ w h₁ θ s σ (.tup (xs++ys)) Q):wpAny (model pw w) A (binaryOp .Add u v) Q E s:=by
  refine E34 rx.bV fun a vs n z3 ht ho hl hr=>?_
  subst z3
  refine E34 ry.bV fun b vs' n' z3 hb ho' hl' hr'=>?_
  subst z3
  have z1:=hr.length
  have z2:=hr'.length
  have hf:=of_decide_eq_true hf
  by_cases he:vs=[]
  · obtain rfl:xs=[]:=List.length_eq_zero_iff.mp (by rw [z1,he];rfl)
    exact yq ht hb he (k _ _ θ (To.refl I) ry)
  · by_cases he':vs'=[]
    · obtain rfl:ys=[]:=List.length_eq_zero_iff.mp (by rw [z2,he'];rfl)
      exact yr ht hb he he' (k _ _ θ (To.refl I) (by rw [List.append_nil];exact rx))
    · refine P.add_tuple ht hb (by simpa using he) (by simpa using he') ?_ (by rw [sizeLine_eq];simp;lia)
      have:=KQ.tup I (hr.append hr') (by rw [List.length_append];lia) k
      rwa [show (vs++vs').toArray=vs.toArray++vs'.toArray from by simp] at this
theorem Ba (I:Inv w h₁ θ σ s.heap) {op:Bo ()} {x y r:V} {u v:Value} (rx:R θ s.heap x u) (ry:R θ s.heap y v) (e:gP op x y=some r) (k:KQ w h₁ θ s σ r Q):
    wpAny (model pw w) A (binaryOp (wm op) u v) Q E s:=by
  have two:∀ {a b:Int},x=.int a->y=.int b->(∀ t t',u=.int a t->v=.int b t'->wpAny (model pw w) A (binaryOp (wm op) u v) Q E s)->wpAny (model pw w) A (binaryOp (wm op) u v) Q E s:=fun ea eb q=>by
    refine E10 ((ea▸rx).int_inv) fun t h=>?_;refine E10 ((eb▸ry).int_inv) fun t' h'=>?_;exact q t t' h h'
  cases op with
  |add=>
    refine Cs e (fun a b ea eb er=>two ea eb fun t t' eu ev=>?_) fun xs ys ea eb hf er=>?_
    · subst eu ev er;exact add_int (KQ.int I k)
    · subst ea eb er;exact Ap I rx ry hf k
  |sub=>
    refine bu e fun a ea e=>bu e fun b eb e=>two ea eb fun t t' eu ev=>?_
    obtain rfl:=Option.some.inj e
    subst eu ev;exact sub_int (KQ.int I k)
  |mul=>
    refine bu e fun a ea e=>bu e fun b eb e=>cR e fun hf e=>two ea eb fun t t' eu ev=>?_
    obtain rfl:=Option.some.inj e
    subst eu ev;exact mul_int (KQ.int I k) (IntMulOk.of_left (nf (Bool.and_eq_true_iff.mp hf).1))
  |fdiv=>
    refine bu e fun a ea e=>bu e fun b eb e=>cR e fun hf e=>cg hf fun hf hg=>two ea eb fun t t' eu ev=>?_
    have hf:=of_decide_eq_true hf
    have hg:=of_decide_eq_true hg
    obtain rfl:=Option.some.inj e
    subst eu ev
    refine floordiv_int (by lia) ?_ (.inl (PyProof.noPylong_small (by lia)))
    rw [Int.fdiv_eq_ediv_of_nonneg _ (by lia)]
    exact KQ.int I k
  |mod=>
    refine bu e fun a ea e=>bu e fun b eb e=>cR e fun hf e=>two ea eb fun t t' eu ev=>?_
    have hf:=of_decide_eq_true hf
    obtain rfl:=Option.some.inj e
    subst eu ev
    refine mod_int' (by lia) ?_
    rw [Int.fmod_eq_emod_of_nonneg _ (by lia)]
    exact KQ.int I k
theorem xy {f:Value->Bool} {x:V} {u:Value} (hf:∀ y v a,R θ s.heap y v->eq1 x y=some a->EqAt A s v u (f v)/\f v=a) {xs:List V} {vs:List Value} (r:RL θ s.heap xs vs):∀ b,qK x xs=some b->(∀ v∈vs,EqAt A s v u (f v))/\vs.any f=b:=
  RL.ind (M:=fun xs vs=>∀ b,qK x xs=some b->(∀ v∈vs,EqAt A s v u (f v))/\vs.any f=b) r (fun b e=>⟨fun _ h=>(nomatch h),Option.some.inj e⟩) fun {y v xs vs} ry _ ih b e=>
    aR e fun a ea e=>aR e fun c ec e=>E01 (hf y v a ry ea) fun q1 q2=>E01 (ih c ec) fun h1 h2=>⟨fun z hz=>(List.mem_cons.mp hz).elim (fun q=>q▸q1) (h1 z),by rw [List.any_cons,q2,h2];exact Option.some.inj e⟩
theorem Bk {x:V} {xs:List V} {u:Value} {vs:List Value} {b:Bool} (hr:RL θ s.heap xs vs) (rx:R θ s.heap x u) (e:qK x xs=some b):
    ∃ f:Value->Bool,(∀ y,y∈vs.toArray->EqAt A.in1 s y u (f y))/\vs.toArray.any f=b:=by
  refine (fun ⟨f,hf⟩=>⟨f,fun y hy=>(xy hf hr b e).1 y (Array.mem_toArray.mp hy),List.any_toArray.trans (xy hf hr b e).2⟩:(∃ f:Value->Bool,∀ y v a,R θ s.heap y v->eq1 x y=some a->EqAt A.in1 s v u (f v)/\f v=a)->_) ?_
  cases x with
  |int i=>exact E10 rx.int_inv fun t q=>⟨fun v=>match v with|.int j _=>decide (j=i)|_=>false,fun y v a ry e=>bu e fun j ej e=>E10 (ej▸ry).int_inv fun t' q'=>by
      rw [q,q'];exact ⟨EqAt.int_int _ _ _ _,Option.some.inj e⟩⟩
  |bool i=>exact ⟨fun v=>match v with|.bool j=>decide (j=i)|_=>false,fun y v a ry e=>uu e fun j ej e=>by
      rw [rx.bool_inv,(show R θ s.heap (.bool j) v from ej▸ry).bool_inv];exact ⟨EqAt.bool_bool _ _,Option.some.inj e⟩⟩
  |_=>exact ⟨fun _=>false,fun _ _ _ _ e=>no e⟩
theorem iM (a:Int) (t:Tok):(iK w).is a (.int a t)=true:=by simp [iK,intKind,Value.isInt]
theorem AM (a:Str) (t:Tok):(sK w).is a (.str a t)=true:=by simp [sK,PySem.strKind,Value.isStrOf]
theorem td {κ:Type} [DecidableEq κ] {k:κ} {v:Value} {s:List (κ×Value)}:valueAt ((k,v)::s) k=some v:=
  congrArg (Option.map fun x:κ×Value=>x.2) (List.find?_cons_of_pos (p:=fun x:κ×Value=>decide (x.1=k)) (decide_eq_true rfl))
theorem tf {κ:Type} [DecidableEq κ] {b k:κ} {v:Value} {s:List (κ×Value)} (e:¬ b=k):valueAt ((b,v)::s) k=valueAt s k:=
  congrArg (Option.map fun x:κ×Value=>x.2) (List.find?_cons_of_neg (p:=fun x:κ×Value=>decide (x.1=k)) fun q=>e (of_decide_eq_true q))
theorem RK.get {α κ:Type} [DecidableEq α] [DecidableEq κ] {k:α->κ} (hk:∀ a b,k a=k b->a=b) {h:Heap} {r:List (α×V)} {t:List (κ×Value)} (q:RK k θ h r t) (a:α):
    (aZ r a=none/\valueAt t (k a)=none)\/∃ x v,aZ r a=some x/\valueAt t (k a)=some v/\R θ h x v:=by
  induction q with
  |nil=>exact .inl ⟨rfl,rfl⟩
  |@cons b x v r s h1 h2 ih=>
    by_cases e:b=a
    · subst e
      exact .inr ⟨x,v,if_pos rfl,td,h1⟩
    · have e1:valueAt ((k b,v)::s) (k a)=valueAt s (k a):=tf fun q=>e (hk _ _ q)
      have e2:aZ ((b,x)::r) a=aZ r a:=if_neg e
      rw [e1,e2]
      exact ih
theorem RK.Dv {α κ:Type} [DecidableEq α] [DecidableEq κ] {k:α->κ} (hk:∀ a b,k a=k b->a=b) {h:Heap} {r:List (α×V)} {t:List (κ×Value)} (q:RK k θ h r t) {a:α} {x:V} (e:aZ r a=some x):∃ v,valueAt t (k a)=some v/\R θ h x v:=
  (q.get hk a).elim (fun z=>ns z.1 e) fun z=>E22 z fun y v e1 e2 r=>⟨v,e2,sm e1 e▸r⟩
theorem RK.isSome {α κ:Type} [DecidableEq α] [DecidableEq κ] {k:α->κ} (hk:∀ a b,k a=k b->a=b) {h:Heap} {r:List (α×V)} {t:List (κ×Value)} (x:RK k θ h r t) (a:α):(valueAt t (k a)).isSome=(aZ r a).isSome:=by
  rcases x.get hk a with ⟨e,e'⟩ | ⟨_,_,e,e',_⟩<;>rw [e,e']<;>rfl
theorem mx (I:Inv w h₁ θ σ s.heap) (B:Base w h₁) {p:OA} (hp:p∈θ):(p.a==sysModules)=false:=by
  have k:(KK w.params).lookup 3=some { cls:=.type "dict",data:=((KK w.params).lookup 3).get!.data }:=by kernel_rfl
  have:=(I.lo p hp).1 _ _ (B.X _ _ k)
  have e:sysModules=1:=rfl
  rw [e,beq_eq_false_iff_ne]
  show ¬ p.a=1
  lia
theorem tY (a b:Int):(a==b)=decide (a=b):=by by_cases h:a=b<;>simp [h]
theorem AE (B:Base w h₁) (hA:A.units+14<cLine) (I:Inv w h₁ θ σ s.heap) {x c:V} {u v:Value} {b neg:Bool} (rx:R θ s.heap x u) (rc:R θ s.heap c v) (e:o8 x c σ=some b) (k:∀ {tk:Nat},Q (.bool (if neg then !b else b)) { s with toks:=tk }):
    wpAny (model pw w) A (compareOp (if neg then .NotIn else .In) u v) Q E s:=by
  refine Dw e fun m o ec hm e=>?_
  refine E11 ((ec▸rc).bq) fun p hp z2=>?_
  subst z2
  have ho:=I.obj _ _ _ hm hp
  cases o with
  |list xs=>
    refine E22 ho fun vs n h1 h2 _=>?_
    refine E11 (Bk (A:=A) h2 rx e) fun f f1 f2=>?_
    have k0:Q (.bool (if neg then !b else b)) s:=k (tk:=s.toks)
    cases neg
    · exact in_listAt f h1.isList f1 (by rw [f2];exact k0)
    · exact notIn_listAt f h1.isList f1 (by rw [f2];exact k0)
  |dI kvs=>
    refine E13 ho fun t h1 h2 h3 _=>?_
    refine bu e fun a ea e=>?_
    refine E10 ((ea▸rx).int_inv) fun tk z1=>?_
    subst z1
    have q:(valueAt t a).isSome=b:=(h2.isSome (fun _ _ q=>q) a).trans (Option.some.inj e)
    cases neg
    · exact wpAny_in_of (iM a tk) (mx I B (List.mem_of_getElem? hp)) h1.mapOf (q▸k)
    · exact wpAny_notIn_of (iM a tk) (mx I B (List.mem_of_getElem? hp)) h1.mapOf (q▸k)
  |set xs=>
    refine E12 ho fun n h1 _ h3=>?_
    refine bu e fun a ea e=>?_
    refine E10 ((ea▸rx).int_inv) fun tk z1=>?_
    subst z1
    obtain rfl:=Option.some.inj e
    cases neg
    · exact wpAny_inSet_of (iM a tk) rfl h1 k
    · exact wpAny_notInSet_of (iM a tk) rfl h1 k
  |dS|dP|inst|exc=>exact no e
theorem CD (hA:A.units+14<cLine) (I:Inv w h₁ θ σ s.heap) {x y:V} {u v:Value} {b:Bool} (rx:R θ s.heap x u) (ry:R θ s.heap y v) (e:Br x y σ=some b) (k:KQ w h₁ θ s σ (.bool b) Q):wpAny (model pw w) A (compareOp .Eq u v) Q E s:=by
  refine Du e (fun n m xs en em hn hm hb=>?_) (fun a c ea ec hb=>?_) (fun a c ea ec hb=>?_) fun xs ys ex ey e=>?_
  · refine E11 ((en▸rx).bq) fun p hp z2=>?_
    subst z2
    refine E11 ((em▸ry).bq) fun q hq z2=>?_
    subst z2
    refine E22 (I.obj _ _ _ hn hp) fun vs n1 h1 h2 _=>?_
    refine E22 (I.obj _ _ _ hm hq) fun ws n2 g1 g2 _=>?_
    obtain rfl:=g2.nil_inv
    subst hb
    have hl:=h2.length
    cases xs with
    |nil=>
      obtain rfl:=h2.nil_inv
      exact eq_listAt (e:=fun _=>true) h1.isList g1.isList rfl (by lia) (fun j h1 _=>by simp at h1) (KQ.bool I k)
    |cons x xs=>
      refine eq_list_lengthsAt h1.isList g1.isList ?_ (by lia) (KQ.bool I k)
      simp at hl
      simp [← hl]
  · refine E10 ((ea▸rx).int_inv) fun t z1=>?_
    subst z1;refine E10 ((ec▸ry).int_inv) fun t' z1=>?_;subst z1
    refine eq_int ?_
    rw [tY,hb]
    exact KQ.bool I k
  · refine E10 ((ea▸rx).str_inv) fun t z1=>?_
    subst z1;refine E10 ((ec▸ry).str_inv) fun t' z1=>?_;subst z1
    refine eq_str ?_
    rw [s7,hb];exact KQ.bool I k
  · refine E34 ((ex▸rx).bV) fun a vs n z3 h1 _ _ h2=>?_
    subst z3
    refine E34 ((ey▸ry).bV) fun a' vs' n' z3 h1' _ _ h2'=>?_
    subst z3
    refine E11 (mS (f:=veq 11) e) fun ee q1 q2=>?_
    refine eq_tupleAt (e:=ee) ⟨_,h1,rfl,_,rfl⟩ ⟨_,h1',rfl,_,rfl⟩ (by lia) (qH h2 h2' q1 fun r1 r2 q=>yB 11 (A:=A.in1) (by show A.units+1+11<cLine;lia) r1 r2 q) ?_
    have:=KQ.bool I k
    rw [q2,h2.length,h2'.length] at this
    simpa using this
theorem wK (B:Base w h₁) (hA:A.units+14<cLine) (I:Inv w h₁ θ σ s.heap) {op:Co ()} {x y:V} {u v:Value} {b:Bool} (rx:R θ s.heap x u) (ry:R θ s.heap y v) (e:gQ op x y σ=some b)
    (k:KQ w h₁ θ s σ (.bool b) Q):wpAny (model pw w) A (compareOp (Bl op) u v) Q E s:=by
  cases op with
  |eq=>exact CD hA I rx ry e k
  |ne=>
    refine DA e (fun a c ea ec hb=>?_) fun a c ea ec hb=>?_
    · refine E10 ((ea▸rx).int_inv) fun t z1=>?_
      subst z1;refine E10 ((ec▸ry).int_inv) fun t' z1=>?_;subst z1
      refine ne_int ?_
      rw [bne,tY,hb]
      exact KQ.bool I k
    · refine E10 ((ea▸rx).str_inv) fun t z1=>?_
      subst z1;refine E10 ((ec▸ry).str_inv) fun t' z1=>?_;subst z1
      refine ne_str ?_
      rw [bne,s7,hb];exact KQ.bool I k
  |lt=>
    refine ub e fun a c ea ec hb=>?_
    refine E10 ((ea▸rx).int_inv) fun t z1=>?_
    subst z1;refine E10 ((ec▸ry).int_inv) fun t' z1=>?_;subst z1;subst hb;exact lt_int (KQ.bool I k)
  |le=>
    refine ub e fun a c ea ec hb=>?_
    refine E10 ((ea▸rx).int_inv) fun t z1=>?_
    subst z1;refine E10 ((ec▸ry).int_inv) fun t' z1=>?_;subst z1;subst hb;exact le_int (KQ.bool I k)
  |gt=>
    refine ub e fun a c ea ec hb=>?_
    refine E10 ((ea▸rx).int_inv) fun t z1=>?_
    subst z1;refine E10 ((ec▸ry).int_inv) fun t' z1=>?_;subst z1;subst hb;exact gt_int (KQ.bool I k)
  |ge=>
    refine ub e fun a c ea ec hb=>?_
    refine E10 ((ea▸rx).int_inv) fun t z1=>?_
    subst z1;refine E10 ((ec▸ry).int_inv) fun t' z1=>?_;subst z1;subst hb;exact ge_int (KQ.bool I k)
  |is=>
    refine Dx e (fun ex ey hb=>?_) fun ex ey hb=>?_
    · obtain rfl:=(ex▸rx).none_inv;obtain rfl:=(ey▸ry).none_inv;subst hb;exact wpAny_is_self rfl (KQ.bool I k)
    · obtain rfl:=(ey▸ry).none_inv
      subst hb
      rcases ex with ⟨a,ea⟩ | ⟨a,ea⟩ | ⟨a,ea⟩
      · refine E31 ((ea▸rx).bV) fun a vs n z3 _=>?_
        subst z3;exact wpAny_is_other rfl (by simp) (KQ.bool I k)
      · refine E10 ((ea▸rx).int_inv) fun t z1=>?_
        subst z1;exact wpAny_is_other rfl (by simp) (KQ.bool I k)
      · refine E10 ((ea▸rx).str_inv) fun t z1=>?_
        subst z1;exact wpAny_is_other rfl (by simp) (KQ.bool I k)
  |isin=>exact AE (neg:=false) B hA I rx ry e fun {tk}=>KQ.nz I k
  |notin=>
    refine E11 (Option.map_eq_some_iff.mp e) fun c ec z2=>?_
    subst z2
    exact AE (neg:=true) B hA I rx ry ec fun {tk}=>KQ.nz I k
end
noncomputable def pA:Expr->Bool
  |.Slice ..=>false
  |_=>true
theorem jP {slice:Expr} (h:pA slice=true) (o i:Value):subscripted slice false o i=operate [o,i] (getItem o i):=by
  cases slice<;>first | rfl | exact nof h
section
variable {w:World} {h₁:Heap} {n:Nat} {hs:Bool} {A:Around} {i:FI} {env:Env} {fr:Fr} {σ σ':St} {θ θ':List OA} {s s':Shared} {Q:Value->Shared->Prop} {E:Value->Shared->Prop}
theorem nE {xs:List V} {i:Int} {x:V} (e:jz xs i=some x):0<=i/\xs[i.toNat]?=some x:=by
  unfold jz at e
  split at e
  · exact ⟨‹_›,e⟩
  · exact no e
theorem Bt (I:Inv w h₁ θ σ s.heap) {xs:List V} {j:Int} {t:Tok} {r:V} {u:Value} (rx:R θ s.heap (.tup xs) u) (e:jz xs j=some r) (k:KQ w h₁ θ s σ r Q):
    (∃ T id,s.TypeIs u T/\typeLookup (.type T) "__getitem__"=pure (some (.builtin id)))/\wpAny (model pw w) A (getItem u (.int j t)) Q E s:=by
  refine E34 rx.bV fun a vs m z3 h1 _ hl h2=>?_
  subst z3
  refine E01 (nE e) fun g1 g2=>?_
  refine E11 (h2.at g2) fun v e1 r1=>?_
  have hb:=(List.getElem?_eq_some_iff.mp e1).1
  refine ⟨⟨_,_,⟨_,h1,rfl⟩,F.slot_tuple_getitem.lookup⟩,?_⟩
  refine P.getItem_tuple (k:=j.toNat) h1 (by lia) (by lia) ?_ (by simpa using e1) (k _ _ θ (To.refl I) r1)
  unfold seqIndex?
  simp only [List.size_toArray]
  first
    |(rw [if_pos (by lia)];done)
    |(simp;lia)
theorem rU (I:Inv w h₁ θ σ s.heap) {x y r:V} {u v:Value} (rx:R θ s.heap x u) (ry:R θ s.heap y v) (e:tR x y σ=some r) (k:KQ w h₁ θ s σ r Q):
    (∃ T id,s.TypeIs u T/\typeLookup (.type T) "__getitem__"=pure (some (.builtin id)))/\wpAny (model pw w) A (getItem u v) Q E s:=by
  refine zo e (fun xs j ex ey e=>?_) (fun m xs j ex ey hm e=>?_) fun m kvs j ex ey hm e=>?_
  · refine E10 ((ey▸ry).int_inv) fun t z1=>?_
    subst z1
    exact Bt I (ex▸rx) e k
  · refine E11 ((ex▸rx).bq) fun p hp z2=>?_
    subst z2
    refine E23 (I.obj _ _ _ hm hp) fun vs q h1 h2 _ hl=>?_
    refine E10 ((ey▸ry).int_inv) fun t z1=>?_
    subst z1
    refine E01 (nE e) fun g1 g2=>?_
    refine E11 (h2.at g2) fun v e1 r1=>?_
    have hb:=(List.getElem?_eq_some_iff.mp e1).1
    have hb':=h2.length
    exact ⟨⟨_,_,h1.isList.typeIs,slot_list_getitem.lookup⟩,wpAny_getItem_list h1.isList g1 (by lia) (by simpa using e1) (k _ _ θ (To.refl I) r1)⟩
  · refine E11 ((ex▸rx).bq) fun p hp z2=>?_
    subst z2
    refine E12 (I.obj _ _ _ hm hp) fun t h1 h2 _=>?_
    refine E10 ((ey▸ry).int_inv) fun tk z1=>?_
    subst z1
    refine E11 (h2.Dv (fun _ _ q=>q) e) fun v e1 r1=>?_
    exact ⟨⟨_,_,h1.typeIs,slot_dict_getitem.lookup⟩,wpAny_getItem_of (iM j tk) h1.mapOf e1 (k _ _ θ (To.tk I) r1)⟩
theorem B7 (I:Inv w h₁ θ σ s.heap) {value slice:Expr} (hp:pA slice=true) {x y r:V} {u v:Value} (rx:R θ s.heap x u) (ry:R θ s.heap y v) (e:tR x y σ=some r) (k:KQ w h₁ θ s σ r Q):
    wpAny (model pw w) A (subscriptTail value slice u v) Q E s:=by
  refine E01 (rU (A:=A) (E:=E) I rx ry e k) fun y0 g=>?_
  obtain ⟨T,id,hT,hl⟩:=y0
  exact tail_any hT hl g (jP hp u v)
end
theorem Ay (P:Params):∀ c,kU c=true->findIn (KK P) (.ref (a9 c)) "__getattribute__"=some (some (.builtin "object.__getattribute__")):=by
  intro c h;cases c;case perr=>exact nof h
  all_goals kernel_rfl
theorem Bh (P:Params):∀ c,kU c=true->findIn (KK P) (.ref (a9 c)) "__getattr__"=some none:=by
  intro c h;cases c;case perr=>exact nof h
  all_goals kernel_rfl
theorem CA (P:Params):∀ c,kU c=true->findIn (KK P) (.ref (a9 c)) "__setattr__"=some (some (.builtin "object.__setattr__")):=by
  intro c h;cases c;case perr=>exact nof h
  all_goals kernel_rfl
theorem tH (P:Params):∀ c,kU c=true->(clsIn (KK P) (a9 c)).any (·.hasDict)=true:=by
  intro c h;cases c;case perr=>exact nof h
  all_goals kernel_rfl
theorem zh (P:Params):∀ c,kU c=true->plainOver (KK P) (a9 c)=true:=by
  intro c h;cases c;case perr=>exact nof h
  all_goals kernel_rfl
theorem wH (P:Params):∀ c,kU c=true->makesIn (KK P) (a9 c)=true:=by
  intro c h;cases c;case perr=>exact nof h
  all_goals kernel_rfl
theorem tJ (P:Params):∀ c,keepIn (KK P) (.ref (a9 c))=true:=by
  intro c;cases c<;>kernel_rfl
theorem ze (P:Params):∀ c,kU c=true->findIn (KK P) (.ref (a9 c)) "__init__"=some (some (.ref (fc (gS c)).addr)):=by
  intro c h;cases c;case perr=>exact nof h
  all_goals kernel_rfl
noncomputable def wG (P:Params) (c:Cl ()) (m:Nm):Bool:=findIn (KK P) (.ref (a9 c)) (nmS m)==some ((cS c m).map fun f=>.ref (fc f).addr)
theorem tL (P:Params):∀ c m,kU c=true->wG P c m=true:=by
  intro c m h;cases c;case perr=>exact nof h
  all_goals exact nB (n:=59) (p:=wG P _) (by kernel_rfl) m
noncomputable def zv (P:Params) (f:Fn):Bool:=typeIn (KK P) (.ref (fc f).addr)==some (.type "function")&&keepIn (KK P) (.ref (fc f).addr)
theorem w8 (P:Params):∀ f,zv P f=true:=by
  exact nB (n:=60) (p:=zv P) (by kernel_rfl)
noncomputable def Dl (s:Str):Option Nm:=(List.finRange 59).find? fun (t:Nm)=>nmS t==s
theorem uL (t:Nm):Dl (nmS t)=some t:=tS (n:=59) (f:=fun t=>Dl (nmS t)) (g:=some) (by kernel_rfl) t
theorem zQ {a b:Nm} (e:nmS a=nmS b):a=b:=by
  have h:=uL a
  rw [e,uL b] at h
  exact (Option.some.inj h).symm
section
variable {w:World} {h₁:Heap} {n:Nat} {hs:Bool} {A:Around} {i:FI} {env:Env} {fr:Fr} {σ σ':St} {θ θ':List OA} {s s':Shared} {Q:Value->Shared->Prop} {E:Value->Shared->Prop}
theorem key_is {k m:Nm} (e:¬ k=m):¬ (nmS k==nmS m)=true:=fun q=>e (zQ (eq_of_beq q))
theorem qI {m:Nm}:(nmS m==nmS m)=true:=beq_self_eq_true _
theorem RA.noRef {h:Heap} {as:List (Nm×V)} {es:List DictEntry} (q:RA θ h as es):es.any (·.refKey)=false:=by
  induction q with
  |nil=>rfl
  |cons _ _ ih=>rw [List.any_cons,ih];rfl
theorem RA.find {h:Heap} (m:Nm) {as:List (Nm×V)} {es:List DictEntry} (q:RA θ h as es):
    (cQ as m=none/\es.find? (·.key.isStr (nmS m))=none)\/∃ x en,cQ as m=some x/\es.find? (·.key.isStr (nmS m))=some en/\R θ h x en.val:=by
  induction q with
  |nil=>exact .inl ⟨rfl,rfl⟩
  |@cons k x hs t v r s h1 h2 ih=>
    by_cases e:k=m
    · subst e
      exact .inr ⟨x,_,if_pos rfl,List.find?_cons_of_pos (p:=fun x:DictEntry=>x.key.isStr (nmS k)) qI,h1⟩
    · rw [List.find?_cons_of_neg (p:=fun x:DictEntry=>x.key.isStr (nmS m)) (a:=⟨hs,.str (nmS k) t,v⟩) (key_is e),show cQ ((k,x)::r) m=cQ r m from if_neg e]
      exact ih
theorem RA.look {h:Heap} {m:Nm} {as:List (Nm×V)} {o:Obj} {es:Array DictEntry} {ep:Nat} {x:V} (r:RA θ h as es.toList) (hd:o.data=.dict es ep) (hx:cQ as m=some x):∃ v,lookIn (nmS m) o=some (some v)/\R θ h x v:=by
  rcases r.find m with ⟨e,_⟩ | ⟨y,en,e,e1,e2⟩
  · exact ns e hx
  · obtain rfl:=sm e hx
    refine ⟨en.val,?_,e2⟩
    unfold lookIn
    rw [hd]
    dsimp only
    rw [e1]
theorem RA.CW {h:Heap} {m:Nm} {as:List (Nm×V)} {o:Obj} {es:Array DictEntry} {ep:Nat} (r:RA θ h as es.toList) (hd:o.data=.dict es ep) (hx:cQ as m=none):lookIn (nmS m) o=some none:=by
  rcases r.find m with ⟨_,e⟩ | ⟨y,en,e,_⟩
  · unfold lookIn
    rw [hd]
    dsimp only
    rw [e]
    dsimp only
    rw [r.noRef];rfl
  · exact ns hx e
theorem nN {as:List (Nm×V)} {m:Nm} {x:V} (e:cQ as m=some x):(m,x)∈as:=by
  induction as with
  |nil=>exact no e
  |cons p r ih=>
    by_cases q:p.1=m
    · have e:=(show cQ (p::r) m=some p.2 from if_pos q).symm.trans e
      rw [← Option.some.inj e,← q];exact .head _
    · exact .tail _ (ih ((show cQ (p::r) m=cQ r m from if_neg q).symm.trans e))
theorem tI {P:Params} {c:Cl ()} {m:Nm} (hc:kU c=true) (hm:cS c m=none):findIn (KK P) (.ref (a9 c)) (nmS m)=some none:=by
  have z:=beq_iff_eq.mp (tL P c m hc)
  rw [hm] at z;exact z
theorem zg {P:Params} {c:Cl ()} {m:Nm} {f:Fn} (hc:kU c=true) (hm:cS c m=some f):findIn (KK P) (.ref (a9 c)) (nmS m)=some (some (.ref (fc f).addr)):=by
  have z:=beq_iff_eq.mp (tL P c m hc)
  rw [hm] at z;exact z
theorem tX {p:OA} {c:Cl ()} {as:List (Nm×V)} {h:Heap} (o:OR w θ h p (.inst c as)):∃ es n,InstAt h p.a (instObj (a9 c) p.d) (a9 c) (some { cls:=.type "dict",data:=.dict es n })/\RA θ h as es.toList:=by
  refine E23 o fun es n h1 h2 h3 _=>?_
  exact ⟨es,n,⟨h1,rfl,rfl,h2⟩,h3⟩
theorem nH {h:Heap} {x:V} {v:Value} (r:R θ h x v):handedIn v=true:=by
  cases r<;>first | rfl | skip
  rename_i b;cases b<;>first | rfl | kernel_rfl
theorem uW (B:Base w h₁) (I:Inv w h₁ θ σ s.heap) {m:Nm} {k:Nat} {c:Cl ()} {as:List (Nm×V)} {u:Value} {x:V} {ex:Bool} (rx:R θ s.heap (.ref k) u) (hk:σ[k]?=some (.inst c as)) (e:cQ as m=some x)
    (q:KQ w h₁ θ s σ x Q):wpAny (model pw w) A (getAttr u (nmS m) ex) Q E s:=by
  refine E11 rx.bq fun p hp z2=>?_
  subst z2
  have o:=I.obj _ _ _ hk hp
  refine E21 (tX o) fun es n IA ra=>?_
  refine E25 o fun _ _ _ _ _ _ hc hm=>?_
  refine E11 (ra.look (o:={ cls:=.type "dict",data:=.dict es n }) rfl e) fun v hl rv=>?_
  have hfree:=tI (P:=w.params) hc (hm _ (nN e))
  exact get_value (K:=KK w.params) (B.at I) IA (Ay _ c hc) (v:=v) (findObj_own (tH w.params c hc) hfree rfl hl) (nH rv) (q _ _ θ (To.tk I) rv)
theorem vq (B:Base w h₁) (I:Inv w h₁ θ σ s.heap) {m:Nm} {k:Nat} {c:Cl ()} {as:List (Nm×V)} {u:Value} {f:Fn} {pl:Sem Bool} {Q:Value×List Value->Shared->Prop} (rx:R θ s.heap (.ref k) u) (hk:σ[k]?=some (.inst c as)) (e:cS c m=some f)
    (q:Q (.ref (fc f).addr,[u]) s):wpAny (model pw w) A (getMethod u (nmS m) pl) Q E s:=by
  refine E11 rx.bq fun p hp z2=>?_
  subst z2
  have o:=I.obj _ _ _ hk hp
  refine E21 (tX o) fun es n IA ra=>?_
  refine E25 o fun _ _ _ _ _ _ hc hm=>?_
  have hn:cQ as m=none:=by
    cases hh:cQ as m with
    |none=>rfl
    |some x=>have:=hm _ (nN hh);rw [e] at this;cases this
  have z:=ra.CW (o:={ cls:=.type "dict",data:=.dict es n }) rfl hn
  have hfn:=w8 w.params f
  unfold zv at hfn
  simp only [Bool.and_eq_true,beq_iff_eq] at hfn
  refine method_fn (K:=KK w.params) (B.at I) IA (Ay _ c hc) (Bh _ c hc) (zg hc e) hfn.1 ?_ q
  unfold shadowIn
  dsimp only
  rw [z];rfl
theorem vz {a:Addr} {o:Obj} {es:Array DictEntry} {k:Nat} {name:Str} {v:Value} {Q:Unit->Shared->Prop} (ho:s.heap.get? a=some o) (hd:o.data=.dict es k) (hr:es.any (·.refKey)=false)
    (h:Q () { s with heap:=s.heap.update a (Obj.putName name (PyData.keyHash w.params name) (.str name s.toks) v),toks:=s.toks+1 }):wpAny (model pw w) A (nsSet a name v) Q E s:=by
  unfold nsSet
  refine wpAny_bind (wpAny_bind (wpAny_askSetting (wpAny_pure (wpAny_bind (wpAny_mkText (wpAny_bind (wpAny_loadPart ho ?_)))))))
  rw [hd]
  dsimp only
  rw [aRefKeyMayBeTheName_at,hr,Bool.and_false]
  exact wpAny_updatePart ho h
theorem RA.put {h:Heap} {m:Nm} {x:V} {v:Value} {hh:Int} {t:Tok} (rv:R θ h x v) {as:List (Nm×V)} {es:List DictEntry} (q:RA θ h as es):
    (es.findIdx? (·.key.isStr (nmS m))=none/\RA θ h (fN as m x) (es++[⟨hh,.str (nmS m) t,v⟩]))\/∃ i,es.findIdx? (·.key.isStr (nmS m))=some i/\RA θ h (fN as m x) (es.modify i fun e=>{ e with val:=v }):=by
  induction q with
  |nil=>exact .inl ⟨rfl,.cons rv .nil⟩
  |@cons k y hs' t' v' r ss h1 h2 ih=>
    by_cases e:k=m
    · subst e
      rw [show fN ((k,y)::r) k x=(k,x)::r from if_pos rfl]
      exact .inr ⟨0,by rw [List.findIdx?_cons];exact if_pos qI,.cons rv h2⟩
    · have fi:(⟨hs',.str (nmS k) t',v'⟩::ss:List DictEntry).findIdx? (·.key.isStr (nmS m))=(ss.findIdx? (·.key.isStr (nmS m))).map (·+1):=by rw [List.findIdx?_cons];exact if_neg (key_is e)
      rw [fi,show fN ((k,y)::r) m x=(k,y)::fN r m x from if_neg e]
      rcases ih with ⟨e1,ih⟩ | ⟨i,e1,ih⟩
      · rw [e1];exact .inl ⟨rfl,.cons h1 ih⟩
      · rw [e1];exact .inr ⟨i+1,rfl,.cons h1 ih⟩
theorem qQ (as:List (Nm×V)) (m:Nm) (x:V):(fN as m x).length<=as.length+1:=by
  induction as with
  |nil=>exact Nat.le_refl _
  |cons p r ih=>
    by_cases e:p.1=m
    · rw [show fN (p::r) m x=(p.1,x)::r from if_pos e];exact Nat.le_succ _
    · rw [show fN (p::r) m x=(p.1,p.2)::fN r m x from if_neg e];exact Nat.succ_le_succ ih
theorem xS {as:List (Nm×V)} {m:Nm} {x:V} {kv:Nm×V}:kv∈fN as m x->kv.1=m\/kv∈as:=by
  induction as with
  |nil=>exact fun h=>.inl (by rw [List.mem_singleton.mp h])
  |cons p r ih=>
    by_cases e:p.1=m
    · rw [show fN (p::r) m x=(p.1,x)::r from if_pos e]
      exact fun h=>(List.mem_cons.mp h).elim (fun h=>.inl (by rw [h];exact e)) fun h=>.inr (.tail _ h)
    · rw [show fN (p::r) m x=(p.1,p.2)::fN r m x from if_neg e]
      exact fun h=>(List.mem_cons.mp h).elim (fun h=>.inr (by rw [h];exact .head _)) fun h=>(ih h).imp id (.tail _)
theorem zV {h:Heap} {m:Nm} {x:V} {v:Value} {hh:Int} {t:Tok} (rv:R θ h x v) {as:List (Nm×V)} {es:Array DictEntry} {k:Nat} (ra:RA θ h as es.toList):
    ∃ es' k',Obj.putName (nmS m) hh (.str (nmS m) t) v { cls:=.type "dict",data:=.dict es k }={ cls:=.type "dict",data:=.dict es' k' }/\RA θ h (fN as m x) es'.toList:=by
  have fe:es.toList.findIdx? (·.key.isStr (nmS m))=es.findIdx? (·.key.isStr (nmS m)):=by cases es;simp
  simp only [Obj.putName_eq,Obj.putNameByArray]
  rcases RA.put (m:=m) (hh:=hh) (t:=t) rv ra with ⟨e,z⟩ | ⟨i,e,z⟩<;>rw [← fe,e]<;>exact ⟨_,_,rfl,by simpa using z⟩
theorem pG (B:Base w h₁) (I:Inv w h₁ θ σ s.heap) {m:Nm} {u v:Value} {o x:V} (ro:R θ s.heap o u) (rv:R θ s.heap x v) (e:setAttr o m x σ=some σ') {Q:Unit->Shared->Prop}
    (q:∀ s',To w h₁ noW θ s σ' θ s'->Q () s'):wpAny (model pw w) A (PySem.setAttr u (nmS m) v) Q E s:=by
  refine BW e fun k c as ek hk hmm hsz es=>?_
  subst ek es
  refine E11 ro.bq fun p hp z2=>?_
  subst z2
  have oo:=I.obj _ _ _ hk hp
  refine E25 oo fun es n h1 h2 ra hl hc hm=>?_
  have hfree:=tI (P:=w.params) hc hmm
  refine E11 (any_some (tH w.params c hc)) fun cd hcd hdd=>?_
  have IA:InstAt s.heap p.a (instObj (a9 c) p.d) (a9 c) (some { cls:=.type "dict",data:=.dict es n }):=⟨h1,rfl,rfl,h2⟩
  refine set_plain (K:=KK w.params) (B.at I) IA (CA _ c hc) ?_
  refine osa_open (K:=KK w.params) (C:=a9 c) (r:=none) (B.at (s:={ s with toks:=s.toks+1 }) I) IA (zh _ c hc) ?_ fun b=>?_
  · unfold takerIn;rw [hfree];rfl
  · refine wpAny_bind (wpAny_pure (wpAny_bind (wpAny_bind (wpAny_loadPart h1 (wpAny_bind ((looks_clsIn (B.at (s:={ s with toks:=s.toks+1 }) I) hcd).here ?_))))))
    rw [hdd]
    refine wpAny_pure (a:=some p.d) (wpAny_bind (wpAny_pure (wpAny_bind (vz h2 rfl (by rw [← Array.any_toList];exact ra.noRef) ?_))))
    refine E21 (zV (m:=m) (hh:=PyData.keyHash w.params (nmS m)) (t:=s.toks+1) (k:=n) rv ra) fun es' n' e1 ra'=>?_
    have hsb:Heap.SameBut p.d s.heap (s.heap.update p.d (Obj.putName (nmS m) (PyData.keyHash w.params (nmS m)) (.str (nmS m) (s.toks+1)) v)):=Heap.SameBut.update ..
    have hd':(s.heap.update p.d (Obj.putName (nmS m) (PyData.keyHash w.params (nmS m)) (.str (nmS m) (s.toks+1)) v)).get? p.d=some { cls:=.type "dict",data:=.dict es' n' }:=by
      have:=Heap.get?_update_self (Obj.putName (nmS m) (PyData.keyHash w.params (nmS m)) (.str (nmS m) (s.toks+1)) v) h2 (by rw [e1];rfl)
      rw [this,e1]
    have hne:p.a≠p.d:=fun z=>by rw [z,h2] at h1;cases h1
    have hown:own θ p.d:=⟨p,List.mem_of_getElem? hp,.inr rfl⟩
    have x':Ext noW θ s.heap θ (s.heap.update p.d (Obj.putName (nmS m) (PyData.keyHash w.params (nmS m)) (.str (nmS m) (s.toks+1)) v)):=.same hsb hown ⟨_,hd'⟩ (dM h2 (by simp))
    have hl':=ra'.length
    have hl'':=qQ as m x
    refine wpAny_bind (wpAny_lookBehind hd' (pastItsLine_dict (by rw [sizeLine_eq,← Array.length_toList];lia)) ?_)
    refine wpAny_pure (q _ ⟨x',I.upd hsb hp (.inr rfl) ⟨_,hd'⟩ (dM h2 (by simp)) ⟨es',n',(hsb.2 _ hne).trans h1,hd',ra'.mono x',by exact Nat.le_trans (by assumption) (by assumption),hc,fun kv hkv=>?_⟩,rfl,rfl⟩)
    rcases xS hkv with z | z
    · rw [z];exact hmm
    · exact hm _ z
end
noncomputable def BH:Me->String
  |.append=>"list.append"|.pop=>"list.pop"|.get=>"dict.get"|.add=>"set.add"|.fn _=>""
section
variable {w:World} {h₁:Heap} {n:Nat} {hs:Bool} {A:Around} {i:FI} {env:Env} {fr:Fr} {σ σ':St} {θ θ':List OA} {s s':Shared} {Q:Value->Shared->Prop} {E:Value->Shared->Prop}
theorem zM (I:Inv w h₁ θ σ s.heap) {m:Nm} {k:Nat} {ob:O} {me:Me} {u:Value} {pl:Sem Bool} {Q:Value×List Value->Shared->Prop} (rx:R θ s.heap (.ref k) u) (hk:σ[k]?=some ob) (e:xu ob m=some me)
    (hf:∀ f,me≠.fn f) (q:Q (.builtin (BH me),[u]) s):wpAny (model pw w) A (getMethod u (nmS m) pl) Q E s:=by
  refine E11 rx.bq fun p hp z2=>?_
  subst z2
  have o:=I.obj _ _ _ hk hp
  refine CY e (fun c as f _ _ z=>absurd z.symm (hf f)) (fun xs z zm z2=>?_) (fun xs z zm z2=>?_) (fun z zm z2=>?_) fun xs z zm z2=>?_
  · subst z;subst zm;subst z2
    refine E21 o fun vs c h1 _=>?_
    exact getMethod_builtin ⟨_,h1,rfl⟩ F.plainAttrs_list F.slot_list_append F.type_list_append (fun a z=>by obtain rfl:=Value.ref.inj z;exact ⟨_,h1,rfl⟩) q
  · subst z;subst zm;subst z2
    refine E21 o fun vs c h1 _=>?_
    exact getMethod_builtin ⟨_,h1,rfl⟩ F.plainAttrs_list F.slot_list_pop F.type_list_pop (fun a z=>by obtain rfl:=Value.ref.inj z;exact ⟨_,h1,rfl⟩) q
  · subst zm;subst z2
    rcases z with ⟨xs,z | ⟨ys,z | ⟨zs,z⟩⟩⟩
    · subst z
      refine E11 o fun t h1 _=>?_
      exact getMethod_builtin h1.typeIs F.plainAttrs_dict F.slot_dict_get F.type_dict_get h1.mapOf.noDict q
    · subst z
      refine E11 o fun t h1 _=>?_
      exact getMethod_builtin h1.typeIs F.plainAttrs_dict F.slot_dict_get F.type_dict_get h1.mapOf.noDict q
    · subst z
      refine E11 o fun t h1 _=>?_
      exact getMethod_builtin h1.typeIs F.plainAttrs_dict F.slot_dict_get F.type_dict_get (fun a z=>by obtain rfl:=Value.ref.inj z;refine E32 h1 fun o _ _ g d _=>?_;exact ⟨o,g,d.2.1⟩) q
  · subst z;subst zm;subst z2
    refine E11 o fun t h1 _=>?_
    exact getMethod_set_add h1 q
theorem RL.pop {h:Heap} {xs:List V} {vs:List Value} (r:RL θ h xs vs):RL θ h xs.dropLast (vs.toArray.eraseIdxIfInBounds (vs.toArray.size - 1)).toList:=by
  have e:(vs.toArray.eraseIdxIfInBounds (vs.toArray.size - 1)).toList=vs.dropLast:=by
    simp [Array.eraseIdxIfInBounds]
    split
    · simp [List.eraseIdx_eq_take_drop_succ,List.dropLast_eq_take]
    · rename_i h
      have h0:vs=[]:=List.length_eq_zero_iff.mp (by simp at h;lia)
      subst h0;rfl
  rw [e,List.dropLast_eq_take,List.dropLast_eq_take,r.length]
  exact r.take _
theorem t8 {a b c d:Int} (q:[a,b]=[c,d]):(a,b)=(c,d):=by
  rw [(List.cons.inj q).1,(List.cons.inj (List.cons.inj q).2).1]
theorem qc {k:List Int} {p:Addr×Value} {s:List (List Int×Addr×Value)}:atKey ((k,p)::s) k=some p:=
  congrArg (Option.map fun x:List Int×Addr×Value=>x.2) (List.find?_cons_of_pos (p:=fun x:List Int×Addr×Value=>decide (x.1=k)) (decide_eq_true rfl))
theorem qd {b k:List Int} {p:Addr×Value} {s:List (List Int×Addr×Value)} (e:¬ b=k):atKey ((b,p)::s) k=atKey s k:=
  congrArg (Option.map fun x:List Int×Addr×Value=>x.2) (List.find?_cons_of_neg (p:=fun x:List Int×Addr×Value=>decide (x.1=k)) fun q=>e (of_decide_eq_true q))
theorem RP.get {h:Heap} (a b:Int) {r:List ((Int×Int)×V)} {t:List (List Int×Addr×Value)} (q:RP θ h r t):
    (aZ r (a,b)=none/\atKey t [a,b]=none)\/∃ x c v,aZ r (a,b)=some x/\atKey t [a,b]=some (c,v)/\R θ h x v:=by
  induction q with
  |nil=>exact .inl ⟨rfl,rfl⟩
  |@cons a' b' x c v r s hn h1 h2 ih=>
    by_cases e:(a',b')=(a,b)
    · obtain ⟨rfl,rfl⟩:=Prod.mk.inj e
      exact .inr ⟨x,c,v,if_pos rfl,qc,h1⟩
    · have e1:atKey (([a',b'],c,v)::s) [a,b]=atKey s [a,b]:=qd fun q=>e (t8 q)
      have e2:aZ (((a',b'),x)::r) (a,b)=aZ r (a,b):=if_neg e
      rw [e1,e2]
      exact ih
theorem yp {a b:Int} {h:Heap} {u:Value} (r:R θ h (.tup [.int a,.int b]) u):∃ c,u=.ref c/\(tK w).is h [a,b] c/\¬ own θ c:=by
  refine E34 r.bV fun c vs n z3 h1 ho _ h2=>?_
  subst z3
  refine E22 h2.cons_inv fun u1 us z2 r1 r2=>?_
  subst z2
  refine E22 r2.cons_inv fun u2 us' z2 r3 r4=>?_
  subst z2
  obtain rfl:=r4.nil_inv
  refine E10 r1.int_inv fun t1 z1=>?_
  subst z1
  refine E10 r3.int_inv fun t2 z1=>?_
  subst z1
  exact ⟨c,rfl,⟨_,_,_,h1,rfl,rfl,.cons (iM a t1) (.cons (iM b t2) .nil)⟩,ho⟩
theorem RP.getD {h:Heap} {a b:Int} {r:List ((Int×Int)×V)} {t:List (List Int×Addr×Value)} {d:V} {dv:Value} (H:RP θ h r t) (rd:R θ h d dv):R θ h ((aZ r (a,b)).getD d) (((atKey t [a,b]).map (·.2)).getD dv):=by
  rcases H.get a b with ⟨e,e'⟩ | ⟨x,c,v,e,e',r1⟩
  · rw [e,e'];exact rd
  · rw [e,e'];exact r1
theorem RK.getD {α κ:Type} [DecidableEq α] [DecidableEq κ] {f:α->κ} (hk:∀ a b,f a=f b->a=b) {h:Heap} {a:α} {r:List (α×V)} {t:List (κ×Value)} {d:V} {dv:Value} (H:RK f θ h r t) (rd:R θ h d dv):R θ h ((aZ r a).getD d) ((valueAt t (f a)).getD dv):=by
  rcases H.get hk a with ⟨e,e'⟩ | ⟨x,v,e,e',r1⟩
  · rw [e,e'];exact rd
  · rw [e,e'];exact r1
section
variable {k:Nat} {p:OA} {x d:V} {v dv:Value} {xs:List V}
theorem mQ (I:Inv w h₁ θ σ s.heap) (hp:θ[k]?=some p) {us:Array Value} {c:Nat} (h1:IsL s.heap p.a us c) (hd:p.d=p.a) (f:Array Value->Array Value) {ys:List V} {vs:List Value} (hf:f us=vs.toArray) (hr:RL θ s.heap ys vs) (hz:ys.length<=1000000):
    To w h₁ noW θ s (σ.set k (.list ys)) θ { s with heap:=s.heap.update p.a (Obj.mapSeq f) }:=
  have hsb:Heap.SameBut p.a s.heap (s.heap.update p.a (Obj.mapSeq f)):=.update ..
  have hnew:=h1.update f
  have hnx:=dM h1 (by simp)
  have x':Ext noW θ s.heap θ (s.heap.update p.a (Obj.mapSeq f)):=.same hsb ⟨p,List.mem_of_getElem? hp,.inl rfl⟩ ⟨_,hnew⟩ hnx
  ⟨x',I.upd hsb hp (.inl rfl) ⟨_,hnew⟩ hnx ⟨vs,_,hf▸hnew,hr.mono x',hd,hz⟩,rfl,rfl⟩
theorem vp (I:Inv w h₁ θ σ s.heap) (hp:θ[k]?=some p) (hx:σ[k]?=some (.list xs)) (rv:R θ s.heap x v) (hf:fits xs.length=true) (q:KQ w h₁ θ s (σ.set k (.list (xs++[x]))) .none Q):wpAny (model pw w) A (call (.builtin "list.append") [.ref p.a,v]) Q E s:=by
  refine E23 (I.obj _ _ _ hx hp) fun ys c h1 h2 h3 h4=>?_
  have hl:=h2.length
  have hf:=of_decide_eq_true hf
  exact call_meets F.slot_list_append ⟨_,h1,rfl⟩ F.entry_list_append (F.args_list_append_2 _ _) (list_append p.a ys.toArray c v (by rw [sizeLine_eq];simp;lia)) ⟨h1,q _ _ θ (mQ I hp h1 h3 (fun x=>x.push v) (vs:=ys++[v]) (by simp) (h2.append (.one rv)) (by simp;lia)) .none⟩
theorem BK (I:Inv w h₁ θ σ s.heap) (hp:θ[k]?=some p) (hx:σ[k]?=some (.list xs)) (hy:xs.getLast?=some x) (q:KQ w h₁ θ s (σ.set k (.list xs.dropLast)) x Q):wpAny (model pw w) A (call (.builtin "list.pop") [.ref p.a]) Q E s:=by
  refine E23 (I.obj _ _ _ hx hp) fun ys c h1 h2 h3 h4=>?_
  have hl:=h2.length
  rw [List.getLast?_eq_getElem?] at hy
  refine E11 (h2.at hy) fun v e1 rv=>?_
  have t:To w h₁ noW θ s (σ.set k (.list xs.dropLast)) θ { s with heap:=s.heap.update p.a (Obj.mapSeq fun xs=>xs.eraseIdxIfInBounds (ys.toArray.size - 1)) }:=mQ I hp h1 h3 _ (by simp) h2.pop (by simp;(refine Nat.le_trans (by assumption) ?_;decide))
  exact call_meets F.slot_list_pop ⟨_,h1,rfl⟩ F.entry_list_pop (F.args_list_pop_1 _) (MeetsSeq.list_pop_last p.a ys.toArray c v (by simp [← hl,e1]) (by rw [sizeLine_eq];simp;lia)) ⟨h1,q _ _ θ t (rv.mono t.ext)⟩
theorem BJ (B:Base w h₁) (hA:A.units+4<cLine) (I:Inv w h₁ θ σ s.heap) (hp:θ[k]?=some p) {o:O} (hx:σ[k]?=some o) {r:Option V} (e:CI o x=some r) (rv:R θ s.heap x v) (rd:R θ s.heap d dv) (q:KQ w h₁ θ s σ (r.getD d) Q):wpAny (model pw w) A (call (.builtin "dict.get") [.ref p.a,v,dv]) Q E s:=by
  have hdm:=mx I B (List.mem_of_getElem? hp)
  have ho:=I.obj _ _ _ hx hp
  cases o with
  |dI kvs=>
    refine bu e fun a ea e=>?_
    refine E10 ((ea▸rv).int_inv) fun t z1=>?_
    subst z1
    refine E12 ho fun ys h1 h2 _=>?_
    exact call_meetsIn F.slot_dict_get h1.typeIs F.entry_dict_get (F.args_dict_get_3 _ _ _) (meets_dict_get_default (iK w) p.a (iM a t) hdm dv) ⟨_,h1.mapOf,q _ _ θ (To.tk I) (Option.some.inj e▸h2.getD (fun _ _ q=>q) rd)⟩
  |dS kvs=>
    refine qN e fun a ea e=>?_
    refine E10 ((ea▸rv).str_inv) fun t z1=>?_
    subst z1
    refine E12 ho fun ys h1 h2 _=>?_
    exact call_meetsIn F.slot_dict_get h1.typeIs F.entry_dict_get (F.args_dict_get_3 _ _ _) (meets_dict_get_default (sK w) p.a (AM (tx a) t) hdm dv) ⟨_,h1.mapOf,q _ _ θ (To.tk I) (Option.some.inj e▸h2.getD (fun _ _ q=>pT q) rd)⟩
  |dP kvs=>
    refine E21 (mw e) fun _ _ ex e=>?_
    refine bu e fun a ea e=>bu e fun b eb e=>?_
    refine E12 (yp (w:=w) (a:=a) (b:=b) (by rw [← ea,← eb,← ex];exact rv)) fun ka z1 hk _=>?_
    subst z1
    refine E12 ho fun ys h1 h2 _=>?_
    exact call_meetsIn F.slot_dict_get h1.typeIs F.entry_dict_get (F.args_dict_get_3 _ _ _) (meetsH_dict_get_default (tK w) p.a ka hdm dv) ⟨(by show A.units+1<cLine;lia),_,_,hk,h1,q _ _ θ (To.tk I) (Option.some.inj e▸h2.getD rd)⟩
  |list|set|inst|exc=>exact no e
theorem BI (I:Inv w h₁ θ σ s.heap) (hp:θ[k]?=some p) {a:Int} {xs:List Int} (hx:σ[k]?=some (.set xs)) {t:Tok} (hf:xs.length<4000) (q:KQ w h₁ θ s (σ.set k (.set (if a∈xs then xs else xs++[a]))) .none Q):wpAny (model pw w) A (call (.builtin "set.add") [.ref p.a,.int a t]) Q E s:=by
  refine E12 (I.obj _ _ _ hx hp) fun c h1 h2 h3=>?_
  have hown:own θ p.a:=⟨p,List.mem_of_getElem? hp,.inl rfl⟩
  refine call_set_add (iM a t) rfl h1 (by unfold scanBound;lia) fun h' hsb hS=>?_
  have hlv:∃ o,h'.get? p.a=some o:=E40 hS fun o _ _ _ h=>⟨o,h.1⟩
  have hne:¬ ExcAt s.heap p.a:=E40 h1 fun _ _ _ _ h=>dM h.1 (by rw [h.2.2.1];simp)
  have x':Ext noW θ s.heap θ h':=.same hsb hown hlv hne
  have e2:(fun k'=>decide (k'∈xs)||decide (k'=a))=fun k=>decide (k∈(if a∈xs then xs else xs++[a])):=by
    funext k'
    by_cases hm:a∈xs
    · rw [if_pos hm]
      by_cases hk:k'=a
      · subst hk;simp [hm]
      · simp [hk]
    · rw [if_neg hm];simp
  rw [e2] at hS
  have hc:(if decide (a∈xs)=true then c else c+1)<=(if a∈xs then xs else xs++[a]).length:=by
    by_cases hm:a∈xs
    · simp [hm];exact h2
    · simp [hm];exact h2
  exact q _ _ θ ⟨x',I.upd hsb hp (.inl rfl) hlv hne ⟨_,hS,hc,h3⟩,rfl,rfl⟩ .none
end
theorem tG (B:Base w h₁) (hA:A.units+4<cLine) (I:Inv w h₁ θ σ s.heap) {k:Nat} {me:Me} {args:List V} {r:V} {u:Value} {vs:List Value} (rx:R θ s.heap (.ref k) u) (ra:RL θ s.heap args vs)
    (e:gE me k args σ=some (r,σ')) (q:KQ w h₁ θ s σ' r Q):wpAny (model pw w) A (call (.builtin (BH me)) (u::vs)) Q E s:=by
  refine E11 rx.bq fun p hp z2=>?_
  subst z2
  cases me with
  |append=>
    refine jk e fun x ea e=>fV e fun xs hx e=>cR e fun hf e=>?_
    refine E11 (ra.eZ ea) fun v z1 rv=>?_
    subst z1
    exact vp I hp hx rv hf (eU q e)
  |pop=>
    refine tm e fun ea e=>fV e fun xs hx e=>aR e fun x hy e=>?_
    obtain rfl:=(ea▸ra).nil_inv
    exact BK I hp hx hy (eU q e)
  |get=>
    refine v5 e fun x d ea e=>aR e fun o hx e=>aR e fun r eg e=>?_
    refine E22 (ra.uJ ea) fun v dv z2 rv rd=>?_
    subst z2
    exact BJ B hA I hp hx eg rv rd (eU q e)
  |add=>
    refine jk e fun x ea e=>bu e fun a ex e=>zS e fun xs hx e=>cR e fun hf e=>?_
    refine E11 (ra.eZ ea) fun v z1 rv=>?_
    subst z1
    refine E10 ((ex▸rv).int_inv) fun t z1=>?_
    subst z1
    exact BI I hp hx (of_decide_eq_true hf) (eU q e)
  |fn=>exact no e
end
section
variable {w:World} {h₁:Heap} {n:Nat} {hs:Bool} {A:Around} {i:FI} {env:Env} {fr:Fr} {σ σ':St} {θ θ':List OA} {s s':Shared} {Q:Value->Shared->Prop} {E:Value->Shared->Prop}
theorem sJ {l:Addr} {items:Array Value} {c:Nat} {k:Int} {t:Tok} {v:Value} {Q:Unit->Shared->Prop} (hl:IsL s.heap l items c) (h0:0<=k) (hn:k<items.size) (hf:k<2 ^ 63)
    (hQ:Q () { s with heap:=s.heap.update l (Obj.mapSeq (·.setIfInBounds k.toNat v)) }):wpAny (model pw w) A (PySem.setItem (.ref l) (.int k t) v) Q E s:=by
  have hT:s.TypeIs (.ref l) "list":=⟨_,hl,rfl⟩
  have hx:items[k.toNat]?=some items[k.toNat]:=Array.getElem?_eq_getElem (by lia)
  unfold PySem.setItem
  try with_reducible refine wpAny_holding ?_
  first | refine wpAny_bind (wpAny_pure ?_) | skip
  refine wpAny_bind (wpAny_sequenceKey hT (by decide) ?_)
  refine wpAny_bind (wpAny_callSpecial?_slot (name:=Str.ofString "__setitem__") hT slot_list_setitem (wpAny_call_entry slot_list_setitem hT entry_list_setitem ?_ (args_list_setitem _ _ _)))
  show wpAny _ _ (Builtin.List.listSubscript? (.int k t) >>= _) _ _ s
  refine wpAny_bind (wpAny_listSubscript_int (fitsIndex_of h0 hf) ?_)
  refine E10 (Int.eq_ofNat_of_zero_le h0) fun j z1=>?_
  subst z1
  show wpAny _ _ ((seqItemAt l j >>= fun r=>pure (r.map (j,·))) >>= _) _ _ s
  refine wpAny_bind (wpAny_bind (wpAny_seqItemAt hl rfl (wpAny_pure ?_)))
  rw [show items[j]?=some items[j] from hx]
  show wpAny _ _ (setSeqItemAt l j v >>= _) _ _ s
  refine wpAny_bind (wpAny_setSeqItemAt hl rfl ?_)
  first
    |exact wpAny_bind (wpAny_pure (wpAny_pure ⟨.none,rfl,wpAny_pure hQ⟩))
    |exact wpAny_pure ⟨.none,rfl,wpAny_pure hQ⟩
theorem md {α:Type} [DecidableEq α] (kvs:List (α×V)) (a:α) (x:V):(dput kvs a x).length<=kvs.length+1:=by
  induction kvs with
  |nil=>exact Nat.le_refl _
  |cons p r ih=>
    by_cases e:p.1=a
    · rw [show dput (p::r) a x=(p.1,x)::r from if_pos e];exact Nat.le_succ _
    · rw [show dput (p::r) a x=(p.1,p.2)::dput r a x from if_neg e];exact Nat.succ_le_succ ih
theorem vI {κ:Type} [DecidableEq κ] {v v':Value} {k:κ} {s:List (κ×Value)} (hn:k∉s.map (·.1)):stored ((k,v')::s) k v=(k,v)::s:=by
  unfold stored
  rw [List.any_cons,decide_eq_true rfl,Bool.true_or,if_pos rfl,List.map_cons,if_pos rfl]
  exact congrArg ((k,v)::·) ((List.map_congr_left fun kv hkv=>if_neg fun q=>hn (List.mem_map.mpr ⟨kv,hkv,q⟩)).trans (List.map_id s))
theorem vJ {κ:Type} [DecidableEq κ] {v v':Value} {k b:κ} {s:List (κ×Value)} (e:¬ b=k):stored ((b,v')::s) k v=(b,v')::stored s k v:=by
  unfold stored
  rw [List.any_cons,decide_eq_false e,Bool.false_or,List.map_cons,if_neg e]
  by_cases q:(s.any fun kv=>decide (kv.1=k))=true
  · rw [if_pos q,if_pos q]
  · rw [if_neg q,if_neg q];rfl
theorem RK.put {α κ:Type} [DecidableEq α] [DecidableEq κ] {k:α->κ} (hk:∀ a b,k a=k b->a=b) {h:Heap} (a:α) {x:V} {v:Value} (rv:R θ h x v) {r:List (α×V)} {t:List (κ×Value)} (q:RK k θ h r t):(t.map (·.1)).Nodup->RK k θ h (dput r a x) (stored t (k a) v):=by
  induction q with
  |nil=>exact fun _=>.cons rv .nil
  |@cons b y v' r s h1 h2 ih=>
    intro hn
    have hn:=List.nodup_cons.mp hn
    by_cases e:b=a
    · subst e
      rw [vI hn.1,show dput ((b,y)::r) b x=(b,x)::r from if_pos rfl];exact .cons rv h2
    · rw [vJ fun q=>e (hk _ _ q),show dput ((b,y)::r) a x=(b,y)::dput r a x from if_neg e];exact .cons h1 (ih hn.2)
theorem sL {v v':Value} {c ka:Addr} {k:List Int} {s:List (List Int×Addr×Value)} (hn:k∉s.map (·.1)):storedH ((k,ka,v')::s) k c v=(k,ka,v)::s:=by
  rw [storedH_old (p:=(ka,v')) qc,List.map_cons,map_putAt_of_not_mem s k v hn]
  unfold putAt
  rw [if_pos rfl]
theorem sM {v v':Value} {c ka:Addr} {k b:List Int} {s:List (List Int×Addr×Value)} (e:¬ b=k):storedH ((b,ka,v')::s) k c v=(b,ka,v')::storedH s k c v:=by
  have ea:atKey ((b,ka,v')::s) k=atKey s k:=qd e
  unfold storedH
  rw [ea,List.map_cons]
  by_cases q:(atKey s k).isSome=true
  · rw [if_pos q,if_pos q];exact congrArg (·::_) (if_neg e)
  · rw [if_neg q,if_neg q];rfl
theorem RP.put {h:Heap} (a b:Int) {x:V} {v:Value} {c:Addr} (rv:R θ h x v) (hc:¬ own θ c) {r:List ((Int×Int)×V)} {t:List (List Int×Addr×Value)} (q:RP θ h r t):(t.map (·.1)).Nodup->RP θ h (dput r (a,b) x) (storedH t [a,b] c v):=by
  induction q with
  |nil=>exact fun _=>.cons hc rv .nil
  |@cons a' b' y ka v' r s hn h1 h2 ih=>
    intro hnd
    have hnd:=List.nodup_cons.mp hnd
    by_cases e:(a',b')=(a,b)
    · obtain ⟨rfl,rfl⟩:=Prod.mk.inj e
      rw [sL hnd.1,show dput (((a',b'),y)::r) (a',b') x=((a',b'),x)::r from if_pos rfl];exact .cons hn rv h2
    · rw [sM fun q=>e (t8 q),show dput (((a',b'),y)::r) (a,b) x=((a',b'),y)::dput r (a,b) x from if_neg e];exact .cons hn h1 (ih hnd.2)
section
variable {k:Nat} {p:OA} {x:V} {j v:Value} {Q:Unit->Shared->Prop}
theorem Ab (I:Inv w h₁ θ σ s.heap) (hp:θ[k]?=some p) {xs:List V} (hx:σ[k]?=some (.list xs)) {a:Int} {t:Tok} (h0:0<=a) (hc:a.toNat<xs.length) (rv:R θ s.heap x v)
    (q:∀ s',To w h₁ noW θ s (σ.set k (.list (xs.set a.toNat x))) θ s'->Q () s'):wpAny (model pw w) A (PySem.setItem (.ref p.a) (.int a t) v) Q E s:=by
  refine E23 (I.obj _ _ _ hx hp) fun ys c h1 h2 h3 h4=>?_
  have hl:=h2.length
  exact sJ h1 h0 (by simp;lia) (by lia) (q _ (mQ I hp h1 h3 (·.setIfInBounds a.toNat v) (vs:=ys.set a.toNat v) (by simp) (h2.set rv) (by simp;exact h4)))
theorem qX (I:Inv w h₁ θ σ s.heap) (hp:θ[k]?=some p) {α κ:Type} [DecidableEq α] [DecidableEq κ] {f:α->κ} {K:KeyKind pw w κ} (hf:∀ a b,f a=f b->a=b) {a:α} {r:List (α×V)} {t:List (κ×Value)} {o:O} (hk:K.is (f a) j=true) (h1:s.heap.DictOf K p.a t) (h2:RK f θ s.heap r t) (hz:fits r.length=true) (rv:R θ s.heap x v)
    (ho:∀ h' t',h'.DictOf K p.a t'->RK f θ h' (dput r a x) t'->(dput r a x).length<=1000000->OR w θ h' p o) (q:∀ s',To w h₁ noW θ s (σ.set k o) θ s'->Q () s'):wpAny (model pw w) A (PySem.setItem (.ref p.a) j v) Q E s:=by
  have hl:=h2.length
  have hz:=of_decide_eq_true hz
  refine wpAny_setItem_pairs hk h1 (fun h' hd hsb=>?_) (by rw [sizeLine_eq];lia)
  have hlv:∃ o,h'.get? p.a=some o:=E30 hd fun o _ _ h=>⟨o,h.1⟩
  have hne:¬ ExcAt s.heap p.a:=E30 h1 fun _ _ _ h=>dM h.1 (by rw [h.2.2.1];simp)
  have x':Ext noW θ s.heap θ h':=.same hsb ⟨p,List.mem_of_getElem? hp,.inl rfl⟩ hlv hne
  have hy:=md r a x
  have hnd:(t.map (·.1)).Nodup:=E30 h1 fun _ _ _ h=>h.2.2.2.2.2
  exact q _ ⟨x',I.upd hsb hp (.inl rfl) hlv hne (ho _ _ hd ((h2.put hf a rv hnd).mono x') (by exact Nat.le_trans (by assumption) (by assumption))),rfl,rfl⟩
theorem Aa (hA:A.units+4<cLine) (I:Inv w h₁ θ σ s.heap) (hp:θ[k]?=some p) {a b:Int} {r:List ((Int×Int)×V)} (hx:σ[k]?=some (.dP r)) (hc:fits r.length=true) (ri:R θ s.heap (.tup [.int a,.int b]) j) (rv:R θ s.heap x v)
    (q:∀ s',To w h₁ noW θ s (σ.set k (.dP (dput r (a,b) x))) θ s'->Q () s'):wpAny (model pw w) A (PySem.setItem (.ref p.a) j v) Q E s:=by
  refine E12 (yp (w:=w) ri) fun ka z1 hk hkn=>?_
  subst z1
  refine E13 (I.obj _ _ _ hx hp) fun t h1 h2 h3 h4=>?_
  have hl:=h2.length
  have hc:=of_decide_eq_true hc
  refine wpAny_setItem_heap (by show A.units+1<cLine;lia) hk h1 (fun h' hd hsb=>?_) (by rw [sizeLine_eq];lia)
  have hlv:∃ o,h'.get? p.a=some o:=E30 hd fun o _ _ h=>⟨o,h.1⟩
  have hne:¬ ExcAt s.heap p.a:=E30 h1 fun _ _ _ h=>dM h.1 (by rw [h.2.2.1];simp)
  have x':Ext noW θ s.heap θ h':=.same hsb ⟨p,List.mem_of_getElem? hp,.inl rfl⟩ hlv hne
  have hz:=md r (a,b) x
  have hnd:(t.map (·.1)).Nodup:=E30 h1 fun _ _ _ h=>h.2.2.2.2.2
  have hlk:∀ p∈t,∃ o,s.heap.get? p.2.1=some o:=fun y hy=>by
    refine E35 h1 fun _ _ _ _ _ _ _ hkk _=>?_
    refine E31 (hkk y hy) fun o _ _ z _=>?_
    exact ⟨o,z⟩
  have hlk':∀ p∈storedH t [a,b] ka v,∃ o,s.heap.get? p.2.1=some o:=fun y hy=>by
    unfold storedH at hy
    split at hy
    · refine E11 (List.mem_map.mp hy) fun z hz z2=>?_
      subst z2
      unfold putAt
      split
      · exact hlk z hz
      · exact hlk z hz
    · rcases List.mem_append.mp hy with hy | hy
      · exact hlk y hy
      · simp at hy;subst hy
        refine E31 hk fun o _ _ z _=>?_
        exact ⟨o,z⟩
  exact q _ ⟨x',I.upd hsb hp (.inl rfl) hlv hne ⟨_,hd,(h2.put a b rv hkn hnd).mono x' hlk',h3,by exact Nat.le_trans (by assumption) (by assumption)⟩,rfl,rfl⟩
end
theorem sC (B:Base w h₁) (hA:A.units+4<cLine) (I:Inv w h₁ θ σ s.heap) {o i x:V} {u j v:Value} (ro:R θ s.heap o u) (ri:R θ s.heap i j) (rv:R θ s.heap x v) (e:setItem o i x σ=some σ') {Q:Unit->Shared->Prop}
    (q:∀ s',To w h₁ noW θ s σ' θ s'->Q () s'):wpAny (model pw w) A (PySem.setItem u j v) Q E s:=by
  refine fW e fun k ek e=>aR e fun ob hx e=>aR e fun ob' e2 e=>?_
  refine E11 ((ek▸ro).bq) fun p hp z2=>?_
  subst z2
  replace q:∀ s',To w h₁ noW θ s (σ.set k ob') θ s'->Q () s':=Option.some.inj e▸q
  cases ob with
  |list xs=>
    refine bu e2 fun a ea e2=>cR e2 fun hc e2=>cg hc fun h0 hc=>?_
    refine E10 ((ea▸ri).int_inv) fun t z1=>?_
    subst z1
    exact Ab I hp hx (of_decide_eq_true h0) (of_decide_eq_true hc) rv (Option.some.inj e2▸q)
  |dI kvs=>
    refine bu e2 fun a ea e2=>cR e2 fun hc e2=>?_
    refine E10 ((ea▸ri).int_inv) fun t z1=>?_
    subst z1
    refine E13 (I.obj _ _ _ hx hp) fun ys h1 h2 h3 h4=>?_
    exact qX (o:=.dI (dput kvs a x)) I hp (f:=id) (fun _ _ z=>z) (iM a t) h1 h2 hc rv (fun h' t' a b c=>⟨t',a,b,h3,c⟩) (Option.some.inj e2▸q)
  |dS kvs=>
    refine qN e2 fun a ea e2=>cR e2 fun hc e2=>?_
    refine E10 ((ea▸ri).str_inv) fun t z1=>?_
    subst z1
    refine E13 (I.obj _ _ _ hx hp) fun ys h1 h2 h3 h4=>?_
    exact qX (o:=.dS (dput kvs a x)) I hp (f:=tx) (fun _ _ z=>pT z) (AM (tx a) t) h1 h2 hc rv (fun h' t' a b c=>⟨t',a,b,h3,c⟩) (Option.some.inj e2▸q)
  |dP kvs=>
    refine E21 (mw e2) fun _ _ ex e2=>?_
    refine bu e2 fun a ea e2=>bu e2 fun b eb e2=>cR e2 fun hc e2=>?_
    exact Aa hA I hp hx hc (by rw [← ea,← eb,← ex];exact ri) rv (Option.some.inj e2▸q)
  |set|inst|exc=>exact no e2
end
section
variable {w:World} {h₁:Heap} {n:Nat} {hs:Bool} {A:Around} {i:FI} {env:Env} {fr:Fr} {σ σ':St} {θ θ':List OA} {s s':Shared} {Q:Value->Shared->Prop} {E:Value->Shared->Prop}
theorem qE {i:Int} (h1:-1000000<=i) (h2:i<=3000000):Builtin.Range.rangeFitsLong i=true:=
  (Bool.and_eq_true _ _).mpr ⟨decide_eq_true (Int.le_trans (by decide) h1),decide_eq_true (Int.lt_of_le_of_lt h2 (by decide))⟩
theorem w5 {a b:Int} (h1:-1000000<=a) (h2:b<=1000000) (h:a<b):Builtin.Range.rangeFitsLong (b - a - 1+1)=true:=by
  rw [Int.sub_add_cancel]
  exact qE (Int.le_trans (by decide) (Int.le_of_lt (Int.sub_pos_of_lt h))) (Int.le_trans (Int.sub_le_sub h2 h1) (by decide))
theorem kO {a b c:Int} (ha:i0 a=true) (hb:i0 b=true) (hc:c=1\/c=-1):Builtin.Range.small a b c=true:=by
  refine cg ha fun a1 a2=>cg hb fun b1 b2=>?_
  have a1:=of_decide_eq_true a1;have a2:=of_decide_eq_true a2;have b1:=of_decide_eq_true b1;have b2:=of_decide_eq_true b2
  have le:∀ {i:Int},i<=1000000->i<=3000000:=fun h=>Int.le_trans h (by decide)
  have key:Builtin.Range.rangeFitsLong (Builtin.Range.rangeSize a b c)=true:=by
    unfold Builtin.Range.rangeSize
    rcases hc with rfl | rfl
    · rw [if_pos (by decide)]
      by_cases h:a<b
      · rw [if_pos h,Int.ediv_one];exact w5 a1 b2 h
      · rw [if_neg h];rfl
    · rw [if_neg (by decide)]
      by_cases h:a>b
      · rw [if_pos h,Int.neg_neg,Int.ediv_one];exact w5 b1 a2 h
      · rw [if_neg h];rfl
  have e:(if c>0 then Builtin.Range.rangeFitsLong (b+(c - 1)) else Builtin.Range.rangeFitsLong (b+(c+1)))=true:=by
    rcases hc with rfl | rfl
    · rw [if_pos (by decide)];exact qE (by rw [Int.sub_self,Int.add_zero];exact b1) (by rw [Int.sub_self,Int.add_zero];exact le b2)
    · rw [if_neg (by decide)];exact qE (Int.le_trans b1 (Int.le_of_eq (Int.add_zero b).symm)) (Int.le_trans (Int.le_of_eq (Int.add_zero b)) (le b2))
  unfold Builtin.Range.small
  rw [qE a1 (le a2),qE b1 (le b2),key,e,Bool.or_true]
  rcases hc with rfl | rfl<;>rfl
theorem tZ:∀ {xs:List V} {ns:List Int} {vs:List Value} {h:Heap},RL θ h xs vs->intsOf xs=some ns->∃ ps:Array (Int×Tok),vs.toArray=intItems ps/\ps.toList.map (·.1)=ns
  |[],ns,vs,h,r,e=>by
    obtain rfl:=r.nil_inv
    obtain rfl:=Option.some.inj e
    exact ⟨#[],by simp [intItems],rfl⟩
  |x::xs,ns,vs,h,r,e=>by
    refine E22 r.cons_inv fun u us z2 r1 r2=>?_
    subst z2
    cases x with
    |int i=>
      refine E11 (Option.map_eq_some_iff.mp e) fun ms em z2=>?_
      subst z2
      refine E10 r1.int_inv fun t z1=>?_
      subst z1
      refine E11 (tZ r2 em) fun ps e1 e2=>?_
      refine ⟨((i,t)::ps.toList).toArray,?_,by simp [e2]⟩
      have:us=(ps.map fun p=>Value.int p.1 p.2).toList:=by
        have:=congrArg Array.toList e1
        simpa [intItems] using this
      simp [intItems,this]
    |_=>exact no e
theorem ou {h h':Heap} (k:Keeps h h'):Above h h'.objs.size:=(Above.size h').back fun b o e=>⟨o,k b o e⟩
section
variable {x:V} {u:Value} {xs:List V}
theorem A7 (B:Base w h₁) (I:Inv w h₁ θ σ s.heap) {r:Int} (e:BD x σ=some r) (rx:R θ s.heap x u) (q:KQ w h₁ θ s σ (.int r) Q):wpAny (model pw w) A (call (.builtin "len") [u]) Q E s:=by
  refine BE e (fun xs ex hr=>?_) fun n o en hx e=>?_
  · refine E34 ((ex▸rx).bV) fun a ws c z3 h1 _ hl h2=>?_
    subst z3
    subst hr
    refine PyProof.Rows.len_tuple (items:=ws.toArray) ⟨_,h1,rfl,_,rfl⟩ (by simp;lia) ?_
    have:=KQ.int (t:=s.toks+1) (tk:=s.toks+1+1) I q
    rw [h2.length] at this
    simpa using this
  · refine E11 ((en▸rx).bq) fun p hp z2=>?_
    subst z2
    have ho:=I.obj _ _ _ hx hp
    cases o with
    |list xs=>
      refine E23 ho fun ws c h1 h2 h3 h4=>?_
      obtain rfl:=Option.some.inj e
      have hl:=h2.length
      refine PyProof.Rows.len_list (items:=ws.toArray) h1.isList (by simp;lia) ?_
      have:=KQ.int (t:=s.toks+1) (tk:=s.toks+1+1) I q
      rw [h2.length] at this
      simpa using this
    |dI kvs=>
      refine E13 ho fun ws h1 h2 h3 h4=>?_
      obtain rfl:=Option.some.inj e
      have hl:=h2.length
      refine call_len_dict (mx I B (List.mem_of_getElem? hp)) h1 (by lia) ?_
      have:=KQ.int (t:=s.toks+1) (tk:=s.toks+1+1) I q
      rw [h2.length] at this
      exact this
    |dS|dP|set|inst|exc=>exact no e
theorem y6 (I:Inv w h₁ θ σ s.heap) {a:Int} (hf:i0 a=true) {t:Tok} (q:KQ w h₁ θ s σ (.rng 0 a 1) Q):wpAny (model pw w) A (call (.type "range") [.int a t]) Q E s:=
  call_range_1 (q _ _ θ ⟨.push _,I.push _,rfl,rfl⟩ (.rng (Heap.get?_push_size _ rfl) (I.dX (.size _)) (kO (by decide) hf (.inl rfl)) (.inl rfl)))
theorem y7 (I:Inv w h₁ θ σ s.heap) {a b:Int} (f1:i0 a=true) (f2:i0 b=true) {t t2 t3:Tok} (q:KQ w h₁ θ s σ (.rng a b (-1)) Q):wpAny (model pw w) A (call (.type "range") [.int a t,.int b t2,.int (-1) t3]) Q E s:=
  call_range_3 (by decide) (q _ _ θ ⟨.push _,I.push _,rfl,rfl⟩ (.rng (Heap.get?_push_size _ rfl) (I.dX (.size _)) (kO f1 f2 (.inr rfl)) (.inr rfl))) (.inl (PyProof.noPylong_small (by decide)))
theorem xj {θ':List OA} {h':Heap} {kvs:List (Int×V)} {ws:List (Int×Value)} (g:RK id θ s.heap kvs ws):∀ {l:List Value},l.length=ws.length->(∀ (j:Nat) v,l[j]?=some v->∃ k x,ws[j]?=some (k,x)/\(iK w).is k v=true)->RL θ' h' (kvs.map fun kv=>.int kv.1) l:=by
  induction g with
  |nil=>intro l hz _;rw [List.length_eq_zero_iff.mp hz];exact .nil
  |cons g1 g2 ih=>
    intro l hz hv
    cases l with
    |nil=>exact absurd hz.symm (Nat.succ_ne_zero _)
    |cons v l=>
      refine E21 (hv 0 v rfl) fun k' x' e1 e2=>?_
      obtain rfl:=(Prod.mk.inj (Option.some.inj e1)).1
      refine E10 (Value.isInt_shape e2) fun t z1=>?_
      subst z1
      exact .cons (.int _ t) (ih (Nat.succ.inj hz) fun j v e=>hv (j+1) v e)
theorem y5 (B:Base w h₁) (hn:A.handled=none) (I:Inv w h₁ θ σ s.heap) {kvs:List (Int×V)} {k:Nat} {p:OA} (hp:θ[k]?=some p) (hx:σ[k]?=some (.dI kvs)) (q:KQ w h₁ θ s (σ++[.list (kvs.map fun kv=>.int kv.1)]) (.ref σ.length) Q):wpAny (model pw w) A (call (.type "list") [.ref p.a]) Q E s:=by
  refine E13 (I.obj _ _ _ hx hp) fun ws h1 h2 h3 h4=>?_
  have hl:=h2.length
  refine E10 h1.dictAt fun ep hat=>?_
  refine kdl_call (kdl_dict (mx I B (List.mem_of_getElem? hp))) hn hat (by rw [sizeLine_eq];lia) fun h' tk acc' c' hk hD hacc=>?_
  have k:Keeps s.heap h':=hk
  have x':Ext noW θ s.heap (θ++[⟨s.heap.objs.size,s.heap.objs.size⟩]) h':=.fresh k (.size _) (.size _)
  have hrl:RL (θ++[⟨s.heap.objs.size,s.heap.objs.size⟩]) h' (kvs.map fun kv=>.int kv.1) acc'.toList:=
    xj h2 (by rw [Array.length_toList];exact hacc.1) fun j v e=>hacc.2 j v (by rw [← Array.getElem?_toList];exact e)
  exact q _ _ _ ⟨x',I.new (p:=⟨s.heap.objs.size,s.heap.objs.size⟩) k (.size _) (.size _) I.lt ⟨acc'.toList,c',by simpa using hD,hrl,rfl,by simp;exact h4⟩,rfl,rfl⟩ (R.kh I.len)
theorem wg (I:Inv w h₁ θ σ s.heap) {k:Nat} {p:OA} (hp:θ[k]?=some p) (hx:σ[k]?=some (.list xs)) (q:KQ w h₁ θ s σ (.tup xs) Q):wpAny (model pw w) A (call (.type "tuple") [.ref p.a]) Q E s:=by
  refine E23 (I.obj _ _ _ hx hp) fun ws c h1 h2 h3 h4=>?_
  have hl:=h2.length
  refine call_tuple_list h1.isList (fun h' hk=>?_) (by rw [sizeLine_eq];simp;lia)
  have k:Keeps s.heap (h'.push { cls:=.type "tuple",data:=.seq ws.toArray }):=Keeps.trans hk (.push _ _)
  exact q _ _ θ ⟨.of_keeps k,I.keeps k,rfl,rfl⟩ (.tup (n:=0) (Heap.get?_push_size _ rfl) (I.dX (ou hk)) (by lia) (h2.mono (.of_keeps (W:=noW) k)))
theorem A6 (I:Inv w h₁ θ σ s.heap) {t:Ty ()} {r:Bool} (e:Bu x t=some r) (rx:R θ s.heap x u) {v:Value} (rt:R θ s.heap (.ty t) v) (q:KQ w h₁ θ s σ (.bool r) Q):wpAny (model pw w) A (call (.builtin "isinstance") [u,v]) Q E s:=by
  obtain rfl:=rt.Cd
  refine Bv e (fun a ex et hr=>?_) (fun a ex hr=>?_) fun a ex hr=>?_
  · subst et hr
    refine E10 ((ex▸rx).str_inv) fun t z1=>?_
    subst z1
    exact IsiPair.str_str (KQ.bool I q)
  · subst hr
    refine E34 ((ex▸rx).bV) fun a ws c z3 h1 _ hl h2=>?_
    subst z3
    cases t
    · exact IsiPair.tuple_str h1 rfl (KQ.nz I q)
    · exact IsiPair.tuple_bool h1 rfl (KQ.nz I q)
  · subst hr
    refine E10 ((ex▸rx).int_inv) fun t' z1=>?_
    subst z1
    cases t
    · exact IsiPair.int_str (KQ.nz I q)
    · exact IsiPair.int_bool (KQ.nz I q)
theorem A9 (hn:A.handled=none) (I:Inv w h₁ θ σ s.heap) {k:Nat} {p:OA} (hp:θ[k]?=some p) (hx:σ[k]?=some (.list xs)) {ns:List Int} (en:intsOf xs=some ns) (q:KQ w h₁ θ s σ (.int ns.sum) Q):wpAny (model pw w) A (call (.builtin "sum") [.ref p.a]) Q E s:=by
  refine E23 (I.obj _ _ _ hx hp) fun ws c h1 h2 h3 h4=>?_
  refine E11 (tZ h2 en) fun ps e1 e2=>?_
  refine sum_intListG (xs:=ps) hn (by rw [← e1];exact h1.isList) fun h' tk t' hk=>?_
  rw [preSum_eq,List.take_of_length_le (by simp),e2]
  exact q _ _ θ ⟨.of_keeps hk,I.keeps hk,rfl,rfl⟩ (.int _ _)
theorem A8 (I:Inv w h₁ θ σ s.heap) (q:KQ w h₁ θ s (σ++[.set []]) (.ref σ.length) Q):wpAny (model pw w) A (call (.type "set") []) Q E s:=by
  refine call_set_0 fun led=>?_
  have hS:Heap.SetOf (iK w) (s.heap.push { cls:=.type "set",data:=.set #[] 0 (SetTable.fresh 0 0 led) }) s.heap.objs.size (fun k=>decide (k∈([]:List Int))) 0:=by
    refine ⟨_,#[],0,_,Heap.get?_push_size _ rfl,⟨rfl,rfl,rfl⟩,rfl,?_,fun k=>?_,by simp [scanBound],?_,rfl⟩
    · intro e he;simp at he
    · simp
    · cases led<;>decide
  exact q _ _ _ ⟨.fresh (.push _ _) (.size _) (.size _),I.alloc (o:=.set []) ⟨0,hS,Nat.le_refl _,rfl⟩,rfl,rfl⟩ (R.kh I.len)
end
theorem zd (B:Base w h₁) (hA:A.units+4<cLine) (hh:hs=true->A.handled=none) (I:Inv w h₁ θ σ s.heap) {b:Bi ()} {args:List V} {r:V} {vs:List Value} (ra:RL θ s.heap args vs)
    (e:jx hs b args σ=some (r,σ')) (q:KQ w h₁ θ s σ' r Q):wpAny (model pw w) A (call (qk b) vs) Q E s:=by
  cases b with
  |len=>
    refine jk e fun x ea e=>aR e fun k ek e=>?_
    refine E11 (ra.eZ ea) fun u z1 rx=>?_
    subst z1
    exact A7 B I ek rx (eU q e)
  |range=>
    refine De e (fun a ea hf e=>?_) fun a b ea f1 f2 e=>?_
    · refine E11 (ra.eZ ea) fun u z1 rx=>?_
      subst z1
      refine E10 rx.int_inv fun t z1=>?_
      subst z1
      exact y6 I hf (eU q e)
    · refine E33 (ra.vK ea) fun u v w z3 r1 r2 r3=>?_
      subst z3
      refine E10 r1.int_inv fun t z1=>?_
      subst z1
      refine E10 r2.int_inv fun t2 z1=>?_
      subst z1
      refine E10 r3.int_inv fun t3 z1=>?_
      subst z1
      exact y7 I f1 f2 (eU q e)
  |list=>
    refine jk e fun x ea e=>fW e fun k ek e=>cR e fun hn e=>BN e fun kvs hx e=>cR e fun hf e=>?_
    refine E11 (ra.eZ ea) fun u z1 rx=>?_
    subst z1
    refine E11 ((ek▸rx).bq) fun p hp z2=>?_
    subst z2
    exact y5 B (hh hn) I hp hx (eU q e)
  |tuple=>
    refine jk e fun x ea e=>fW e fun k ek e=>fV e fun xs hx e=>cR e fun hf e=>?_
    refine E11 (ra.eZ ea) fun u z1 rx=>?_
    subst z1
    refine E11 ((ek▸rx).bq) fun p hp z2=>?_
    subst z2
    exact wg I hp hx (eU q e)
  |set=>
    refine tm e fun ea e=>?_
    obtain rfl:=(ea▸ra).nil_inv
    exact A8 I (eU q e)
  |isinstance=>
    refine v5 e fun x y ea e=>BO e fun t et e=>aR e fun b eb e=>?_
    refine E22 (ra.uJ ea) fun u v z2 rx ry=>?_
    subst z2
    exact A6 I eb rx (et▸ry) (eU q e)
  |sum=>
    refine jk e fun x ea e=>fW e fun k ek e=>cR e fun hn e=>fV e fun xs hx e=>aR e fun ns en e=>?_
    refine E11 (ra.eZ ea) fun u z1 rx=>?_
    subst z1
    refine E11 ((ek▸rx).bq) fun p hp z2=>?_
    subst z2
    exact A9 (hh hn) I hp hx en (eU q e)
end
section
open Builtin Builtin.ObjectAttr
set_option maxHeartbeats 1000000
theorem uq {K:Frag} {h:Heap} (X:K.In h) {ns:Addr} {o:Obj} {es:Array DictEntry} {n:Nat} (ho:K.lookup ns=some o) (hd:o.data=.dict es n) (hk:StrKeys es):h.Ns ns (nsFind es):=⟨o,es,n,X _ _ ho,hd,hk,fun _=>rfl⟩
section
variable {w:World} {A:Around} {E:Value->Shared->Prop} {h:Heap} {g:Array GenState} {d:Drawn} {t:Nat} {os:OsState}
theorem r8 {s:Shared} {a:Addr} {o:Obj} {es:Array DictEntry} {k:Nat} {name:Str} {v:Value} {Q:Unit->Shared->Prop} (ho:s.heap.get? a=some o) (hd:o.data=.dict es k) (hr:es.any (·.refKey)=false)
    (h:Q () { s with heap:=s.heap.update a (Obj.putName name (PyData.keyHash w.params name) (.str name s.toks) v),toks:=s.toks+1 }):wpAny (model pw w) A (nsSet a name v) Q E s:=by
  unfold nsSet
  refine wpAny_bind (wpAny_bind (wpAny_askSetting (wpAny_pure (wpAny_bind (wpAny_mkText (wpAny_bind (wpAny_loadPart ho ?_)))))))
  rw [hd]
  dsimp only
  rw [aRefKeyMayBeTheName_at,hr,Bool.and_false]
  exact wpAny_updatePart ho h
theorem jy (X:(KK w.params).In h):h.get? 51=some (excClassObj (sO "PrologError") (sO "PrologError") 51 50 [.ref 31] [.ref 31,.type "Exception",.type "BaseException",.type "object"] true [] [] false none none
    (some (.ref 35)) none (some (.str (sO "PrologError") 216)) (some (.str (sO "PrologError") 224)) (some (.bool true)) "Exception.__new__"):=X _ _ (by kernel_rfl)
theorem wZ (X:(KK w.params).In h):OwnTail h [.type "Exception",.type "BaseException",.type "object"] [.ref 31,.type "Exception",.type "BaseException",.type "object"]:=by
  have h31:(KK w.params).lookup 31=some { cls:=.type "type",data:=.cls { name:=sO "ClausemillError",bases:=[.type "Exception"],mro:=[.ref 31,.type "Exception",.type "BaseException",.type "object"],ns:=30,qualname:=sO "ClausemillError",hasDict:=true,slotNames:=[],subclasses:=[.ref 51],abstract:=false,collection:=none,hasDel:=false },slots:=#[some (.ref 22),none,some (.str (sO "ClausemillError") 196),some (.str (sO "ClausemillError") 204),some (.builtin "Exception.__new__"),some (.bool true)] }:=by kernel_rfl
  have h30:(KK w.params).lookup 30=some { cls:=.type "dict",data:=.dict [en w.params "__module__" 203 (.str (sO "clausemill.symbols") 194),en w.params "__firstlineno__" 207 (.int 5 206),en w.params "__static_attributes__" 208 (.ref 29),en w.params "__weakref__" 210 (.ref 32),en w.params "__doc__" 211 (.none)].toArray 3 }:=by kernel_rfl
  refine .own (X _ _ h31) (uq X h30 rfl ?_) (by kernel_rfl) .base
  intro e he
  simp only [List.mem_toArray,List.mem_cons,List.not_mem_nil,or_false] at he
  rcases he with rfl | rfl | rfl | rfl | rfl<;>exact ⟨_,_,rfl⟩
theorem m9 (X:(KK w.params).In h) {v:Value} {Q:Fin->Shared->Prop}
    (hq:∀ h' e,Heap.MadeExcOf h h' e (.ref 51) [v]->Above h e->wpAny (model pw w) A (call (.ref 48) [.ref e,v]) (fun r s'=>r=.none/\Q (.done (.ret (.ref e))) s') E ⟨h',g,d,t,os⟩):
    wpAny (model pw w) A (Builtin.«type.__call__» ⟨[.ref 51,v],[]⟩) Q E ⟨h,g,d,t,os⟩:=by
  have hC:=jy X
  have T:=wZ X
  have F:=PySem.F.excBase_Exception
  have hi:findIn (KK w.params) (.ref 51) "__init__"=some (some (.ref 48)):=by kernel_rfl
  have hb:typeIn (KK w.params) (.ref 48)=some (.type "function"):=by kernel_rfl
  repeat (first | with_reducible refine wpAny_loadPart_at hC ?_ | with_reducible refine wpAny_madeBy_exc hC ?_ | wp_step)
  refine codeAny_call_builtin_code (Code.quiet_builtin _ F.quiet) (wpAny_check_new_subT F T hC ?_)
  refine codeAny_exc_new_subT F T hC ?_ (by simp [sizeLine])
  show wpAny _ _ _ _ _ _
  have k:Keeps h ((h.push { cls:=.type "tuple",data:=.seq [v].toArray }).push { cls:=.ref 51,data:=.fields #[.ref h.objs.size,.none,.none,.none,.bool false,.none] }):=Keeps.trans (.push _ _) (.push _ _)
  have X₁:=X.keeps k
  have hC₁:=jy X₁
  have hget:((h.push { cls:=.type "tuple",data:=.seq [v].toArray }).push
      { cls:=.ref 51,data:=.fields #[.ref h.objs.size,.none,.none,.none,.bool false,.none] }).get? (h.objs.size+1)=some
      { cls:=.ref 51,data:=.fields #[.ref h.objs.size,.none,.none,.none,.bool false,.none] }:=by heap_get
  have hcC:(Value.ref 51::[Value.ref 31,.type "Exception",.type "BaseException",.type "object"]).contains (.ref 51)=true:=by simp
  unfold isInstance
  repeat (first | with_reducible refine wpAny_loadPart_at hget ?_ | (with_reducible refine wpAny_isSubtype_exc hC₁ ?_;rw [hcC]) | wp_step)
  show wpAny _ _ (typeLookup (.ref 51) _) _ _ _
  refine (looks_findIn (M:=model pw w) X₁ hi).at ?_
  refine wpAny_holding (wpAny_bind ((bind_fn X₁ _ hb).at ?_))
  refine wpAny_bind (wpAny_mono (hq _ (h.objs.size+1) ⟨k,Heap.get?_none_of_le (Nat.le_succ _),h.objs.size,hget,Heap.get?_none_of_le (Nat.le_refl _),?_⟩ ((Above.size h).mono (Nat.le_succ _))) (fun r s' hr=>?_) fun _ _ x=>x)
  · exact Heap.get?_push_of_some _ (Heap.get?_push_at rfl rfl)
  · refine E01 hr fun z0 hQ=>?_
    subst z0
    wp_walk
    exact hQ
theorem wY (X:(KK w.params).In h) {v:Value} {Q:Value->Shared->Prop}
    (hq:∀ h' e,Heap.MadeExcOf h h' e (.ref 51) [v]->Above h e->wpAny (model pw w) (A.under (.builtin "type.__call__" ⟨[.ref 51,v],[]⟩)) (call (.ref 48) [.ref e,v]) (fun r s'=>r=.none/\Q (.ref e) s') E ⟨h',g,d,t,os⟩):
    wpAny (model pw w) A (call (.ref 51) [v]) Q E ⟨h,g,d,t,os⟩:=by
  have hC:=jy X
  have f1:=tc_lookup
  have f2:=tc_bind (.ref 51)
  have hT:(⟨h,g,d,t,os⟩:Shared).TypeIs (.ref 51) "type":=⟨_,hC,rfl⟩
  refine wpAny_call (codeAny_of_tree ?_)
  show wpAny _ _ (callAny (.ref 51) _) _ _ _
  repeat (any_goals (first | assumption | with_reducible refine wpAny_loadPart_at hC ?_ | wp_step))
  refine ⟨rfl,?_⟩
  refine codeAny_call_builtin_at (Code.quiet_builtin _ (by decide +kernel)) entry_typeCall (wpAny_check_type_call_sub hC (m9 X fun h' e hm ha=>?_))
  exact hq h' e hm ha
end
section
variable {w:World} {A:Around} {E:Value->Shared->Prop} {s:Shared}
theorem zT {x:Addr} {ox:Obj} {od:Option Obj} {name:Str} {tk:Tok} {v:Value} {R:Result->Shared->Prop} (X:(KK w.params).In s.heap) (I:InstAt s.heap x ox 51 od) (ht:findIn (KK w.params) (.ref 51) name=some none)
    (h:wpAny (model pw w) A.in1 (storeInOwnDict (.ref x) (.ref 51) (.str name tk) name v false)
      (fun fin s'=>match fin with | .done f=>R (.ok f) s' | .again c'=>c'.quiet=true/\codeAny (model pw w) A c' R s') (fun e s'=>R (.error e) s') s):
    codeAny (model pw w) A (.call (.builtin "object.__setattr__") ⟨[.ref x,.str name tk,v],[]⟩) R s:=by
  have SF:=PySem.F.store_Exception
  have hc:clsIn (KK w.params) 51=some { name:=sO "PrologError",bases:=[.ref 31],mro:=[.ref 51,.ref 31,.type "Exception",.type "BaseException",.type "object"],ns:=50,qualname:=sO "PrologError",hasDict:=true,slotNames:=[],subclasses:=[],abstract:=false,collection:=none,hasDel:=false }:=by kernel_rfl
  have hm:Looks (model pw w) s.heap (mroOf (.ref 51)) [.ref 51,.ref 31,.type "Exception",.type "BaseException",.type "object"]:=(looks_clsIn X hc).andThen .now
  have sub:Looks (model pw w) s.heap (isInstance (.ref x) (.type "object")) true:=I.type.andThen (looks_mroIn X (by kernel_rfl))
  refine codeAny_call_builtin SF.slot.plain SF.entry (@check_slot (model pw w) _ _ s "object.__setattr__" "object" "__setattr__" (.ref x) [.str name tk,v] [] _ SF.kind SF.split sub (SF.args (.ref x) (.str name tk) v) ?_)
  rw [osa_eq,refuse_eq]
  refine wpAny_bind (wpAny_bind (I.type.here (wpAny_bind (hm.here ?_))))
  rw [refuseLoop_ref,refuseLoop_ref,SF.passes]
  have L3:Looks (model pw w) s.heap (storeTaker? none) none:=.now
  exact wpAny_pure (wpAny_bind (I.type.here (wpAny_bind ((looks_findIn X ht).here (wpAny_bind (L3.here h))))))
theorem vk {x:Addr} {fs:Array Value} {v:Value} {name:Str} {Q:Unit->Shared->Prop} (X:(KK w.params).In s.heap) (hx:s.heap.get? x=some { cls:=.ref 51,data:=.fields fs }) (ht:findIn (KK w.params) (.ref 51) name=some none)
    (hq:∀ h' tk (d:Addr) es n,(∀ b o,b≠x->s.heap.get? b=some o->h'.get? b=some o)->h'.get? x=some { cls:=.ref 51,dict:=some d,data:=.fields fs }->Above s.heap d->d≠x->h'.get? d=some { cls:=.type "dict",data:=.dict es n }->
      lookIn name { cls:=.type "dict",data:=.dict es n }=some (some v)->Q () { s with heap:=h',toks:=tk }):wpAny (model pw w) A (PySem.setAttr (.ref x) name v) Q E s:=by
  have hsa:findIn (KK w.params) (.ref 51) "__setattr__"=some (some (.builtin "object.__setattr__")):=by kernel_rfl
  have hc:clsIn (KK w.params) 51=some { name:=sO "PrologError",bases:=[.ref 31],mro:=[.ref 51,.ref 31,.type "Exception",.type "BaseException",.type "object"],ns:=50,qualname:=sO "PrologError",hasDict:=true,slotNames:=[],subclasses:=[],abstract:=false,collection:=none,hasDel:=false }:=by kernel_rfl
  have IA:InstAt s.heap x { cls:=.ref 51,data:=.fields fs } 51 none:=⟨hx,rfl,rfl,trivial⟩
  refine set_plain (K:=KK w.params) X IA hsa ?_
  refine zT (s:={ s with toks:=s.toks+1 }) X IA ht ?_
  refine wpAny_bind (wpAny_pure (wpAny_bind (wpAny_bind (wpAny_loadPart hx (wpAny_bind ((looks_clsIn (M:=model pw w) (h:=s.heap) X hc) _ _ _ _ (fun _ _ e=>e) ?_))))))
  show wpAny _ _ (alloc _ >>= _) _ _ _
  refine wpAny_bind (wpAny_alloc ?_)
  have hx1:=Heap.get?_push_of_some { cls:=.type "dict",data:=.dict #[] } hx
  have hne:x≠s.heap.objs.size:=Nat.ne_of_lt (Heap.lt_size hx)
  refine wpAny_bind (wpAny_update hx1 ?_)
  show wpAny _ _ (pure (some s.heap.objs.size)) _ _ _
  refine wpAny_pure (wpAny_bind (wpAny_pure (wpAny_bind ?_)))
  generalize hH:(s.heap.push { cls:=.type "dict",data:=.dict #[] }).update x (fun o=>{ o with dict:=some s.heap.objs.size })=H
  have hd1:H.get? s.heap.objs.size=some { cls:=.type "dict",data:=.dict #[] }:=by
    rw [← hH,Heap.get?_update_other _ _ hne];exact Heap.get?_push_size _ rfl
  have hx2:H.get? x=some { cls:=.ref 51,dict:=some s.heap.objs.size,data:=.fields fs }:=by
    rw [← hH];exact Heap.get?_update_self _ hx1 rfl
  have hk2:∀ b o,b≠x->s.heap.get? b=some o->H.get? b=some o:=fun b o hb e=>by
    rw [← hH,Heap.get?_update_other _ _ (Ne.symm hb)];exact Heap.get?_push_of_some _ e
  refine r8 (s:={ s with heap:=H,toks:=s.toks+1 }) hd1 rfl (by simp) ?_
  have e1:Obj.putName name (PyData.keyHash w.params name) (.str name (s.toks+1)) v { cls:=.type "dict",data:=.dict #[] }={ cls:=.type "dict",data:=.dict #[⟨PyData.keyHash w.params name,.str name (s.toks+1),v⟩] 1 }:=by
    simp [Obj.putName_eq,Obj.putNameByArray]
  have hd2:=Heap.get?_update_self (Obj.putName name (PyData.keyHash w.params name) (.str name (s.toks+1)) v) hd1 (by rw [e1];rfl)
  rw [e1] at hd2
  refine wpAny_bind (wpAny_lookBehind (s:={ s with heap:=H.update s.heap.objs.size (Obj.putName name (PyData.keyHash w.params name) (.str name (s.toks+1)) v),toks:=s.toks+1+1 }) hd2 (pastItsLine_dict (by simp [sizeLine])) ?_)
  refine wpAny_pure (hq _ _ s.heap.objs.size _ _ (fun b o hb e=>?_) ?_ (.size _) (Ne.symm hne) hd2 ?_)
  · rw [Heap.get?_update_other _ _ (Ne.symm (Nat.ne_of_lt (Heap.lt_size e)))];exact hk2 b o hb e
  · rw [Heap.get?_update_other _ _ (Ne.symm hne)];exact hx2
  · unfold lookIn
    have:List.find? (·.key.isStr name) [(⟨PyData.keyHash w.params name,.str name (s.toks+1),v⟩:DictEntry)]=some _:=List.find?_cons_of_pos (beq_self_eq_true name)
    show (match List.find? _ [_] with | some e=>some (some (DictEntry.val e)) | none=>_)=_
    rw [this]
end
noncomputable def asP:List Stmt->Pos×Pos×Pos×Pos
  |[.Assign [.Attribute (.Name _ p1) _ p2] (.Name _ p3) p4]=>(p1,p2,p3,p4)
  |_=>default
theorem noLimit {P:Params} {h:Heap} (X:(KK P).In h):h.NoLimit:=by
  have h2:(KK P).lookup 2=some { cls:=.none,data:=.dict [en P "type.__subclasses__.Exception.0" 212 (.int 31 0),en P "type.__subclasses__.Exception.n" 213 (.int 1 0)].toArray 2 }:=by kernel_rfl
  refine ⟨_,uq X h2 rfl ?_,by kernel_rfl⟩
  intro e he
  simp only [List.mem_toArray,List.mem_cons,List.not_mem_nil,or_false] at he
  rcases he with rfl | rfl<;>exact ⟨_,_,rfl⟩
section
variable {w:World} {h₁:Heap} {A:Around} {E:Value->Shared->Prop} {s:Shared} {θ:List OA} {σ:St}
theorem zp (B:Base w h₁) (hroom:A.depth+4<recursionLimit) (I:Inv w h₁ θ σ s.heap) {x:V} {v:Value} (rx:R θ s.heap x v) {Q:Value->Shared->Prop} (q:KQ w h₁ θ s (σ++[.exc x true]) (.ref σ.length) Q):
    wpAny (model pw w) A (call (.ref 51) [v]) Q E s:=by
  have X:=B.at I
  refine wY (h:=s.heap) (g:=s.gens) (d:=s.drawn) (t:=s.toks) (os:=s.os) X fun h' e hm ha=>wpAny_call ?_
  obtain ⟨hk,hnew,t,he,htn,hte⟩:=hm
  have X':=X.keeps hk
  have hf:(KK w.params).lookup 48=some (aP (sO "__init__") (sO "PrologError.__init__") (bS 3 0) (.none) (.str (sO "clausemill.symbols") 194) (.ref 47)):=by kernel_rfl
  refine codeAny_call_def (body:=hX (bS 3 0)) (binds:=[(sO "self",.ref e),(sO "ball",v)]) ?_ (X' _ _ hf) rfl (noLimit X') (codeRec_of X' (by kernel_rfl)) rfl (BindsTo.of_eq (by kernel_rfl)) ?_ ?_ (fun h₀ hns hk₀=>?_) (by kernel_rfl) (by kernel_rfl) (by kernel_rfl)
  · show A.depth+(Code.builtin "type.__call__" ⟨[.ref 51,v],[]⟩).weight<recursionLimit
    have:(Code.builtin "type.__call__" ⟨[.ref 51,v],[]⟩).weight=1:=by kernel_rfl
    lia
  · intro y hy
    have:(lE (bS 3 0)).names.all (fun y=>y.2 != .cell)=true:=by kernel_rfl
    have:=List.all_eq_true.mp this y hy
    simpa using this
  · intro y hy
    simp only [List.mem_cons,List.not_mem_nil,or_false] at hy
    rcases hy with rfl | rfl<;>kernel_rfl
  · have kk:Keeps s.heap h₀:=Keeps.trans hk hk₀
    have X₀:=X'.keeps hk₀
    generalize hfd:fnX (sO "__init__") (sO "PrologError.__init__") (yb (bS 3 0)) (hX (bS 3 0)) (lE (bS 3 0)) [] (.none) .none .none (.str (sO "clausemill.symbols") 194) none (.ref 47) .none=fd
    have hsc:fd.scope=lE (bS 3 0):=by rw [← hfd]
    have hb:hX (bS 3 0)=[.Assign [.Attribute (.Name (sO "self") (asP (hX (bS 3 0))).1) (sO "ball") (asP (hX (bS 3 0))).2.1] (.Name (sO "ball") (asP (hX (bS 3 0))).2.2.1) (asP (hX (bS 3 0))).2.2.2]:=by kernel_rfl
    rw [hb]
    have hkd:(callEnv fd h'.objs.size 48).scope.kind=.function:=by show fd.scope.kind=_;rw [hsc];kernel_rfl
    have hl1:(callEnv fd h'.objs.size 48).kindOf (sO "self")=some .local:=by show fd.scope.names.lookup _=_;rw [hsc];kernel_rfl
    have hl2:(callEnv fd h'.objs.size 48).kindOf (sO "ball")=some .local:=by show fd.scope.names.lookup _=_;rw [hsc];kernel_rfl
    refine wpAny_execs_cons (plainObj_wpAny_Assign_Attribute (wpAny_Name (wpAny_loadName_local hkd hl2 hns (v:=v) (by kernel_rfl) ?_) (by kernel_rfl)))
    refine wpAny_Name (wpAny_loadName_local hkd hl1 hns (v:=.ref e) (by kernel_rfl) ?_) (by kernel_rfl)
    refine vk (w:=w) (s:={ s with heap:=h₀,toks:=s.toks+2 }) X₀ (hk₀ _ _ he) (by kernel_rfl) fun h2 tk dx es n2 hk2 hx2 hd1 hd2 hd3 hd4=>?_
    refine wpAny_execs_nil ⟨rfl,?_⟩
    have hene:∀ b o,s.heap.get? b=some o->b≠e:=fun b o eb z=>by rw [z,hnew] at eb;exact no eb
    have kf:Keeps s.heap h2:=fun b o eb=>hk2 b o (hene b o eb) (kk b o eb)
    have hdx:Above s.heap dx:=hd1.back fun b o eb=>⟨o,kk b o eb⟩
    have x':Ext noW θ s.heap (θ++[⟨e,dx⟩]) h2:=.fresh kf ha hdx
    exact q _ _ _ ⟨x',I.new (p:=⟨e,dx⟩) kf ha hdx I.lt ⟨_,es,n2,v,hx2,hd3,hd4,rx.mono x',fun _=>⟨t,rfl⟩,rfl⟩,rfl,rfl⟩ (R.kh (p:=⟨e,dx⟩) I.len)
end
section
variable {w:World} {A:Around} {E:Value->Shared->Prop} {s:Shared}
theorem vj {h:Heap} {g:Array GenState} {d:Drawn} {tk:Nat} {os:OsState} {x dx:Addr} {fs:Array Value} {es:Array DictEntry} {n:Nat} {v:Value} {ex:Bool} {Q:Value->Shared->Prop} (X:(KK w.params).In h) (hx:h.get? x=some { cls:=.ref 51,dict:=some dx,data:=.fields fs })
    (hd:h.get? dx=some { cls:=.type "dict",data:=.dict es n }) (hl:lookIn (nmS .ck) { cls:=.type "dict",data:=.dict es n }=some (some v)) (hh:handedIn v=true) (hq:∀ tk,Q v ⟨h,g,d,tk,os⟩):
    wpAny (model pw w) A (getAttr (.ref x) (nmS .ck) ex) Q E ⟨h,g,d,tk,os⟩:=by
  have FB:=F.attrBase_Exception
  have IA:InstAt h x { cls:=.ref 51,dict:=some dx,data:=.fields fs } 51 (some { cls:=.type "dict",data:=.dict es n }):=⟨hx,rfl,rfl,hd⟩
  have L0:=IA.type (M:=model pw w)
  have L1:=looks_findIn (M:=model pw w) X (show findIn (KK w.params) (.ref 51) "__getattribute__"=some (some (.builtin "BaseException.__getattribute__")) from by kernel_rfl)
  have L2:=looks_findIn (M:=model pw w) X (show findIn (KK w.params) (.ref 51) "__getattr__"=some none from by kernel_rfl)
  have sub:Looks (model pw w) h (isInstance (.ref x) (.type "BaseException")) true:=IA.type.andThen (looks_mroIn X (by kernel_rfl))
  have hf:findObj (KK w.params) 51 (some { cls:=.type "dict",data:=.dict es n }) (nmS .ck)=some (.value v):=
    findObj_own (attr:=none) (by kernel_rfl) (by kernel_rfl) rfl hl
  have L3:=looks_find (M:=model pw w) X IA hf
  unfold getAttr getAttrBy
  refine wpAny_bind (wpAny_mkText (wpAny_holding (wpAny_bind (L0.at (wpAny_bind (L1.at ?_))))))
  show wpAny _ _ (if (onTheHeap (Value.ref 51)&&Value.builtin "BaseException.__getattribute__"==Value.builtin "object.__getattribute__")=true then _ else _) _ _ _
  rw [if_neg (by decide +kernel)]
  unfold getAttrByItsOwn hookBefore
  refine wpAny_bind (L2.at ?_)
  show wpAny _ _ (Sem.attempt (callGetattribute _ _ _ _) >>= _) _ _ _
  refine wpAny_bind (wpAny_attempt ?_)
  have hcg:callGetattribute (.ref x) (.str (nmS .ck) tk) (.builtin "BaseException.__getattribute__") ex=boundAndCalled (.builtin "BaseException.__getattribute__") (.ref x) (.str (nmS .ck) tk):=by
    unfold callGetattribute
    cases ex<;>rfl
  rw [hcg]
  unfold boundAndCalled
  rw [FB.ga.bind]
  refine wpAny_bind (wpAny_pure ?_)
  show wpAny _ _ (call (.builtin "BaseException.__getattribute__") [.ref x,.str (nmS .ck) tk]) _ _ _
  refine wpAny_call (codeAny_call_builtin FB.ga.plain F.entry_bexc_ga (@check_slot (model pw w) _ _ ⟨h,g,d,tk+1,os⟩ "BaseException.__getattribute__" "BaseException" "__getattribute__" (.ref x) [.str (nmS .ck) tk] [] _ (by decide +kernel) (by decide +kernel) sub (F.args_bexc_ga _ _) ?_))
  unfold Builtin.«object.__getattribute__»
  repeat (first | lk | (show wpAny _ _ (ret _) _ _ _))
  show wpAny _ _ (handedOut v) _ _ _
  rw [handedOut_of hh]
  exact wpAny_pure (hq _)
theorem wX {x dx:Addr} {fs:Array Value} {es:Array DictEntry} {n:Nat} {v:Value} {ex:Bool} {Q:Value->Shared->Prop} (X:(KK w.params).In s.heap) (hx:s.heap.get? x=some { cls:=.ref 51,dict:=some dx,data:=.fields fs })
    (hd:s.heap.get? dx=some { cls:=.type "dict",data:=.dict es n }) (hl:lookIn (nmS .ck) { cls:=.type "dict",data:=.dict es n }=some (some v)) (hh:handedIn v=true) (hq:∀ tk,Q v { s with toks:=tk }):
    wpAny (model pw w) A (getAttr (.ref x) (nmS .ck) ex) Q E s:=vj X hx hd hl hh hq
end
end
noncomputable def Hd (A:Around) (h:Heap):Prop:=A.handled=none\/∃ ea:Nat,A.handled=some (.ref ea)/\ExcAt h ea
section
variable {w:World} {h₁:Heap} {n:Nat} {hs:Bool} {A:Around} {σ σ':St} {θ θ':List OA} {s s':Shared} {E:Value->Shared->Prop}
theorem ni:entryFor table "proto.unchain"=some Builtin.«proto.unchain»:=entryFor_of_tree (by kernel_rfl)
theorem jc {α:Type} {Q:α->Shared->Prop} (hh:Hd A s.heap)
    (h:∀ h' (e:Addr),Keeps s.heap h'->(∃ o,h'.get? e=some o/\o.cls=.type "StopIteration")->E (.ref e) { s with heap:=h' }):
    wpAny (model pw w) A (newExc (.type "StopIteration") [] >>= fun e=>(raiseNew e:Sem α)) Q E s:=by
  refine wpAny_bind ?_
  simp only [newExc,newTuple]
  refine wpAny_bind (wpAny_newObj_type ?_ (by size_fits))
  refine wpAny_bind (m:=firstArgMember _ _) (wpAny_of_eq (a:=Value.none) (by first | rfl | (simp only [firstArgMember];rfl)) ?_)
  refine wpAny_newObj_type ?_ (by size_fits)
  have k:∀ o,Keeps s.heap ((s.heap.push { cls:=.type "tuple",data:=.seq #[] }).push o):=fun o=>(Keeps.push _ _).trans (.push _ _)
  rcases hh with hh | ⟨ea,hh,o,fs,he,hc,hd,h2⟩
  · exact wpAny_raiseNew_none hh (h _ _ (k _) ⟨_,Heap.get?_push_size _ rfl,rfl⟩)
  · unfold raiseNew
    refine wpAny_bind (wpAny_handled ?_)
    rw [hh]
    have hlt:=iO he
    have hne:¬ ea=s.heap.objs.size+1:=by lia
    dsimp only
    rw [Heap.size_push,if_pos (by simpa using hne)]
    have he':=fun o=>k o _ _ he
    refine wpAny_bind (wpAny_holding (wpAny_runValue (codeAny_builtin ni ?_)))
    unfold Builtin.«proto.unchain»
    refine wpAny_bind (wpAny_field (he' _) hd h2 ?_)
    show wpAny _ _ (if (Value.none==Value.none)=true then _ else _) _ _ _
    rw [if_pos (show (Value.none==Value.none)=true from rfl)]
    refine wpAny_pure ?_
    have hnew:∀ o,o.isFreed=false->((s.heap.push { cls:=.type "tuple",data:=.seq #[] }).push o).get? (s.heap.objs.size+1)=some o:=fun o hf=>Heap.get?_push_at (by simp) hf
    refine wpAny_bind (wpAny_setField (hnew _ rfl) rfl (by simp;exact Nat.le_add_left _ _) (wpAny_throw (h _ _ (fun b ob eb=>?_) ⟨_,Heap.get?_update_self _ (hnew _ rfl) (by rfl),rfl⟩)))
    have hlb:=iO eb
    rw [Heap.get?_update_other _ _ (fun q=>by rw [← q] at hlb;exact absurd hlb (by lia))]
    exact k _ _ _ eb
theorem ke {it:Nat} {T id:String} {B:Builtin} (hd:Hd A s.heap) (hT:s.TypeIs (.ref it) T) (slot:Slot T "__next__" id) (entry:entryFor table id=some B) (args:argsOk id ⟨[.ref it],[]⟩) {Q:Option Value->Shared->Prop}
    (body:∀ {E':Value->Shared->Prop} {Q':Fin->Shared->Prop},(∀ h' (e:Nat),(∀ b o,b≠it->s.heap.get? b=some o->h'.get? b=some o)->(∃ o,h'.get? it=some o)->(∃ o,h'.get? e=some o/\o.cls=.type "StopIteration")->E' (.ref e) { s with heap:=h' })->wpAny (model pw w) A.in1 (B ⟨[.ref it],[]⟩) Q' E' s)
    (q:∀ h',(∀ b o,b≠it->s.heap.get? b=some o->h'.get? b=some o)->(∃ o,h'.get? it=some o)->Q none { s with heap:=h' }):wpAny (model pw w) A (pyNext (.ref it)) Q E s:=by
  unfold pyNext
  refine wpAny_bind (wpAny_attempt (wpAny_callSpecial?_slot (name:=Str.ofString "__next__") hT slot (wpAny_call_entry slot hT entry (body fun h' e k1 k2 k3=>?_) args)))
  refine E11 k3 fun o e1 e2=>?_
  refine wpAny_bind (wpAny_isInstance (T:="StopIteration") (b:=true) ⟨o,e1,e2⟩ isSubtype_stop ?_)
  exact wpAny_pure (q _ k1 k2)
theorem vo {it l:Nat} {i:Nat} {items:Array Value} (hd:Hd A s.heap) (hit:s.heap.IsListIter it l i) (hl:s.heap.IsList l items) (hx:items[i]?=none) {Q:Option Value->Shared->Prop}
    (q:∀ h',(∀ b o,b≠it->s.heap.get? b=some o->h'.get? b=some o)->(∃ o,h'.get? it=some o)->Q none { s with heap:=h' }):wpAny (model pw w) A (pyNext (.ref it)) Q E s:=by
  refine E12 (id hit) fun o ho hc hdd=>?_
  obtain ⟨ol,hol,_,nl,hdl⟩:=hl
  refine ke hd hit.typeIs slot_listiter_next entry_listiter_next (args_listiter_next _) (fun {E' Q'} hE=>?_) q
  show wpAny _ _ (field (.ref it) 0 >>= _) _ _ s
  refine wpAny_bind (wpAny_field ho hdd (x:=.ref l) rfl ?_)
  show wpAny _ _ (if (Value.ref l==Value.none)=true then _ else _) _ _ s
  rw [if_neg (show ¬ ((Value.ref l==Value.none)=true) from Bool.false_ne_true)]
  show wpAny _ _ (field (.ref it) 1 >>= _) _ _ s
  refine wpAny_bind (wpAny_field ho hdd (x:=.int i 0) rfl ?_)
  show wpAny _ _ (seqItems? (.ref l) >>= _) _ _ s
  refine wpAny_bind (wpAny_seqItems hol hdl ?_)
  simp only [Int.toNat_natCast,hx]
  have hf:=Heap.get?_update_self (Obj.mapFields (·.setIfInBounds 0 Value.none)) ho (Obj.isFreed_of_fields (Obj.data_mapFields hdd _))
  have ko:∀ (b:Addr) ob,b≠it->s.heap.get? b=some ob->(s.heap.update it (Obj.mapFields (·.setIfInBounds 0 Value.none))).get? b=some ob:=fun b ob hb eb=>(Heap.get?_update_other _ _ (Ne.symm hb)).trans eb
  refine wpAny_bind (wpAny_rule (wpAny_bind (wpAny_setField ho hdd (by simp) ?_)))
  refine jc (s:={ s with heap:=s.heap.update it (Obj.mapFields (·.setIfInBounds 0 Value.none)) }) ?_ fun h' e k1 k3=>hE h' e (fun b ob hb eb=>k1 _ _ (ko b ob hb eb)) ⟨_,k1 _ _ hf⟩ k3
  refine hd.imp id fun ⟨ea,e1,o1,fs,e2,e3,r⟩=>⟨ea,e1,o1,fs,ko ea o1 (fun z=>?_) e2,e3,r⟩
  rw [z,ho] at e2;obtain rfl:=Option.some.inj e2;rw [hc] at e3;cases e3
theorem s6 {it t:Nat} {i:Nat} {items:Array Value} (hd:Hd A s.heap) (hit:s.heap.IsTupleIter it t i) (hl:s.heap.IsTuple t items) (hx:items[i]?=none) {Q:Option Value->Shared->Prop}
    (q:∀ h',(∀ b o,b≠it->s.heap.get? b=some o->h'.get? b=some o)->(∃ o,h'.get? it=some o)->Q none { s with heap:=h' }):wpAny (model pw w) A (pyNext (.ref it)) Q E s:=by
  refine E12 (id hit) fun o ho hc hdd=>?_
  obtain ⟨ol,hol,_,nl,hdl⟩:=hl
  refine ke hd hit.typeIs F.slot_tuple_iterator_next F.entry_tuple_iterator_next (F.args_tuple_iterator_next_1 _) (fun {E' Q'} hE=>?_) q
  show wpAny _ _ (field (.ref it) 0 >>= _) _ _ s
  refine wpAny_bind (wpAny_field ho hdd (x:=.ref t) rfl ?_)
  show wpAny _ _ (if (Value.ref t==Value.none)=true then _ else _) _ _ s
  rw [if_neg (show ¬ ((Value.ref t==Value.none)=true) from Bool.false_ne_true)]
  show wpAny _ _ (field (.ref it) 1 >>= _) _ _ s
  refine wpAny_bind (wpAny_field ho hdd (x:=.int i 0) rfl ?_)
  show wpAny _ _ (seqItems? (.ref t) >>= _) _ _ s
  refine wpAny_bind (wpAny_seqItems hol hdl ?_)
  simp only [Int.toNat_natCast,hx]
  have hf:=Heap.get?_update_self (Obj.mapFields (·.setIfInBounds 0 Value.none)) ho (Obj.isFreed_of_fields (Obj.data_mapFields hdd _))
  have ko:∀ (b:Addr) ob,b≠it->s.heap.get? b=some ob->(s.heap.update it (Obj.mapFields (·.setIfInBounds 0 Value.none))).get? b=some ob:=fun b ob hb eb=>(Heap.get?_update_other _ _ (Ne.symm hb)).trans eb
  refine wpAny_bind (wpAny_rule (wpAny_bind (wpAny_setField ho hdd (by simp) ?_)))
  refine jc (s:={ s with heap:=s.heap.update it (Obj.mapFields (·.setIfInBounds 0 Value.none)) }) ?_ fun h' e k1 k3=>hE h' e (fun b ob hb eb=>k1 _ _ (ko b ob hb eb)) ⟨_,k1 _ _ hf⟩ k3
  refine hd.imp id fun ⟨ea,e1,o1,fs,e2,e3,r⟩=>⟨ea,e1,o1,fs,ko ea o1 (fun z=>?_) e2,e3,r⟩
  rw [z,ho] at e2;obtain rfl:=Option.some.inj e2;rw [hc] at e3;cases e3
theorem sg {it:Nat} {x left step:Int} (hd:Hd A s.heap) (hit:IsRangeIter s.heap it x left step) (hleft:left<=0) {Q:Option Value->Shared->Prop}
    (q:∀ h',(∀ b o,b≠it->s.heap.get? b=some o->h'.get? b=some o)->(∃ o,h'.get? it=some o)->Q none { s with heap:=h' }):wpAny (model pw w) A (pyNext (.ref it)) Q E s:=by
  refine ke hd ⟨_,hit,rfl⟩ F.slot_range_iterator_next F.entry_range_iterator_next (F.args_range_iterator_next_1 _) (fun {E' Q'} hE=>?_) q
  show wpAny _ _ (field (.ref it) 0 >>= _) _ _ s
  refine wpAny_bind (wpAny_field hit rfl (x:=rawInt x) rfl ?_)
  show wpAny _ _ (field (.ref it) 1 >>= _) _ _ s
  refine wpAny_bind (wpAny_field hit rfl (x:=rawInt left) rfl ?_)
  show wpAny _ _ (field (.ref it) 2 >>= _) _ _ s
  refine wpAny_bind (wpAny_field hit rfl (x:=rawInt step) rfl ?_)
  show wpAny _ _ (if left<=0 then _ else _) _ _ s
  rw [if_pos hleft]
  refine wpAny_bind (wpAny_rule ?_)
  exact wpAny_bind (jc (A:=A.in1) hd fun h' e k1 k3=>hE h' e (fun b ob _ eb=>k1 _ _ eb) ⟨_,k1 _ _ hit⟩ k3)
end
section
variable {w:World} {h₁:Heap} {n:Nat} {hs:Bool} {A:Around} {i:FI} {env:Env} {fr:Fr} {σ σ':St} {θ θ':List OA} {s s':Shared} {E:Value->Shared->Prop}
inductive fQ (θ:List OA) (h:Heap) (I:Nat) (k:Nat):V->Prop
  |tup {xs:List V} {a:Nat} {vs:List Value} {n:Nat} (ht:IsT h a vs.toArray n) (ho:¬ own θ a) (hl:vs.length<=2000000) (hr:RL θ h xs vs) (hi:h.IsTupleIter I a k):fQ θ h I k (.tup xs)
  |rng {a b c:Int} (hi:IsRangeIter h I (a+c * k) ((nh a b c:Int) - k) c) (hc:c=1\/c=-1):fQ θ h I k (.rng a b c)
  |ref {n:Nat} {p:OA} (hp:θ[n]?=some p) (hi:h.IsListIter I p.a k):fQ θ h I k (.ref n)
theorem fQ.obj {h:Heap} {I k:Nat} {it:V} (x:fQ θ h I k it):∃ o fs T,h.get? I=some o/\o.data=.fields fs/\o.cls=.type T/\zN T=true:=by
  cases x with
  |tup _ _ _ _ hi=>refine E12 hi fun o a b c=>?_;exact ⟨o,_,_,a,c,b,by decide +kernel⟩
  |rng hi _=>exact ⟨_,_,_,hi,rfl,rfl,by decide +kernel⟩
  |ref _ hi=>refine E12 hi fun o a b c=>?_;exact ⟨o,_,_,a,c,b,by decide +kernel⟩
theorem fQ.ext {W:Addr->Prop} {h h':Heap} {I k:Nat} {it:V} (x:fQ θ h I k it) (e:Ext W θ h θ' h') (hI:¬ own θ I) (hW:¬ W I):fQ θ' h' I k it:=by
  have key:∀ o fs,h.get? I=some o->o.data=.fields fs->h'.get? I=some o:=fun o fs ho hd=>by
    rcases e.keep I o hI ho with q | ⟨q,_⟩ | ⟨_,_,_,q,_⟩
    · exact q
    · exact absurd q hW
    · rw [hd] at q;cases q
  cases x with
  |tup ht ho hl hr hi=>
    refine E12 hi fun o a b c=>?_
    exact .tup (e.exact ho ht (by simp) (by simp) (by simp)) (e.bH ht ho) hl (hr.mono e) ⟨o,key _ _ a c,b,c⟩
  |rng hi hc=>exact .rng (key _ _ hi rfl) hc
  |ref hp hi=>
    refine E12 hi fun o a b c=>?_
    exact .ref (e.get hp) ⟨o,key _ _ a c,b,c⟩
theorem mD {a b c:Int} (hc:c=1\/c=-1):Builtin.Range.rangeSize a b c=(nh a b c:Int):=by
  unfold Builtin.Range.rangeSize nh
  rcases hc with rfl | rfl
  · simp only [show (1:Int)>0 from by decide,if_true,Int.ediv_one]
    split<;>lia
  · simp only [show ¬ ((-1:Int)>0) from by decide,show ¬ ((-1:Int)=1) from by decide,if_false,Int.neg_neg,Int.ediv_one]
    split<;>lia
theorem nP (I:Inv w h₁ θ σ s.heap) {it:V} {u:Value} {xs:List V} (rx:R θ s.heap it u) (e:itemsOf it σ=some xs) {Q:Value->Shared->Prop}
    (q:∀ s',To w h₁ noW θ s σ θ s'->fQ θ s'.heap s.heap.objs.size 0 it->¬ own θ s.heap.objs.size->Q (.ref s.heap.objs.size) s'):wpAny (model pw w) A (pyIter u) Q E s:=by
  have hno:¬ own θ s.heap.objs.size:=I.dX (.size _)
  cases it with
  |tup ys=>
    obtain rfl:=Option.some.inj e
    refine E34 rx.bV fun a vs m z3 h1 ho hl h2=>?_
    subst z3
    exact wpAny_pyIter_tuple (items:=vs.toArray) ⟨_,h1,rfl,_,rfl⟩ (q _ (To.push I _) (.tup (n:=m) (Heap.get?_push_of_some _ h1) ho hl (h2.mono (Ext.push (W:=noW) _)) ⟨_,Heap.get?_push_size _ rfl,rfl,rfl⟩) hno)
  |rng a b c=>
    cases rx with
    |rng hr ho hs hc=>
      refine wpAny_pyIter_range hr hs (q _ (To.push I _) (.rng (a:=a) (b:=b) ?_ hc) hno)
      rw [mD hc]
      simpa [IsRangeIter] using Heap.get?_push_size s.heap (o:={ cls:=.type "range_iterator",data:=.fields #[rawInt a,rawInt (nh a b c:Int),rawInt c] }) rfl
  |ref n=>
    refine E11 rx.bq fun p hp z2=>fV e fun ys hn _=>E22 (I.obj _ _ _ hn hp) fun vs m h1 h2 _=>?_
    subst z2
    exact wpAny_pyIter_list h1.isList (q _ (To.push I _) (.ref hp ⟨_,Heap.get?_push_size _ rfl,rfl,rfl⟩) hno)
  |_=>exact no e
theorem zZ {a b c:Int} {k:Nat} {x:V} (e:(fZ a b c)[k]?=some x):x=.int (a+c * k)/\k<nh a b c:=by
  unfold fZ at e
  rw [List.getElem?_map] at e
  refine E11 (Option.map_eq_some_iff.mp e) fun j e1 e2=>?_
  obtain ⟨h1,h2⟩:=List.getElem?_eq_some_iff.mp e1
  simp at h1 h2
  subst h2;exact ⟨e2.symm,h1⟩
theorem Ext.iter {h h':Heap} {I k:Nat} {it:V} (x:fQ θ h I k it) (hk:∀ b o,b≠I->h.get? b=some o->h'.get? b=some o) (hl:∃ o,h'.get? I=some o):Ext (·=I) θ h θ h':=by
  refine E33 x.obj fun oI fs T a b c d=>?_
  refine ⟨⟨[],by simp,fun _ hp=>nomatch hp⟩,fun q o _ e=>?_,fun q o e=>?_,fun q ⟨o,fs',e1,e2,e3⟩=>?_⟩
  · by_cases z:q=I
    · subst z;obtain rfl:=sm a e;exact .inr (.inl ⟨rfl,.inr (.inr ⟨fs,T,b,c,d⟩)⟩)
    · exact .inl (hk _ _ z e)
  · by_cases z:q=I
    · subst z;exact hl
    · exact ⟨o,hk _ _ z e⟩
  · by_cases z:q=I
    · subst z;obtain rfl:=sm a e1;rw [c] at e2;cases e2
    · exact ⟨o,fs',hk _ _ z e1,e2,e3⟩
theorem Inv.iter {h h':Heap} {I k:Nat} {it:V} (J:Inv w h₁ θ σ h) (x:fQ θ h I k it) (hI:¬ own θ I) (hb:h₁.get? I=none) (hk:∀ b o,b≠I->h.get? b=some o->h'.get? b=some o) (hl:∃ o,h'.get? I=some o):Inv w h₁ θ σ h':=
  J.ext (Ext.iter x hk hl) (fun b o e=>hk b o (fun q=>by rw [q,hb] at e;exact no e) (J.base b o e)) fun p hp=>
    ⟨fun o e=>hk _ _ (fun q=>hI ⟨p,hp,.inl q.symm⟩) e,fun o e=>hk _ _ (fun q=>hI ⟨p,hp,.inr q.symm⟩) e⟩
theorem next_item (J:Inv w h₁ θ σ s.heap) {it:V} {xs:List V} {I k:Nat} {x:V} (hit:fQ θ s.heap I k it) (hI:¬ own θ I) (hb:h₁.get? I=none) (e:itemsOf it σ=some xs) (ex:xs[k]?=some x) {Q:Option Value->Shared->Prop}
    (q:∀ v s',To w h₁ (·=I) θ s σ θ s'->fQ θ s'.heap I (k+1) it->R θ s'.heap x v->Q (some v) s'):wpAny (model pw w) A (pyNext (.ref I)) Q E s:=by
  have hit0:=hit
  cases hit with
  |tup ht ho hl hr hi=>
    obtain rfl:=Option.some.inj e
    refine E11 (hr.at ex) fun v e1 rv=>?_
    refine wpAny_pyNext_tuple_item hi ⟨_,ht,rfl,_,rfl⟩ (by simpa using e1) fun h' hi' hsb=>?_
    have hk:∀ b o,b≠I->s.heap.get? b=some o->h'.get? b=some o:=fun b o z q=>(hsb.2 b z).trans q
    have hlv:∃ o,h'.get? I=some o:=let ⟨o,a,_⟩:=hi';⟨o,a⟩
    have x':=Ext.iter hit0 hk hlv
    have hne:∀ b o,s.heap.get? b=some o->(∀ fs,o.data≠.fields fs)->b≠I:=fun b o eb hf z=>by
      refine E32 hit0.obj fun oI fs T a c _=>?_
      rw [z,a] at eb;obtain rfl:=Option.some.inj eb;exact hf fs c
    exact q v _ ⟨x',J.iter hit0 hI hb hk hlv,rfl,rfl⟩ (.tup (hk _ _ (hne _ _ ht (by simp)) ht) ho hl (hr.mono x') hi') (rv.mono x')
  |rng hi hc=>
    obtain rfl:=Option.some.inj e
    refine E01 (zZ ex) fun z0 hlt=>?_
    subst z0
    refine wpAny_pyNext_range_item hi (by lia) fun h' hi' hsb=>?_
    have hk:∀ b o,b≠I->s.heap.get? b=some o->h'.get? b=some o:=fun b o z q=>(hsb.2 b z).trans q
    refine q _ _ ⟨Ext.iter hit0 hk ⟨_,hi'⟩,J.iter hit0 hI hb hk ⟨_,hi'⟩,rfl,rfl⟩ (.rng ?_ hc) (.int _ _)
    have e1:∀ a c:Int,a+c * (k:Int)+c=a+c * ((k+1:Nat):Int):=fun a c=>by
      rw [show ((k+1:Nat):Int)=(k:Int)+1 from by push_cast;rfl,Int.mul_add];lia
    have e2:∀ m:Int,m - (k:Int) - 1=m - ((k+1:Nat):Int):=fun m=>by push_cast;lia
    rw [e1,e2] at hi'
    exact hi'
  |ref hp hi=>
    rename_i m p
    refine fV e fun ys hm e=>?_
    obtain rfl:=Option.some.inj e
    refine E22 (J.obj _ _ _ hm hp) fun vs c h1 h2 _=>?_
    refine E11 (h2.at ex) fun v e1 rv=>?_
    refine wpAny_pyNext_list_item hi h1.isList (by simpa using e1) fun h' hi' hsb=>?_
    have hk:∀ b o,b≠I->s.heap.get? b=some o->h'.get? b=some o:=fun b o z q=>(hsb.2 b z).trans q
    have hlv:∃ o,h'.get? I=some o:=let ⟨o,a,_⟩:=hi';⟨o,a⟩
    have x':=Ext.iter hit0 hk hlv
    exact q v _ ⟨x',J.iter hit0 hI hb hk hlv,rfl,rfl⟩ (.ref hp hi') (rv.mono x')
theorem next_end (hd:Hd A s.heap) (J:Inv w h₁ θ σ s.heap) {it:V} {xs:List V} {I k:Nat} (hit:fQ θ s.heap I k it) (hI:¬ own θ I) (hb:h₁.get? I=none) (e:itemsOf it σ=some xs) (ex:xs.length<=k) {Q:Option Value->Shared->Prop}
    (q:∀ s',To w h₁ (·=I) θ s σ θ s'->Q none s'):wpAny (model pw w) A (pyNext (.ref I)) Q E s:=by
  have fin:∀ h',(∀ b o,b≠I->s.heap.get? b=some o->h'.get? b=some o)->(∃ o,h'.get? I=some o)->Q none { s with heap:=h' }:=fun h' hk hl=>
    q _ ⟨Ext.iter hit hk hl,J.iter hit hI hb hk hl,rfl,rfl⟩
  cases hit with
  |tup ht ho hl hr hi=>
    obtain rfl:=Option.some.inj e
    refine s6 hd hi ⟨_,ht,rfl,_,rfl⟩ ?_ fin
    rw [List.getElem?_toArray,List.getElem?_eq_none]
    rw [← hr.length];exact ex
  |rng hi hc=>
    obtain rfl:=Option.some.inj e
    refine sg hd hi ?_ fin
    unfold fZ at ex
    simp at ex
    lia
  |ref hp hi=>
    refine fV e fun ys hm e=>?_
    obtain rfl:=Option.some.inj e
    refine E22 (J.obj _ _ _ hm hp) fun vs c h1 h2 _=>?_
    refine vo hd hi h1.isList ?_ fin
    rw [List.getElem?_toArray,List.getElem?_eq_none]
    rw [← h2.length];exact ex
end
structure Inf where
  p:Pos
  k:Nat
  sc:Scope
  nm:Str
  ks:List Expr
noncomputable def gk:List Comprehension->List Expr
  |⟨t,it,ifs,_⟩::_=>t::it::ifs
  |[]=>[]
noncomputable def inf:Expr->Inf
  |.BoolOp _ vs p=>⟨p,0,default,default,vs⟩
  |.BinOp l _ r p=>⟨p,0,default,default,[l,r]⟩
  |.UnaryOp _ a p=>⟨p,0,default,default,[a]⟩
  |.IfExp t a b p=>⟨p,0,default,default,[t,a,b]⟩
  |.Dict _ _ p=>⟨p,0,default,default,[]⟩
  |.ListComp e gs sc p=>⟨p,0,sc,default,e::gk gs⟩
  |.Compare l _ rs p=>⟨p,0,default,default,l::rs⟩
  |.Call f args _ p=>⟨p,0,default,default,f::args⟩
  |.Constant c k p=>⟨p,k,default,match c with|.str x=>x|_=>default,[]⟩
  |.Attribute v n p=>⟨p,0,default,n,[v]⟩
  |.Subscript v s p=>⟨p,0,default,default,[v,s]⟩
  |.Name n p=>⟨p,0,default,n,[]⟩
  |.List es p=>⟨p,0,default,default,es⟩
  |.Tuple es k p=>⟨p,k,default,default,es⟩
  |.Slice a b c p=>⟨p,0,default,default,[a,b,c].filterMap id⟩
  |_=>⟨default,0,default,default,[]⟩
noncomputable def hdE:List Expr->Expr
  |x::_=>x
  |[]=>.Constant .none 0 default
noncomputable def kl (xs:List Expr):List Expr:=(inf (hdE xs)).ks
noncomputable def kd (xs:List Expr) (j:Nat):List Expr:=(kl xs).drop j
noncomputable def pp (xs:List Expr):Pos:=(inf (hdE xs)).p
noncomputable def kk (xs:List Expr):Nat:=(inf (hdE xs)).k
noncomputable def nn (xs:List Expr):Str:=(inf (hdE xs)).nm
noncomputable def Dc (sc o:Scope):Scope:={ sc with names:=sc.names.map fun (n,k)=>if (k==.free&&o.kind==.function&&o.names.lookup n==some .cell) then (n,.cell) else (n,k) }
theorem zX (sc:Scope) (env:Env):relabel sc env=Dc sc env.scope:=rfl
noncomputable def ci (xs:List Expr) (i:FI):FI:=⟨[nn (kd xs 1)],i.cells,Dc (inf (hdE xs)).sc i.scope⟩
noncomputable def enc:ME->FI->List Expr->List Expr
  |.none,_,xs=>[.Constant .none (kk xs) (pp xs)]
  |.bool b,_,xs=>[.Constant (.bool b) (kk xs) (pp xs)]
  |.int n,_,xs=>[.Constant (.int n) (kk xs) (pp xs)]
  |.str _,_,xs=>[.Constant (.str (nn xs)) (kk xs) (pp xs)]
  |.loc _,_,xs=>[.Name (nn xs) (pp xs)]
  |.cell _,_,xs=>[.Name (nn xs) (pp xs)]
  |.glob _,_,xs=>[.Name (nn xs) (pp xs)]
  |.bin op a b,i,xs=>[.BinOp (hdE (enc a i (kd xs 0))) (wm op) (hdE (enc b i (kd xs 1))) (pp xs)]
  |.neg a,i,xs=>[.UnaryOp .USub (hdE (enc a i (kd xs 0))) (pp xs)]
  |.not a,i,xs=>[.UnaryOp .Not (hdE (enc a i (kd xs 0))) (pp xs)]
  |.cmp op a b,i,xs=>[.Compare (hdE (enc a i (kd xs 0))) [Bl op] [hdE (enc b i (kd xs 1))] (pp xs)]
  |.and a b,i,xs=>[.BoolOp .And [hdE (enc a i (kd xs 0)),hdE (enc b i (kd xs 1))] (pp xs)]
  |.or a b,i,xs=>[.BoolOp .Or [hdE (enc a i (kd xs 0)),hdE (enc b i (kd xs 1))] (pp xs)]
  |.or3 a b c,i,xs=>[.BoolOp .Or [hdE (enc a i (kd xs 0)),hdE (enc b i (kd xs 1)),hdE (enc c i (kd xs 2))] (pp xs)]
  |.ife t a b,i,xs=>[.IfExp (hdE (enc t i (kd xs 0))) (hdE (enc a i (kd xs 1))) (hdE (enc b i (kd xs 2))) (pp xs)]
  |.call f args,i,xs=>[.Call (hdE (enc f i (kd xs 0))) (enc args i (kd xs 1)) [] (pp xs)]
  |.mcall o _ args,i,xs=>[.Call (.Attribute (hdE (enc o i (kd (kd xs 0) 0))) (nn (kd xs 0)) (pp (kd xs 0))) (enc args i (kd xs 1)) [] (pp xs)]
  |.attr o _,i,xs=>[.Attribute (hdE (enc o i (kd xs 0))) (nn xs) (pp xs)]
  |.sub o b,i,xs=>[.Subscript (hdE (enc o i (kd xs 0))) (hdE (enc b i (kd xs 1))) (pp xs)]
  |.slFrom o a,i,xs=>[.Subscript (hdE (enc o i (kd xs 0))) (.Slice (some (hdE (enc a i (kd (kd xs 1) 0)))) none none (pp (kd xs 1))) (pp xs)]
  |.slTo o b,i,xs=>[.Subscript (hdE (enc o i (kd xs 0))) (.Slice none (some (hdE (enc b i (kd (kd xs 1) 0)))) none (pp (kd xs 1))) (pp xs)]
  |.slRev o,i,xs=>[.Subscript (hdE (enc o i (kd xs 0))) (.Slice none none (some (.UnaryOp .USub (.Constant (.int 1) (kk (kd (kd (kd xs 1) 0) 0)) (pp (kd (kd (kd xs 1) 0) 0))) (pp (kd (kd xs 1) 0)))) (pp (kd xs 1))) (pp xs)]
  |.list args,i,xs=>[.List (enc args i (kl xs)) (pp xs)]
  |.tuple args,i,xs=>[.Tuple (enc args i (kl xs)) (kk xs) (pp xs)]
  |.dict0 _,_,xs=>[.Dict [] [] (pp xs)]
  |.comp it elt,i,xs=>[.ListComp (hdE (enc elt (ci xs i) (kd xs 0))) [⟨.Name (nn (kd xs 1)) (pp (kd xs 1)),hdE (enc it i (kd xs 2)),[],0⟩] (inf (hdE xs)).sc (pp xs)]
  |.compIf it c elt,i,xs=>[.ListComp (hdE (enc elt (ci xs i) (kd xs 0))) [⟨.Name (nn (kd xs 1)) (pp (kd xs 1)),hdE (enc it i (kd xs 2)),[hdE (enc c (ci xs i) (kd xs 3))],0⟩] (inf (hdE xs)).sc (pp xs)]
  |.nil,_,_=>[]
  |.bad,_,xs=>[hdE xs]
  |.cons a r,i,xs=>hdE (enc a i xs)::enc r i xs.tail
noncomputable def isL:ME->Bool
  |.nil=>true
  |.cons ..=>true
  |_=>false
noncomputable def zH:ME->Nat
  |.cons _ r=>zH r+1
  |_=>0
noncomputable def isNm:Expr->Bool
  |.Name ..=>true
  |_=>false
noncomputable def mr:Expr->Bool
  |.Call ..=>false
  |.Starred ..=>false
  |.Set ..=>false
  |_=>true
noncomputable def noStar:Expr->Bool
  |.Starred ..=>false
  |.Set ..=>false
  |_=>true
noncomputable def vE (sc:Scope) (i:FI) (x:Str):Bool:=
  (sc.kind==.function)&&(sc.names.lookup x==some .local) &&
  sc.names.all fun y=>y.2 != .cell&&(y.2 != .local||sc.names.lookup y.1==some .local)&&(y.2 != .free||(i.scope.names.lookup y.1==some .cell&&i.cells.contains y.1))
noncomputable def okN (x:Str):Bool:=!(x==("__debug__":Str))
noncomputable def ok (P:Params):ME->FI->List Expr->Bool
  |.none,_,_=>true
  |.bool _,_,_=>true
  |.int _,_,_=>true
  |.str t,_,xs=>nn xs==tx t
  |.loc k,i,xs=>i.locs[k]?==some (nn xs)&&i.scope.names.lookup (nn xs)==some .local&&okN (nn xs)
  |.cell k,i,xs=>i.cells[k]?==some (nn xs)&&i.scope.names.lookup (nn xs)==some .cell&&okN (nn xs)
  |.glob v,i,xs=>i.scope.names.lookup (nn xs)==some .globalImplicit&&xb P (nn xs) v&&okN (nn xs)
  |.bin _ a b,i,xs=>!isL a&&ok P a i (kd xs 0)&&!isL b&&ok P b i (kd xs 1)
  |.neg a,i,xs=>!isL a&&ok P a i (kd xs 0)
  |.not a,i,xs=>!isL a&&ok P a i (kd xs 0)
  |.cmp op a b,i,xs=>!isL a&&ok P a i (kd xs 0)&&!isL b&&ok P b i (kd xs 1)&&!behindInMarks (Bl op) (hdE (enc b i (kd xs 1)))
  |.and a b,i,xs=>!isL a&&ok P a i (kd xs 0)&&!isL b&&ok P b i (kd xs 1)
  |.or a b,i,xs=>!isL a&&ok P a i (kd xs 0)&&!isL b&&ok P b i (kd xs 1)
  |.or3 a b c,i,xs=>!isL a&&ok P a i (kd xs 0)&&!isL b&&ok P b i (kd xs 1)&&!isL c&&ok P c i (kd xs 2)
  |.ife t a b,i,xs=>!isL t&&ok P t i (kd xs 0)&&!isL a&&ok P a i (kd xs 1)&&!isL b&&ok P b i (kd xs 2)
  |.call f args,i,xs=>!isL f&&ok P f i (kd xs 0)&&ok P args i (kd xs 1)&&isNm (hdE (enc f i (kd xs 0)))&&isL args
  |.mcall o m args,i,xs=>!isL o&&ok P o i (kd (kd xs 0) 0)&&ok P args i (kd xs 1)&&isL args&&nn (kd xs 0)==nmS m&&(pp (kd xs 0)).endLine==(pp xs).line&&mr (hdE (enc o i (kd (kd xs 0) 0)))&&decide (zH args<29)
  |.attr o m,i,xs=>!isL o&&ok P o i (kd xs 0)&&nn xs==nmS m&&mr (hdE (enc o i (kd xs 0)))
  |.sub o b,i,xs=>!isL o&&ok P o i (kd xs 0)&&!isL b&&ok P b i (kd xs 1)&&pA (hdE (enc b i (kd xs 1)))
  |.slFrom o a,i,xs=>!isL o&&ok P o i (kd xs 0)&&!isL a&&ok P a i (kd (kd xs 1) 0)
  |.slTo o b,i,xs=>!isL o&&ok P o i (kd xs 0)&&!isL b&&ok P b i (kd (kd xs 1) 0)
  |.slRev o,i,xs=>!isL o&&ok P o i (kd xs 0)
  |.list args,i,xs=>ok P args i (kl xs)&&isL args
  |.tuple args,i,xs=>ok P args i (kl xs)&&isL args
  |.dict0 _,_,_=>true
  |.comp it elt,i,xs=>!isL it&&ok P it i (kd xs 2)&&!isL elt&&ok P elt (ci xs i) (kd xs 0)&&vE (inf (hdE xs)).sc i (nn (kd xs 1))&&noStar (hdE (enc it i (kd xs 2)))
  |.compIf it c elt,i,xs=>!isL it&&ok P it i (kd xs 2)&&!isL elt&&ok P elt (ci xs i) (kd xs 0)&&vE (inf (hdE xs)).sc i (nn (kd xs 1))&&noStar (hdE (enc it i (kd xs 2)))&&!isL c&&ok P c (ci xs i) (kd xs 3)
  |.nil,_,_=>true
  |.bad,_,_=>true
  |.cons a r,i,xs=>!isL a&&ok P a i xs&&ok P r i xs.tail&&noStar (hdE (enc a i xs))&&isL r
section
variable {a b c d e f g k:Bool} {P:Prop}
theorem oy (h:(a&&b&&c)=true) (q:a=true->b=true->c=true->P):P:=cg h fun x y=>cg x fun a b=>q a b y
theorem gI (h:(a&&b&&c&&d)=true) (q:a=true->b=true->c=true->d=true->P):P:=cg h fun x y=>oy x fun a b c=>q a b c y
theorem qb (h:(a&&b&&c&&d&&e)=true) (q:a=true->b=true->c=true->d=true->e=true->P):P:=cg h fun x y=>gI x fun a b c d=>q a b c d y
theorem kQ (h:(a&&b&&c&&d&&e&&f)=true) (q:a=true->b=true->c=true->d=true->e=true->f=true->P):P:=cg h fun x y=>qb x fun a b c d e=>q a b c d e y
theorem Ct (h:(a&&b&&c&&d&&e&&f&&g)=true) (q:a=true->b=true->c=true->d=true->e=true->f=true->g=true->P):P:=cg h fun x y=>kQ x fun a b c d e f=>q a b c d e f y
theorem A2 (h:(a&&b&&c&&d&&e&&f&&g&&k)=true) (q:a=true->b=true->c=true->d=true->e=true->f=true->g=true->k=true->P):P:=cg h fun x y=>Ct x fun a b c d e f g=>q a b c d e f g y
end
theorem xh {e:Expr} (h:isNm e=true):∃ x p,e=.Name x p:=by
  cases e<;>first | exact ⟨_,_,rfl⟩ | exact nof h
theorem nX {e:Expr} {r:List Expr} {env:Env} (h:noStar e=true):starEach (e::r) env=(false,eval e env)::starEach r env:=by
  cases e<;>first | rfl | exact nof h
theorem fold_plain {e:Expr} {env:Env} (h:noStar e=true) (x:Value):foldedSetIterable e env x=pure x:=by
  cases e<;>first | rfl | exact nof h
theorem lZ {e:Expr} {m:Str} {env:Env} {t:Sem Value} (h:mr e=true):attributeBase e m env t=t:=by
  cases e<;>first | rfl | exact nof h
noncomputable def C3:Expr->Bool
  |.UnaryOp ..=>false
  |.BoolOp ..=>false
  |.IfExp ..=>false
  |.Compare ..=>false
  |_=>true
theorem sZ {e:Expr} {env:Env} {t:Sem Value} (h:C3 e=true):isTrue e env t=(do let v ← t;standAt e.pos;holding [v] (truthy v)):=by
  cases e<;>first | rfl | exact nof h
section
variable {w:World} {h₁:Heap} {n:Nat} {hs:Bool} {A:Around} {i:FI} {env:Env} {fr:Fr} {σ σ' σ₁:St} {θ θ':List OA} {s s':Shared} {Q:Value->Shared->Prop} {E:Value->Shared->Prop}
theorem KQ.list (I:Inv w h₁ θ σ s.heap) {xs:List V} {vs:List Value} (hr:RL θ s.heap xs vs) (hl:xs.length<=1000000) (k:KQ w h₁ θ s (σ++[.list xs]) (.ref σ.length) Q):
    Q (.ref s.heap.objs.size) { s with heap:=s.heap.push { cls:=.type "list",data:=.seq vs.toArray } }:=
  have x:Ext noW θ s.heap (θ++[⟨s.heap.objs.size,s.heap.objs.size⟩]) (s.heap.push { cls:=.type "list",data:=.seq vs.toArray }):=.fresh (p:=⟨_,_⟩) (Keeps.push _ _) (Above.size _) (Above.size _)
  k _ _ (θ++[⟨s.heap.objs.size,s.heap.objs.size⟩]) ⟨x,I.alloc (o:=.list xs) ⟨vs,0,Heap.get?_push_size _ rfl,hr.mono x,rfl,hl⟩,rfl,rfl⟩ (R.kh (p:=⟨s.heap.objs.size,s.heap.objs.size⟩) I.len)
theorem KQ.dict (I:Inv w h₁ θ σ s.heap) (d:DK ()) (k:KQ w h₁ θ s (σ++[match d with | .I=>.dI [] | .S=>.dS [] | .P=>.dP []]) (.ref σ.length) Q):
    Q (.ref s.heap.objs.size) { s with heap:=s.heap.push { cls:=.type "dict",data:=.dict #[] } }:=
  have x:Ext noW θ s.heap (θ++[⟨s.heap.objs.size,s.heap.objs.size⟩]) (s.heap.push { cls:=.type "dict",data:=.dict #[] }):=.fresh (p:=⟨_,_⟩) (Keeps.push _ _) (Above.size _) (Above.size _)
  k _ _ (θ++[⟨s.heap.objs.size,s.heap.objs.size⟩]) ⟨x,I.alloc (by
    cases d
    · exact ⟨[],.new _,.nil,rfl,Nat.zero_le _⟩
    · exact ⟨[],.new _,.nil,rfl,Nat.zero_le _⟩
    · exact ⟨[],.new _,.nil,rfl,Nat.zero_le _⟩),rfl,rfl⟩ (R.kh (p:=⟨s.heap.objs.size,s.heap.objs.size⟩) I.len)
theorem KQ.after (t:To w h₁ noW θ s σ₁ θ' s') {r:V} (k:KQ w h₁ θ s σ' r Q):KQ w h₁ θ' s' σ' r Q:=fun v s'' θ'' t2 r2=>k v s'' θ'' (t.trans t2) r2
theorem yZ (B:Base w h₁) (I:Inv w h₁ θ σ s.heap) {m:Nm} {x r:V} {u:Value} {ex:Bool} (rx:R θ s.heap x u) (e:rS x m σ=some r) (k:KQ w h₁ θ s σ r Q):wpAny (model pw w) A (getAttr u (nmS m) ex) Q E s:=by
  refine A3 e (fun n c as en hk e=>uW B I (en▸rx) hk e k) fun n y p en hk em ey=>?_
  subst en em ey
  refine E11 rx.bq fun p hp z2=>?_
  subst z2
  refine E44 (I.obj _ _ _ hk hp) fun fs es c v h1 h2 h3 h4 _=>?_
  exact wX (B.at I) h1 h2 h3 (nH h4) fun tk=>k _ _ θ (To.tk I) h4
theorem nM {vs:List Value} (h:vs.length<=1000000):vs.toArray.size<=sizeLine:=by
  have:sizeLine=2 ^ 24\/1000000<=sizeLine:=.inr (by decide)
  have h2:1000000<=sizeLine:=by decide
  rw [List.size_toArray];(refine Nat.le_trans (by assumption) ?_;decide)
theorem qY {vl vu vs:Value} (I:Inv w h₁ θ σ s.heap) {xs:List V} {b:Addr} {us:List Value} (h1:(s.heap.push { cls:=.type "slice",data:=.fields #[vl,vu,vs] }).IsList b us.toArray) (h2:RL θ s.heap xs us) (hl:xs.length<=1000000) {lo hi st:Option Int} (pl:IsPart vl lo) (pu:IsPart vu hi) (ps:IsPart vs st) (h0:st≠some 0)
    {value slice:Expr} (hs:∀ o,subscripted slice false o (.ref s.heap.objs.size)=operate (if st.isSome then [o,.ref s.heap.objs.size] else [.ref s.heap.objs.size,o]) (getItem o (.ref s.heap.objs.size)))
    {ys:List V} (hy:∀ us,RL θ s.heap xs us->RL θ s.heap ys (slicePick us.toArray lo hi st).toList) (hyl:ys.length<=1000000)
    (q:KQ w h₁ θ s (σ++[.list ys]) (.ref σ.length) Q):wpAny (model pw w) A (subscriptTail value slice (.ref b) (.ref s.heap.objs.size)) Q E { s with heap:=s.heap.push { cls:=.type "slice",data:=.fields #[vl,vu,vs] } }:=by
  have t:=To.push (s:=s) I { cls:=.type "slice",data:=.fields #[vl,vu,vs] }
  refine tail_any h1.typeIs slot_list_getitem.lookup (wpAny_getItem_list_slice h1 (.new ..) pl pu ps h0 ?_ (nM (by rw [← h2.length];exact hl))) (hs _)
  have:=KQ.list t.inv ((hy us h2).mono t.ext) hyl (q.after t)
  simpa using this
theorem mK (I:Inv w h₁ θ σ s.heap) {k:Nat} {xs:List V} {u:Value} (rx:R θ s.heap (.ref k) u) (hk:σ[k]?=some (.list xs)) {vl vu vs:Value} {lo hi st:Option Int} (pl:IsPart vl lo) (pu:IsPart vu hi) (ps:IsPart vs st) (h0:st≠some 0)
    {value slice:Expr} (hs:∀ o,subscripted slice false o (.ref s.heap.objs.size)=operate (if st.isSome then [o,.ref s.heap.objs.size] else [.ref s.heap.objs.size,o]) (getItem o (.ref s.heap.objs.size)))
    {ys:List V} (hy:∀ us,RL θ s.heap xs us->RL θ s.heap ys (slicePick us.toArray lo hi st).toList) (hyl:ys.length<=1000000)
    (q:KQ w h₁ θ s (σ++[.list ys]) (.ref σ.length) Q):wpAny (model pw w) A (subscriptTail value slice u (.ref s.heap.objs.size)) Q E { s with heap:=s.heap.push { cls:=.type "slice",data:=.fields #[vl,vu,vs] } }:=by
  refine E11 rx.bq fun p hp z2=>?_
  subst z2
  refine E23 (I.obj _ _ _ hk hp) fun us c h1 h2 _ hl=>?_
  exact qY I (IsL.isList (Heap.get?_push_of_some _ h1)) h2 hl pl pu ps h0 hs hy hyl q
end
section
variable {prog:Program} {w:World} {h₁:Heap} {A:Around} {σ σ':St} {θ:List OA} {s:Shared} {Q:Value->Shared->Prop} {E:Value->Shared->Prop}
theorem vB (n:Nat):max (-1+(n:Int)) 0=((n - 1:Nat):Int):=by
  cases n with
  |zero=>rfl
  |succ n=>
    rw [Int.natCast_succ,Int.add_comm,Int.add_neg_cancel_right]
    exact Int.max_eq_left (Int.natCast_nonneg _)
theorem lP (n:Nat):Builtin.Slice.sliceAdjust none (some (-1)) 1 (n:Int)=(0,((n - 1:Nat):Int)):=by
  unfold Builtin.Slice.sliceAdjust
  have h1:¬ ((1:Int)<0):=by decide
  have h2:(-1:Int)<0:=by decide
  simp only [h1,h2,if_false,if_true]
  congr 1
  exact vB n
theorem mz (n:Nat):Builtin.Slice.slicePlaces 0 ((n - 1:Nat):Int) 1=n - 1:=by
  unfold Builtin.Slice.slicePlaces
  have h1:(1:Int)>0:=by decide
  simp only [h1,if_true,Int.ediv_one]
  split<;>lia
theorem hV {sl:Addr} {n:Nat} {u:Tok} {Q:Int×Int×Nat->Shared->Prop} (hs:s.heap.IsSliceOf sl .none (.int (-1) u) .none) (h:Q (0,1,n - 1) s):
    wpAny (model prog w) A (Builtin.Slice.sliceApplied (.ref sl) (pure (n:Int))) Q E s:=by
  refine E12 (id hs) fun os hos hcs hds=>?_
  unfold Builtin.Slice.sliceApplied Builtin.Slice.sliceFields
  refine wpAny_bind (wpAny_bind (wpAny_field hos hds (x:=.none) rfl (wpAny_bind (wpAny_field hos hds (x:=.int (-1) u) rfl (wpAny_bind (wpAny_field hos hds (x:=.none) rfl (wpAny_pure ?_)))))))
  refine wpAny_bind (slicePart_none ?_)
  show wpAny _ _ (if ((1:Int)==0)=true then _ else _) _ _ s
  rw [if_neg (by decide)]
  refine wpAny_bind (slicePart_none (wpAny_bind (slicePart_int (wpAny_bind (wpAny_pure ?_)))))
  show wpAny _ _ (match Builtin.Slice.sliceAdjust none (some (-1)) 1 (n:Int) with | (lo,hi)=>pure (lo,(1:Int),Builtin.Slice.slicePlaces lo hi 1)) _ _ s
  rw [lP]
  show wpAny _ _ (pure ((0:Int),(1:Int),Builtin.Slice.slicePlaces 0 ((n - 1:Nat):Int) 1)) _ _ s
  rw [mz]
  exact wpAny_pure h
theorem pz (xs:Array Value):((List.range (xs.size - 1)).filterMap fun (k:Nat)=>xs[((0:Int)+(k:Int) * 1).toNat]?).toArray=xs.toList.dropLast.toArray:=by
  have e:(fun (k:Nat)=>xs[((0:Int)+(k:Int) * 1).toNat]?)=fun k=>xs[0+k]?:=by
    funext k
    have:((0:Int)+(k:Int) * 1).toNat=0+k:=by lia
    rw [this]
  rw [e]
  have:=pick_run xs 0 (xs.size - 1)
  rw [List.filterMap_map] at this
  have e2:((fun x=>xs[x]?) ∘ fun x=>0+x)=fun k=>xs[0+k]?:=rfl
  rw [e2] at this
  rw [this,List.drop_zero,List.dropLast_eq_take,Array.length_toList]
theorem kW {t sl:Addr} {items:Array Value} {n:Nat} {u:Tok} {Q:Value->Shared->Prop} (ht:IsT s.heap t items n) (hs:s.heap.IsSliceOf sl .none (.int (-1) u) .none) (hz:items.size≠0)
    (h:Q (.ref s.heap.objs.size) { s with heap:=s.heap.push { cls:=.type "tuple",data:=.seq items.toList.dropLast.toArray } })
    (hsz:items.size<=sizeLine):wpAny (model prog w) A (getItem (.ref t) (.ref sl)) Q E s:=by
  have ht:IsTup s.heap t items:=⟨_,ht,rfl,_,rfl⟩
  have hdrop:sizeOk (.seq items.toList.dropLast.toArray):=by
    show items.toList.dropLast.toArray.size<=sizeLine
    rw [List.size_toArray,List.length_dropLast,Array.length_toList]
    lia
  refine E12 (id hs) fun os hos hcs hds=>?_
  have hTs:s.TypeIs (.ref sl) "slice":=⟨os,hos,hcs⟩
  unfold getItem
  try with_reducible refine wpAny_holding ?_
  first | refine wpAny_bind (wpAny_pure ?_) | skip
  refine wpAny_bind (wpAny_sequenceKey ht.typeIs (by decide) ?_)
  refine wpAny_bind (wpAny_callSpecial?_slot (name:=Str.ofString "__getitem__") ht.typeIs slot_tuple_getitem
    (wpAny_call_entry slot_tuple_getitem ht.typeIs entry_tuple_getitem ?_ (args_tuple_getitem _ _)))
  show wpAny _ _ (Builtin.Tuple.tupleItemsOf (.ref t) >>= _) _ _ s
  refine wpAny_bind (tupleItemsOf_ ht ?_)
  refine wpAny_bind (wpAny_typeOf hTs ?_)
  rw [if_pos (by decide)]
  refine wpAny_bind (hV hs ?_)
  have hno:¬ (((0:Int)==0&&(1:Int)==1&&(items.size - 1)==items.size)=true):=by
    have:(items.size - 1==items.size)=false:=by rw [beq_eq_false_iff_ne];lia
    rw [this];simp
  show wpAny _ _ (if ((0:Int)==0&&(1:Int)==1&&(items.size - 1)==items.size)=true then _ else _) _ _ s
  rw [if_neg hno,pz items]
  first
    |exact wpAny_bind (m:=Builtin.Tuple.tupleExact _) (wpAny_newObj_type (wpAny_pure ⟨_,rfl,wpAny_pure h⟩) hdrop)
    |exact wpAny_bind (m:=Builtin.Tuple.tupleExact _) (wpAny_newObj_type (wpAny_bind (wpAny_pure (wpAny_pure ⟨_,rfl,wpAny_pure h⟩))) hdrop)
    |exact wpAny_bind (wpAny_bind (m:=Builtin.Tuple.tupleExact _) (wpAny_newObj_type (wpAny_pure (wpAny_pure ⟨_,rfl,wpAny_pure h⟩)) hdrop))
    |exact wpAny_bind (wpAny_bind (m:=Builtin.Tuple.tupleExact _) (wpAny_newObj_type (wpAny_pure ⟨_,rfl,wpAny_pure h⟩) hdrop))
theorem RL.dropLast {h:Heap} {xs:List V} {vs:List Value} (r:RL θ h xs vs):RL θ h xs.dropLast vs.dropLast:=by
  rw [List.dropLast_eq_take,List.dropLast_eq_take,r.length];exact r.take _
theorem vH (I:Inv w h₁ θ σ s.heap) {xs:List V} {u:Value} (rx:R θ s.heap (.tup xs) u) (h0:xs≠[]) {tk:Tok} {value slice:Expr} (hs:∀ o,subscripted slice false o (.ref s.heap.objs.size)=operate [.ref s.heap.objs.size,o] (getItem o (.ref s.heap.objs.size)))
    (q:KQ w h₁ θ s σ (.tup xs.dropLast) Q):wpAny (model pw w) A (subscriptTail value slice u (.ref s.heap.objs.size)) Q E { s with heap:=s.heap.push { cls:=.type "slice",data:=.fields #[.none,.int (-1) tk,.none] } }:=by
  refine E34 rx.bV fun a vs m z3 h1 ho hl h2=>?_
  subst z3
  have t:=To.push (s:=s) I { cls:=.type "slice",data:=.fields #[.none,.int (-1) tk,.none] }
  have h1':IsT (s.heap.push { cls:=.type "slice",data:=.fields #[.none,.int (-1) tk,.none] }) a vs.toArray m:=Heap.get?_push_of_some _ h1
  have hne:vs.length≠0:=by rw [← h2.length];simpa using h0
  have hsz:vs.toArray.size<=sizeLine:=by
    have h2:2000000<=sizeLine:=by decide
    rw [List.size_toArray];(refine Nat.le_trans (by assumption) ?_;decide)
  refine tail_any (T:="tuple") ⟨_,h1',rfl⟩ F.slot_tuple_getitem.lookup (kW h1' (.new ..) (by simpa using hne) ?_ hsz) (hs _)
  have:=KQ.tup t.inv (h2.dropLast.mono t.ext) (by simp;lia) (fun v s'' θ'' t2 r2=>q v s'' θ'' (t.trans t2) r2)
  simpa using this
end
structure vQ (n:Nat) (hs:Bool) (A:Around):Prop where
  depth:A.depth+2 * n+5<recursionLimit
  units:A.units+8 * n+12<cLine
  hnd:hs=true->A.handled=none
theorem rh.call {n:Nat} {hs:Bool} {A:Around} (r:rh n hs A):vQ n hs A:=⟨by have:=r.depth;exact Nat.le_of_lt (by assumption),by have:=r.units;lia,r.hnd⟩
section
variable {w:World} {h₁:Heap} {n:Nat} {hs:Bool} {A:Around} {i:FI} {env:Env} {fr:Fr} {σ σ' σ₁:St} {θ θ':List OA} {s s':Shared} {Q:Value->Shared->Prop} {E:Value->Shared->Prop}
noncomputable def Fly (base:Heap) (θ:List OA) (h:Heap) (u:Value):Prop:=∃ (e:Nat) (o:Obj) (fs:Array Value),u=.ref e/\h.get? e=some o/\o.data=.fields fs/\2<fs.size/\
  (fs[1]?=some .none\/∃ (T:Nat) (oT:Obj) (ts:Array Value),fs[1]?=some (.ref T)/\base.get? T=none/\T≠e/\¬ own θ T/\h.get? T=some oT/\oT.cls=.type "traceback"/\oT.data=.fields ts/\ts[3]?=some .none)
theorem Fly.mono {base base':Heap} {h:Heap} {u:Value} (x:Fly base θ h u) (hb:∀ (b:Nat) (o:Obj),base'.get? b=some o->∃ o',base.get? b=some o'):Fly base' θ h u:=by
  refine E34 x fun e o fs h1 h2 h3 h4 h5=>?_
  refine ⟨e,o,fs,h1,h2,h3,h4,h5.imp id fun ⟨T,oT,ts,k1,k2,k3⟩=>⟨T,oT,ts,k1,?_,k3⟩⟩
  cases q:base'.get? T with
  |none=>rfl
  |some o=>refine E10 (hb _ _ q) fun o' e'=>?_;exact ns k2 e'
noncomputable def XAt (σ:St) (v:V):Prop:=∃ n y,v=.ref n/\σ[n]?=some (.exc y false)
noncomputable def RQ (w:World) (h₁:Heap) (θ:List OA) (s:Shared) (σ':St) (res:Except V V) (Q E:Value->Shared->Prop):Prop:=match res with
  |.ok r=>KQ w h₁ θ s σ' r Q
  |.error x=>∀ v s' θ',To w h₁ noW θ s σ' θ' s'->R θ' s'.heap x v->XAt σ' x->Fly s.heap θ' s'.heap v->E v s'
theorem RQ.after (t:To w h₁ noW θ s σ₁ θ' s') {r:Except V V} (k:RQ w h₁ θ s σ' r Q E):RQ w h₁ θ' s' σ' r Q E:=by
  cases r with
  |ok r=>exact KQ.after t k
  |error x=>exact fun v s'' θ'' t2 r2 xa fl=>k v s'' θ'' (t.trans t2) r2 xa (fl.mono t.ext.live)
noncomputable def CS (w:World) (h₁:Heap) (C:aD) (n:Nat) (hs:Bool):Prop:=
  ∀ (A:Around) (θ:List OA) (s:Shared) (σ:St) (f:Fn) (args:List V) (vs:List Value) (res:Except V V) (σ':St) (RR:Result->Shared->Prop),
    vQ n hs A->bN h₁ θ s.heap A->Inv w h₁ θ σ s.heap->RL θ s.heap args vs->C f args σ=some (res,σ')->
    RQ w h₁ θ s σ' res (fun u s'=>RR (.ok (.ret u)) s') (fun u s'=>RR (.error u) s')->codeAny (model pw w) A (.call (.ref (fc f).addr) ⟨vs,[]⟩) RR s
theorem RQ.call {res:Except V V} (k:RQ w h₁ θ s σ' res Q E):RQ w h₁ θ s σ' res (fun u s'=>(fun (r:Result) s'=>match r with | .ok (.ret v)=>Q v s' | .ok _=>False | .error e=>E e s') (.ok (.ret u)) s')
    (fun u s'=>(fun (r:Result) s'=>match r with | .ok (.ret v)=>Q v s' | .ok _=>False | .error e=>E e s') (.error u) s'):=by
  cases res<;>exact k
theorem wd {b:Bi ()}:∀ h:Heap,∃ k,(k=Keeper.frame\/k=Keeper.machine\/k=Keeper.boundFrame)/\Looks (model pw w) h (keeperOf (qk b)) k:=fun h=>
  ⟨.machine,.inr (.inl rfl),Looks.of_pure (by cases b<;>rfl)⟩
theorem kept {v:V} {u:Value} (rv:R θ s.heap v u) {C:aD} {args:List V} {res:Except V V} (e:jt C hs v args σ=some (res,σ')):
    ∀ h:Heap,(KK w.params).In h->∃ k,(k=Keeper.frame\/k=Keeper.machine\/k=Keeper.boundFrame)/\Looks (model pw w) h (keeperOf u) k:=by
  intro h X
  refine tE e (fun f ef _=>?_) (fun b _ eb _ _=>?_) (fun x ec _ _ _=>?_) fun c _ ec _ _ _ _=>?_
  · rw [(show R θ s.heap (.fn f) u from ef▸rv).w7];exact keeps_K (cg (w8 w.params f) fun _ q=>q) h X
  · rw [(show R θ s.heap (.bi b) u from eb▸rv).we];exact wd h
  · rw [(show R θ s.heap (.cls .perr) u from ec▸rv).ju];exact keeps_K (tJ _ _) h X
  · rw [(show R θ s.heap (.cls c) u from ec▸rv).ju];exact keeps_K (tJ _ _) h X
theorem Cz {c:Cl ()} (h:pa c=false):kU c=true:=by cases c<;>first | rfl | exact nof h.symm
theorem none_of {v:V} (h:jB v=true):v=.none:=by cases v<;>first | rfl | exact nof h
theorem qu (B:Base w h₁) {C:aD} (HC:CS w h₁ C n hs) (rm:rh n hs A) (fi:bN h₁ θ s.heap A) (I:Inv w h₁ θ σ s.heap) {v:V} {u:Value} {args:List V} {vs:List Value} (rv:R θ s.heap v u) (ra:RL θ s.heap args vs) {res:Except V V}
    (e:jt C hs v args σ=some (res,σ')) (k:RQ w h₁ θ s σ' res Q E):wpAny (model pw w) A (call u vs) Q E s:=by
  refine tE e (fun f ef e9=>?_) (fun b r eb e9 er=>?_) (fun x ec ea er es=>?_) fun c v0 ec hc e1 hv0 er=>?_
  · subst ef
    obtain rfl:=rv.w7
    exact wpAny_call (HC A θ s σ f args vs res σ' _ rm.call fi I ra e9 k.call)
  · subst eb er
    obtain rfl:=rv.we
    exact zd B (by have:=rm.units;lia) rm.hnd I ra e9 k
  · subst ec ea er es
    obtain rfl:=rv.ju
    refine E22 ra.cons_inv fun u us z2 r1 r2=>?_
    subst z2
    obtain rfl:=r2.nil_inv
    exact zp B (by have:=rm.depth;lia) I r1 k
  · subst ec er
    obtain rfl:=rv.ju
    have hck:=Cz hc
    have e1:=iu e1
    · have X:=B.at I
      have hfn:=w8 w.params (gS c)
      unfold zv at hfn
      simp only [Bool.and_eq_true,beq_iff_eq] at hfn
      obtain ⟨hh,g,d,t,os⟩:=s
      refine wpAny_call (make_core (makes_of X (wH _ _ hck)) (looks_findIn X (ze _ _ hck)) (fun self=>bind_fn X self hfn.1) (.inl rfl) ?_)
      have k1:Keeps hh ((hh.push emptyDict).push (instObj (a9 c) hh.objs.size)):=(Keeps.push _ _).trans (Keeps.push _ _)
      have z1:(hh.push emptyDict).objs.size=hh.objs.size+1:=Heap.size_push ..
      have a1:Above hh (hh.objs.size+1):=(Above.size hh).mono (Nat.le_succ _)
      have a2:Above hh hh.objs.size:=Above.size hh
      have hx:((hh.push emptyDict).push (instObj (a9 c) hh.objs.size)).get? (hh.objs.size+1)=some (instObj (a9 c) hh.objs.size):=by
        rw [← z1];exact Heap.get?_push_size _ rfl
      have hd:((hh.push emptyDict).push (instObj (a9 c) hh.objs.size)).get? hh.objs.size=some emptyDict:=Heap.get?_push_of_some _ (Heap.get?_push_size _ rfl)
      have x':Ext noW θ hh (θ++[⟨hh.objs.size+1,hh.objs.size⟩]) ((hh.push emptyDict).push (instObj (a9 c) hh.objs.size)):=.fresh k1 a1 a2
      have I':Inv w h₁ (θ++[⟨hh.objs.size+1,hh.objs.size⟩]) (σ++[.inst c []]) ((hh.push emptyDict).push (instObj (a9 c) hh.objs.size)):=
        I.new (p:=⟨hh.objs.size+1,hh.objs.size⟩) k1 a1 a2 I.lt ⟨#[],0,hx,hd,.nil,by simp,hck,fun kv hkv=>nomatch hkv⟩
      have rs:R (θ++[⟨hh.objs.size+1,hh.objs.size⟩]) ((hh.push emptyDict).push (instObj (a9 c) hh.objs.size)) (.ref σ.length) (.ref (hh.objs.size+1)):=R.kh (p:=⟨hh.objs.size+1,hh.objs.size⟩) I.len
      refine HC _ (θ++[⟨hh.objs.size+1,hh.objs.size⟩]) _ _ (gS c) (.ref σ.length::args) _ _ _ _ ⟨?_,?_,rm.hnd⟩ ?_ I' (.cons rs (RL.mono x' ra)) e1 ?_
      · show A.depth+(Code.builtin "type.__call__" ⟨.ref (a9 c)::vs,[]⟩).weight+_+_<_
        have:(Code.builtin "type.__call__" ⟨.ref (a9 c)::vs,[]⟩).weight=1:=by kernel_rfl
        have:=rm.depth
        lia
      · show A.units+(Code.builtin "type.__call__" ⟨.ref (a9 c)::vs,[]⟩).cUnits+_+_<_
        have:(Code.builtin "type.__call__" ⟨.ref (a9 c)::vs,[]⟩).cUnits<=4:=by
          have:(Code.builtin "type.__call__" ⟨.ref (a9 c)::vs,[]⟩).cUnits=(Code.builtin "type.__call__" ⟨[],[]⟩).cUnits:=rfl
          rw [this];decide +kernel
        have:=rm.units
        lia
      · obtain ⟨f1,l,f2,f3⟩:=fi.ext x'
        refine ⟨f1,l,?_,f3⟩
        have fu:∀ c:Code,(A.under c).frames=pushEnvs c.envs A.frames:=fun _=>rfl
        rw [fu,f2]
        have en:∀ c:Code,c.envs=[]->pushEnvs c.envs (some l)=some l:=fun c h=>by rw [h];rfl
        exact en _ rfl
      · intro u s' θ' t r
        obtain rfl:=none_of hv0
        exact ⟨r.none_inv,k _ _ _ ⟨x'.trans t.ext,t.inv,t.os,t.gens⟩ (rs.mono t.ext)⟩
end
noncomputable def yJ (w:World) (h₁:Heap) (C:aD) (n:Nat) (hs:Bool) (e:ME):Prop:=
  ∀ {A:Around} {i:FI} {env:Env} {fr:Fr} {σ σ':St} {θ:List OA} {s:Shared} {xs:List Expr} {r:V} {Q E:Value->Shared->Prop},
    Go w h₁ n hs A i env fr σ θ s->isL e=false->ok w.params e i xs=true->ev C hs e fr σ=some (r,σ')->KQ w h₁ θ s σ' r Q->wpAny (model pw w) A (eval (hdE (enc e i xs)) env) Q E s
noncomputable def Cq (w:World) (h₁:Heap) (C:aD) (n:Nat) (hs:Bool) (e:ME):Prop:=
  ∀ {A:Around} {i:FI} {env:Env} {fr:Fr} {σ σ':St} {θ:List OA} {s:Shared} {xs:List Expr} {b:Bool} {Q:Bool->Shared->Prop} {E:Value->Shared->Prop},
    Go w h₁ n hs A i env fr σ θ s->isL e=false->ok w.params e i xs=true->ev C hs e fr σ=some (.bool b,σ')->(∀ s' θ',To w h₁ noW θ s σ' θ' s'->Q b s')->
    wpAny (model pw w) A (isTrue (hdE (enc e i xs)) env (eval (hdE (enc e i xs)) env)) Q E s
noncomputable def Cn (w:World) (h₁:Heap) (C:aD) (n:Nat) (hs:Bool) (e:ME):Prop:=
  ∀ {A:Around} {i:FI} {env:Env} {fr:Fr} {σ σ':St} {θ:List OA} {s:Shared} {xs:List Expr} {rs:List V} {pos:Pos} {Q:List Value->Shared->Prop} {E:Value->Shared->Prop},
    Go w h₁ n hs A i env fr σ θ s->isL e=true->ok w.params e i xs=true->ev C hs e fr σ=some (.tup rs,σ')->(∀ us s' θ',To w h₁ noW θ s σ' θ' s'->RL θ' s'.heap rs us->Q us s')->
    wpAny (model pw w) A (spliced (backTo pos (starEach (enc e i xs) env))) Q E s
structure aG (w:World) (h₁:Heap) (C:aD) (n:Nat) (hs:Bool) (e:ME):Prop where
  ev:yJ w h₁ C n hs e
  tr:Cq w h₁ C n hs e
  ls:Cn w h₁ C n hs e
section
variable {w:World} {h₁:Heap} {C:aD} {n:Nat} {hs:Bool} {A:Around} {i:FI} {env:Env} {fr:Fr} {σ σ' σ₁:St} {θ θ':List OA} {s s':Shared} {Q:Value->Shared->Prop} {E:Value->Shared->Prop}
theorem fT {e:ME} (hl:isL e=false) (he:yJ w h₁ C n hs e) (ht:∀ i xs,C3 (hdE (enc e i xs))=true):aG w h₁ C n hs e:=
  ⟨he,fun G h ho ev q=>by
    rw [sZ (ht _ _)]
    refine wpAny_bind (he G h ho ev fun v s' θ' t r=>?_)
    obtain rfl:=r.bool_inv
    exact wpAny_bind (wpAny_standAt (wpAny_holding (wpAny_truthy_bool (q _ _ t)))),fun _ h=>by rw [hl] at h;cases h⟩
theorem kK {e:ME} (hl:isL e=false) (he:yJ w h₁ C n hs e) (ht:Cq w h₁ C n hs e):aG w h₁ C n hs e:=⟨he,ht,fun _ h=>by rw [hl] at h;cases h⟩
theorem mL {P:Params} (e:ME):∀ (i:FI) (xs:List Expr) (env:Env),isL e=true->ok P e i xs=true->(starEach (enc e i xs) env).all (fun x=>!x.1)=true/\(starEach (enc e i xs) env).length=zH e/\(enc e i xs).length=zH e:=by
  induction e with
  |nil=>intro i xs env _ _;exact ⟨rfl,rfl,rfl⟩
  |cons a r _ ih=>
    intro i xs env _ h
    refine qb h fun _ _ h1 h2 h3=>E02 (ih i xs.tail env h3 h1) fun a1 a2 a3=>?_
    have e:starEach (enc (.cons a r) i xs) env=(false,eval (hdE (enc a i xs)) env)::starEach (enc r i xs.tail) env:=nX h2
    exact ⟨by rw [e,List.all_cons,a1];rfl,by rw [e];exact congrArg (·+1) a2,congrArg (·+1) a3⟩
  |_=>intro i xs env h;exact nof h
theorem m8 {f:Value} {L:List (Bool×Sem Value)} {Q:Args->Shared->Prop} {M:Model} (hp:L.all (fun x=>!x.1)=true) (h:wpAny M A (spliced L) (fun vs s'=>Q ⟨vs,[]⟩ s') E s):wpAny M A (evalArgs f true L []) Q E s:=by
  cases L with
  |nil=>
    show wpAny M A (spliced [] >>= _) Q E s
    refine wpAny_bind (wpAny_mono h (fun vs s' h'=>wpAny_bind (wpAny_pure ?_)) fun _ _ x=>x)
    refine wpAny_holding ?_
    exact wpAny_bind (wpAny_pure (wpAny_bind (wpAny_pure (wpAny_pure h'))))
  |cons x r=>
    obtain ⟨b,x⟩:=x
    simp at hp
    refine E01 hp fun z0 _=>?_
    subst z0
    exact Calls.evalArgs_plain h
theorem args_call {args:ME} (La:Cn w h₁ C n hs args) (B:Base w h₁) (G:Go w h₁ n hs A i env fr σ θ s) (hl:isL args=true) {xs:List Expr} (ho:ok w.params args i xs=true) {rs:List V} (he:ev C hs args fr σ=some (.tup rs,σ₁)) {f:Value} {first:List Value} {pos pos':Pos}
    (hk:∀ h:Heap,(KK w.params).In h->∃ k,(k=Keeper.frame\/k=Keeper.machine\/k=Keeper.boundFrame)/\Looks (model pw w) h (keeperOf f) k)
    (q:∀ us s' θ',To w h₁ noW θ s σ₁ θ' s'->RL θ' s'.heap rs us->wpAny (model pw w) A (call f (first++us)) Q E s'):
    wpAny (model pw w) A (callWith pos f first (backTo pos' (starEach (enc args i xs) env)) (backToKw pos' (keywordEach [] env))) Q E s:=by
  have hp:=(mL args i xs env hl ho).1
  have hb:(backTo pos' (starEach (enc args i xs) env)).all (fun x=>!x.1)=true:=by
    unfold backTo;rw [List.all_map];exact hp
  refine callWith_of (P:=fun h=>(KK w.params).In h) ?_ hk (m8 hb (La G hl ho he fun us s' θ' t r=>⟨B.at t.inv,q us s' θ' t r⟩))
  have:∀ L:List (Bool×Sem Value),L.all (fun x=>!x.1)=true->L.any (·.1)=false:=fun L h=>by
    rw [List.any_eq_false];intro x hx;have:=List.all_eq_true.mp h x hx;simpa using this
  rw [this _ hb];rfl
theorem xt {o:Expr} {m:Str} {apos pos:Pos} {args:List Expr} (h1:mr o=true) (h2:(starEach args env).all (fun x=>!x.1)=true) (h3:args.length<29) (h4:(apos.endLine==pos.line)=true):
    eval (.Call (.Attribute o m apos) args [] pos) env=(do
      let ov ← eval o env
      standAt apos.atName
      let (f,first) ← holding [ov] (getMethod ov m (do return (← importBound o env).getD true))
      callWith pos f first (backTo pos (starEach args env)) (backToKw pos (keywordEach [] env))):=by
  have hf:methodCallForm (args.length+([]:List Keyword).length) (backTo pos (starEach args env)) (backToKw pos (keywordEach [] env))=true:=by
    unfold methodCallForm
    have:(backTo pos (starEach args env)).all (fun x=>!x.1)=true:=by unfold backTo;rw [List.all_map];exact h2
    rw [this]
    show (true&&true&&decide (args.length+0+0<30))=true
    simp;(refine Nat.le_trans (by assumption) ?_;decide)
  have c (ov):methodCall o m apos pos env ov (args.length+([]:List Keyword).length) (backTo pos (starEach args env)) (backToKw pos (keywordEach [] env))=(holding [ov] (getMethod ov m (do return (← importBound o env).getD true)) >>= fun x=>callWith pos x.1 x.2 (backTo pos (starEach args env)) (backToKw pos (keywordEach [] env))):=by
    show (holding [ov] (calleeOf _ o env ov m) >>= fun x=>methodCallPos _ o env apos pos >>= fun p=>callWith p x.1 x.2 _ _)=_
    rw [show methodCallPos _ o env apos pos=pure pos from if_pos (by rw [hf,h4];rfl),show calleeOf _ o env ov m=_ from if_pos hf];rfl
  show (attributeBase o m env (eval o env) >>= fun ov=>standAt apos.atName >>= fun _=>methodCall o m apos pos env ov _ _ _)=_
  rw [lZ h1]
  exact congrArg (eval o env >>= ·) (funext fun ov=>congrArg (standAt apos.atName >>= ·) (funext fun _=>c ov))
theorem yY {o:Expr} {m:Str} {pos:Pos} (h:mr o=true):eval (.Attribute o m pos) env=(do
      let v ← eval o env
      standAt pos.atName
      let r ← holding [v] (getAttr v m true)
      letTemporaryGo o v r
      pure r):=by
  show (do
    let v ← attributeBase o m env (eval o env)
    standAt pos.atName
    let r ← holding [v] (getAttr v m true)
    letTemporaryGo o v r
    pure r)=_
  rw [lZ h]
set_option backward.match.sparseCases true in
theorem xQ {M:Model} {x y z:Expr} {pos:Pos} {Q:Value->Shared->Prop}
    (h:wpAny M A (eval x env) (fun v s₁=>wpAny M A (truthy v) (fun t s₂=>if t then Q v s₂ else wpAny M A (eval (.BoolOp .Or [y,z] pos) env) Q E s₂) E s₁) E s):
    wpAny M A (eval (.BoolOp .Or [x,y,z] pos) env) Q E s:=by
  show wpAny M A (do
    let v ← eval x env
    standAt pos
    let t ← holding [v] (truthy v)
    match BoolOp.Or,t with
    |.And,false|.Or,true=>pure v
    |_,_=>boolOp pos .Or [eval y env,eval z env]) Q E s
  refine wpAny_bind (wpAny_mono h (fun v s₁ h₁=>wpAny_bind (wpAny_standAt (wpAny_bind (wpAny_holding (wpAny_mono h₁ (fun t s₂ h₂=>?_) fun _ _ x=>x))))) fun _ _ x=>x)
  cases t with
  |false=>exact h₂
  |true=>exact wpAny_pure h₂
end
section
variable {w:World} {h₁:Heap} {C:aD} {n:Nat} {hs:Bool}
theorem not_of {x:Bool} (h:(!x)=true):x=false:=by simpa using h
theorem az {a:ME} (h:(!isL a)=true):isL a=false:=by simpa using h
theorem ib:aG w h₁ C n hs .none/\(∀ b,aG w h₁ C n hs (.bool b))/\(∀ k,aG w h₁ C n hs (.int k))/\∀ t,aG w h₁ C n hs (.str t):=by
  refine ⟨fT rfl (fun G _ ho e k=>?_) fun _ _=>rfl,fun b=>fT rfl (fun G _ ho e k=>?_) fun _ _=>rfl,fun j=>fT rfl (fun G _ ho e k=>?_) fun _ _=>rfl,fun t=>fT rfl (fun G _ ho e k=>?_) fun _ _=>rfl⟩
  · obtain ⟨rfl,rfl⟩:=in2 e;exact wpAny_Constant_none (k _ _ _ (To.refl G.inv) .none)
  · obtain ⟨rfl,rfl⟩:=in2 e;exact wpAny_Constant_bool (KQ.bool G.inv k)
  · obtain ⟨rfl,rfl⟩:=in2 e;exact wpAny_Constant_int (KQ.int G.inv k)
  · obtain ⟨rfl,rfl⟩:=in2 e
    have ho:=eq_of_beq ho
    refine wpAny_Constant_str ?_
    rw [ho]
    exact k _ _ _ (To.tk G.inv) (.str _ _)
theorem jK {x:Str} (h:okN x=true):(x==("__debug__":Str))=false:=by unfold okN at h;simpa using h
theorem rW {o:Option (Option V)} {v:V} (h:o.join=some v):o=some (some v):=by
  cases o with
  |none=>exact no h
  |some o=>exact congrArg some h
theorem lQ (B:Base w h₁):(∀ j,aG w h₁ C n hs (.loc j))/\(∀ j,aG w h₁ C n hs (.cell j))/\∀ v,aG w h₁ C n hs (.glob v):=by
  refine ⟨fun j=>fT rfl (fun G _ ho e k=>?_) fun _ _=>rfl,fun j=>fT rfl (fun G _ ho e k=>?_) fun _ _=>rfl,fun v=>fT rfl (fun G _ ho e k=>?_) fun _ _=>rfl⟩
  · refine oy ho fun h1 h2 h3=>mG e fun hv e=>?_
    subst e
    exact wpAny_Name (qJ G (eq_of_beq h1) (eq_of_beq h2) (rW hv) fun u r=>k _ _ _ (To.refl G.inv) r) (jK h3)
  · refine oy ho fun h1 h2 h3=>mG e fun hv e=>?_
    subst e
    exact wpAny_Name (zF G (eq_of_beq h1) (eq_of_beq h2) (rW hv) fun u r=>k _ _ _ (To.refl G.inv) r) (jK h3)
  · refine oy ho fun h1 h2 h3=>?_
    obtain ⟨rfl,rfl⟩:=in2 e
    exact wpAny_Name (ld_global B G (eq_of_beq h1) h2 fun u r=>k _ _ _ (To.refl G.inv) r) (jK h3)
theorem yR {op:Bo ()} {a b:ME} (Ha:aG w h₁ C n hs a) (Hb:aG w h₁ C n hs b):aG w h₁ C n hs (.bin op a b):=by
  refine fT rfl (fun G _ ho e k=>?_) fun _ _=>rfl
  refine gI ho fun l1 o1 l2 o2=>aK e fun x σ1 e1 e=>aK e fun y σ2 e2 e=>mG e fun e3 e4=>?_
  subst e4
  exact wpAny_BinOp (Ha.ev G (az l1) o1 e1 fun u s1 θ1 t1 r1=>Hb.ev (G.go t1) (az l2) o2 e2 fun v s2 θ2 t2 r2=>Ba t2.inv (r1.mono t2.ext) r2 e3 (KQ.after (t1.trans t2) k))
theorem yU {a:ME} (Ha:aG w h₁ C n hs a):aG w h₁ C n hs (.neg a):=by
  have hv:yJ w h₁ C n hs (.neg a):=fun G _ ho e k=>by
    refine cg ho fun l1 o1=>aK e fun x σ1 e1 e=>bu e fun i e2 e=>?_
    subst e2
    obtain ⟨rfl,rfl⟩:=in2 e
    refine wpAny_UnaryOp (Ha.ev G (az l1) o1 e1 fun u s1 θ1 t1 r1=>?_)
    refine E10 r1.int_inv fun t z1=>?_
    subst z1
    exact neg_int (KQ.int t1.inv (KQ.after t1 k))
  exact kK rfl hv fun G _ ho e k=>aK e fun x σ1 e1 e=>bu e fun i e2 e=>by cases e
theorem yV {a:ME} (Ha:aG w h₁ C n hs a):aG w h₁ C n hs (.not a):=by
  refine kK rfl (fun G _ ho e k=>?_) fun G _ ho e k=>?_
  · refine cg ho fun l1 o1=>aK e fun x σ1 e1 e=>uu e fun i e2 e=>?_
    subst e2
    obtain ⟨rfl,rfl⟩:=in2 e
    refine wpAny_UnaryOp (Ha.ev G (az l1) o1 e1 fun u s1 θ1 t1 r1=>?_)
    obtain rfl:=r1.bool_inv
    exact not_value (wpAny_truthy_bool (KQ.bool t1.inv (KQ.after t1 k)))
  · refine cg ho fun l1 o1=>aK e fun x σ1 e1 e=>uu e fun i e2 e=>?_
    subst e2
    cases e
    exact wpAny_isTrue_Not (Ha.tr G (az l1) o1 e1 k)
theorem yS (B:Base w h₁) {op:Co ()} {a b:ME} (Ha:aG w h₁ C n hs a) (Hb:aG w h₁ C n hs b):aG w h₁ C n hs (.cmp op a b):=by
  refine kK rfl (fun G _ ho e k=>?_) fun G _ ho e k=>?_
  · refine qb ho fun l1 o1 l2 o2 hm=>aK e fun x σ1 e1 e=>aK e fun y σ2 e2 e=>aR e fun c e3 e=>?_
    obtain ⟨rfl,rfl⟩:=in2 e
    refine wpAny_Compare1 (Ha.ev G (az l1) o1 e1 fun u s1 θ1 t1 r1=>Hb.ev (G.go t1) (az l2) o2 e2 fun v s2 θ2 t2 r2=>?_) (not_of hm)
    exact wK B (G.room.u (by decide)) t2.inv (r1.mono t2.ext) r2 e3 (KQ.after (t1.trans t2) k)
  · refine qb ho fun l1 o1 l2 o2 hm=>aK e fun x σ1 e1 e=>aK e fun y σ2 e2 e=>aR e fun c e3 e=>?_
    cases e
    refine wpAny_isTrue_Compare1 (Ha.ev G (az l1) o1 e1 fun u s1 θ1 t1 r1=>Hb.ev (G.go t1) (az l2) o2 e2 fun v s2 θ2 t2 r2=>?_) (not_of hm)
    refine wK B (G.room.u (by decide)) t2.inv (r1.mono t2.ext) r2 e3 fun u s3 θ3 t3 r3=>?_
    obtain rfl:=r3.bool_inv
    exact wpAny_truthy_bool (k _ _ ((t1.trans t2).trans t3))
theorem eE {e:ME} {x:V} {t:Bool} {σ1:St} (h:ev C hs e fr σ=some (x,σ1)) (ex:x=.bool t):ev C hs e fr σ=some (.bool t,σ1):=ex▸h
theorem ti {Q:Bool->Shared->Prop} {b t:Bool} {σ1:St} (k:∀ s' θ',To w h₁ noW θ s σ' θ' s'->Q b s') (h:some (V.bool t,σ1)=some (V.bool b,σ')):∀ s' θ',To w h₁ noW θ s σ1 θ' s'->Q t s':=by
  cases h;exact k
theorem yP {a b:ME} (Ha:aG w h₁ C n hs a) (Hb:aG w h₁ C n hs b):aG w h₁ C n hs (.and a b):=by
  refine kK rfl (fun G _ ho e k=>?_) fun {A i env fr σ σ' θ s xs b' Q E} G _ ho e k=>?_
  · refine gI ho fun l1 o1 l2 o2=>aK e fun x σ1 e1 e=>d7 e (fun ex e=>?_) fun ex e=>?_
    · refine wpAny_And2 (Ha.ev G (az l1) o1 (eE e1 ex) fun u s1 θ1 t1 r1=>?_)
      obtain rfl:=r1.bool_inv
      exact wpAny_truthy_bool (Hb.ev (G.go t1) (az l2) o2 e (KQ.after t1 k))
    · refine wpAny_And2 (Ha.ev G (az l1) o1 (eE e1 ex) fun u s1 θ1 t1 r1=>?_)
      obtain rfl:=r1.bool_inv
      exact wpAny_truthy_bool (eU k e _ _ _ t1 r1)
  · refine gI ho fun l1 o1 l2 o2=>aK e fun x σ1 e1 e=>d7 e (fun ex e=>?_) fun ex e=>?_
    · refine wpAny_isTrue_BoolOp (wpAny_allTrue_And_cons (Ha.tr G (az l1) o1 (eE e1 ex) fun s1 θ1 t1=>wpAny_allTrue_And_cons (Hb.tr (G.go t1) (az l2) o2 e fun s2 θ2 t2=>?_)))
      have:=k _ _ (t1.trans t2)
      cases b' with
      |true=>exact wpAny_allTrue_And_nil this
      |false=>exact this
    · exact wpAny_isTrue_BoolOp (wpAny_allTrue_And_cons (Ha.tr G (az l1) o1 (eE e1 ex) fun s1 θ1 t1=>ti k e _ _ t1))
theorem A1 {a b:ME} (Ha:aG w h₁ C n hs a) (Hb:aG w h₁ C n hs b):aG w h₁ C n hs (.or a b):=by
  refine kK rfl (fun G _ ho e k=>?_) fun {A i env fr σ σ' θ s xs b' Q E} G _ ho e k=>?_
  · refine gI ho fun l1 o1 l2 o2=>aK e fun x σ1 e1 e=>d7 e (fun ex e=>?_) fun ex e=>?_
    · refine wpAny_Or2 (Ha.ev G (az l1) o1 (eE e1 ex) fun u s1 θ1 t1 r1=>?_)
      obtain rfl:=r1.bool_inv
      exact wpAny_truthy_bool (eU k e _ _ _ t1 r1)
    · refine wpAny_Or2 (Ha.ev G (az l1) o1 (eE e1 ex) fun u s1 θ1 t1 r1=>?_)
      obtain rfl:=r1.bool_inv
      exact wpAny_truthy_bool (Hb.ev (G.go t1) (az l2) o2 e (KQ.after t1 k))
  · refine gI ho fun l1 o1 l2 o2=>aK e fun x σ1 e1 e=>d7 e (fun ex e=>?_) fun ex e=>?_
    · exact wpAny_isTrue_BoolOp (wpAny_allTrue_Or_cons (Ha.tr G (az l1) o1 (eE e1 ex) fun s1 θ1 t1=>ti k e _ _ t1))
    · refine wpAny_isTrue_BoolOp (wpAny_allTrue_Or_cons (Ha.tr G (az l1) o1 (eE e1 ex) fun s1 θ1 t1=>wpAny_allTrue_Or_cons (Hb.tr (G.go t1) (az l2) o2 e fun s2 θ2 t2=>?_)))
      have:=k _ _ (t1.trans t2)
      cases b' with
      |false=>exact wpAny_allTrue_Or_nil this
      |true=>exact this
theorem yW {a b c:ME} (Ha:aG w h₁ C n hs a) (Hb:aG w h₁ C n hs b) (Hc:aG w h₁ C n hs c):aG w h₁ C n hs (.or3 a b c):=by
  refine kK rfl (fun G _ ho e k=>?_) fun {A i env fr σ σ' θ s xs b' Q E} G _ ho e k=>?_
  · refine kQ ho fun l1 o1 l2 o2 l3 o3=>aK e fun x σ1 e1 e=>d7 e (fun ex e=>?_) fun ex e=>?_
    · refine xQ (Ha.ev G (az l1) o1 (eE e1 ex) fun u s1 θ1 t1 r1=>?_)
      obtain rfl:=r1.bool_inv
      exact wpAny_truthy_bool (eU k e _ _ _ t1 r1)
    · refine xQ (Ha.ev G (az l1) o1 (eE e1 ex) fun u s1 θ1 t1 r1=>?_)
      obtain rfl:=r1.bool_inv
      refine wpAny_truthy_bool (aK e fun y σ2 e3 e=>d7 e (fun ey e=>?_) fun ey e=>?_)
      · refine wpAny_Or2 (Hb.ev (G.go t1) (az l2) o2 (eE e3 ey) fun u s2 θ2 t2 r2=>?_)
        obtain rfl:=r2.bool_inv
        exact wpAny_truthy_bool (eU k e _ _ _ (t1.trans t2) r2)
      · refine wpAny_Or2 (Hb.ev (G.go t1) (az l2) o2 (eE e3 ey) fun u s2 θ2 t2 r2=>?_)
        obtain rfl:=r2.bool_inv
        exact wpAny_truthy_bool (Hc.ev ((G.go t1).go t2) (az l3) o3 e (KQ.after (t1.trans t2) k))
  · refine kQ ho fun l1 o1 l2 o2 l3 o3=>aK e fun x σ1 e1 e=>d7 e (fun ex e=>?_) fun ex e=>?_
    · exact wpAny_isTrue_BoolOp (wpAny_allTrue_Or_cons (Ha.tr G (az l1) o1 (eE e1 ex) fun s1 θ1 t1=>ti k e _ _ t1))
    · refine wpAny_isTrue_BoolOp (wpAny_allTrue_Or_cons (Ha.tr G (az l1) o1 (eE e1 ex) fun s1 θ1 t1=>aK e fun y σ2 e3 e=>d7 e (fun ey e=>?_) fun ey e=>?_))
      · exact wpAny_allTrue_Or_cons (Hb.tr (G.go t1) (az l2) o2 (eE e3 ey) fun s2 θ2 t2=>ti k e _ _ (t1.trans t2))
      · refine wpAny_allTrue_Or_cons (Hb.tr (G.go t1) (az l2) o2 (eE e3 ey) fun s2 θ2 t2=>wpAny_allTrue_Or_cons (Hc.tr ((G.go t1).go t2) (az l3) o3 e fun s3 θ3 t3=>?_))
        have:=k _ _ ((t1.trans t2).trans t3)
        cases b' with
        |false=>exact wpAny_allTrue_Or_nil this
        |true=>exact this
theorem yT {t a b:ME} (Ht:aG w h₁ C n hs t) (Ha:aG w h₁ C n hs a) (Hb:aG w h₁ C n hs b):aG w h₁ C n hs (.ife t a b):=by
  refine kK rfl (fun G _ ho e k=>kQ ho fun l1 o1 l2 o2 l3 o3=>aK e fun x σ1 e1 e=>d7 e (fun ex e=>?_) fun ex e=>?_) fun G _ ho e k=>kQ ho fun l1 o1 l2 o2 l3 o3=>aK e fun x σ1 e1 e=>d7 e (fun ex e=>?_) fun ex e=>?_
  · exact wpAny_IfExp (Ht.tr G (az l1) o1 (eE e1 ex) fun s1 θ1 t1=>Ha.ev (G.go t1) (az l2) o2 e (KQ.after t1 k))
  · exact wpAny_IfExp (Ht.tr G (az l1) o1 (eE e1 ex) fun s1 θ1 t1=>Hb.ev (G.go t1) (az l3) o3 e (KQ.after t1 k))
  · exact wpAny_bind (Ht.tr G (az l1) o1 (eE e1 ex) fun s1 θ1 t1=>Ha.tr (G.go t1) (az l2) o2 e fun s2 θ2 t2=>k _ _ (t1.trans t2))
  · exact wpAny_bind (Ht.tr G (az l1) o1 (eE e1 ex) fun s1 θ1 t1=>Hb.tr (G.go t1) (az l3) o3 e fun s2 θ2 t2=>k _ _ (t1.trans t2))
theorem vS (B:Base w h₁) {o:ME} {m:Nm} (Ho:aG w h₁ C n hs o):aG w h₁ C n hs (.attr o m):=by
  refine fT rfl (fun G _ ho e k=>?_) fun _ _=>rfl
  refine gI ho fun l1 o1 hn hc=>aK e fun x σ1 e1 e=>mG e fun e3 e4=>?_
  subst e4
  refine Attribute_any_ (Ho.ev G (az l1) o1 e1 fun u s1 θ1 t1 r1=>?_) (yY hc)
  rw [eq_of_beq hn]
  exact yZ B t1.inv r1 e3 (KQ.after t1 k)
theorem yX {o b:ME} (Ho:aG w h₁ C n hs o) (Hb:aG w h₁ C n hs b):aG w h₁ C n hs (.sub o b):=by
  refine fT rfl (fun G _ ho e k=>?_) fun _ _=>rfl
  refine qb ho fun l1 o1 l2 o2 hp=>aK e fun x σ1 e1 e=>aK e fun y σ2 e2 e=>mG e fun e3 e4=>?_
  subst e4
  exact Subscript_ (Ho.ev G (az l1) o1 e1 fun u s1 θ1 t1 r1=>Hb.ev (G.go t1) (az l2) o2 e2 fun v s2 θ2 t2 r2=>B7 t2.inv hp (r1.mono t2.ext) r2 e3 (KQ.after (t1.trans t2) k))
theorem uR {d:DK ()}:aG w h₁ C n hs (.dict0 d):=by
  refine fT rfl (fun G _ ho e k=>?_) fun _ _=>rfl
  obtain ⟨rfl,rfl⟩:=in2 e
  exact wpAny_Dict_empty (KQ.dict G.inv d k)
theorem yQ:aG w h₁ C n hs .bad:=kK rfl (fun G _ ho e k=>by exact no e) fun G _ ho e k=>by exact no e
theorem il {m:Nat} (h:fits m=true):m<1000000:=by unfold fits at h;simpa using h
theorem tT {m:Nat} (h:fits m=true):m<=sizeLine:=by
  have:=il h
  have h2:1000000<=sizeLine:=by decide
  lia
theorem vX {args:ME} (Ha:aG w h₁ C n hs args):aG w h₁ C n hs (.list args):=by
  refine fT rfl (fun G _ ho e k=>?_) fun _ _=>rfl
  refine cg ho fun o1 l1=>aK e fun x σ1 e1 e=>g9 e fun xs e2 e=>cR e fun hf e'=>?_
  subst e2
  obtain ⟨rfl,rfl⟩:=in2 e'
  exact wpAny_List (Ha.ls G l1 o1 e1 fun us s1 θ1 t1 r1=>⟨by rw [← r1.length];exact tT hf,KQ.list t1.inv r1 (Nat.le_of_lt (il hf)) (KQ.after t1 k)⟩)
theorem uV {args:ME} (Ha:aG w h₁ C n hs args):aG w h₁ C n hs (.tuple args):=by
  refine fT rfl (fun G _ ho e k=>?_) fun _ _=>rfl
  refine cg ho fun o1 l1=>aK e fun x σ1 e1 e=>g9 e fun xs e2 e=>cR e fun hf e'=>?_
  subst e2
  obtain ⟨rfl,rfl⟩:=in2 e'
  exact wpAny_Tuple (Ha.ls G l1 o1 e1 fun us s1 θ1 t1 r1=>⟨by rw [← r1.length];exact tT hf,KQ.tup t1.inv r1 (by rw [← r1.length];exact Nat.le_trans (Nat.le_of_lt (il hf)) (by decide)) (KQ.after t1 k)⟩)
theorem all_nil:aG w h₁ C n hs .nil:=⟨fun _ h=>(nomatch h),fun _ h=>(nomatch h),fun G _ _ e k=>by
  cases e
  exact wpAny_items_nil (k _ _ _ (To.refl G.inv) .nil)⟩
theorem all_cons {a r:ME} (Ha:aG w h₁ C n hs a) (Hr:aG w h₁ C n hs r):aG w h₁ C n hs (.cons a r):=⟨fun _ h=>(nomatch h),fun _ h=>(nomatch h),fun G _ ho e k=>by
  refine qb ho fun l1 o1 o2 hs l2=>aK e fun x σ1 e1 e=>aK e fun y σ2 e2 e=>g9 e fun xs e3 e=>?_
  subst e3
  cases e
  exact wpAny_items_cons (Ha.ev G (az l1) o1 e1 fun u s1 θ1 t1 r1=>Hr.ls (G.go t1) l2 o2 e2 fun us s2 θ2 t2 r2=>k _ _ _ (t1.trans t2) (.cons (r1.mono t2.ext) r2)) (nX hs)⟩
end
section
variable {w:World} {h₁:Heap} {C:aD} {n:Nat} {hs:Bool} {A:Around} {i:FI} {env:Env} {fr:Fr} {σ σ' σ₁:St} {θ θ':List OA} {s s':Shared} {Q:Value->Shared->Prop} {E:Value->Shared->Prop}
theorem qt (B:Base w h₁) (HC:CS w h₁ C n hs) {f args:ME} (Hf:aG w h₁ C n hs f) (Ha:aG w h₁ C n hs args) (G:Go w h₁ n hs A i env fr σ θ s) {xs:List Expr} (ho:ok w.params (.call f args) i xs=true)
    {g:V} {rs:List V} {σ₂:St} {res:Except V V} (e1:ev C hs f fr σ=some (g,σ₁)) (e2:ev C hs args fr σ₁=some (.tup rs,σ₂)) (e3:jt C hs g rs σ₂=some (res,σ')) (k:RQ w h₁ θ s σ' res Q E):
    wpAny (model pw w) A (eval (hdE (enc (.call f args) i xs)) env) Q E s:=by
  refine qb ho fun l1 o1 o2 hn l2=>?_
  refine E20 (xh hn) fun x p hx=>?_
  show wpAny _ _ (eval (.Call (hdE (enc f i (kd xs 0))) (enc args i (kd xs 1)) [] (pp xs)) env) _ _ _
  rw [hx]
  refine wpAny_Call_ofName ?_
  rw [← hx]
  refine Hf.ev G (az l1) o1 e1 fun u s1 θ1 t1 r1=>?_
  refine args_call Ha.ls B (G.go t1) l2 o2 e2 (kept r1 e3) fun us s2 θ2 t2 r2=>?_
  have G2:=(G.go t1).go t2
  exact qu B HC G.room G2.frs G2.inv (r1.mono t2.ext) r2 e3 (k.after (t1.trans t2))
theorem vU (B:Base w h₁) (HC:CS w h₁ C n hs) {f args:ME} (Hf:aG w h₁ C n hs f) (Ha:aG w h₁ C n hs args):aG w h₁ C n hs (.call f args):=by
  refine fT rfl (fun G _ ho e k=>?_) fun _ _=>rfl
  exact aK e fun g σ1 e1 e=>aK e fun y σ2 e2 e=>g9 e fun xs e3 e=>qt B HC Hf Ha G ho e1 (e3▸e2) (iu e) k
theorem xw {me:Me} (h:∀ f,me≠.fn f):∀ h:Heap,(KK w.params).In h->∃ k,(k=Keeper.frame\/k=Keeper.machine\/k=Keeper.boundFrame)/\Looks (model pw w) h (keeperOf (.builtin (BH me))) k:=fun _ _=>
  ⟨.machine,.inr (.inl rfl),Looks.of_pure (by cases me<;>first | rfl | exact absurd rfl (h _))⟩
theorem zL {ob:O} {m:Nm} {f:Fn} (h:xu ob m=some (.fn f)):∃ c as,ob=.inst c as/\cS c m=some f:=
  CY h (fun c as g z q z2=>⟨c,as,z,Me.fn.inj z2▸q⟩) (fun _ _ _=>nofun) (fun _ _ _=>nofun) (fun _ _=>nofun) fun _ _ _=>nofun
theorem uT (B:Base w h₁) (HC:CS w h₁ C n hs) {o args:ME} {m:Nm} (Ho:aG w h₁ C n hs o) (Ha:aG w h₁ C n hs args):aG w h₁ C n hs (.mcall o m args):=by
  refine fT rfl (fun {A i env fr σ σ' θ s xs r Q E} G _ ho e k=>?_) fun _ _=>rfl
  refine A2 ho fun l1 o1 o2 l2 hnm hline hc hlen=>?_
  refine E02 (mL args i (kd xs 1) env l2 o2) fun p1 p2 p3=>?_
  have hlen:=of_decide_eq_true hlen
  refine aK e fun x σ1 e1 e=>fW e fun k0 e0 e=>aR e fun ob hob e=>aR e fun me hme e=>aK e fun y σ2 e2 e=>g9 e fun rs e3 eL=>?_
  rw [e0] at e1
  rw [e3] at e2
  show wpAny _ _ (eval (.Call (.Attribute (hdE (enc o i (kd (kd xs 0) 0))) (nn (kd xs 0)) (pp (kd xs 0))) (enc args i (kd xs 1)) [] (pp xs)) env) _ _ _
  refine methodCall_KW (Ho.ev G (az l1) o1 e1 fun u s1 θ1 t1 r1=>?_) (xt hc p1 (Nat.lt_of_le_of_lt (Nat.le_of_eq p3) hlen) hline)
  rw [eq_of_beq hnm]
  have key:(∀ f,me≠.fn f)->gE me k0 rs σ2=some (r,σ')->wpAny (model pw w) A (getMethod u (nmS m) (do return (← importBound (hdE (enc o i (kd (kd xs 0) 0))) env).getD true)) (fun fp s2=>wpAny (model pw w) A (callWith (pp xs) fp.1 fp.2 (backTo (pp xs) (starEach (enc args i (kd xs 1)) env)) (backToKw (pp xs) (keywordEach [] env))) Q E s2) E s1:=fun hn e=>by
    refine zM t1.inv r1 hob hme hn ?_
    refine args_call Ha.ls B (G.go t1) l2 o2 e2 (xw hn) fun us s2 θ2 t2 r2=>?_
    exact tG B (G.room.u (by decide)) t2.inv (r1.mono t2.ext) r2 e (KQ.after (t1.trans t2) k)
  cases me with
  |fn f=>
    refine E21 (zL hme) fun c as z2 hf=>?_
    subst z2
    have e3:jt C hs (.fn f) (.ref k0::rs) σ2=some (.ok r,σ'):=iu eL
    refine vq B t1.inv r1 hob hf ?_
    refine args_call Ha.ls B (G.go t1) l2 o2 e2 (kept (θ:=θ) (s:=s) (.fn f) e3) fun us s2 θ2 t2 r2=>?_
    have G2:=(G.go t1).go t2
    exact qu B HC G.room G2.frs G2.inv (.fn f) (.cons (r1.mono t2.ext) r2) e3 (KQ.after (t1.trans t2) k)
  |append=>exact key (fun _=>nofun) eL
  |pop=>exact key (fun _=>nofun) eL
  |get=>exact key (fun _=>nofun) eL
  |add=>exact key (fun _=>nofun) eL
theorem rr {o a:ME} (Ho:aG w h₁ C n hs o) (Ha:aG w h₁ C n hs a):aG w h₁ C n hs (.slFrom o a):=by
  refine fT rfl (fun {A i env fr σ σ' θ s xs r Q E} G _ ho e k=>?_) fun _ _=>rfl
  refine gI ho fun l1 o1 l2 o2=>aK e fun x σ1 e1 e=>fW e fun k0 e0 e=>aK e fun y σ2 e2 e=>bu e fun j e3 e=>fV e fun ys hy e=>cR e fun hf e=>cg hf fun h0 hf=>cg hf fun _ hf=>?_
  rw [e0] at e1
  rw [e3] at e2
  have h0:=of_decide_eq_true h0
  have:=il hf
  obtain ⟨rfl,rfl⟩:=in2 e
  show wpAny _ _ (eval (.Subscript (hdE (enc o i (kd xs 0))) (.Slice (some (hdE (enc a i (kd (kd xs 1) 0)))) none none (pp (kd xs 1))) (pp xs)) env) _ _ _
  refine Subscript_ (Ho.ev G (az l1) o1 e1 fun u s1 θ1 t1 r1=>wpAny_Slice (Ha.ev (G.go t1) (az l2) o2 e2 fun v s2 θ2 t2 r2=>?_))
  refine E10 r2.int_inv fun tk z1=>?_
  subst z1
  refine wpAny_pure (wpAny_pure ?_)
  refine mK t2.inv (r1.mono t2.ext) hy (.int j tk) .none .none nofun (fun _=>rfl) (fun us r=>?_) (Nat.le_trans (by rw [List.length_drop];exact Nat.sub_le _ _) (Nat.le_of_lt this)) (KQ.after (t1.trans t2) k)
  have ej:j=(j.toNat:Int):=(Int.toNat_of_nonneg h0).symm
  rw [ej,slicePick_from' us.toArray j.toNat]
  simpa [← ej] using r.drop j.toNat
theorem vY {o a:ME} (Ho:aG w h₁ C n hs o) (Ha:aG w h₁ C n hs a):aG w h₁ C n hs (.slTo o a):=by
  refine fT rfl (fun {A i env fr σ σ' θ s xs r Q E} G _ ho e k=>?_) fun _ _=>rfl
  refine gI ho fun l1 o1 l2 o2=>aK e fun x σ1 e1 e=>aK e fun y σ2 e2 e=>bu e fun j e3 e=>?_
  rw [e3] at e2
  show wpAny _ _ (eval (.Subscript (hdE (enc o i (kd xs 0))) (.Slice none (some (hdE (enc a i (kd (kd xs 1) 0)))) none (pp (kd xs 1))) (pp xs)) env) _ _ _
  refine Subscript_ (Ho.ev G (az l1) o1 e1 fun u s1 θ1 t1 r1=>wpAny_Slice (wpAny_pure (Ha.ev (G.go t1) (az l2) o2 e2 fun v s2 θ2 t2 r2=>?_)))
  refine E10 r2.int_inv fun tk z1=>?_
  subst z1
  refine wpAny_pure ?_
  cases x with
  |ref k0=>
    refine fV e fun ys hy e=>cR e fun hf e=>cg hf fun h0 hf=>cg hf fun _ hf=>?_
    have h0:=of_decide_eq_true h0
    have:=il hf
    obtain ⟨rfl,rfl⟩:=in2 e
    refine mK t2.inv (r1.mono t2.ext) hy .none (.int j tk) .none nofun (fun _=>rfl) (fun us r=>?_) (Nat.le_trans (List.length_take_le' _ _) (Nat.le_of_lt this)) (KQ.after (t1.trans t2) k)
    have ej:j=(j.toNat:Int):=(Int.toNat_of_nonneg h0).symm
    rw [ej,slicePick_upto' us.toArray j.toNat]
    simpa [← ej] using r.take j.toNat
  |tup ys=>
    refine cR e fun hf eL=>cg hf fun h0 hf=>?_
    have h0:=of_decide_eq_true h0
    have hf:=of_decide_eq_true hf
    subst h0
    obtain ⟨rfl,rfl⟩:=in2 eL
    exact vH t2.inv (r1.mono t2.ext) (by intro q;rw [q] at hf;simp at hf) (fun _=>rfl) (KQ.after (t1.trans t2) k)
  |_=>exact no e
theorem uU {o:ME} (Ho:aG w h₁ C n hs o):aG w h₁ C n hs (.slRev o):=by
  refine fT rfl (fun {A i env fr σ σ' θ s xs r Q E} G _ ho e k=>?_) fun _ _=>rfl
  refine cg ho fun l1 o1=>aK e fun x σ1 e1 e=>fW e fun k0 e0 e=>fV e fun ys hy e=>cR e fun hf e=>?_
  rw [e0] at e1
  have:=il hf
  obtain ⟨rfl,rfl⟩:=in2 e
  show wpAny _ _ (eval (.Subscript (hdE (enc o i (kd xs 0))) (.Slice none none (some (.UnaryOp .USub (.Constant (.int 1) (kk (kd (kd (kd xs 1) 0) 0)) (pp (kd (kd (kd xs 1) 0) 0))) (pp (kd (kd xs 1) 0)))) (pp (kd xs 1))) (pp xs)) env) _ _ _
  refine Subscript_ (Ho.ev G (az l1) o1 e1 fun u s1 θ1 t1 r1=>wpAny_Slice (wpAny_pure (wpAny_pure ?_)))
  show wpAny _ _ (eval (.UnaryOp .USub (.Constant (.int 1) _ _) _) env) _ _ _
  refine wpAny_UnaryOp (wpAny_Constant_int (neg_int ?_))
  have t2:To w h₁ noW θ1 s1 σ1 θ1 { s1 with toks:=s1.toks+1+1 }:=To.tk t1.inv
  refine mK (s:={ s1 with toks:=s1.toks+1+1 }) t2.inv r1 hy .none .none (.int (-1) _) (by simp) (fun _=>rfl) (fun us r=>?_) (by simp;exact Nat.le_of_lt (by assumption)) (KQ.after (t1.trans t2) k)
  rw [krv_pick]
  simpa using r.reverse
end
noncomputable def cl1 (cells:List (Str×Addr)) (cs:List (Str×Addr)) (y:Str×NameKind):List (Str×Addr):=
  if (y.2==.free)=true then (cells.lookup y.1).elim cs fun a=>(y.1,a)::cs else cs
noncomputable def clo (cells:List (Str×Addr)) (l:List (Str×NameKind)) (cs:List (Str×Addr)):List (Str×Addr):=l.foldl (cl1 cells) cs
theorem Bj {scope:Scope} {env:Env} (h:∀ y∈scope.names,y.2=.free->∃ a,env.cells.lookup y.1=some a):closureFor scope env=pure (clo env.cells scope.names []):=by
  unfold closureFor
  suffices ∀ (names:List (Str×NameKind)) (cs:List (Str×Addr)),(∀ y∈names,y.2=.free->∃ a,env.cells.lookup y.1=some a)->
      (forIn names cs fun (x:Str×NameKind) (r:List (Str×Addr))=>(do
        if (x.2==NameKind.free)=true then
          let a ← cellOf env x.1
          pure (ForInStep.yield ((x.1,a)::r))
        else pure (ForInStep.yield r):Sem (ForInStep (List (Str×Addr)))))=pure (clo env.cells names cs) by
    have:=this scope.names [] h
    show (forIn scope.names [] _ >>= fun r=>pure r)=_
    rw [bind_pure]
    exact this
  intro names
  induction names with
  |nil=>intro cs _;rfl
  |cons y r ih=>
    intro cs hy
    obtain ⟨x,k⟩:=y
    rw [List.forIn_cons]
    have hr:=fun y h=>hy y (List.mem_cons_of_mem _ h)
    by_cases hk:(k==NameKind.free)=true
    · refine E10 (hy (x,k) List.mem_cons_self (by simpa using hk)) fun a ha=>?_
      rw [if_pos hk,show cellOf env x=pure a by unfold cellOf;rw [ha],pure_bind,pure_bind,show clo env.cells ((x,k)::r) cs=clo env.cells r ((x,a)::cs) from congrArg (clo env.cells r) ((if_pos hk).trans (by rw [ha];rfl))]
      exact ih _ hr
    · rw [if_neg hk,pure_bind,show clo env.cells ((x,k)::r) cs=clo env.cells r cs from congrArg (clo env.cells r) (if_neg hk)]
      exact ih _ hr
theorem wJ {cells:List (Str×Addr)}:∀ {names:List (Str×NameKind)} {cs:List (Str×Addr)} {x:Str} {a:Addr},cells.lookup x=some a->(cs.lookup x=some a\/(x,NameKind.free)∈names)->(clo cells names cs).lookup x=some a
  |[],cs,x,a,h1,h2=>by
    rcases h2 with h2 | h2
    · exact h2
    · cases h2
  |(y,k)::r,cs,x,a,h1,h2=>by
    refine wJ (names:=r) h1 ?_
    by_cases hk:(k==NameKind.free)=true
    · rw [show cl1 cells cs (y,k)=_ from if_pos hk]
      by_cases hx:x=y
      · subst hx
        exact .inl (by show List.lookup _ ((cells.lookup x).elim _ _)=_;rw [h1];exact List.lookup_cons_self)
      · rcases h2 with h2 | h2
        · left
          show List.lookup _ ((cells.lookup y).elim _ _)=_
          cases cells.lookup y with
          |none=>exact h2
          |some b=>show List.lookup x ((y,b)::cs)=_;rw [List.lookup_cons,beq_false_of_ne hx];exact h2
        · right
          rcases List.mem_cons.mp h2 with h2 | h2
          · exact absurd (congrArg Prod.fst h2) hx
          · exact h2
    · rw [show cl1 cells cs (y,k)=_ from if_neg hk]
      rcases h2 with h2 | h2
      · exact .inl h2
      · right
        rcases List.mem_cons.mp h2 with h2 | h2
        · obtain ⟨rfl,rfl⟩:=Prod.mk.inj h2;exact absurd rfl hk
        · exact h2
theorem vD {sc o:Scope} {names:List (Str×NameKind)} {x:Str}:(∀ y∈names,y.2≠.cell)->
    (names.map fun (n,k)=>if (k==NameKind.free&&o.kind==.function&&o.names.lookup n==some .cell) then (n,NameKind.cell) else (n,k)).lookup x=some .cell->(x,NameKind.free)∈names/\o.names.lookup x=some .cell:=by
  induction names with
  |nil=>exact fun _ h=>no h
  |cons p r ih=>
    obtain ⟨n,k⟩:=p
    intro hc h
    rw [List.map_cons] at h
    dsimp only at h
    by_cases hx:x=n
    · subst hx
      by_cases hh:(k==NameKind.free&&o.kind==.function&&o.names.lookup x==some .cell)=true
      · refine oy hh fun h1 _ h3=>?_
        rw [eq_of_beq h1]
        exact ⟨List.mem_cons_self,eq_of_beq h3⟩
      · rw [if_neg hh,List.lookup_cons_self] at h
        exact absurd (Option.some.inj h) (hc _ List.mem_cons_self)
    · by_cases hh:(k==NameKind.free&&o.kind==.function&&o.names.lookup n==some .cell)=true
      · rw [if_pos hh,List.lookup_cons,beq_false_of_ne hx] at h
        exact (ih (fun y hy=>hc y (List.mem_cons_of_mem _ hy)) h).imp_left (List.mem_cons_of_mem _)
      · rw [if_neg hh,List.lookup_cons,beq_false_of_ne hx] at h
        exact (ih (fun y hy=>hc y (List.mem_cons_of_mem _ hy)) h).imp_left (List.mem_cons_of_mem _)
structure Frz (c:Nat) (θ:List OA) (h h':Heap):Prop where
  dict:∃ o es ep,h.get? c=some o/\o.data=.dict es ep
  own:¬ own θ c
  same:∀ b,b≠c->h'.get? b=h.get? b
theorem Frz.at {c:Nat} {θ:List OA} {h h':Heap} (x:Frz c θ h h') {b:Nat} {o:Obj} (e:h.get? b=some o) (hd:∀ es ep,o.data≠.dict es ep):h'.get? b=some o:=by
  refine E31 x.dict fun o' es ep e' hd'=>?_
  rw [x.same b (fun z=>by rw [z,e'] at e;obtain rfl:=Option.some.inj e;exact hd es ep hd')];exact e
theorem Frz.e0 {c:Nat} {θ:List OA} {h h':Heap} (x:Frz c θ h h'):je (·=c) θ h θ h':=
  ⟨⟨[],(List.append_nil θ).symm,fun _ hp=>(nomatch hp)⟩,fun b o _ e=>by
    by_cases q:b=c
    · subst q
      refine E31 x.dict fun o' es ep e' hd=>?_
      obtain rfl:=sm e e'
      exact .inr (.inl ⟨rfl,.inr (.inl ⟨es,ep,hd⟩)⟩)
    · exact .inl ((x.same b q).trans e)⟩
theorem OR.frz {w:World} {c:Nat} {θ:List OA} {h h':Heap} {p:OA} (x:Frz c θ h h') (hp:p∈θ) {o:O} (q:OR w θ h p o):OR w θ h' p o:=
  q.cy x.e0 (fun _ e=>(x.same _ fun z=>x.own ⟨p,hp,.inl z.symm⟩).trans e) fun _ e=>(x.same _ fun z=>x.own ⟨p,hp,.inr z.symm⟩).trans e
theorem Inv.frz {w:World} {h₁:Heap} {σ:St} {c:Nat} {θ:List OA} {h h':Heap} (I:Inv w h₁ θ σ h) (x:Frz c θ h h') (hb:h₁.get? c=none):Inv w h₁ θ σ h':=
  ⟨fun b o e=>(x.same b fun z=>by rw [z,hb] at e;exact no e).trans (I.base b o e),I.len,fun n o p a b=>(I.obj n o p a b).frz x (List.mem_of_getElem? b),I.lo,I.sep⟩
theorem Ext.frz {W:Addr->Prop} {c:Nat} {θ θ':List OA} {h₀ h h':Heap} (x:Ext W θ h₀ θ' h) (hs:∀ b,b≠c->h'.get? b=h.get? b) (h0:h₀.get? c=none):Ext W θ h₀ θ' h':=by
  have ne:∀ b o,h₀.get? b=some o->b≠c:=fun b o e z=>by rw [z,h0] at e;exact no e
  refine ⟨x.pre,fun b o hn e=>?_,fun b o e=>?_,fun b e=>?_⟩
  · rw [hs b (ne b o e)];exact x.keep b o hn e
  · rw [hs b (ne b o e)];exact x.live b o e
  · refine E21 (id e) fun o fs e1 r=>?_
    refine E21 (x.exc b e) fun o' fs' e1' r'=>?_
    exact ⟨o',fs',(hs b (ne b o e1)).trans e1',r'⟩
section
variable {w:World} {h₁:Heap} {C:aD} {n:Nat} {hs:Bool} {A:Around} {i:FI} {env:Env} {fr:Fr} {σ σ' σ₁:St} {θ θ':List OA} {s s':Shared} {Q:Value->Shared->Prop} {E:Value->Shared->Prop}
theorem fQ.self {I k:Nat} {it:V} (x:fQ θ s.heap I k it) (q:Q (.ref I) s):wpAny (model pw w) A (pyIter (.ref I)) Q E s:=by
  cases x with
  |tup _ _ _ _ hi=>exact wpAny_pyIter_tupleiter hi q
  |rng hi _=>exact wpAny_pyIter_rangeiter hi q
  |ref _ hi=>exact wpAny_pyIter_listiter hi q
noncomputable def An (ifs:List Expr) (env:Env):Sem Bool:=forIn ifs true fun c r=>if r=true then do let ok ← isTrue c env (eval c env);pure (ForInStep.yield ok) else pure (ForInStep.yield r)
noncomputable def jR (w:World) (h₁:Heap) (n:Nat) (hs:Bool) (i:FI) (cells:List (Option V)) (body:V->St->Option (Option V×St)) (ifs:List Expr) (elt:Expr):Prop:=
  ∀ {A:Around} {env:Env} {v:V} {σ σ':St} {θ:List OA} {s:Shared} {r:Option V} {K:Option Value->Shared->Prop} {E:Value->Shared->Prop},
    Go w h₁ n hs A i env ⟨[some v],cells⟩ σ θ s->body v σ=some (r,σ')->
    (∀ s' θ',To w h₁ noW θ s σ' θ' s'->match r with | none=>K none s' | some y=>∀ u,R θ' s'.heap y u->K (some u) s')->
    wpAny (model pw w) A (An ifs env) (fun ok s₃=>if ok=true then wpAny (model pw w) A (eval elt env) (fun x s₄=>K (some x) s₄) E s₃ else K none s₃) E s
structure Ar (w:World) (h₁:Heap) (i:FI) (env:Env) (fr:Fr) (x:Str) (θ₀:List OA) (s₀:Shared) (ih:FI) (cenv:Env):Prop where
  sc:cenv.scope=ih.scope
  kd:ih.scope.kind=.function
  lx:ih.locs=[x]
  nx:ih.scope.names.lookup x=some .local
  gl:cenv.globals=mainGlobals
  bn:cenv.builtins=builtinsNs
  cl:jd ih cenv.cells fr θ₀ s₀.heap
theorem jd.ext {h h':Heap} {cs:List (Str×Addr)} (F:jd i cs fr θ h) (x:Ext noW θ h θ' h'):jd i cs fr θ' h':=fun k y a b=>by
  refine E23 (F k y a b) fun c ov e1 e2 e3 e4=>?_
  refine E11 (id e3) fun oc ec _=>?_
  refine ⟨c,ov,e1,x.bH ec e2,x.cell e2 e3,fun v q=>?_⟩
  refine E11 (e4 v q) fun u f r=>?_;exact ⟨u,f,r.mono x⟩
theorem Ext.ns' {W:Addr->Prop} {h h':Heap} (x:Ext W θ h θ' h') {L:Addr} {m:Str->Option Value} (hn:¬ Mine.own θ L) (hW:¬ W L) (n:h.Ns L m):h'.Ns L m:=by
  refine E32 n fun o es ep ho hd r=>?_
  rcases x.keep L o hn ho with q | ⟨q,_⟩ | ⟨_,_,sl,_,q⟩
  · exact ⟨o,es,ep,q,hd,r⟩
  · exact absurd q hW
  · exact ⟨_,es,ep,q,hd,r⟩
theorem Ns.ex {h:Heap} {L:Addr} {m:Str->Option Value} (n:h.Ns L m):∃ o,h.get? L=some o/\gR o/\¬ ExcAt h L:=by
  refine E32 n fun o es ep ho hd _=>?_
  exact ⟨o,ho,.inr (.inl ⟨es,ep,hd⟩),dM ho fun fs q=>by rw [hd] at q;cases q⟩
theorem To.frame (I:Inv w h₁ θ σ s.heap) {L:Nat} {m:Str->Option Value} (hn:s.heap.Ns L m) (ho:¬ own θ L) (hb:h₁.get? L=none) {h':Heap} (hs:Heap.SameBut L s.heap h') (hl:∃ o,h'.get? L=some o) {tk:Nat}:
    To w h₁ (·=L) θ s σ θ { s with heap:=h',toks:=tk }:=by
  refine E12 (Ns.ex hn) fun o e f x=>?_
  have ex:Ext (·=L) θ s.heap θ h':=.frame hs rfl (fun o' e'=>by obtain rfl:=sm e e';exact f) hl x
  refine ⟨ex,I.ext ex (fun b ob eb=>?_) fun p hp=>⟨.same hs fun z=>ho ⟨p,hp,.inl z.symm⟩,.same hs fun z=>ho ⟨p,hp,.inr z.symm⟩⟩,rfl,rfl⟩
  exact (hs.2 b fun z=>by rw [z,hb] at eb;exact no eb).trans (I.base _ _ eb)
theorem ve (B:Base w h₁) {ifs:List Expr} {elt iter:Expr} {x:Str} {px pos:Pos} {scope:Scope} {body:V->St->Option (Option V×St)} {it:V} {I D Cc d:Nat} {θ₀:List OA} {s₀:Shared} {ih:FI} {cenv:Env} {RR:Result->Shared->Prop}
    (rm:rh n hs A) (fs:bN h₁ θ₀ s₀.heap A) (F:Ar w h₁ i env fr x θ₀ s₀ ih cenv) (hCc:cenv.locals=Cc) (hb:jR w h₁ n hs ih fr.cells body ifs elt)
    (hI0:s₀.heap.get? I=none) (hC0:s₀.heap.get? Cc=none) (hI1:h₁.get? I=none) (hC1:h₁.get? Cc=none) (hne:I≠Cc)
    (fin:∀ σF θF sF m,To w h₁ (fun b=>b=I\/b=Cc) θ₀ s₀ σF θF sF->sF.heap.Ns Cc m->¬ own θF Cc->θF[d]?=some ⟨D,D⟩->σF=σ'->RR (.ok .next) sF)
    {xs:List V} {k:Nat} {m:Str->Option Value} (t:To w h₁ (fun b=>b=I\/b=Cc) θ₀ s₀ σ θ s) (hit:fQ θ s.heap I k it) (nI:¬ own θ I) (nC:¬ own θ Cc) (hC:s.heap.Ns Cc m) (hd:θ[d]?=some ⟨D,D⟩) (e:cj body it d xs k σ=some σ'):
    codeAny (model pw w) A (.compLoop (.ListComp elt [⟨.Name x px,iter,ifs,0⟩] scope pos) 0 (.ref I) (.ref D) cenv) RR s:=by
  let J:Nat->Shared->Prop:=fun k' s'=>∃ (xs:List V) (k:Nat) (m:Str->Option Value) (σ:St) (θ:List OA),k'=xs.length/\To w h₁ (fun b=>b=I\/b=Cc) θ₀ s₀ σ θ s'/\fQ θ s'.heap I k it/\¬ own θ I/\¬ own θ Cc/\s'.heap.Ns Cc m/\θ[d]?=some ⟨D,D⟩/\cj body it d xs k σ=some σ'
  refine codeAny_compLoop_tests J ?_ xs.length
    ⟨xs,k,m,σ,θ,rfl,t,hit,nI,nC,hC,hd,e⟩
  clear t hit nI nC hC hd e
  rintro k' s ⟨xs,k,m,σ,θ,rfl,t,hit,nI,nC,hC,hd,e⟩
  have forget:∀ {σ θ s},To w h₁ (fun b=>b=I\/b=Cc) θ₀ s₀ σ θ s->Ext noW θ₀ s₀.heap θ s.heap:=fun t=>t.ext.forget fun b hb=>by rcases hb with rfl | rfl<;>assumption
  cases xs with
  |nil=>
    refine aR e fun ys hy e=>cR e fun hl e=>?_
    obtain rfl:=Option.some.inj e
    refine next_end (fs.ext (forget t)).1 t.inv hit nI hI1 hy (of_decide_eq_true hl) fun s1 t1=>?_
    have t2:=t.trans (t1.mono fun b hb=>.inl hb)
    exact fin _ _ _ m t2 (t1.ext.ns' nC (fun z=>hne z.symm) hC) nC hd rfl
  |cons x0 r=>
    refine aR e fun ys hy e=>aR e fun v hv e=>aR e fun yσ hbo e=>?_
    refine next_item t.inv hit nI hI1 hy hv fun u s1 t1 hit1 rv=>?_
    have hC1':=t1.ext.ns' nC (fun z=>hne z.symm) hC
    have T1:=t.trans (t1.mono fun b hb=>.inl hb)
    refine wpAny_assign_Name (wpAny_storeName_local (m:=m) (by unfold Env.kindOf;rw [F.sc];exact F.nx) (by rw [hCc];exact hC1') (fun h2 hn2 hs2=>?_) (by rw [F.sc,F.kd];rfl))
    rw [hCc] at hn2 hs2
    have t2:To w h₁ (·=Cc) θ s1 σ θ { s1 with heap:=h2,toks:=s1.toks+1 }:=To.frame t1.inv hC1' nC hC1 hs2 ((Ns.ex hn2).imp fun _ h=>h.1)
    have T2:=T1.trans (t2.mono fun b hb=>.inr hb)
    have hit2:=hit1.ext t2.ext nI hne
    have G:Go w h₁ n hs A ih cenv ⟨[some v],fr.cells⟩ σ θ { s1 with heap:=h2,toks:=s1.toks+1 }:=⟨rm,fs.ext (forget T2),t2.inv,⟨F.sc,F.kd,by rw [F.lx];simp,F.gl,F.bn,by rw [hCc];exact nC,⟨_,by rw [hCc];exact hn2,fun j y z h1 h2=>?_⟩,F.cl.ext (forget T2)⟩⟩
    · have stay:∀ {σ3:St} {θ3:List OA} {s3:Shared},To w h₁ noW θ { s1 with heap:=h2,toks:=s1.toks+1 } σ3 θ3 s3->cj body it d r (k+1) σ3=some σ'->∃ m,m<(x0::r).length/\J m s3:=fun t3 e=>
        ⟨r.length,by simp,r,k+1,_,_,_,rfl,T2.trans (t3.mono bA),hit2.ext t3.ext nI (fun z=>z.elim),t3.ext.bH hit2.obj.choose_spec.choose_spec.choose_spec.1 nI,t3.ext.bH (Ns.ex hn2).choose_spec.1 nC,t3.ext.ns nC hn2,t3.ext.get hd,e⟩
      refine hb (K:=fun o s=>match o with | some x=>wpAny (model pw w) A (call (.builtin "list.append") [.ref D,x]) (fun _ s5=>∃ m,m<(x0::r).length/\J m s5) (notedBy (model pw w) A cenv fun e s'=>RR (.error e) s') s | none=>∃ m,m<(x0::r).length/\J m s) G hbo fun s3 θ3 t3=>?_
      obtain ⟨y,σ2⟩:=yσ
      cases y with
      |some y=>
        refine fun u3 r3=>aK e fun y2 σ3 hap e=>?_
        have r3':R θ3 s3.heap (.ref d) (.ref D):=.ref (p:=⟨D,D⟩) (t3.ext.get hd)
        exact tG B (me:=.append) (rm.u (by decide)) t3.inv r3' (.cons r3 .nil) hap fun u4 s4 θ4 t4 r4=>stay (t3.trans t4) e
      |none=>exact stay t3 e
    · rw [F.lx] at h1
      cases j with
      |zero=>
        simp at h1 h2
        subst h1 h2
        exact ⟨u,by simp,rv.mono t2.ext⟩
      |succ j=>simp at h1
theorem qw (B:Base w h₁) {ite elt:ME} {ifs:List Expr} {x:V} {ys:List V} {xs:List Expr} {body:V->St->Option (Option V×St)} {use:Option (Value->Sem Unit)} {first:Sem Value} {pos:Pos} (Hi:aG w h₁ C n hs ite) (G:Go w h₁ n hs A i env fr σ θ s)
    (l1:(!isL ite)=true) (o1:ok w.params ite i (kd xs 2)=true) (hsc:vE (inf (hdE xs)).sc i (nn (kd xs 1))=true) (hst:noStar (hdE (enc ite i (kd xs 2)))=true) (hfirst:first=eval (hdE (enc ite i (kd xs 2))) env)
    (hb:jR w h₁ n hs (ci xs i) fr.cells body ifs (hdE (enc elt (ci xs i) (kd xs 0)))) (e1:ev C hs ite fr σ=some (x,σ₁)) (e2:itemsOf x σ₁=some ys)
    (e3:cj body x σ₁.length ys 0 (σ₁++[.list []])=some σ')
    (post:∀ (Cc D:Nat) (θF:List OA) (sF:Shared) (m:Str->Option Value),To w h₁ noW θ s σ' θF sF->sF.heap.Ns Cc m->¬ own θF Cc->h₁.get? Cc=none->s.heap.get? Cc=none->θF[σ₁.length]?=some ⟨D,D⟩->compPost (model pw w) A E use Q (.ref D) Cc (.ok .next) sF):
    wpAny (model pw w) A (comprehension (.ListComp (hdE (enc elt (ci xs i) (kd xs 0))) [⟨.Name (nn (kd xs 1)) (pp (kd xs 1)),hdE (enc ite i (kd xs 2)),ifs,0⟩] (inf (hdE xs)).sc (pp xs)) (inf (hdE xs)).sc env pos (newList []) false first use) Q E s:=by
  unfold vE at hsc
  simp only [Bool.and_eq_true,beq_iff_eq,List.all_eq_true] at hsc
  refine E01 hsc fun y0 hall=>?_
  obtain ⟨hkind,hx⟩:=y0
  have hcell:∀ y∈(inf (hdE xs)).sc.names,y.2≠.cell:=fun y hy z=>by have:=hall y hy;simp [z] at this
  have hnames:∀ y∈(inf (hdE xs)).sc.names,y.2=.local->(inf (hdE xs)).sc.names.lookup y.1=some .local:=fun y hy z=>by have:=hall y hy;simpa [z] using this
  have hfree:∀ y∈(inf (hdE xs)).sc.names,y.2=.free->i.scope.names.lookup y.1=some .cell/\∃ j,i.cells[j]?=some y.1:=fun y hy z=>by
    have:=hall y hy
    simp [z] at this
    exact ⟨this.1,List.mem_iff_getElem?.mp this.2⟩
  refine wpAny_comprehension_free (cl:=clo env.cells (inf (hdE xs)).sc.names []) (use:=use) rfl (fun x=>fold_plain hst x) (Bj fun y hy z=>?_) hkind hnames ?_
  · obtain ⟨h1,j,h2⟩:=hfree y hy z
    refine E21 (G.frm.cl j y.1 h2 h1) fun c ov h3 _=>?_
    exact ⟨c,h3⟩
  rw [hfirst]
  refine Hi.ev G (az l1) o1 e1 fun u s1 θ1 t1 r1=>?_
  have G1:=G.go t1
  refine nP G1.inv r1 e2 fun s2 t2 hit nI=>?_
  refine wpAny_newObj_type (wpAny_newFunctionEnv hcell (by intro y hy;simp at hy) (fun h4 hns hsb=>?_) hkind)
  dsimp only at hns hsb ⊢
  have x3:Ext noW θ1 s2.heap (θ1++[⟨s2.heap.objs.size,s2.heap.objs.size⟩]) (s2.heap.push { cls:=.type "list",dict:=none,data:=.seq ([]:List Value).toArray }):=.fresh (p:=⟨_,_⟩) (Keeps.push _ _) (Above.size _) (Above.size _)
  have t3:To w h₁ noW θ1 s2 (σ₁++[.list []]) (θ1++[⟨s2.heap.objs.size,s2.heap.objs.size⟩]) { s2 with heap:=s2.heap.push { cls:=.type "list",dict:=none,data:=.seq ([]:List Value).toArray } }:=
    ⟨x3,t2.inv.alloc (o:=.list []) ⟨[],0,Heap.get?_push_size _ rfl,.nil,rfl,by simp⟩,rfl,rfl⟩
  generalize hH:s2.heap.push { cls:=.type "list",dict:=none,data:=.seq ([]:List Value).toArray }=H2 at x3 t3 hns hsb ⊢
  have hz:H2.objs.size=s2.heap.objs.size+1:=by rw [← hH];exact Heap.size_push ..
  have hsb':Heap.SameBut H2.objs.size (H2.push { cls:=.type "dict",data:=.dict #[] }) h4:=hsb
  generalize hD:s2.heap.objs.size=D at x3 t3 hz ⊢
  generalize hCc:H2.objs.size=Cc at hz hns hsb' ⊢
  have t4:To w h₁ noW (θ1++[⟨D,D⟩]) { s2 with heap:=H2 } (σ₁++[.list []]) (θ1++[⟨D,D⟩]) { s2 with heap:=H2.push { cls:=.type "dict",data:=.dict #[] } }:=To.push (s:={ s2 with heap:=H2 }) t3.inv _
  have nC:¬ own (θ1++[⟨D,D⟩]) Cc:=by rw [← hCc];exact t3.inv.dX (s:={ s2 with heap:=H2 }) (Above.size _)
  have old:∀ b,Cc<=b\/D<=b->s2.heap.get? b=none:=fun b hb=>by
    cases e:s2.heap.get? b with
    |none=>rfl
    |some o=>have:=iO e;lia
  have hC1:h₁.get? Cc=none:=by
    cases e:h₁.get? Cc with
    |none=>rfl
    |some o=>have:=t2.inv.base _ _ e;rw [old Cc (.inl (Nat.le_refl _))] at this;exact no this
  have old1:∀ b,s1.heap.objs.size<=b->s1.heap.get? b=none:=fun b hb=>by
    cases e:s1.heap.get? b with
    |none=>rfl
    |some o=>have:=iO e;lia
  have hI1:h₁.get? s1.heap.objs.size=none:=by
    cases e:h₁.get? s1.heap.objs.size with
    |none=>rfl
    |some o=>have:=t1.inv.base _ _ e;rw [old1 _ (Nat.le_refl _)] at this;exact no this
  have hC0:s1.heap.get? Cc=none:=by
    cases e:s1.heap.get? Cc with
    |none=>rfl
    |some o=>refine E10 (t2.ext.live _ _ e) fun o' e'=>?_;rw [old Cc (.inl (Nat.le_refl _))] at e';exact no e'
  refine E31 hit.obj fun oI fsI TI eI _=>?_
  have hID:s1.heap.objs.size<D:=by rw [← hD];exact iO eI
  have hne:s1.heap.objs.size≠Cc:=by lia
  have t5:To w h₁ (·=Cc) (θ1++[⟨D,D⟩]) { s2 with heap:=H2.push { cls:=.type "dict",data:=.dict #[] } } (σ₁++[.list []]) (θ1++[⟨D,D⟩]) { s2 with heap:=h4,toks:=s2.toks+0 }:=by
    refine To.frame (s:={ s2 with heap:=H2.push { cls:=.type "dict",data:=.dict #[] } }) t4.inv (m:=fun _=>none) ?_ nC hC1 hsb' ((Ns.ex hns).imp fun _ h=>h.1)
    rw [← hCc];exact Heap.Ns.new ..
  have T:To w h₁ (fun b=>b=s1.heap.objs.size\/b=Cc) θ1 s1 (σ₁++[.list []]) (θ1++[⟨D,D⟩]) { s2 with heap:=h4,toks:=s2.toks+0 }:=
    ((((t2.trans t3).trans t4).mono bA).trans (t5.mono fun b h=>.inr h))
  have nI':¬ own (θ1++[⟨D,D⟩]) s1.heap.objs.size:=x3.bH eI nI
  have hit4:fQ (θ1++[⟨D,D⟩]) h4 s1.heap.objs.size 0 x:=((hit.ext x3 nI (fun z=>z.elim)).ext t4.ext nI' (fun z=>z.elim)).ext t5.ext nI' hne
  have F:Ar w h₁ i env fr (nn (kd xs 1)) θ1 s1 (ci xs i) { newEnv (inf (hdE xs)).sc Cc env.globals (clo env.cells (inf (hdE xs)).sc.names []) env.qual none .none (some env) builtinsNs with scope:=relabel (inf (hdE xs)).sc env }:=
    ⟨by rw [zX,G.frm.sc];rfl,hkind,rfl,lookup_relabel_local (env:={ env with scope:=i.scope }) hx,G.frm.gl,G.frm.bn,fun j y hj hl=>by
      refine E01 (vD (sc:=(inf (hdE xs)).sc) (o:=i.scope) hcell hl) fun h1 h2=>?_
      refine E21 (G1.frm.cl j y hj h2) fun c ov h3 h4=>?_
      exact ⟨c,ov,wJ h3 (.inr h1),h4⟩⟩
  have loop:codeAny (model pw w) A (.compLoop (.ListComp (hdE (enc elt (ci xs i) (kd xs 0))) [⟨.Name (nn (kd xs 1)) (pp (kd xs 1)),hdE (enc ite i (kd xs 2)),ifs,0⟩] (inf (hdE xs)).sc (pp xs)) 0 (.ref s1.heap.objs.size) (.ref D)
      { newEnv (inf (hdE xs)).sc Cc env.globals (clo env.cells (inf (hdE xs)).sc.names []) env.qual none .none (some env) builtinsNs with scope:=relabel (inf (hdE xs)).sc env }) (compPost (model pw w) A E use Q (.ref D) Cc) { s2 with heap:=h4,toks:=s2.toks+0 }:=by
    refine ve B (d:=σ₁.length) G1.room G1.frs F rfl hb (old1 _ (Nat.le_refl _)) hC0 hI1 hC1 hne (fun σF θF sF m TF hnF nCF hdF eF=>?_) T hit4 nI' nC hns (by rw [← t1.inv.len];simp) e3
    subst eF
    have xF:Ext noW θ1 s1.heap θF sF.heap:=TF.ext.forget fun b hb=>by
      rcases hb with rfl | rfl
      · exact old1 _ (Nat.le_refl _)
      · exact hC0
    refine post Cc D θF sF m (t1.trans ⟨xF,TF.inv,TF.os,TF.gens⟩) hnF nCF hC1 ?_ hdF
    cases e:s.heap.get? Cc with
    |none=>rfl
    |some o=>refine E10 (t1.ext.live _ _ e) fun o' e'=>?_;exact ns hC0 e'
  exact codeAny_compStart_list loop (hit4.self (s:={ s2 with heap:=h4,toks:=s2.toks+0 }) loop)
theorem Ns.frz {h h':Heap} {Cc:Nat} {m:Str->Option Value} (n:h.Ns Cc m) (nC:¬ own θ Cc) (hs:Heap.SameBut Cc h h'):Frz Cc θ h h':=by
  refine E32 n fun oC esC epC eC dC _=>?_
  exact ⟨⟨oC,esC,epC,eC,dC⟩,nC,fun b hb=>hs.2 b hb⟩
theorem tM (B:Base w h₁) {ite elt:ME} {ifs:List Expr} {x:V} {ys:List V} {xs:List Expr} {body:V->St->Option (Option V×St)} (Hi:aG w h₁ C n hs ite) (G:Go w h₁ n hs A i env fr σ θ s)
    (l1:(!isL ite)=true) (o1:ok w.params ite i (kd xs 2)=true) (hsc:vE (inf (hdE xs)).sc i (nn (kd xs 1))=true) (hst:noStar (hdE (enc ite i (kd xs 2)))=true)
    (hb:jR w h₁ n hs (ci xs i) fr.cells body ifs (hdE (enc elt (ci xs i) (kd xs 0)))) (e1:ev C hs ite fr σ=some (x,σ₁)) (e2:itemsOf x σ₁=some ys)
    (e3:cj body x σ₁.length ys 0 (σ₁++[.list []])=some σ') (k:KQ w h₁ θ s σ' (.ref σ₁.length) Q):
    wpAny (model pw w) A (eval (.ListComp (hdE (enc elt (ci xs i) (kd xs 0))) [⟨.Name (nn (kd xs 1)) (pp (kd xs 1)),hdE (enc ite i (kd xs 2)),ifs,0⟩] (inf (hdE xs)).sc (pp xs)) env) Q E s:=by
  rw [eval_ListComp]
  refine qw B Hi G l1 o1 hsc hst rfl hb e1 e2 e3 fun Cc D θF sF m tF hn nC hC1 hC0 hd=>⟨m,hn,fun h' hs'=>?_⟩
  have fz:Frz Cc θF sF.heap h':=Ns.frz hn nC hs'
  exact k _ _ θF ⟨tF.ext.frz fz.same hC0,tF.inv.frz fz hC1,tF.os,tF.gens⟩ (.ref (p:=⟨D,D⟩) hd)
end
section
variable {w:World} {h₁:Heap} {C:aD} {n:Nat} {hs:Bool}
theorem ny {elt:ME} (He:aG w h₁ C n hs elt) {i:FI} {xs:List Expr} {cells:List (Option V)} (l2:(!isL elt)=true) (o2:ok w.params elt i xs=true):
    jR w h₁ n hs i cells (fun v σ=>bnd (ev C hs elt ⟨[some v],cells⟩ σ) fun y σ=>some (some y,σ)) [] (hdE (enc elt i xs)):=by
  intro A env v σ σ' θ s r K E G2 hbo hk
  refine wpAny_tests_nil ?_
  rw [if_pos rfl]
  refine aK hbo fun y σ1 ey e=>?_
  obtain ⟨rfl,rfl⟩:=in2 e
  exact He.ev G2 (az l2) o2 ey fun u s1 θ1 t1 r1=>hk _ _ t1 u r1
theorem kE {c elt:ME} (Hc:aG w h₁ C n hs c) (He:aG w h₁ C n hs elt) {i:FI} {xs ys:List Expr} {cells:List (Option V)} (l2:(!isL elt)=true) (o2:ok w.params elt i xs=true) (l3:(!isL c)=true) (o3:ok w.params c i ys=true):
    jR w h₁ n hs i cells (fun v σ=>bnd (ev C hs c ⟨[some v],cells⟩ σ) fun t σ=>onB t fun t=>sel t (bnd (ev C hs elt ⟨[some v],cells⟩ σ) fun y σ=>some (some y,σ)) (some (none,σ))) [hdE (enc c i ys)] (hdE (enc elt i xs)):=by
  intro A env v σ σ' θ s r K E G2 hbo hk
  refine wpAny_tests_one (aK hbo fun t σ1 ec e=>d7 e (fun ex e=>?_) fun ex e=>?_)
  · refine Hc.tr G2 (az l3) o3 (eE ec ex) fun s1 θ1 t1=>aK e fun y σ2 ey e=>?_
    obtain ⟨rfl,rfl⟩:=in2 e
    exact He.ev (G2.go t1) (az l2) o2 ey fun u s2 θ2 t2 r2=>hk _ _ (t1.trans t2) u r2
  · obtain ⟨rfl,rfl⟩:=in2 e
    exact Hc.tr G2 (az l3) o3 (eE ec ex) fun s1 θ1 t1=>hk _ _ t1
theorem vV (B:Base w h₁) {it elt:ME} (Hi:aG w h₁ C n hs it) (He:aG w h₁ C n hs elt):aG w h₁ C n hs (.comp it elt):=by
  refine fT rfl (fun {A i env fr σ σ' θ s xs r Q E} G _ ho e k=>?_) fun _ _=>rfl
  refine kQ ho fun l1 o1 l2 o2 hsc hst=>aK e fun x σ1 e1 e=>aR e fun xs e2 e=>aR e fun σ2 e3 e=>?_
  obtain ⟨rfl,rfl⟩:=in2 e
  exact tM (ifs:=[]) B Hi G l1 o1 hsc hst (ny He l2 o2) e1 e2 e3 k
theorem rq (B:Base w h₁) {it c elt:ME} (Hi:aG w h₁ C n hs it) (Hc:aG w h₁ C n hs c) (He:aG w h₁ C n hs elt):aG w h₁ C n hs (.compIf it c elt):=by
  refine fT rfl (fun {A i env fr σ σ' θ s xs r Q E} G _ ho e k=>?_) fun _ _=>rfl
  refine A2 ho fun l1 o1 l2 o2 hsc hst l3 o3=>aK e fun x σ1 e1 e=>aR e fun ys e2 e=>aR e fun σ2 e3 e=>?_
  obtain ⟨rfl,rfl⟩:=in2 e
  exact tM (ifs:=[hdE (enc c (ci xs i) (kd xs 3))]) B Hi G l1 o1 hsc hst (kE Hc He l2 o2 l3 o3) e1 e2 e3 k
theorem b0 (B:Base w h₁) (HC:CS w h₁ C n hs) (e:ME):aG w h₁ C n hs e:=by
  induction e with
  |none=>exact ib.1
  |bool b=>exact ib.2.1 b
  |int k=>exact ib.2.2.1 k
  |str t=>exact ib.2.2.2 t
  |loc j=>exact (lQ B).1 j
  |cell j=>exact (lQ B).2.1 j
  |glob v=>exact (lQ B).2.2 v
  |bin op a b h1 h2=>exact yR h1 h2
  |neg a h=>exact yU h
  |not a h=>exact yV h
  |cmp op a b h1 h2=>exact yS B h1 h2
  |and a b h1 h2=>exact yP h1 h2
  |or a b h1 h2=>exact A1 h1 h2
  |or3 a b c h1 h2 h3=>exact yW h1 h2 h3
  |ife t a b h1 h2 h3=>exact yT h1 h2 h3
  |call f args h1 h2=>exact vU B HC h1 h2
  |mcall o m args h1 h2=>exact uT B HC h1 h2
  |attr o m h=>exact vS B h
  |sub o j h1 h2=>exact yX h1 h2
  |slFrom o a h1 h2=>exact rr h1 h2
  |slTo o a h1 h2=>exact vY h1 h2
  |slRev o h=>exact uU h
  |list args h=>exact vX h
  |tuple args h=>exact uV h
  |dict0 k=>exact uR
  |comp it elt h1 h2=>exact vV B h1 h2
  |compIf it c elt h1 h2 h3=>exact rq B h1 h2 h3
  |nil=>exact all_nil
  |cons a r h1 h2=>exact all_cons h1 h2
  |bad=>exact yQ
end
section
variable {w:World} {h₁:Heap} {A:Around} {σ σ':St} {θ θ':List OA} {s s':Shared} {E:Value->Shared->Prop}
theorem pj {v:Value} {T:String} (h:v=.type T) (hT:T≠"traceback"):v≠.type "traceback":=by rw [h];simpa using hT
theorem vA (I:Inv w h₁ θ σ s.heap) {b:Nat} {o:Obj} (ho:own θ b) (e:s.heap.get? b=some o):o.cls≠.type "traceback":=by
  refine E11 ho fun p hp q=>?_
  refine E10 (List.mem_iff_getElem?.mp hp) fun n hn=>?_
  have hl:=(List.getElem?_eq_some_iff.mp hn).1
  rw [I.len] at hl
  have ho:=I.obj n _ p (List.getElem?_eq_getElem hl) hn
  have same:∀ {o':Obj},s.heap.get? b=some o'->o'=o:=fun z=>by obtain rfl:=sm e z;rfl
  cases hh:σ[n] with
  |list xs=>rw [hh] at ho;refine E23 ho fun _ _ a _ e' _=>?_;rw [e',or_self] at q;subst q;rw [← same a];simp
  |dI xs=>rw [hh] at ho;refine E13 ho fun _ y1 _ e' _=>?_;obtain ⟨_,_,_,a,c,_⟩:=y1;rw [e',or_self] at q;subst q;rw [← same a];exact pj c.1 (by decide)
  |dS xs=>rw [hh] at ho;refine E13 ho fun _ y1 _ e' _=>?_;obtain ⟨_,_,_,a,c,_⟩:=y1;rw [e',or_self] at q;subst q;rw [← same a];exact pj c.1 (by decide)
  |dP xs=>rw [hh] at ho;refine E13 ho fun _ y1 _ e' _=>?_;obtain ⟨_,_,_,a,c,_⟩:=y1;rw [e',or_self] at q;subst q;rw [← same a];exact pj c.1 (by decide)
  |set xs=>rw [hh] at ho;refine E12 ho fun _ y1 _ e'=>?_;obtain ⟨_,_,_,_,a,c,_⟩:=y1;rw [e',or_self] at q;subst q;rw [← same a];exact pj c.1 (by decide)
  |inst c as=>
    rw [hh] at ho;refine E22 ho fun _ _ a d _=>?_;rcases q with rfl | rfl
    · rw [← same a];simp [instObj]
    · rw [← same d];simp
  |exc x pr=>
    rw [hh] at ho;refine E42 ho fun _ _ _ _ a d _=>?_;rcases q with rfl | rfl
    · rw [← same a];simp
    · rw [← same d];simp
theorem qA {h:Heap} {p:OA} {x:V} (o:OR w θ h p (.exc x false)) {e:Obj} (he:h.get? p.a=some e):∃ fs,e.cls=.ref 51/\e.dict=some p.d/\e.data=.fields fs/\fs[2]?=some .none/\e={ cls:=.ref 51,dict:=some p.d,data:=.fields fs }:=by
  refine E45 o fun fs _ _ _ a _ _ _ _ f=>?_
  obtain rfl:=sm he a
  exact ⟨fs,rfl,rfl,rfl,f,rfl⟩
theorem zq (I:Inv w h₁ θ σ s.heap) {n:Nat} {p:OA} {x:V} (hp:θ[n]?=some p) (hx:σ[n]?=some (.exc x false)) {v:Value} {h':Heap} (eh:h'=s.heap.update p.a (Obj.mapFields (·.setIfInBounds 1 v))):
    To w h₁ noW θ s σ θ { s with heap:=h' }:=by
  have o:=I.obj _ _ _ hx hp
  refine E45 o fun fs es m u a b c d _ f=>?_
  have hne:p.a≠p.d:=fun z=>by rw [z,b] at a;simp at a
  have hs:Heap.SameBut p.a s.heap h':=by rw [eh];exact .update ..
  have hnew:h'.get? p.a=some { cls:=.ref 51,dict:=some p.d,data:=.fields (fs.setIfInBounds 1 v) }:=by
    rw [eh];exact Heap.get?_update_self _ a (by rfl)
  have hf2:(fs.setIfInBounds 1 v)[2]?=some .none:=by
    rw [Array.getElem?_setIfInBounds_ne (by decide)];exact f
  have hown:own θ p.a:=⟨p,List.mem_of_getElem? hp,.inl rfl⟩
  have ex:Ext noW θ s.heap θ h':=by
    refine ⟨⟨[],by simp,fun _ hp=>nomatch hp⟩,fun b o hn e=>.inl ((hs.2 b fun q=>hn (q▸hown)).trans e),j9 hs ⟨_,hnew⟩,fun b hb=>?_⟩
    by_cases q:b=p.a
    · subst q;exact ⟨_,_,hnew,rfl,rfl,hf2⟩
    · refine E21 hb fun ob fb e1 r=>?_;exact ⟨ob,fb,(hs.2 b q).trans e1,r⟩
  refine ⟨ex,?_,rfl,rfl⟩
  have:=I.Cf (o:=.exc x false) hs hp (.inl rfl) ex ⟨_,es,m,u,hnew,(hs.2 _ (Ne.symm hne)).trans b,c,d.mono ex,nofun,hf2⟩
  obtain ⟨hl,hv⟩:=List.getElem?_eq_some_iff.mp hx
  rw [← hv,List.set_getElem_self hl] at this
  exact this
theorem km (I:Inv w h₁ θ σ s.heap) {T:Nat} {oT:Obj} {ts:Array Value} (hT:s.heap.get? T=some oT) (hc:oT.cls=.type "traceback") (hd:oT.data=.fields ts) (h1:h₁.get? T=none) (hn:¬ own θ T) {v:Value} {h':Heap}
    (eh:h'=s.heap.update T (Obj.mapFields (·.setIfInBounds 3 v))):To w h₁ (·=T) θ s σ θ { s with heap:=h' }:=by
  have hs:Heap.SameBut T s.heap h':=by rw [eh];exact .update ..
  have ex:Ext (·=T) θ s.heap θ h':=.frame hs rfl (fun o' e'=>by obtain rfl:=sm hT e';exact .inr (.inr ⟨ts,_,hd,hc,by decide +kernel⟩)) ⟨_,by rw [eh];exact Heap.get?_update_self _ hT (Obj.isFreed_of_fields (Obj.data_mapFields hd _))⟩ (vr hT (by rw [hc];simp))
  refine ⟨ex,I.ext ex (fun b ob eb=>?_) fun p hp=>⟨.same hs fun z=>hn ⟨p,hp,.inl z.symm⟩,.same hs fun z=>hn ⟨p,hp,.inr z.symm⟩⟩,rfl,rfl⟩
  exact (hs.2 b fun z=>by rw [z,h1] at eb;exact no eb).trans (I.base _ _ eb)
theorem ya (I:Inv w h₁ θ σ s.heap) {S:List Addr} {h':Heap} (x:Heap.SlotsOnly S s.heap h') (hS:∀ b∈S,h₁.get? b=none/\¬ own θ b/\∃ o,s.heap.get? b=some o/\bY o):To w h₁ noW θ s σ θ { s with heap:=h' }:=by
  have ex:Ext noW θ s.heap θ h':=by
    refine ⟨⟨[],by simp,fun _ hp=>nomatch hp⟩,fun b o _ e=>?_,fun b o e=>?_,fun b ⟨o,fs,e,r⟩=>?_⟩
    · by_cases hb:b∈S
      · obtain ⟨_,_,o',e',es,ep,hd⟩:=hS b hb
        obtain rfl:=sm e e'
        refine E10 (x.2.2 b o e) fun sl hsl=>?_
        exact .inr (.inr ⟨es,ep,sl,hd,hsl⟩)
      · exact .inl ((x.2.1 b hb).trans e)
    · refine E10 (x.2.2 b o e) fun sl hsl=>?_;exact ⟨_,hsl⟩
    · refine E10 (x.2.2 b o e) fun sl hsl=>?_;exact ⟨_,fs,hsl,r⟩
  have nS:∀ b,own θ b->b∉S:=fun b ho hb=>(hS b hb).2.1 ho
  refine ⟨ex,I.ext ex (fun b o e=>?_) fun p hp=>⟨fun o e=>(x.2.1 _ (nS _ ⟨p,hp,.inl rfl⟩)).trans e,fun o e=>(x.2.1 _ (nS _ ⟨p,hp,.inr rfl⟩)).trans e⟩,rfl,rfl⟩
  by_cases hb:b∈S
  · rw [(hS b hb).1] at e;exact no e
  · exact (x.2.1 b hb).trans (I.base _ _ e)
theorem rT {l:List Env} (hl:∀ env∈l,env.scope.kind≠.module/\∃ L o,env.frame=some L/\h₁.get? L=none/\¬ own θ L/\s.heap.get? L=some o/\bY o):s.heap.FunFrames { objs:=#[] } l:=by
  induction l with
  |nil=>trivial
  |cons env r ih=>
    obtain ⟨hk,L,o,hf,_,_,ho,es,ep,hd⟩:=hl env List.mem_cons_self
    exact ⟨hk,⟨L,o,hf,by simp [Heap.get?],ho,fun vs q=>by rw [hd] at q;cases q⟩,ih fun e he=>hl e (List.mem_cons_of_mem _ he)⟩
theorem mn {l:List Env} (hl:∀ env∈l,env.scope.kind≠.module/\∃ L o,env.frame=some L/\h₁.get? L=none/\¬ own θ L/\s.heap.get? L=some o/\bY o):∀ b∈l.filterMap (·.frame),h₁.get? b=none/\¬ own θ b/\∃ o,s.heap.get? b=some o/\bY o:=fun b hb=>by
  refine E11 (List.mem_filterMap.mp hb) fun env he hf=>?_
  obtain ⟨_,L,o,hf',h1,hn,ho,fl⟩:=hl env he
  obtain rfl:=sm hf hf'
  exact ⟨h1,hn,o,ho,fl⟩
theorem qz {base:Heap} (I:Inv w h₁ θ σ s.heap) (F:bN h₁ θ s.heap A) {env:Env} {outer:List Env} {L:Nat} (hA:A.frames=some (env::outer)) (hf:env.frame=some L) {n:Nat} {p:OA} {x:V} (hp:θ[n]?=some p) (hx:σ[n]?=some (.exc x false))
    (hb:∀ (b:Nat) (o:Obj),base.get? b=some o->∃ o',s.heap.get? b=some o') {fs:Array Value} (he:s.heap.get? p.a=some { cls:=.ref 51,dict:=some p.d,data:=.fields fs }) (hz:2<fs.size) {head:Value} {had:Bool} {Q:Unit->Shared->Prop}
    (q:∀ s',To w h₁ noW θ s σ θ s'->Fly base θ s'.heap (.ref p.a)->Q () s'):
    wpAny (model pw w) A (do let a ← PySem.frameOf env;let pl ← entryPlaceOf L had;let b ← EntryCells.newEntry head a .none (rawInt L) .none pl;setField (.ref p.a) 1 b) (fun _ s2=>wpAny (model pw w) A (setFlight (.ref p.a) none) Q E s2) E s:=by
  obtain ⟨_,l,hl,hL⟩:=F
  obtain rfl:=sm hA hl
  refine wpAny_bind (wpAny_frameOf_fun hA (rT hL) hf fun k1 hs1=>?_)
  have t1:To w h₁ noW θ s σ θ { s with heap:=k1 }:=ya I hs1 (mn hL)
  have hown:own θ p.a:=⟨p,List.mem_of_getElem? hp,.inl rfl⟩
  have e1:k1.get? p.a=some { cls:=.ref 51,dict:=some p.d,data:=.fields fs }:=(hs1.2.1 _ fun hm=>(mn hL _ hm).2.1 hown).trans he
  refine wpAny_bind (wpAny_entryPlaceOf fun pl hpl=>?_)
  unfold EntryCells.newEntry newFields
  refine wpAny_bind (wpAny_newObj_type ?_ (hpl.sizeOk5 _ _ _ _ _))
  dsimp only
  generalize hO:({ cls:=.type "traceback",dict:=none,data:=.fields ([head,.ref L,.none,rawInt L,.none]++(if pl.isEmpty then List.replicate 6 Value.none else pl)).toArray }:Obj)=oT
  have hTc:oT.cls=.type "traceback":=by rw [← hO]
  obtain ⟨ts,hTd,hT3⟩:∃ ts,oT.data=.fields ts/\3<ts.size:=by rw [← hO];exact ⟨_,rfl,by simp only [List.size_toArray,List.length_append,List.length_cons,List.length_nil];lia⟩
  have t2:To w h₁ noW θ { s with heap:=k1 } σ θ { s with heap:=k1.push oT }:=To.push (s:={ s with heap:=k1 }) t1.inv oT
  have e2:=Heap.get?_push_of_some oT e1
  have hTe:k1.objs.size≠p.a:=Nat.ne_of_gt (iO e1)
  have gT:(k1.push oT).get? k1.objs.size=some oT:=Heap.get?_push_size _ (Obj.isFreed_of_fields hTd)
  refine wpAny_setField e2 rfl (by show 1<fs.size;exact Nat.le_of_lt (by assumption)) ?_
  generalize hk3:(k1.push oT).update p.a (Obj.mapFields (·.setIfInBounds 1 (.ref k1.objs.size)))=k3
  have t3:To w h₁ noW θ { s with heap:=k1.push oT } σ θ { s with heap:=k3 }:=zq (s:={ s with heap:=k1.push oT }) t2.inv hp hx hk3.symm
  have e3:k3.get? p.a=some { cls:=.ref 51,dict:=some p.d,data:=.fields (fs.setIfInBounds 1 (.ref k1.objs.size)) }:=by
    rw [← hk3];exact Heap.get?_update_self _ e2 (by rfl)
  have gT3:k3.get? k1.objs.size=some oT:=by rw [← hk3,Heap.get?_update_other _ _ (Ne.symm hTe)];exact gT
  unfold setFlight
  refine wpAny_bind (wpAny_field e3 rfl (x:=.ref k1.objs.size) (Array.getElem?_setIfInBounds_self_of_lt (by exact Nat.le_of_lt (by assumption))) ?_)
  rw [if_pos (show (Value.ref k1.objs.size != Value.none)=true from by simp)]
  refine wpAny_setField gT3 hTd hT3 ?_
  generalize hk4:k3.update k1.objs.size (Obj.mapFields (·.setIfInBounds 3 ((none:Option Addr).elim Value.none fun f=>rawInt f)))=k4
  have nT:¬ own θ k1.objs.size:=fun z=>vA (s:={ s with heap:=k3 }) t3.inv z gT3 hTc
  have nb:∀ h:Heap,(∀ (b:Nat) (o:Obj),h.get? b=some o->∃ o',k1.get? b=some o')->h.get? k1.objs.size=none:=fun h hh=>by
    cases z:h.get? k1.objs.size with
    |none=>rfl
    |some o=>refine E10 (hh _ _ z) fun o' e'=>?_;exact absurd (iO e') (Nat.lt_irrefl _)
  have t4:To w h₁ (·=k1.objs.size) θ { s with heap:=k3 } σ θ { s with heap:=k4 }:=km (s:={ s with heap:=k3 }) t3.inv gT3 hTc hTd (nb _ fun b o e=>⟨o,t1.inv.base _ _ e⟩) nT hk4.symm
  have T:To w h₁ (·=k1.objs.size) θ s σ θ { s with heap:=k4 }:=(((t1.trans t2).trans t3).mono bA).trans t4
  have fl:Fly base θ k4 (.ref p.a):=by
    refine ⟨p.a,{ cls:=.ref 51,dict:=some p.d,data:=.fields (fs.setIfInBounds 1 (.ref k1.objs.size)) },_,rfl,?_,rfl,by simpa using hz,.inr ⟨k1.objs.size,oT.mapFields (·.setIfInBounds 3 .none),ts.setIfInBounds 3 .none,Array.getElem?_setIfInBounds_self_of_lt (by exact Nat.le_of_lt (by assumption)),nb _ fun b o e=>?_,hTe,nT,?_,?_,Obj.data_mapFields hTd _,Array.getElem?_setIfInBounds_self_of_lt hT3⟩⟩
    · rw [← hk4];exact (Heap.get?_update_other _ _ hTe).trans e3
    · refine E10 (hb _ _ e) fun o' e'=>?_;exact t1.ext.live _ _ e'
    · rw [← hk4];exact Heap.get?_update_self _ gT3 (Obj.isFreed_of_fields (Obj.data_mapFields hTd _))
    · rw [Obj.cls_mapFields];exact hTc
  exact q { s with heap:=k4 } ⟨T.ext.forget fun b hb=>by subst hb;exact nb _ t1.ext.live,T.inv,T.os,T.gens⟩ fl
theorem uo {base:Heap} (I:Inv w h₁ θ σ s.heap) (F:bN h₁ θ s.heap A) {env:Env} {outer:List Env} {L:Nat} (hA:A.frames=some (env::outer)) (hf:env.frame=some L) {n:Nat} {p:OA} {x:V} (hp:θ[n]?=some p) (hx:σ[n]?=some (.exc x false))
    (hb:∀ (b:Nat) (o:Obj),base.get? b=some o->∃ o',s.heap.get? b=some o') (hb1:∀ (b:Nat) (o:Obj),h₁.get? b=some o->∃ o',base.get? b=some o') (fl:Fly base θ s.heap (.ref p.a)) {Q:Unit->Shared->Prop}
    (q:∀ s',To w h₁ (fun b=>base.get? b=none/\∃ o fs,s.heap.get? b=some o/\o.data=.fields fs) θ s σ θ s'->Fly base θ s'.heap (.ref p.a)->Q () s'):
    wpAny (model pw w) A (noteFrame (.ref p.a) env) (fun _ s2=>wpAny (model pw w) A (setFlight (.ref p.a) none) Q E s2) E s:=by
  refine E34 fl fun e o fs eq he hd hz hfl=>?_
  obtain rfl:=Value.ref.inj eq
  refine E14 (qA (I.obj _ _ _ hx hp) he) fun fs' hc _ hd' _ ho=>?_
  obtain rfl:=Data.fields.inj (hd.symm.trans hd')
  rw [ho] at he
  unfold noteFrame
  simp only [hf]
  rcases hfl with hfl | ⟨T,oT,ts,k1,k2,k3,k4,k5,k6,k7,k8⟩
  · refine wpAny_bind (wpAny_field he rfl hfl ?_)
    rw [if_neg (by decide)]
    exact qz I F hA hf hp hx hb he hz fun s' t f=>q s' (t.mono bA) f
  · refine wpAny_bind (wpAny_field he rfl k1 ?_)
    rw [if_pos (show (Value.ref T != Value.none)=true from by simp)]
    refine wpAny_bind (wpAny_field k5 k7 k8 ?_)
    rw [if_neg (show ¬ ((Value.none==rawInt L)=true) from by simp [rawInt])]
    refine wpAny_bind (wpAny_setField k5 k7 (Array.getElem?_eq_some_iff.mp k8).1 ?_)
    generalize hk:s.heap.update T (Obj.mapFields (·.setIfInBounds 3 .none))=k
    have h1:h₁.get? T=none:=by
      exact uk fun o z=>E10 (hb1 _ _ z) fun o' e'=>ns k2 e'
    have t1:To w h₁ (·=T) θ s σ θ { s with heap:=k }:=km I k5 k6 k7 h1 k4 hk.symm
    have F':bN h₁ θ k A:=by
      obtain ⟨hh,l,hl,hL⟩:=F
      refine ⟨hh.imp id fun ⟨ea,z1,z2⟩=>⟨ea,z1,t1.ext.exc _ z2⟩,l,hl,fun env' he'=>?_⟩
      obtain ⟨hk',L',o',hf',h1',hn',ho',es,ep,hd'⟩:=hL env' he'
      refine ⟨hk',L',o',hf',h1',hn',?_,es,ep,hd'⟩
      rw [← hk,Heap.get?_update_other _ _ (fun z=>?_)]
      · exact ho'
      · rw [← z,k5] at ho';obtain rfl:=Option.some.inj ho';rw [k7] at hd';cases hd'
    have he':k.get? p.a=some { cls:=.ref 51,dict:=some p.d,data:=.fields fs }:=by
      rw [← hk,Heap.get?_update_other _ _ k3];exact he
    refine qz (s:={ s with heap:=k }) t1.inv F' hA hf hp hx (fun b o e=>by refine E10 (hb b o e) fun o' e'=>?_;exact t1.ext.live _ _ e') he' hz fun s' t f=>q s' ((t1.mono fun b z=>?_).trans (t.mono bA)) f
    rw [z];exact ⟨k2,oT,ts,k5,k7⟩
theorem xp {base:Heap} (I:Inv w h₁ θ σ s.heap) (F:bN h₁ θ s.heap A) {env:Env} {outer:List Env} {L:Nat} (hA:A.frames=some (env::outer)) (hf:env.frame=some L) {n:Nat} {p:OA} {x:V} (hp:θ[n]?=some p) (hx:σ[n]?=some (.exc x false))
    (hb:∀ (b:Nat) (o:Obj),base.get? b=some o->∃ o',s.heap.get? b=some o') (hb1:∀ (b:Nat) (o:Obj),h₁.get? b=some o->∃ o',base.get? b=some o') (fl:Fly base θ s.heap (.ref p.a)) {Q:Unit->Shared->Prop}
    (q:∀ s',To w h₁ (fun b=>base.get? b=none/\∃ o fs,s.heap.get? b=some o/\o.data=.fields fs) θ s σ θ s'->Fly base θ s'.heap (.ref p.a)->Q () s'):wpAny (model pw w) A (leaving env (.ref p.a)) Q E s:=by
  unfold leaving
  exact wpAny_bind (uo I F hA hf hp hx hb hb1 fl q)
end
structure Ds where
  p:Pos
  es:List Expr
  bs:List (List Stmt)
  nm:Str
  hp:Pos
noncomputable def vF:Stmt->Ds
  |.Expr e p=>⟨p,[e],[],default,default⟩
  |.Assign ts e p=>⟨p,e::ts,[],default,default⟩
  |.AugAssign t _ e p=>⟨p,[e,t],[],default,default⟩
  |.If c a b p=>⟨p,[c],[a,b],default,default⟩
  |.While c b _ p=>⟨p,[c],[b],default,default⟩
  |.For t it b _ p=>⟨p,[it,t],[b],default,default⟩
  |.Return (some e) p=>⟨p,[e],[],default,default⟩
  |.Return none p=>⟨p,[],[],default,default⟩
  |.Continue p=>⟨p,[],[],default,default⟩
  |.Delete ts p=>⟨p,ts,[],default,default⟩
  |.Raise (some e) _ p=>⟨p,[e],[],default,default⟩
  |.Try b [.ExceptHandler (some t) (some n) hb hp] _ _ p=>⟨p,[t],[b,hb],n,hp⟩
  |_=>⟨default,[],[],default,default⟩
noncomputable def hdS:List Stmt->Stmt
  |x::_=>x
  |[]=>.Pass default
noncomputable def sk (ss:List Stmt) (j:Nat):List Expr:=(vF (hdS ss)).es.drop j
noncomputable def sb (ss:List Stmt) (j:Nat):List Stmt:=((vF (hdS ss)).bs.drop j).headD []
noncomputable def sp (ss:List Stmt):Pos:=(vF (hdS ss)).p
noncomputable def zB:Stmt->Bool
  |.Return none _=>true
  |_=>false
noncomputable def j8:MS->FI->List Stmt->List Stmt
  |.nil,_,_=>[]
  |.cons s r,i,ss=>hdS (j8 s i ss)::j8 r i ss.tail
  |.expr e,i,ss=>[.Expr (hdE (enc e i (sk ss 0))) (sp ss)]
  |.asg _ e,i,ss=>[.Assign [.Name (nn (sk ss 1)) (pp (sk ss 1))] (hdE (enc e i (sk ss 0))) (sp ss)]
  |.asgC _ e,i,ss=>[.Assign [.Name (nn (sk ss 1)) (pp (sk ss 1))] (hdE (enc e i (sk ss 0))) (sp ss)]
  |.asgComp _ e,i,ss=>[.Assign [.Name (nn (sk ss 1)) (pp (sk ss 1))] (hdE (enc e i (sk ss 0))) (sp ss)]
  |.asg2 _ _ e,i,ss=>[.Assign [.Tuple [.Name (nn (kd (sk ss 1) 0)) (pp (kd (sk ss 1) 0)),.Name (nn (kd (sk ss 1) 1)) (pp (kd (sk ss 1) 1))] (kk (sk ss 1)) (pp (sk ss 1))] (hdE (enc e i (sk ss 0))) (sp ss)]
  |.setattr o _ e,i,ss=>[.Assign [.Attribute (hdE (enc o i (kd (sk ss 1) 0))) (nn (sk ss 1)) (pp (sk ss 1))] (hdE (enc e i (sk ss 0))) (sp ss)]
  |.setitem o j e,i,ss=>[.Assign [.Subscript (hdE (enc o i (kd (sk ss 1) 0))) (hdE (enc j i (kd (sk ss 1) 1))) (pp (sk ss 1))] (hdE (enc e i (sk ss 0))) (sp ss)]
  |.aug _ op e,i,ss=>[.AugAssign (.Name (nn (sk ss 1)) (pp (sk ss 1))) (wm op) (hdE (enc e i (sk ss 0))) (sp ss)]
  |.ite c a b,i,ss=>[.If (hdE (enc c i (sk ss 0))) (j8 a i (sb ss 0)) (j8 b i (sb ss 1)) (sp ss)]
  |.while c b,i,ss=>[.While (hdE (enc c i (sk ss 0))) (j8 b i (sb ss 0)) [] (sp ss)]
  |.for _ it b,i,ss=>[.For (.Name (nn (sk ss 1)) (pp (sk ss 1))) (hdE (enc it i (sk ss 0))) (j8 b i (sb ss 0)) [] (sp ss)]
  |.ret e,i,ss=>[.Return (if zB (hdS ss) then none else some (hdE (enc e i (sk ss 0)))) (sp ss)]
  |.cont,_,ss=>[.Continue (sp ss)]
  |.delFrom o a,i,ss=>[.Delete [.Subscript (hdE (enc o i (kd (sk ss 0) 0))) (.Slice (some (hdE (enc a i (kd (kd (sk ss 0) 1) 0)))) none none (pp (kd (sk ss 0) 1))) (pp (sk ss 0))] (sp ss)]
  |.raise e,i,ss=>[.Raise (some (hdE (enc e i (sk ss 0)))) none (sp ss)]
  |.try b _ h,i,ss=>[.Try (j8 b i (sb ss 0)) [.ExceptHandler (some (.Name (nn (sk ss 0)) (pp (sk ss 0)))) (some (vF (hdS ss)).nm) (j8 h i (sb ss 1)) (vF (hdS ss)).hp] [] [] (sp ss)]
noncomputable def jA:MS->Bool
  |.nil=>true
  |.cons ..=>true
  |_=>false
noncomputable def isTup:ME->Bool
  |.tuple ..=>true
  |_=>false
noncomputable def xe:MS->Bool
  |.cons ..=>true
  |_=>false
noncomputable def gj:ME->Bool
  |.comp ..=>true
  |.compIf ..=>true
  |.bad=>true
  |_=>false
noncomputable def isNone:ME->Bool
  |.none=>true
  |_=>false
noncomputable def iN (i:FI) (k:Nat) (x:Str):Bool:=i.locs[k]?==some x&&i.scope.names.lookup x==some .local
noncomputable def B8 (i:FI) (x:Str) (px:Pos) (xs:List Expr):Bool:=
  px.line==(pp xs).line&&!((inf (hdE xs)).sc.names.any fun (n,k)=>n==x&&(k==.local||k==.cell))
noncomputable def okS (P:Params):MS->FI->List Stmt->Bool
  |.nil,_,_=>true
  |.cons s r,i,ss=>!jA s&&okS P s i ss&&okS P r i ss.tail&&jA r
  |.expr e,i,ss=>!isL e&&ok P e i (sk ss 0)&&!gj e
  |.asg k e,i,ss=>!isL e&&ok P e i (sk ss 0)&&!gj e&&iN i k (nn (sk ss 1))
  |.asgC k e,i,ss=>!isL e&&ok P e i (sk ss 0)&&!gj e&&i.cells[k]?==some (nn (sk ss 1))&&i.scope.names.lookup (nn (sk ss 1))==some .cell
  |.asgComp k e,i,ss=>(match e with|.comp ..=>true|.compIf ..=>true|_=>false)&&ok P e i (sk ss 0)&&iN i k (nn (sk ss 1))&&B8 i (nn (sk ss 1)) (pp (sk ss 1)) (sk ss 0)
  |.asg2 j k e,i,ss=>!isL e&&ok P e i (sk ss 0)&&!gj e&&!isTup e&&iN i j (nn (kd (sk ss 1) 0))&&iN i k (nn (kd (sk ss 1) 1))
  |.setattr o m e,i,ss=>!isL e&&ok P e i (sk ss 0)&&!gj e&&!isL o&&ok P o i (kd (sk ss 1) 0)&&nn (sk ss 1)==nmS m
  |.setitem o j e,i,ss=>!isL e&&ok P e i (sk ss 0)&&!gj e&&!isL o&&ok P o i (kd (sk ss 1) 0)&&!isL j&&ok P j i (kd (sk ss 1) 1)
  |.aug k _ e,i,ss=>!isL e&&ok P e i (sk ss 0)&&iN i k (nn (sk ss 1))
  |.ite c a b,i,ss=>!isL c&&ok P c i (sk ss 0)&&okS P a i (sb ss 0)&&jA a&&okS P b i (sb ss 1)&&jA b
  |.while c b,i,ss=>!isL c&&ok P c i (sk ss 0)&&okS P b i (sb ss 0)&&jA b
  |.for k it b,i,ss=>!isL it&&ok P it i (sk ss 0)&&okS P b i (sb ss 0)&&jA b&&iN i k (nn (sk ss 1))&&noStar (hdE (enc it i (sk ss 0)))
  |.ret e,i,ss=>if zB (hdS ss) then isNone e else !isL e&&ok P e i (sk ss 0)
  |.cont,_,_=>true
  |.delFrom o a,i,ss=>!isL o&&ok P o i (kd (sk ss 0) 0)&&!isL a&&ok P a i (kd (kd (sk ss 0) 1) 0)
  |.raise e,i,ss=>!isL e&&ok P e i (sk ss 0)
  |.try b k h,i,ss=>okS P b i (sb ss 0)&&jA b&&okS P h i (sb ss 1)&&xe h&&iN i k (vF (hdS ss)).nm&&ok P (.glob (.cls .perr)) i (sk ss 0)
noncomputable def FW (i:FI) (env:Env):Addr->Prop:=fun b=>b=env.locals\/∃ (k:Nat) (x:Str) (c:Addr),i.cells[k]?=some x/\i.scope.names.lookup x=some .cell/\env.cells.lookup x=some c/\b=c
structure FX (h₁:Heap) (i:FI) (env:Env) (A:Around):Prop where
  fr:env.frame=some env.locals
  fs:∃ outer,A.frames=some (env::outer)
  lb:h₁.get? env.locals=none
  cb:∀ p∈env.cells,h₁.get? p.2=none
  cd:∀ (x y:Str) c,env.cells.lookup x=some c->env.cells.lookup y=some c->x=y
  cn:i.cells.Nodup
noncomputable def SQ (w:World) (h₁:Heap) (n:Nat) (hs:Bool) (A:Around) (i:FI) (env:Env) (θ:List OA) (s:Shared) (fl:Fl) (fr':Fr) (σ':St) (Q:Flow->Shared->Prop) (E:Value->Shared->Prop):Prop:=match fl with
  |.nxt=>∀ s' θ',To w h₁ (FW i env) θ s σ' θ' s'->Go w h₁ n hs A i env fr' σ' θ' s'->Q .next s'
  |.cnt=>∀ s' θ',To w h₁ (FW i env) θ s σ' θ' s'->Go w h₁ n hs A i env fr' σ' θ' s'->Q .cont s'
  |.ret v=>∀ u s' θ',To w h₁ (FW i env) θ s σ' θ' s'->R θ' s'.heap v u->(∃ m,s'.heap.Ns env.locals m)->Q (.ret u) s'
  |.err v=>∀ u s' θ',To w h₁ (FW i env) θ s σ' θ' s'->R θ' s'.heap v u->XAt σ' v->Fly s.heap θ' s'.heap u->Go w h₁ n hs A i env fr' σ' θ' s'->E u s'
section
variable {w:World} {h₁:Heap} {n:Nat} {hs:Bool} {A:Around} {i:FI} {env:Env} {fr fr':Fr} {σ σ' σ₁:St} {θ θ':List OA} {s s':Shared} {E:Value->Shared->Prop}
theorem SQ.after (t:To w h₁ (FW i env) θ s σ₁ θ' s') {fl:Fl} {Q:Flow->Shared->Prop} (k:SQ w h₁ n hs A i env θ s fl fr' σ' Q E):SQ w h₁ n hs A i env θ' s' fl fr' σ' Q E:=by
  cases fl with
  |nxt=>exact fun s'' θ'' t2 G=>k s'' θ'' (t.trans t2) G
  |cnt=>exact fun s'' θ'' t2 G=>k s'' θ'' (t.trans t2) G
  |ret v=>exact fun u s'' θ'' t2 r=>k u s'' θ'' (t.trans t2) r
  |err v=>exact fun u s'' θ'' t2 r x f G=>k u s'' θ'' (t.trans t2) r x (f.mono t.ext.live) G
theorem SQ.at {fl fl1:Fl} {fr1:Fr} {Q:Flow->Shared->Prop} (k:SQ w h₁ n hs A i env θ s fl fr' σ' Q E) (h:some (fl1,fr1,σ₁)=some (fl,fr',σ')):SQ w h₁ n hs A i env θ s fl1 fr1 σ₁ Q E:=by
  obtain ⟨rfl,rfl,rfl⟩:=in3 h;exact k
theorem To.turn (I:Inv w h₁ θ σ s.heap) {a:Nat} {o:Obj} (e:s.heap.get? a=some o) (f:gR o) (nx:¬ ExcAt s.heap a) (hn:¬ own θ a) (hb:h₁.get? a=none) {h':Heap} (hs:Heap.SameBut a s.heap h') (hl:∃ o,h'.get? a=some o) {tk:Nat}:
    To w h₁ (·=a) θ s σ θ { s with heap:=h',toks:=tk }:=by
  have ex:Ext (·=a) θ s.heap θ h':=.frame hs rfl (fun o' e'=>by obtain rfl:=sm e e';exact f) hl nx
  refine ⟨ex,I.ext ex (fun b ob eb=>?_) fun p hp=>⟨.same hs fun z=>hn ⟨p,hp,.inl z.symm⟩,.same hs fun z=>hn ⟨p,hp,.inr z.symm⟩⟩,rfl,rfl⟩
  exact (hs.2 b fun z=>by rw [z,hb] at eb;exact no eb).trans (I.base _ _ eb)
theorem bN.same {h h':Heap} {a:Nat} (F:bN h₁ θ h A) (hx:∀ b,ExcAt h b->ExcAt h' b) (hs:Heap.SameBut a h h') (ha:∀ o,h.get? a=some o->bY o->∃ o',h'.get? a=some o'/\bY o'):bN h₁ θ h' A:=by
  obtain ⟨hh,l,hl,hL⟩:=F
  refine ⟨hh.imp id fun ⟨ea,z1,z2⟩=>⟨ea,z1,hx _ z2⟩,l,hl,fun env' he'=>?_⟩
  obtain ⟨hk,L,o,hf,h1,hn,ho,fl⟩:=hL env' he'
  by_cases q:L=a
  · subst q
    refine E11 (ha o ho fl) fun o' e' fl'=>?_
    exact ⟨hk,L,o',hf,h1,hn,e',fl'⟩
  · exact ⟨hk,L,o,hf,h1,hn,(hs.2 L q).trans ho,fl⟩
theorem cN {k:Nat} {x:Str} (h:iN i k x=true):i.locs[k]?=some x/\i.scope.names.lookup x=some .local:=by
  unfold iN at h
  simp only [Bool.and_eq_true,beq_iff_eq] at h
  exact h
theorem mu {α:Type} {l:List α} (hn:l.Nodup) {i j:Nat} {x:α} (h1:l[i]?=some x) (h2:l[j]?=some x):i=j:=by
  exact (List.getElem?_inj (List.getElem?_eq_some_iff.mp h1).1 hn).mp (h1.trans h2.symm)
theorem dq (G:Go w h₁ n hs A i env fr σ θ s) (X:FX h₁ i env A) {k:Nat} {x:Str} (hk:i.locs[k]?=some x) (hx:i.scope.names.lookup x=some .local) {v:V} {u:Value} (r:R θ s.heap v u) {Q:Unit->Shared->Prop}
    (q:∀ s',To w h₁ (FW i env) θ s σ θ s'->Go w h₁ n hs A i env (fr.put k v) σ θ s'->Q () s'):wpAny (model pw w) A (storeName env x u) Q E s:=by
  refine E11 G.frm.ns fun m hn hl=>?_
  have kd:env.scope.kind=.function:=by rw [G.frm.sc];exact G.frm.kd
  refine wpAny_storeName_local (m:=m) (by unfold Env.kindOf;rw [G.frm.sc];exact hx) hn (fun h2 hn2 hs2=>?_) (by rw [kd];rfl)
  have hlv:∃ o,h2.get? env.locals=some o:=(Ns.ex hn2).imp fun _ h=>h.1
  have t:To w h₁ (·=env.locals) θ s σ θ { s with heap:=h2,toks:=s.toks+1 }:=To.frame G.inv hn G.frm.own X.lb hs2 hlv
  refine q _ (t.mono fun b z=>.inl z) ⟨G.room,G.frs.same t.ext.exc hs2 fun o _ _=>jI hn2,t.inv,⟨G.frm.sc,G.frm.kd,G.frm.nd,G.frm.gl,G.frm.bn,G.frm.own,⟨_,hn2,fun j y z h1 h3=>?_⟩,fun j y h1 h3=>?_⟩⟩
  · by_cases hj:j=k
    · subst hj
      obtain rfl:=sm hk h1
      simp only [Fr.put,List.getElem?_set_self'] at h3
      refine E11 (Option.map_eq_some_iff.mp h3) fun _ _ h3=>?_
      simp at h3;subst h3
      exact ⟨u,by simp,r.mono t.ext⟩
    · simp only [Fr.put,List.getElem?_set_ne (Ne.symm hj)] at h3
      refine E11 (hl j y z h1 h3) fun u' h4 h5=>?_
      refine ⟨u',?_,h5.mono t.ext⟩
      rw [if_neg]
      · exact h4
      · rintro rfl;exact hj (mu G.frm.nd h1 hk)
  · refine E23 (G.frm.cl j y h1 h3) fun c ov e1 e2 e3 e4=>?_
    refine E11 (id e3) fun oc ec dc=>?_
    have hne:c≠env.locals:=fun z=>by
      refine E32 (id hn) fun ol _ _ el dl _=>?_
      rw [z,el] at ec;obtain rfl:=Option.some.inj ec;rw [dl] at dc;cases dc
    exact ⟨c,ov,e1,e2,⟨oc,(hs2.2 c hne).trans ec,dc⟩,fun z h5=>(e4 z h5).imp fun _ h6=>⟨h6.1,h6.2.mono t.ext⟩⟩
theorem lookup_mem {α β:Type} [BEq α] [LawfulBEq α] {l:List (α×β)} {x:α} {c:β} (h:l.lookup x=some c):(x,c)∈l:=by
  induction l with
  |nil=>exact no h
  |cons p r ih=>
    obtain ⟨a,b⟩:=p
    by_cases he:x=a
    · subst he;rw [List.lookup_cons_self] at h;obtain rfl:=Option.some.inj h;exact List.mem_cons_self
    · rw [List.lookup_cons,beq_false_of_ne he] at h;exact List.mem_cons_of_mem _ (ih h)
theorem sI (G:Go w h₁ n hs A i env fr σ θ s) (X:FX h₁ i env A) {k:Nat} {x:Str} (hk:i.cells[k]?=some x) (hx:i.scope.names.lookup x=some .cell) {v:V} {u:Value} (r:R θ s.heap v u) {Q:Unit->Shared->Prop}
    (q:∀ s',To w h₁ (FW i env) θ s σ θ s'->Go w h₁ n hs A i env (fr.sd k v) σ θ s'->Q () s'):wpAny (model pw w) A (storeName env x u) Q E s:=by
  have kd:env.scope.kind=.function:=by rw [G.frm.sc];exact G.frm.kd
  refine E23 (G.frm.cl k x hk hx) fun c ov e1 e2 e3 e4=>?_
  refine E11 (id e3) fun oc ec dc=>?_
  refine wpAny_storeName_cell kd (by unfold Env.kindOf;rw [G.frm.sc];exact hx) e1 e3 fun h2 hc2 hs2=>?_
  have hmem:=lookup_mem e1
  have t:To w h₁ (·=c) θ s σ θ { s with heap:=h2 }:=To.turn G.inv ec (.inl ⟨ov,dc⟩) (dM ec fun fs z=>by rw [dc] at z;cases z) e2 (X.cb _ hmem) hs2 (let ⟨o,a,_⟩:=hc2;⟨o,a⟩)
  refine E11 G.frm.ns fun m hn hl=>?_
  have hne:env.locals≠c:=fun z=>by
    refine E32 (id hn) fun ol _ _ el dl _=>?_
    rw [z,ec] at el;obtain rfl:=Option.some.inj el;rw [dl] at dc;cases dc
  refine q _ (t.mono fun b z=>.inr ⟨k,x,c,hk,hx,e1,z⟩) ⟨G.room,G.frs.same t.ext.exc hs2 fun o ho ⟨es,ep,z⟩=>?_,t.inv,⟨G.frm.sc,G.frm.kd,G.frm.nd,G.frm.gl,G.frm.bn,G.frm.own,⟨m,hn.sameBut hs2 hne,fun j y z h1 h3=>?_⟩,fun j y h1 h3=>?_⟩⟩
  · obtain rfl:=sm ec ho;rw [dc] at z;cases z
  · exact (hl j y z h1 h3).imp fun _ h6=>⟨h6.1,h6.2.mono t.ext⟩
  · by_cases hj:j=k
    · subst hj
      obtain rfl:=sm hk h1
      refine ⟨c,some u,e1,e2,hc2,fun z h5=>⟨u,rfl,?_⟩⟩
      simp only [Fr.sd,List.getElem?_set_self'] at h5
      refine E11 (Option.map_eq_some_iff.mp h5) fun _ _ h5=>?_
      simp at h5;subst h5
      exact r.mono t.ext
    · refine E23 (G.frm.cl j y h1 h3) fun c' ov' f1 f2 y4 f4=>?_
      obtain ⟨oc',ec',dc'⟩:=y4
      have hcc:c'≠c:=fun z=>hj (mu X.cn h1 (by rw [X.cd y x c (z▸f1) e1];exact hk))
      refine ⟨c',ov',f1,f2,⟨oc',(hs2.2 c' hcc).trans ec',dc'⟩,fun z h5=>?_⟩
      simp only [Fr.sd,List.getElem?_set_ne (Ne.symm hj)] at h5
      exact (f4 z h5).imp fun _ h6=>⟨h6.1,h6.2.mono t.ext⟩
theorem Go.nsx (G:Go w h₁ n hs A i env fr σ θ s):∃ m,s.heap.Ns env.locals m:=let ⟨m,n,_⟩:=G.frm.ns;⟨m,n⟩
end
noncomputable def sx (start stop step:Int) (i:Nat):Bool:=
  if step>0 then start<=i&&i<stop&&(i - start) % step==0
  else stop<i&&i<=start&&(start - i) % (-step)==0
theorem nU {α:Type} (a n:Nat):∀ (xs:List α) (off:Nat),off+xs.length<=n->((xs.zipIdx off).filterMap fun (x:α×Nat)=>if sx (a:Int) (n:Int) 1 x.2=true then none else some x.1)=xs.take (a - off)
  |[],off,_=>by simp
  |x::xs,off,h=>by
    simp only [List.length_cons] at h
    rw [List.zipIdx_cons,List.filterMap_cons]
    have ih:=nU a n xs (off+1) (by lia)
    by_cases hc:a<=off
    · have:sx (a:Int) (n:Int) 1 off=true:=by
        unfold sx
        simp;lia
      simp only [this,if_true]
      rw [ih]
      have h1:a - (off+1)=0:=by lia
      have h2:a - off=0:=by lia
      rw [h1,h2];simp
    · have:sx (a:Int) (n:Int) 1 off=false:=by
        unfold sx
        simp;lia
      simp only [this,Bool.false_eq_true,if_false]
      rw [ih]
      have h1:a - off=(a - (off+1))+1:=by lia
      rw [h1,List.take_succ_cons]
section
variable {prog:Program} {w:World} {h₁:Heap} {A:Around} {σ σ':St} {θ:List OA} {s:Shared} {E:Value->Shared->Prop}
theorem wI {i:Int} {n:Nat} (h0:0<=i):max 0 (min i (n:Int))=((min i.toNat n:Nat):Int):=by
  rcases Nat.le_total i.toNat n with h | h
  · rw [Nat.min_eq_left h,Int.toNat_of_nonneg h0,Int.min_eq_left (Int.toNat_le.mp h),Int.max_eq_right h0]
  · rw [Nat.min_eq_right h,Int.min_eq_right ((Int.le_toNat h0).mp h),Int.max_eq_right (Int.natCast_nonneg _)]
theorem oW {l sl:Addr} {items:Array Value} {n:Nat} {i:Int} {u:Tok} {Q:Unit->Shared->Prop} (hl:IsL s.heap l items n) (hs:s.heap.IsSliceOf sl (.int i u) .none .none) (h0:0<=i) (hsz:items.size<=sizeLine)
    (h:∀ f:Array Value->Array Value,f items=(items.toList.take i.toNat).toArray->Q () { s with heap:=s.heap.update l (Obj.mapSeq f) }):wpAny (model prog w) A (delItem (.ref l) (.ref sl)) Q E s:=by
  refine E12 (id hs) fun os hos hcs hds=>?_
  have hTs:s.TypeIs (.ref sl) "slice":=⟨os,hos,hcs⟩
  have hT:s.TypeIs (.ref l) "list":=⟨_,hl,rfl⟩
  refine wpAny_delItem_slot hT (by decide) F.slot_list_delitem (wpAny_call_entry F.slot_list_delitem hT F.entry_list_delitem ?_ (F.args_list_delitem_2 _ _))
  show wpAny _ _ (Builtin.List.listSubscript? (.ref sl) >>= _) _ _ s
  refine wpAny_bind ?_
  unfold Builtin.List.listSubscript?
  refine wpAny_bind (wpAny_specialOf hTs slice_no_index ?_)
  rw [if_pos Option.isNone_none]
  refine wpAny_pure ?_
  show wpAny _ _ (typeOf (.ref sl) >>= _) _ _ s
  refine wpAny_bind (wpAny_typeOf hTs ?_)
  rw [if_neg (by decide)]
  rw [listSliceParts_eq]
  refine wpAny_bind (wpAny_bind (wpAny_field hos hds (x:=.none) rfl (wpAny_bind (wpAny_listPart .none ?_))))
  rw [if_neg (show ¬ ((rawPart none==rawInt 0)=true) from Bool.false_ne_true)]
  refine wpAny_bind (wpAny_field hos hds (x:=.int i u) rfl (wpAny_bind (wpAny_listPart (.int i u) ?_)))
  refine wpAny_bind (wpAny_field hos hds (x:=.none) rfl (wpAny_bind (wpAny_listPart .none (wpAny_pure ?_))))
  refine wpAny_bind (m:=Builtin.List.listItems (.ref l)) ?_
  unfold Builtin.List.listItems
  refine wpAny_bind (wpAny_seqItems hl rfl (wpAny_pure ?_))
  refine wpAny_bind (wpAny_of_eq (sliceIndices_raw (some i) none none items.size (by simp)) ?_)
  have hb:sliceBounds (some i) none none items.size=(((min i.toNat items.size:Nat):Int),(items.size:Int),1):=by
    unfold sliceBounds
    simp only [Option.getD_none,show (1:Int)>0 from by decide,if_true]
    congr 1
    rw [if_neg (Int.not_lt.mpr h0)]
    exact wI h0
  rw [hb]
  refine wpAny_bind (wpAny_rule ?_)
  show wpAny _ _ (updateSeq l (fun xs=>(xs.toList.zipIdx.filterMap fun (x:Value×Nat)=>if sx ((min i.toNat items.size:Nat):Int) (items.size:Int) 1 x.2=true then none else some x.1).toArray) >>= _) _ _ s
  have ef:(items.toList.zipIdx.filterMap fun (x:Value×Nat)=>if sx ((min i.toNat items.size:Nat):Int) (items.size:Int) 1 x.2=true then none else some x.1)=items.toList.take i.toNat:=by
    rw [nU _ _ items.toList 0 (by simp),Nat.sub_zero,← Array.length_toList,← List.take_eq_take_min]
  refine wpAny_bind (wpAny_updateSeq (_hz':=by rw [ef,List.size_toArray,List.length_take,Array.length_toList];lia) hl rfl (wpAny_bind (wpAny_letGo (wpAny_pure ⟨_,rfl,h _ ?_⟩))))
  exact congrArg _ ef
theorem Bm (I:Inv w h₁ θ σ s.heap) {k:Nat} {xs:List V} {u:Value} (rx:R θ s.heap (.ref k) u) (hk:σ[k]?=some (.list xs)) {i:Int} {tk:Tok} {sl:Addr} (hs:s.heap.IsSliceOf sl (.int i tk) .none .none) (h0:0<=i) {Q:Unit->Shared->Prop}
    (q:∀ s',To w h₁ noW θ s (σ.set k (.list (xs.take i.toNat))) θ s'->Q () s'):wpAny (model pw w) A (delItem u (.ref sl)) Q E s:=by
  refine E11 rx.bq fun p hp z2=>?_
  subst z2
  refine E23 (I.obj _ _ _ hk hp) fun us c h1 h2 h3 hl=>?_
  have hmem:=List.mem_of_getElem? hp
  have hown:own θ p.a:=⟨p,hmem,.inl rfl⟩
  refine oW h1 hs h0 (nM (by rw [← h2.length];exact hl)) fun f hf=>?_
  have hsb:Heap.SameBut p.a s.heap (s.heap.update p.a (Obj.mapSeq f)):=.update ..
  have hnew:=IsL.update (n:=c) h1 f
  have hnew':=hnew
  rw [hf] at hnew'
  simp only [List.toList_toArray] at hnew'
  have hnx:¬ ExcAt s.heap p.a:=dM h1 fun fs=>by simp
  have x:Ext noW θ s.heap θ (s.heap.update p.a (Obj.mapSeq f)):=.same hsb hown ⟨_,hnew⟩ hnx
  refine q _ ⟨x,I.upd hsb hp (.inl rfl) ⟨_,hnew⟩ hnx ⟨us.take i.toNat,_,hnew',(h2.take _).mono x,h3,by rw [List.length_take];lia⟩,rfl,rfl⟩
end
noncomputable def gb (w:World) (h₁:Heap) (C:Bool->aD) (n W:Nat) (b:MS):Prop:=
  ∀ {hs:Bool} {A:Around} {i:FI} {env:Env} {fr fr':Fr} {σ σ':St} {θ:List OA} {s:Shared} {ss:List Stmt} {fl:Fl} {Q:Flow->Shared->Prop} {E:Value->Shared->Prop},
    Go w h₁ n hs A i env fr σ θ s->FX h₁ i env A->jA b=false->okS w.params b i ss=true->evS C W hs b fr σ=some (fl,fr',σ')->SQ w h₁ n hs A i env θ s fl fr' σ' Q E->wpAny (model pw w) A (exec (hdS (j8 b i ss)) env) Q E s
noncomputable def gF (w:World) (h₁:Heap) (C:Bool->aD) (n W:Nat) (b:MS):Prop:=
  ∀ {hs:Bool} {A:Around} {i:FI} {env:Env} {fr fr':Fr} {σ σ':St} {θ:List OA} {s:Shared} {ss:List Stmt} {fl:Fl} {Q:Flow->Shared->Prop} {E:Value->Shared->Prop},
    Go w h₁ n hs A i env fr σ θ s->FX h₁ i env A->jA b=true->okS w.params b i ss=true->evS C W hs b fr σ=some (fl,fr',σ')->SQ w h₁ n hs A i env θ s fl fr' σ' Q E->wpAny (model pw w) A (execs (j8 b i ss) env) Q E s
theorem AZ {op:Bo ()} (h:isAdd op=true):op=.add:=by cases op<;>first | rfl | exact nof h
theorem xE {e:ME} (h:isNone e=true):e=.none:=by cases e<;>first | rfl | exact nof h
theorem cL {e:ME} (h1:(!isL e)=true) (h2:(!gj e)=true) (i:FI) (xs:List Expr) (t:Option Expr) (l:Nat) (env:Env):swapsWith (hdE (enc e i xs)) t l env=pure false:=by
  cases e<;>first | rfl | (exact nof h2;done) | (exact nof h1;done)
theorem wj {β:Type} {o:Option (Except V V×St)} {f g:V->St->Option β} {r:β} {P:Prop} (h:oN o f g=some r) (k:∀ v σ,o=some (.ok v,σ)->f v σ=some r->P) (k':∀ v σ,o=some (.error v,σ)->g v σ=some r->P):P:=by
  rcases nv h with ⟨v,σ,a,b⟩ | ⟨v,σ,a,b⟩
  · exact k v σ a b
  · exact k' v σ a b
section
variable {w:World} {h₁:Heap} {C:Bool->aD} {n W:Nat} {hs:Bool} {A:Around} {i:FI} {env:Env} {fr fr':Fr} {σ σ' σ₁:St} {θ θ':List OA} {s s':Shared} {E:Value->Shared->Prop}
theorem o9 (B:Base w h₁) (HC:CS w h₁ (C hs) n hs) {e:ME} (G:Go w h₁ n hs A i env fr σ θ s) {xs:List Expr} (hl:(!isL e)=true) (ho:ok w.params e i xs=true) {res:Except V V} (h:evX (C hs) hs e fr σ=some (res,σ')) {Q:Value->Shared->Prop}
    (k:RQ w h₁ θ s σ' res Q E):wpAny (model pw w) A (eval (hdE (enc e i xs)) env) Q E s:=by
  have plain:evX (C hs) hs e fr σ=bnd (ev (C hs) hs e fr σ) (fun r σ=>some (Except.ok r,σ))->wpAny (model pw w) A (eval (hdE (enc e i xs)) env) Q E s:=fun h'=>by
    rw [h'] at h
    refine aK h fun v σ2 e1 e2=>?_
    refine E01 (in2 e2) fun z0 z1=>?_
    subst z0
    subst z1
    exact (b0 B HC e).ev G (az hl) ho e1 k
  cases e with
  |call f args=>exact aK h fun g σ1 e1 e=>aK e fun y σ2 e2 e=>g9 e fun xs e3 e=>qt B HC (b0 B HC f) (b0 B HC args) G ho e1 (e3▸e2) e k
  |_=>exact plain rfl
theorem zx (G:Go w h₁ n hs A i env fr σ θ s):interactive env=false:=by
  unfold interactive
  rw [G.frm.sc,G.frm.kd];rfl
theorem Ag (B:Base w h₁) (HC:∀ hs,CS w h₁ (C hs) n hs) {e:ME}:gb w h₁ C n W (.expr e):=fun {hs A i env fr fr' σ σ' θ s ss fl Q E} G X _ ho h k=>by
  refine oy ho fun l1 o1 c1=>aK h fun v σ1 e1 h=>?_
  exact wpAny_Expr_any ((b0 B (HC hs) e).ev G (az l1) o1 e1 fun u s1 θ1 t1 r1=>k.at h _ _ (t1.mono bA) (G.go t1)) (zx G) (cL l1 c1 _ _ _ _ _)
theorem BX (B:Base w h₁) (HC:∀ hs,CS w h₁ (C hs) n hs) {j:Nat} {e:ME}:gb w h₁ C n W (.asg j e):=fun {hs A i env fr fr' σ σ' θ s ss fl Q E} G X _ ho h k=>by
  refine gI ho fun l1 o1 c1 lk=>wpAny_Assign_Name ?_ (cL l1 c1 _ _ _ _ _)
  refine E01 (cN lk) fun k1 k2=>?_
  refine wj h (fun v σ1 e1 h=>?_) fun v σ1 e1 h=>?_
  · exact o9 B (HC hs) G l1 o1 e1 fun u s1 θ1 t1 r1=>dq (G.go t1) X k1 k2 r1 fun s2 t2 G2=>k.at h _ _ ((t1.mono bA).trans t2) G2
  · exact o9 B (HC hs) G l1 o1 e1 fun u s1 θ1 t1 r1 xa fl=>k.at h _ _ _ (t1.mono bA) r1 xa fl (G.go t1)
theorem Ad (B:Base w h₁) (HC:∀ hs,CS w h₁ (C hs) n hs) {j:Nat} {e:ME}:gb w h₁ C n W (.asgC j e):=fun {hs A i env fr fr' σ σ' θ s ss fl Q E} G X _ ho h k=>by
  refine qb ho fun l1 o1 c1 k1 k2=>wpAny_Assign_Name ?_ (cL l1 c1 _ _ _ _ _)
  refine aK h fun v σ1 e1 h=>(b0 B (HC hs) e).ev G (az l1) o1 e1 fun u s1 θ1 t1 r1=>?_
  exact sI (G.go t1) X (eq_of_beq k1) (eq_of_beq k2) r1 fun s2 t2 G2=>k.at h _ _ ((t1.mono bA).trans t2) G2
theorem sE (B:Base w h₁) (HC:∀ hs,CS w h₁ (C hs) n hs) {o:ME} {m:Nm} {e:ME}:gb w h₁ C n W (.setattr o m e):=fun {hs A i env fr fr' σ σ' θ s ss fl Q E} G X _ ho h k=>by
  refine kQ ho fun l1 o1 c1 l2 o2 hn=>aK h fun v σ1 e1 h=>aK h fun x σ2 e2 h=>aR h fun σ3 e3 h=>?_
  refine plainObj_wpAny_Assign_Attribute ((b0 B (HC hs) e).ev G (az l1) o1 e1 fun u s1 θ1 t1 r1=>(b0 B (HC hs) o).ev (G.go t1) (az l2) o2 e2 fun v s2 θ2 t2 r2=>?_) (cL l1 c1 _ _ _ _ _)
  rw [eq_of_beq hn]
  exact pG B t2.inv r2 (r1.mono t2.ext) e3 fun s3 t3=>k.at h _ _ (((t1.trans t2).trans t3).mono bA) (((G.go t1).go t2).go t3)
theorem sH (B:Base w h₁) (HC:∀ hs,CS w h₁ (C hs) n hs) {o j e:ME}:gb w h₁ C n W (.setitem o j e):=fun {hs A i env fr fr' σ σ' θ s ss fl Q E} G X _ ho h k=>by
  refine Ct ho fun l1 o1 c1 l2 o2 l3 o3=>aK h fun v σ1 e1 h=>aK h fun x σ2 e2 h=>aK h fun y σ3 e3 h=>aR h fun σ4 e4 h=>?_
  refine wpAny_Assign_Subscript ((b0 B (HC hs) e).ev G (az l1) o1 e1 fun u s1 θ1 t1 r1=>(b0 B (HC hs) o).ev (G.go t1) (az l2) o2 e2 fun v s2 θ2 t2 r2=>
    (b0 B (HC hs) j).ev ((G.go t1).go t2) (az l3) o3 e3 fun v s3 θ3 t3 r3=>?_) (cL l1 c1 _ _ _ _ _)
  exact sC B (G.room.u (by decide)) t3.inv (r2.mono t3.ext) r3 (r1.mono (t2.ext.trans t3.ext)) e4 fun s4 t4=>k.at h _ _ ((((t1.trans t2).trans t3).trans t4).mono bA) ((((G.go t1).go t2).go t3).go t4)
theorem BY (B:Base w h₁) (HC:∀ hs,CS w h₁ (C hs) n hs) {j:Nat} {op:Bo ()} {e:ME}:gb w h₁ C n W (.aug j op e):=fun {hs A i env fr fr' σ σ' θ s ss fl Q E} G X _ ho h k=>by
  refine oy ho fun l1 o1 lk=>aR h fun x hx h=>aK h fun y σ1 e1 h=>bu h fun a ha h=>bu h fun b hb h=>cR h fun hop h=>?_
  refine E01 (cN lk) fun k1 k2=>?_
  obtain rfl:=AZ hop
  · refine wpAny_AugAssign_Name (qJ G k1 k2 (rW hx) fun u ru=>(b0 B (HC hs) e).ev G (az l1) o1 e1 fun v s1 θ1 t1 r1=>?_)
    refine E10 ((ha▸ru).int_inv) fun tu z1=>?_
    subst z1
    refine E10 ((hb▸r1).int_inv) fun tv z1=>?_
    subst z1
    refine wpAny_iadd_int ?_
    have t2:To w h₁ noW θ1 s1 _ θ1 { s1 with toks:=s1.toks+1 }:=To.tk t1.inv
    exact dq (s:={ s1 with toks:=s1.toks+1 }) ((G.go t1).go t2) X k1 k2 (.int _ _) fun s3 t3 G3=>k.at h _ _ (((t1.trans t2).mono bA).trans t3) G3
theorem B5 (B:Base w h₁) (HC:∀ hs,CS w h₁ (C hs) n hs) {e:ME}:gb w h₁ C n W (.ret e):=fun {hs A i env fr fr' σ σ' θ s ss fl Q E} G X _ ho h k=>by
  show wpAny _ _ (exec (.Return (if zB (hdS ss) then none else some (hdE (enc e i (sk ss 0)))) (sp ss)) env) _ _ _
  by_cases hr:zB (hdS ss)=true
  · rw [if_pos hr]
    obtain rfl:=xE ((if_pos hr).symm.trans ho)
    exact wpAny_Return_none (k.at h _ _ _ (To.refl G.inv) .none G.nsx)
  · rw [if_neg hr]
    refine cg ((if_neg hr).symm.trans ho) fun l1 o1=>wpAny_Return_some (wj h (fun v σ1 e1 h=>?_) fun v σ1 e1 h=>?_)
    · exact o9 B (HC hs) G l1 o1 e1 fun u s1 θ1 t1 r1=>k.at h _ _ _ (t1.mono bA) r1 (G.go t1).nsx
    · exact o9 B (HC hs) G l1 o1 e1 fun u s1 θ1 t1 r1 xa fl=>k.at h _ _ _ (t1.mono bA) r1 xa fl (G.go t1)
theorem Af:gb w h₁ C n W .cont:=fun {hs A i env fr fr' σ σ' θ s ss fl Q E} G X _ ho h k=>by
  exact wpAny_Continue (k.at h _ _ (To.refl G.inv) G)
theorem BZ (B:Base w h₁) (HC:∀ hs,CS w h₁ (C hs) n hs) {o a:ME}:gb w h₁ C n W (.delFrom o a):=fun {hs A i env fr fr' σ σ' θ s ss fl Q E} G X _ ho h k=>by
  refine gI ho fun l1 o1 l2 o2=>aK h fun x σ1 e1 h=>fW h fun m e0 h=>aK h fun y σ2 e2 h=>bu h fun j e3 h=>fV h fun ys hy h=>cR h fun hf h=>cg hf fun h0 _=>?_
  rw [e0] at e1
  rw [e3] at e2
  refine wpAny_Delete (wpAny_deleteEach_cons (wpAny_delete_Subscript ((b0 B (HC hs) o).ev G (az l1) o1 e1 fun u s1 θ1 t1 r1=>wpAny_Slice ((b0 B (HC hs) a).ev (G.go t1) (az l2) o2 e2 fun v s2 θ2 t2 r2=>?_))))
  refine E10 r2.int_inv fun tk z1=>?_
  subst z1
  refine wpAny_pure (wpAny_pure ?_)
  have t3:To w h₁ noW θ2 s2 _ θ2 { s2 with heap:=s2.heap.push { cls:=.type "slice",data:=.fields #[.int j tk,.none,.none] } }:=To.push t2.inv _
  refine Bm (s:={ s2 with heap:=s2.heap.push { cls:=.type "slice",data:=.fields #[.int j tk,.none,.none] } }) t3.inv ((r1.mono t2.ext).mono t3.ext) hy (.new ..) (of_decide_eq_true h0) fun s4 t4=>wpAny_deleteEach_nil ?_
  exact k.at h _ _ ((((t1.trans t2).trans t3).trans t4).mono bA) ((((G.go t1).go t2).go t3).go t4)
end
section
variable {w:World} {h₁:Heap} {C:Bool->aD} {n W:Nat} {hs:Bool} {A:Around} {i:FI} {env:Env} {fr fr':Fr} {σ σ' σ₁:St} {θ θ':List OA} {s s':Shared} {E:Value->Shared->Prop}
theorem sf {e t:Nat} {d:Option Addr} {x:Sem Value} {Q:Flow->Shared->Prop} (hh:A.handled=none)
    (h:wpAny (model pw w) A x (fun v s₁=>∃ (e t:Nat) (d:Option Addr),v=.ref e/\(KK w.params).In s₁.heap/\
      s₁.heap.get? e=some { cls:=.ref 51,dict:=d,data:=.fields #[.ref t,.none,.none,.none,.bool false,.none] }/\E (.ref e) s₁) E s):
    wpAny (model pw w) A (raiseStmt env (some x) none) Q E s:=by
  unfold raiseStmt
  refine wpAny_bind (wpAny_mono h (fun v s₁ h₁=>?_) fun _ _ x=>x)
  refine E33 h₁ fun e t d z3 X he hE=>?_
  subst z3
  obtain ⟨hp,g,dr,tk,os⟩:=s₁
  have hC:=jy X
  have hcB:(Value.ref 51::[.ref 31,.type "Exception",.type "BaseException",.type "object"]).contains (.type "BaseException")=true:=by rfl
  repeat (first | with_reducible refine wpAny_loadPart_at he ?_ | with_reducible refine wpAny_loadPart_at hC ?_ | (with_reducible refine wpAny_isSubtype_exc hC ?_;rw [hcB]) | wp_step)
  exact wpAny_raiseNew_none hh hE
theorem yc (B:Base w h₁) (HC:∀ hs,CS w h₁ (C hs) n hs) {e:ME}:gb w h₁ C n W (.raise e):=fun {hs A i env fr fr' σ σ' θ s ss fl Q E} G X _ ho h k=>by
  refine cg ho fun l1 o1=>cR h fun hhs h=>aK h fun v σ1 e1 h=>fW h fun m e0 h=>?_
  refine E11 (xJ h) fun x hx h=>?_
  rw [e0] at e1
  show wpAny _ _ (exec (.Raise (some (hdE (enc e i (sk ss 0)))) none (sp ss)) env) _ _ _
  rw [arm_exec_Raise]
  refine wpAny_bind (wpAny_standAt (sf (e:=0) (t:=0) (d:=none) (G.room.hnd hhs) (wpAny_bind ?_)))
  refine (b0 B (HC hs) e).ev G (az l1) o1 e1 fun u s1 θ1 t1 r1=>wpAny_bind (wpAny_standAt (wpAny_pure ?_))
  refine E11 r1.bq fun p hp z2=>?_
  subst z2
  refine E45 (t1.inv.obj _ _ _ hx hp) fun fs es c v a1 a2 a3 a4 a5 a6=>?_
  refine E10 (a5 rfl) fun t z1=>?_
  subst z1
  have I2:Inv w h₁ θ1 (σ1.set m (.exc x false)) s1.heap:=t1.inv.Cf (.refl _ _) hp (.inl rfl) (.refl ..) ⟨_,es,c,v,a1,a2,a3,a4,nofun,a6⟩
  refine ⟨p.a,t,_,rfl,B.at t1.inv,a1,k.at h _ _ θ1 ⟨t1.ext.mono bA,I2,t1.os,t1.gens⟩ r1 ⟨m,x,rfl,?_⟩ ⟨p.a,_,_,rfl,a1,rfl,by simp,.inl rfl⟩ ⟨G.room,(G.go t1).frs,I2,(G.go t1).frm⟩⟩
  rw [List.getElem?_set_self (List.getElem?_eq_some_iff.mp hx).1]
theorem sN {e:ME} (h1:(!isL e)=true) (h2:(!gj e)=true) (i:FI) (xs:List Expr) (t:Expr) (l:Nat) (env:Env):swapsWithSole [t] (hdE (enc e i xs)) l env=pure false:=
  show swapsWith (hdE (enc e i xs)) (some t) l env=pure false from cL h1 h2 _ _ _ _ _
theorem pH {e:ME} (h1:(!isL e)=true) (h2:(!gj e)=true) (h3:(!isTup e)=true) (i:FI) (xs:List Expr) (a b:Expr) (k:Nat) (p:Pos) (env:Env):swappedStores [.Tuple [a,b] k p] (hdE (enc e i xs)) env=pure none:=by
  cases e<;>first | exact rfl | (exact nof h3;done) | (exact nof h2;done) | (exact nof h1;done)
theorem Ac (B:Base w h₁) (HC:∀ hs,CS w h₁ (C hs) n hs) {j1 j2:Nat} {e:ME}:gb w h₁ C n W (.asg2 j1 j2 e):=fun {hs A i env fr fr' σ σ' θ s ss fl Q E} G X _ ho h k=>by
  refine kQ ho fun l1 o1 c1 c2 lk1 lk2=>cR h fun hhs h=>aK h fun v σ1 e1 h=>?_
  refine E01 (cN lk1) fun k1 k2=>?_
  refine E01 (cN lk2) fun k3 k4=>?_
  refine E21 (mw h) fun x y z2 h=>?_
  subst z2
  refine PyProof.Rows.Assign_Tuple ((b0 B (HC hs) e).ev G (az l1) o1 e1 fun u s1 θ1 t1 r1=>?_) (sN l1 c1 _ _ _ _ _) (pH l1 c1 c2 _ _ _ _ _ _ _)
  refine E34 r1.bV fun a vs m z3 h1 hno hl h2=>?_
  subst z3
  refine E22 h2.cons_inv fun vx vs' z2 rx h3=>?_
  subst z2
  refine E22 h3.cons_inv fun vy vs' z2 ry h4=>?_
  subst z2
  obtain rfl:=h4.nil_inv
  refine wpAny_assign_Tuple (items:=#[vx,vy]) (G.room.hnd hhs) ⟨_,h1,rfl,_,rfl⟩ rfl rfl fun h' he=>?_
  have kp:Keeps s1.heap h':=fun b o e=>he b o (Nat.ne_of_lt (iO e)) e
  have t2:To w h₁ noW θ1 s1 _ θ1 { s1 with heap:=h' }:=⟨.of_keeps kp,t1.inv.keeps kp,rfl,rfl⟩
  show wpAny _ _ (holding [vy] (assign (.Name _ _) env vx) >>= fun _=>holding [] (assign (.Name _ _) env vy) >>= fun _=>pure ()) _ _ _
  refine wpAny_bind (wpAny_holding (wpAny_assign_Name (dq (s:={ s1 with heap:=h' }) ((G.go t1).go t2) X k1 k2 (rx.mono t2.ext) fun s3 t3 G3=>?_)))
  refine wpAny_bind (wpAny_holding (wpAny_assign_Name (dq G3 X k3 k4 ((ry.mono t2.ext).mono t3.ext) fun s4 t4 G4=>wpAny_pure ?_)))
  exact k.at h _ _ ((((t1.trans t2).mono bA).trans t3).trans t4) G4
theorem B4:gF w h₁ C n W .nil:=fun {hs A i env fr fr' σ σ' θ s ss fl Q E} G X _ ho h k=>by
  exact wpAny_execs_nil (k.at h _ _ (To.refl G.inv) G)
theorem Ae {b r:MS} (H1:gb w h₁ C n W b) (H2:gF w h₁ C n W r):gF w h₁ C n W (.cons b r):=fun {hs A i env fr fr' σ σ' θ s ss fl Q E} G X _ ho h k=>by
  refine gI ho fun l1 o1 o2 l2=>wpAny_execs_cons (l7 h fun fl1 fr1 σ1 e1 h=>?_)
  refine H1 G X (not_of l1) o1 e1 ?_
  cases fl1 with
  |nxt=>exact fun s1 θ1 t1 G1=>H2 G1 X l2 o2 h (k.after t1)
  |cnt=>exact k.at h
  |ret v=>exact k.at h
  |err v=>exact k.at h
theorem B3 (B:Base w h₁) (HC:∀ hs,CS w h₁ (C hs) n hs) {c:ME} {a b:MS} (H1:gF w h₁ C n W a) (H2:gF w h₁ C n W b):gb w h₁ C n W (.ite c a b):=fun {hs A i env fr fr' σ σ' θ s ss fl Q E} G X _ ho h k=>by
  refine kQ ho fun l1 o1 o2 l2 o3 l3=>wpAny_If (aK h fun x σ1 e1 h=>d7 h (fun ex h=>?_) fun ex h=>?_)
  · exact (b0 B (HC hs) c).tr G (az l1) o1 (eE e1 ex) fun s1 θ1 t1=>H1 (G.go t1) X l2 o2 h (k.after (t1.mono bA))
  · exact (b0 B (HC hs) c).tr G (az l1) o1 (eE e1 ex) fun s1 θ1 t1=>H2 (G.go t1) X l3 o3 h (k.after (t1.mono bA))
theorem yd (B:Base w h₁) (HC:∀ hs,CS w h₁ (C hs) n hs) {c:ME} {b:MS} (H1:gF w h₁ C n W b):gb w h₁ C n W (.while c b):=fun {hs A i env fr fr' σ σ' θ s ss fl Q E} G X _ ho h k=>by
  refine gI ho fun l1 o1 o2 l2=>wpAny_While ?_
  refine codeAny_whileLoop (fun k' s'=>∃ (fr:Fr) (σ:St) (θ':List OA),To w h₁ (FW i env) θ s σ θ' s'/\Go w h₁ n hs A i env fr σ θ' s'/\cz (ev (C hs) hs c) (evS C W hs b) k' fr σ=some (fl,fr',σ')) ?_ W ⟨fr,σ,θ,To.refl G.inv,G,h⟩
  rintro k' s' ⟨fr1,σ1,θ1,t1,G1,h1⟩
  cases k' with
  |zero=>exact no h1
  |succ k'=>
    refine aK h1 fun x σ2 e1 h1=>d7 h1 (fun ex h1=>l7 h1 fun fl1 fr2 σ3 e2 h1=>?_) fun ex h1=>?_
    · refine (b0 B (HC hs) c).tr G1 (az l1) o1 (eE e1 ex) fun s2 θ2 t2=>H1 (G1.go t2) X l2 o2 e2 ?_
      have T2:=t1.trans (t2.mono bA)
      cases fl1 with
      |nxt=>exact fun s3 θ3 t3 G3=>⟨k',Nat.lt_succ_self _,_,_,_,T2.trans t3,G3,h1⟩
      |cnt=>exact fun s3 θ3 t3 G3=>⟨k',Nat.lt_succ_self _,_,_,_,T2.trans t3,G3,h1⟩
      |ret v=>exact fun u s3 θ3 t3 r3 m3=>k.at h1 _ _ _ (T2.trans t3) r3 m3
      |err v=>exact no h1
    · exact (b0 B (HC hs) c).tr G1 (az l1) o1 (eE e1 ex) fun s2 θ2 t2=>wpAny_execs_nil (k.at h1 _ _ (t1.trans (t2.mono bA)) (G1.go t2))
end
section
variable {w:World} {h₁:Heap} {C:Bool->aD} {n W:Nat} {hs:Bool} {A:Around} {i:FI} {env:Env} {fr fr':Fr} {σ σ' σ₁:St} {θ θ':List OA} {s s':Shared} {E:Value->Shared->Prop}
theorem Ext.tU {V V':Addr->Prop} {h h':Heap} (x:Ext V θ h θ' h') (hW:∀ b,V b->V' b\/h.get? b=none):Ext V' θ h θ' h':=
  ⟨x.pre,fun b o hn e=>by
    rcases x.keep b o hn e with q | ⟨q,f⟩ | q
    · exact .inl q
    · rcases hW b q with z | z
      · exact .inr (.inl ⟨z,f⟩)
      · rw [z] at e;cases e
    · exact .inr (.inr q),x.live,x.exc⟩
theorem Go.goW {V:Addr->Prop} (G:Go w h₁ n hs A i env fr σ θ s) (t:To w h₁ V θ s σ' θ' s') (hW:∀ b o,V b->s.heap.get? b=some o->∃ fs,o.data=.fields fs):Go w h₁ n hs A i env fr σ' θ' s':=by
  have x:=t.ext
  refine ⟨G.room,?_,t.inv,?_⟩
  · obtain ⟨hh,l,hl,hL⟩:=G.frs
    refine ⟨hh.imp id fun ⟨ea,e,z⟩=>⟨ea,e,x.exc _ z⟩,l,hl,fun env' he'=>?_⟩
    obtain ⟨hk,L,o,hf,h1,hn,ho,es,ep,hd⟩:=hL env' he'
    rcases x.keep L o hn ho with q | ⟨q,_⟩ | ⟨_,_,sl,_,q⟩
    · exact ⟨hk,L,o,hf,h1,x.bH ho hn,q,es,ep,hd⟩
    · obtain ⟨fs,z⟩:=hW L o q ho;rw [hd] at z;cases z
    · exact ⟨hk,L,_,hf,h1,x.bH ho hn,q,es,ep,hd⟩
  · refine E11 G.frm.ns fun m n hl=>?_
    refine E32 (id n) fun oL esL epL eL dL _=>?_
    have nW:¬ V env.locals:=fun q=>by refine E10 (hW _ _ q eL) fun fs z=>?_;rw [dL] at z;cases z
    refine ⟨G.frm.sc,G.frm.kd,G.frm.nd,G.frm.gl,G.frm.bn,x.bH eL G.frm.own,⟨m,x.ns' G.frm.own nW n,fun k y v a b=>?_⟩,fun k y a b=>?_⟩
    · refine E11 (hl k y v a b) fun u c r=>?_;exact ⟨u,c,r.mono x⟩
    · refine E23 (G.frm.cl k y a b) fun c ov e1 e2 y4 e4=>?_
      obtain ⟨oc,ec,dc⟩:=y4
      refine ⟨c,ov,e1,x.bH ec e2,?_,fun v q=>?_⟩
      · rcases x.keep c oc e2 ec with q | ⟨q,_⟩ | ⟨es,ep,_,hd',_⟩
        · exact ⟨oc,q,dc⟩
        · refine E10 (hW _ _ q ec) fun fs z=>?_;rw [dc] at z;cases z
        · rw [dc] at hd';cases hd'
      · refine E11 (e4 v q) fun u f r=>?_;exact ⟨u,f,r.mono x⟩
theorem Go.xG (G:Go w h₁ n hs A i env fr σ θ s) {I:Nat} (h:s.heap.get? I=none):¬ FW i env I:=by
  rintro (rfl | ⟨k,x,c,h1,h2,h3,rfl⟩)
  · refine E11 G.frm.ns fun m n _=>?_
    refine E31 n fun o _ _ e _=>?_
    exact ns h e
  · refine E23 (G.frm.cl k x h1 h2) fun c' ov e1 e2 y4 e4=>?_
    obtain ⟨oc,ec,dc⟩:=y4
    obtain rfl:=sm h3 e1
    exact ns h ec
theorem B0 (B:Base w h₁) (HC:∀ hs,CS w h₁ (C hs) n hs) {j:Nat} {it:ME} {b:MS} (H1:gF w h₁ C n W b):gb w h₁ C n W (.for j it b):=fun {hs A i env fr fr' σ σ' θ s ss fl Q E} G X _ ho h k=>by
  refine kQ ho fun l1 o1 o2 l2 lk hst=>aK h fun x σ1 e1 h=>aR h fun ys e2 h=>?_
  refine E01 (cN lk) fun k1 k2=>?_
  refine wpAny_For ((b0 B (HC hs) it).ev G (az l1) o1 e1 fun u s1 θ1 t1 r1=>?_) (fun x=>fold_plain hst x)
  have G1:=G.go t1
  refine nP G1.inv r1 e2 fun s2 t2 hit nI=>?_
  have G2:=G1.go t2
  generalize hI:s1.heap.objs.size=I at hit nI ⊢
  have I0:s1.heap.get? I=none:=by
    exact uk fun o e=>Nat.lt_irrefl I (Nat.lt_of_lt_of_eq (iO e) hI)
  have nF:¬ FW i env I:=G1.xG I0
  have I1:h₁.get? I=none:=by
    exact uk fun o e=>ns I0 (t1.inv.base _ _ e)
  have I00:s.heap.get? I=none:=by
    exact uk fun o e=>E10 (t1.ext.live _ _ e) fun o' e'=>ns I0 e'
  let J:Nat->Shared->Prop:=fun k' s'=>∃ (ys:List V) (m:Nat) (fr:Fr) (σ:St) (θ':List OA),k'=ys.length/\To w h₁ (fun b=>FW i env b\/b=I) θ s σ θ' s'/\Go w h₁ n hs A i env fr σ θ' s'/\fQ θ' s'.heap I m x/\¬ own θ' I/\
    ft (fun v fr σ=>evS C W hs b (fr.put j v) σ) x ys m fr σ=some (fl,fr',σ')
  have fin:∀ {σ θ' s'},To w h₁ (fun b=>FW i env b\/b=I) θ s σ θ' s'->To w h₁ (FW i env) θ s σ θ' s':=fun t=>
    ⟨t.ext.tU fun b hb=>hb.imp id fun q=>by rw [q];exact I00,t.inv,t.os,t.gens⟩
  refine codeAny_forLoop J ?_ ys.length ⟨ys,0,fr,σ1,θ1,rfl,(t1.trans t2).mono bA,G2,hit,nI,h⟩
  clear h hit nI G2
  rintro k' s' ⟨ys,m,fr1,σ2,θ2,rfl,T,G2,hit,nI,h⟩
  cases ys with
  |nil=>
    refine aR h fun zs hz h=>cR h fun hl h=>?_
    refine next_end G2.frs.1 G2.inv hit nI I1 hz (of_decide_eq_true hl) fun s3 t3=>?_
    refine wpAny_execs_nil (k.at h _ _ (fin (T.trans (t3.mono fun b q=>.inr q))) (G2.goW t3 fun b o q e=>?_))
    refine E32 hit.obj fun oI fs TI eI dI _=>?_
    rw [q,eI] at e;obtain rfl:=Option.some.inj e;exact ⟨fs,dI⟩
  |cons y0 r=>
    refine aR h fun zs hz h=>aR h fun v hv h=>l7 h fun fl1 fr2 σ3 e3 h=>?_
    refine next_item G2.inv hit nI I1 hz hv fun u s3 t3 hit3 rv=>?_
    have G3:Go w h₁ n hs A i env fr1 σ2 θ2 s3:=G2.goW t3 fun b o q e=>by
      refine E32 hit.obj fun oI fs TI eI dI _=>?_
      rw [q,eI] at e;obtain rfl:=Option.some.inj e;exact ⟨fs,dI⟩
    have T3:=T.trans (t3.mono fun b q=>.inr q)
    refine wpAny_assign_Name (dq G3 X k1 k2 rv fun s4 t4 G4=>?_)
    have T4:=T3.trans (t4.mono fun b q=>.inl q)
    have hit4:=hit3.ext t4.ext nI nF
    refine E31 hit4.obj fun oI _ _ eI _=>?_
    refine H1 G4 X l2 o2 e3 ?_
    cases fl1 with
    |nxt=>exact fun s5 θ5 t5 G5=>⟨r.length,by simp,r,m+1,_,_,_,rfl,T4.trans (t5.mono fun b q=>.inl q),G5,hit4.ext t5.ext nI nF,t5.ext.bH eI nI,h⟩
    |cnt=>exact fun s5 θ5 t5 G5=>⟨r.length,by simp,r,m+1,_,_,_,rfl,T4.trans (t5.mono fun b q=>.inl q),G5,hit4.ext t5.ext nI nF,t5.ext.bH eI nI,h⟩
    |ret v=>exact fun u s5 θ5 t5 r5 m5=>k.at h _ _ _ (fin (T4.trans (t5.mono fun b q=>.inl q))) r5 m5
    |err v=>exact no h
end
section
variable {w:World} {h₁:Heap} {C:Bool->aD} {n W:Nat} {hs:Bool} {A:Around} {i:FI} {env:Env} {fr fr':Fr} {σ σ' σ₁:St} {θ θ':List OA} {s s':Shared} {E:Value->Shared->Prop}
theorem Go.frz (G0:Go w h₁ n hs A i env fr σ θ s) {fr2:Fr} (G2:Go w h₁ n hs A i env fr2 σ' θ' s') {c:Nat} (h0:s.heap.get? c=none) (h1:h₁.get? c=none) {h':Heap} (fz:Frz c θ' s'.heap h'):Go w h₁ n hs A i env fr2 σ' θ' { s' with heap:=h' }:=by
  refine E31 fz.dict fun o0 es0 ep0 e0 d0=>?_
  refine ⟨G2.room,?_,G2.inv.frz fz h1,?_⟩
  · obtain ⟨_,l0,hl0,hL0⟩:=G0.frs
    obtain ⟨hh,l,hl,hL⟩:=G2.frs
    obtain rfl:=sm hl hl0
    refine ⟨hh.imp id fun ⟨ea,e,oe,fs,z1,z2,z3,z4⟩=>⟨ea,e,oe,fs,fz.at z1 (fun _ _ q=>by rw [z3] at q;cases q),z2,z3,z4⟩,_,hl,fun env' he'=>?_⟩
    obtain ⟨_,L0,o0,hf0,_,_,ho0,_⟩:=hL0 env' he'
    obtain ⟨hk,L,o,hf,h1,hn,ho,fl⟩:=hL env' he'
    obtain rfl:=sm hf hf0
    exact ⟨hk,_,o,hf,h1,hn,(fz.same _ fun z=>by rw [z,h0] at ho0;exact no ho0).trans ho,fl⟩
  · refine E11 G2.frm.ns fun m hn hl=>?_
    have ne:env.locals≠c:=fun z=>by
      refine E11 G0.frm.ns fun m0 n0 _=>?_
      refine E31 n0 fun o _ _ e _=>?_
      rw [z,h0] at e;exact no e
    refine ⟨G2.frm.sc,G2.frm.kd,G2.frm.nd,G2.frm.gl,G2.frm.bn,G2.frm.own,⟨m,?_,fun k y v a b=>(hl k y v a b).imp fun _ r=>⟨r.1,r.2.cy fz.e0⟩⟩,fun k y a b=>?_⟩
    · refine E31 hn fun o es ep e r=>?_;exact ⟨o,es,ep,(fz.same _ ne).trans e,r⟩
    · refine E23 (G2.frm.cl k y a b) fun c' ov e1 e2 y4 e4=>?_
      obtain ⟨oc,ec,dc⟩:=y4
      exact ⟨c',ov,e1,e2,⟨oc,fz.at ec (fun _ _ q=>by rw [dc] at q;cases q),dc⟩,fun v q=>(e4 v q).imp fun _ r=>⟨r.1,r.2.cy fz.e0⟩⟩
theorem kD (B:Base w h₁) {C:aD} {j:Nat} {ite elt:ME} {ifs:List Expr} {x:V} {ys:List V} {xs:List Expr} {body:V->St->Option (Option V×St)} (Hi:aG w h₁ C n hs ite) (G:Go w h₁ n hs A i env fr σ θ s) (X:FX h₁ i env A) {y:Str} {py spos:Pos}
    (k1:i.locs[j]?=some y) (k2:i.scope.names.lookup y=some .local) (hsw:B8 i y py xs=true) (hp:(Expr.ListComp (hdE (enc elt (ci xs i) (kd xs 0))) [⟨.Name (nn (kd xs 1)) (pp (kd xs 1)),hdE (enc ite i (kd xs 2)),ifs,0⟩] (inf (hdE xs)).sc (pp xs)).pos=pp xs)
    (l1:(!isL ite)=true) (o1:ok w.params ite i (kd xs 2)=true) (hsc:vE (inf (hdE xs)).sc i (nn (kd xs 1))=true) (hst:noStar (hdE (enc ite i (kd xs 2)))=true)
    (hb:jR w h₁ n hs (ci xs i) fr.cells body ifs (hdE (enc elt (ci xs i) (kd xs 0)))) (e1:ev C hs ite fr σ=some (x,σ₁)) (e2:itemsOf x σ₁=some ys)
    (e3:cj body x σ₁.length ys 0 (σ₁++[.list []])=some σ') {Q:Flow->Shared->Prop} (k:SQ w h₁ n hs A i env θ s .nxt (fr.put j (.ref σ₁.length)) σ' Q E):
    wpAny (model pw w) A (exec (.Assign [.Name y py] (.ListComp (hdE (enc elt (ci xs i) (kd xs 0))) [⟨.Name (nn (kd xs 1)) (pp (kd xs 1)),hdE (enc ite i (kd xs 2)),ifs,0⟩] (inf (hdE xs)).sc (pp xs)) spos) env) Q E s:=by
  have hsw':swapsWith (.ListComp (hdE (enc elt (ci xs i) (kd xs 0))) [⟨.Name (nn (kd xs 1)) (pp (kd xs 1)),hdE (enc ite i (kd xs 2)),ifs,0⟩] (inf (hdE xs)).sc (pp xs)) (some (.Name y py)) spos.line env=pure true:=by
    unfold B8 at hsw
    simp only [Bool.and_eq_true,beq_iff_eq,Bool.not_eq_true'] at hsw
    show pure (env.blockKind==.function&&env.kindOf y==some .local&&py.line==(pp xs).line&&!((inf (hdE xs)).sc.names.any fun (n,k)=>n==y&&(k==.local||k==.cell)))=pure true
    have b1:env.blockKind=.function:=by unfold Env.blockKind;rw [G.frm.sc,G.frm.kd];rfl
    have b2:env.kindOf y=some .local:=by unfold Env.kindOf;rw [G.frm.sc];exact k2
    rw [b1,b2,hsw.1]
    simp only [beq_self_eq_true,Bool.true_and]
    rw [hsw.2];rfl
  rw [exec_Assign_Name_used _ _ _ _ hsw']
  refine wpAny_bind (wpAny_standAt (wpAny_bind ?_))
  show wpAny _ A (do let _ ← comprehension (.ListComp (hdE (enc elt (ci xs i) (kd xs 0))) [⟨.Name (nn (kd xs 1)) (pp (kd xs 1)),hdE (enc ite i (kd xs 2)),ifs,0⟩] (inf (hdE xs)).sc (pp xs)) (inf (hdE xs)).sc env _ (newList []) false (eval (hdE (enc ite i (kd xs 2))) env) (some (assign (.Name y py) env))) _ _ s
  refine wpAny_bind (wpAny_mono (qw (Q:=fun _ s'=>Q .next s') B Hi G l1 o1 hsc hst rfl hb e1 e2 e3 fun Cc D θF sF m tF hn nC hC1 hC0 hd=>?_) (fun _ s' hq=>wpAny_pure (wpAny_pure hq)) fun _ _ e=>e)
  show wpAny _ _ (assign (.Name y py) env (.ref D)) _ _ _
  refine wpAny_assign_Name (dq (G.go tF) X k1 k2 (.ref (p:=⟨D,D⟩) hd) fun s2 t2 G2=>?_)
  refine ⟨m,t2.ext.ns' nC (G.xG hC0) hn,fun h' hs'=>?_⟩
  have fz:Frz Cc θF s2.heap h':=Ns.frz (t2.ext.ns' nC (G.xG hC0) hn) nC hs'
  have T:=(tF.mono bA).trans t2
  exact k _ _ ⟨T.ext.frz fz.same hC0,T.inv.frz fz hC1,T.os,T.gens⟩ (G.frz G2 hC0 hC1 fz)
theorem zz {e:ME} (h:(match e with | .comp ..=>true | .compIf ..=>true | _=>false)=true):(∃ a b,e=.comp a b)\/∃ a b c,e=.compIf a b c:=by
  cases e<;>first | exact .inl ⟨_,_,rfl⟩ | exact .inr ⟨_,_,_,rfl⟩ | exact nof h
theorem sD (B:Base w h₁) (HC:∀ hs,CS w h₁ (C hs) n hs) {j:Nat} {e:ME}:gb w h₁ C n W (.asgComp j e):=fun {hs A i env fr fr' σ σ' θ s ss fl Q E} G X _ ho h k=>by
  refine gI ho fun hc o1 lk hsw=>aK h fun v σ1 e1 h=>?_
  refine E01 (cN lk) fun k1 k2=>?_
  replace k:=k.at h
  rcases zz hc with ⟨it,elt,rfl⟩ | ⟨it,c,elt,rfl⟩
  · refine kQ o1 fun l1 o1 l2 o2 hsc hst=>aK e1 fun x σ1 ei e=>aR e fun xs e2 e=>aR e fun σ2 e3 e=>?_
    refine E01 (in2 e) fun z0 z1=>?_
    subst z0
    subst z1
    exact kD (ifs:=[]) B (b0 B (HC hs) it) G X k1 k2 hsw rfl l1 o1 hsc hst (ny (b0 B (HC hs) elt) l2 o2) ei e2 e3 k
  · refine A2 o1 fun l1 o1 l2 o2 hsc hst l3 o3=>aK e1 fun x σ1 ei e=>aR e fun xs e2 e=>aR e fun σ2 e3 e=>?_
    refine E01 (in2 e) fun z0 z1=>?_
    subst z0
    subst z1
    exact kD (ifs:=[hdE (enc c (ci (sk ss 0) i) (kd (sk ss 0) 3))]) B (b0 B (HC hs) it) G X k1 k2 hsw rfl l1 o1 hsc hst (kE (b0 B (HC hs) c) (b0 B (HC hs) elt) l2 o2 l3 o3) ei e2 e3 k
end
section
variable {w:World} {h₁:Heap} {C:Bool->aD} {n W:Nat} {hs:Bool} {A:Around} {i:FI} {env:Env} {fr fr':Fr} {σ σ' σ₁:St} {θ θ':List OA} {s s':Shared} {E:Value->Shared->Prop}
theorem vm {base:Heap} (I:Inv w h₁ θ σ s.heap) (hb1:∀ (b:Nat) (o:Obj),h₁.get? b=some o->∃ o',base.get? b=some o') {u:Value} (fl:Fly base θ s.heap u) {Q:Unit->Shared->Prop}
    (q:∀ s',To w h₁ (fun b=>base.get? b=none/\∃ o fs,s.heap.get? b=some o/\o.data=.fields fs) θ s σ θ s'->Q () s'):wpAny (model pw w) A (setFlight u none) Q E s:=by
  refine E34 fl fun e o fs z3 he hd hz hfl=>?_
  subst z3
  unfold setFlight
  rcases hfl with hfl | ⟨T,oT,ts,k1,k2,k3,k4,k5,k6,k7,k8⟩
  · refine wpAny_bind (wpAny_field he hd hfl ?_)
    rw [if_neg (by decide)]
    exact wpAny_pure (q _ (To.refl I))
  · refine wpAny_bind (wpAny_field he hd k1 ?_)
    rw [if_pos (show (Value.ref T != Value.none)=true from by simp)]
    refine wpAny_setField k5 k7 (Array.getElem?_eq_some_iff.mp k8).1 ?_
    have h1:h₁.get? T=none:=by
      cases z:h₁.get? T with
      |none=>rfl
      |some o=>refine E10 (hb1 _ _ z) fun o' e'=>?_;exact ns k2 e'
    refine q _ ((km I k5 k6 k7 h1 k4 rfl).mono fun b z=>?_)
    rw [z];exact ⟨k2,oT,ts,k5,k7⟩
theorem CX {b:MS} (h:xe b=true):jA b=true:=by cases b<;>first | rfl | exact nof h
theorem B6 (B:Base w h₁) (HC:∀ hs,CS w h₁ (C hs) n hs) {b:MS} {j:Nat} {hd:MS} (H1:gF w h₁ C n W b) (H2:gF w h₁ C n W hd):gb w h₁ C n W (.try b j hd):=fun {hs A i env fr fr' σ σ' θ s ss fl Q E} G X _ ho h k=>by
  refine kQ ho fun o1 l1 o2 l2 lk o3=>oy o3 fun g1 g2 g3=>cR h fun _ h=>l7 h fun fl1 fr1 σ1 e1 h=>?_
  refine E01 (cN lk) fun k1 k2=>?_
  have g1:=eq_of_beq g1
  have l2':=CX l2
  refine wpAny_Try_except ?_
  cases fl1 with
  |nxt=>exact H1 G X l1 o1 e1 fun s1 θ1 t1 G1=>wpAny_execs_nil (k.at h _ _ t1 G1)
  |cnt=>exact H1 G X l1 o1 e1 (k.at h)
  |ret v=>exact H1 G X l1 o1 e1 (k.at h)
  |err x=>
    refine l7 h fun fl2 fr2 σ2 e2 h=>Dd h fun v ev h=>?_
    obtain rfl:fl2=.ret v:=ev
    replace k:=k.at h
    clear h
    refine H1 G X l1 o1 e1 fun u s1 θ1 t1 r1 xa fl G1=>?_
    refine E21 xa fun m y z2 hy=>?_
    subst z2
    refine E11 r1.bq fun p hp z2=>?_
    subst z2
    refine E10 X.fs fun outer hA=>?_
    have hb1:∀ (b:Nat) (o:Obj),h₁.get? b=some o->∃ o',s.heap.get? b=some o':=fun b o e=>⟨o,G.inv.base _ _ e⟩
    refine uo (base:=s.heap) G1.inv G1.frs hA X.fr hp hy t1.ext.live hb1 fl fun s2 t2 fl2=>?_
    have G2:=G1.goW t2 fun b o q e=>by obtain ⟨_,o',fs,e',d'⟩:=q;obtain rfl:=sm e e';exact ⟨fs,d'⟩
    refine E34 (id fl2) fun fe oe fs eq he hde hze hfl=>?_
    obtain rfl:=Value.ref.inj eq
    refine E14 (qA (t2.inv.obj _ _ _ hy hp) he) fun fs' hc _ hd' hf2 _=>?_
    have X':FX h₁ i env (A.mark (some (.ref p.a))):=⟨X.fr,⟨outer,hA⟩,X.lb,X.cb,X.cd,X.cn⟩
    have G2':Go w h₁ n false (A.mark (some (.ref p.a))) i env fr1 σ1 θ1 s2:=
      ⟨⟨G2.room.depth,G2.room.units,nofun⟩,⟨.inr ⟨p.a,rfl,oe,fs',he,hc,hd',hf2⟩,G2.frs.2⟩,G2.inv,G2.frm⟩
    obtain ⟨h0,hr,rfl⟩:∃ a b,hd=.cons a b:=by cases hd<;>first | exact ⟨_,_,rfl⟩ | exact nof l2
    · refine wpAny_handleBy_cons (codeAny_handlers_test ?_) (by intro q;exact Value.noConfusion q)
      refine wpAny_Name (ld_global B G2' g1 g2 fun c rc=>?_) (jK g3)
      obtain rfl:=rc.ju
      refine wpAny_excMatches_sub_self (h:=s2.heap) (g:=s2.gens) (d:=s2.drawn) (t:=s2.toks) (os:=s2.os) (jy (B.at t2.inv)) he hc (by rfl) ?_
      refine codeAny_handlers_suite_as ?_
      refine vm t2.inv hb1 fl2 fun s3 t3=>?_
      have G3:=G2'.goW t3 fun b o q e=>by obtain ⟨_,o',fs,e',d'⟩:=q;obtain rfl:=sm e e';exact ⟨fs,d'⟩
      refine dq G3 X' k1 k2 (.ref hp) fun s4 t4 G4=>?_
      refine H2 G4 X' l2' o2 e2 fun u s5 θ5 t5 r5 ⟨m5,n5⟩=>?_
      have kd:env.scope.kind=.function:=by rw [G.frm.sc];exact G.frm.kd
      refine E10 G4.nsx fun m4 n4=>?_
      refine E11 (Ns.ex n4) fun o4 e4 _=>?_
      have nL:¬ own θ5 env.locals:=t5.ext.bH e4 G4.frm.own
      refine wpAny_nameGoes (by unfold Env.kindOf;rw [G.frm.sc];exact k2) n5 (by rw [kd];rfl) fun h6 m6 n6 sb6=>?_
      have t6:To w h₁ (·=env.locals) θ5 s5 _ θ5 { s5 with heap:=h6,toks:=s5.toks+1 }:=To.frame t5.inv n5 nL X.lb sb6 ((Ns.ex n6).imp fun _ z=>z.1)
      have T:To w h₁ (fun b=>FW i env b\/s.heap.get? b=none) θ s _ θ5 { s5 with heap:=h6,toks:=s5.toks+1 }:=
        (((((t1.mono fun b q=>.inl q).trans (t2.mono fun b q=>.inr q.1)).trans (t3.mono fun b q=>.inr q.1)).trans (t4.mono fun b q=>.inl q)).trans (t5.mono fun b q=>.inl q)).trans (t6.mono fun b q=>.inl (.inl q))
      exact k _ _ _ ⟨T.ext.tU fun b q=>q,T.inv,T.os,T.gens⟩ (r5.mono t6.ext) ⟨m6,n6⟩
structure AY (w:World) (h₁:Heap) (C:Bool->aD) (n W:Nat) (b:MS):Prop where
  ex:gb w h₁ C n W b
  exs:gF w h₁ C n W b
theorem iG {b:MS} (h:jA b=false) (x:gb w h₁ C n W b):AY w h₁ C n W b:=⟨x,fun _ _ l=>by rw [h] at l;cases l⟩
theorem AB {b:MS} (h:jA b=true) (x:gF w h₁ C n W b):AY w h₁ C n W b:=⟨fun _ _ l=>absurd (h.symm.trans l) nofun,x⟩
theorem Dg (B:Base w h₁) (HC:∀ hs,CS w h₁ (C hs) n hs) (b:MS):AY w h₁ C n W b:=by
  induction b with
  |nil=>exact AB rfl B4
  |cons s r h1 h2=>exact AB rfl (Ae h1.ex h2.exs)
  |expr e=>exact iG rfl (Ag B HC)
  |asg k e=>exact iG rfl (BX B HC)
  |asgC k e=>exact iG rfl (Ad B HC)
  |asgComp k e=>exact iG rfl (sD B HC)
  |asg2 j k e=>exact iG rfl (Ac B HC)
  |setattr o m e=>exact iG rfl (sE B HC)
  |setitem o j e=>exact iG rfl (sH B HC)
  |aug k op e=>exact iG rfl (BY B HC)
  |ite c a b h1 h2=>exact iG rfl (B3 B HC h1.exs h2.exs)
  |«while» c b h=>exact iG rfl (yd B HC h.exs)
  |«for» k it b h=>exact iG rfl (B0 B HC h.exs)
  |ret e=>exact iG rfl (B5 B HC)
  |cont=>exact iG rfl Af
  |delFrom o a=>exact iG rfl (BZ B HC)
  |raise e=>exact iG rfl (yc B HC)
  |«try» b k h h1 h2=>exact iG rfl (B6 B HC h1.exs h2.exs)
end
noncomputable def CG (o:Option Obj) (d:FuncData):FuncData:=match o with
  |some o=>match o.data with
    |.func fd=>fd
    |_=>d
  |none=>d
noncomputable def fdOf (P:Params) (f:Fn):FuncData:=CG ((KK P).lookup (fc f).addr) default
noncomputable def bodyOf (P:Params) (f:Fn):List Stmt:=match (fdOf P f).body with
  |.stmts b=>b
  |_=>[]
noncomputable def fi (P:Params) (f:Fn):FI:=⟨(fc f).locs.map Str.ofString,(fc f).cells.map Str.ofString,(fdOf P f).scope⟩
theorem Bq (P:Params):∀ f,j8 (fe f).body (fi P f) (bodyOf P f)=bodyOf P f:=tS (n:=60) (by kernel_rfl)
theorem xH (P:Params):∀ f,okS P (fe f).body (fi P f) (bodyOf P f)=true:=nB (n:=60) (by kernel_rfl)
noncomputable def i9 (f:Fn):Nat:=(fe f).params.length
noncomputable def namesOf (P:Params) (f:Fn):List Str:=(fdOf P f).params.args.map (·.arg)
noncomputable def vh (P:Params) (f:Fn):List Value:=match (fdOf P f).defaults with
  |.ref a=>match (KK P).lookup a with
    |some o=>match o.data with
      |.seq xs _=>xs.toList
      |_=>[]
    |none=>[]
  |_=>[]
noncomputable def dv1 (x:V) (v:Value):Bool:=match x with
  |.none=>v==.none
  |.bool a=>v==.bool a
  |.int a=>match v with
    |.int b _=>decide (a=b)
    |_=>false
  |_=>false
noncomputable def oY:List V->List Value->Bool
  |[],vs=>vs.isEmpty
  |x::xs,vs=>match vs with
    |v::vs=>dv1 x v&&oY xs vs
    |[]=>false
noncomputable def C7 (i:FI) (p:Bool×Nat) (x:Str):Bool:=cond p.1 (i.cells[p.2]?==some x&&i.scope.names.lookup x==some .cell) (iN i p.2 x)
noncomputable def my (i:FI):List (Bool×Nat)->List Str->Bool
  |[],xs=>xs.isEmpty
  |p::ps,xs=>match xs with
    |[]=>false
    |x::xs=>C7 i p x&&my i ps xs
noncomputable def ph:List Str->Bool
  |[]=>true
  |x::r=>!r.contains x&&ph r
noncomputable def t7:FuncBody->Bool
  |.stmts _=>true
  |_=>false
noncomputable def wL (P:Params) (cd:Value) (q:Str):Bool:=match cd with
  |.ref c=>((KK P).lookup c).any fun o=>match o.data with
    |.fields vs=>vs[1]?.any fun x=>match x with
      |.str x _=>x==q
      |_=>false
    |_=>false
  |_=>false
noncomputable def isFn (d:Data):Bool:=match d with
  |.func _=>true
  |_=>false
noncomputable def xf (o:Option Obj):Bool:=o.any fun o=>isFn o.data
noncomputable def chk (P:Params) (f:Fn):Bool:=
  xf ((KK P).lookup (fc f).addr)&&(fdOf P f).closure.isEmpty&&(fdOf P f).scope.kind==.function&&!(fdOf P f).scope.isCoroutine&&!(fdOf P f).scope.isGenerator&&t7 (fdOf P f).body &&
  wL P (fdOf P f).code (fdOf P f).qualname&&(fdOf P f).globals==mainGlobals&&(fdOf P f).builtins==builtinsNs&&jA (fe f).body&&ph (fi P f).locs&&ph (fi P f).cells&&my (fi P f) (fe f).params (namesOf P f)&&oY (fe f).dfl (vh P f) &&
  (fi P f).cells.all fun x=>(fi P f).scope.names.lookup x==some .cell
theorem rK (P:Params):∀ f,chk P f=true:=nB (n:=60) (p:=chk P) (by kernel_rfl)
noncomputable def dvN (f:Fn):Nat:=(fe f).dfl.length
theorem wN (P:Params):∀ f,(vh P f).length=dvN f:=tS (n:=60) (f:=fun f=>(vh P f).length) (g:=dvN) (by kernel_rfl)
theorem Dy {vs:List Value} (h:vs.length=1):∃ a,vs=[a]:=List.length_eq_one_iff.mp h
theorem zI {vs:List Value} {k:Nat} (h:vs.length=k+1):∃ a r,vs=a::r/\r.length=k:=by
  cases vs with
  |nil=>cases h
  |cons a r=>exact ⟨a,r,rfl,by simpa using h⟩
theorem BC {vs:List Value} (h:vs.length=2):∃ a b,vs=[a,b]:=by
  refine E21 (zI h) fun a r z2 g=>?_
  subst z2;refine E10 (Dy g) fun b z1=>?_;subst z1;exact ⟨a,b,rfl⟩
theorem CR {vs:List Value} (h:vs.length=3):∃ a b c,vs=[a,b,c]:=by
  refine E21 (zI h) fun a r z2 g=>?_
  subst z2;refine E20 (BC g) fun b c z2=>?_;subst z2;exact ⟨a,b,c,rfl⟩
theorem CT {vs:List Value} (h:vs.length=4):∃ a b c d,vs=[a,b,c,d]:=by
  refine E21 (zI h) fun a r z2 g=>?_
  subst z2;refine E30 (CR g) fun b c d z3=>?_;subst z3;exact ⟨a,b,c,d,rfl⟩
theorem Dz {vs:List Value} (h:vs.length=5):∃ a b c d e,vs=[a,b,c,d,e]:=by
  refine E21 (zI h) fun a r z2 g=>?_
  subst z2;refine E40 (CT g) fun b c d e z4=>?_;subst z4;exact ⟨a,b,c,d,e,rfl⟩
noncomputable def gi (P:Params) (f:Fn) (vs:List Value):List (Str×Value):=(namesOf P f).zip (vs++(vh P f).drop (dvN f - (i9 f - vs.length)))
noncomputable def lJ (P:Params) (f:Fn) (vs:List Value):Prop:=∀ S,peek (KK P) S (bindArgs (fdOf P f) ⟨vs,[]⟩)=some (gi P f vs)
theorem bf {P:Params} {S:Setting} {k:Nat} {vs:List Value} (f:Fn) (hf:k=i9 f) (h:(((List.finRange 60).filter fun f:Fn=>k==i9 f).map fun f:Fn=>peek (KK P) S (bindArgs (fdOf P f) ⟨vs,[]⟩))=(((List.finRange 60).filter fun f:Fn=>k==i9 f).map fun f:Fn=>some (gi P f vs))):
    peek (KK P) S (bindArgs (fdOf P f) ⟨vs,[]⟩)=some (gi P f vs):=List.map_inj_left.mp h f (List.mem_filter.mpr ⟨List.mem_finRange (n:=60) f,beq_iff_eq.mpr hf⟩)
theorem zR:∀ f,decide (i9 f<7)=true:=nB (n:=60) (p:=fun f=>decide (i9 f<7)) (by kernel_rfl)
theorem rD (P:Params):∀ f (vs:List Value),vs.length=i9 f->lJ P f vs:=by
  intro f vs h S
  have l:=of_decide_eq_true (zR f)
  rw [← h] at l
  match vs,h,l with
  |[],h,_=>exact bf f h (by kernel_rfl)
  |[_],h,_=>exact bf f h (by kernel_rfl)
  |[_,_],h,_=>exact bf f h (by kernel_rfl)
  |[_,_,_],h,_=>exact bf f h (by kernel_rfl)
  |[_,_,_,_],h,_=>exact bf f h (by kernel_rfl)
  |[_,_,_,_,_],h,_=>exact bf f h (by kernel_rfl)
  |[_,_,_,_,_,_],h,_=>exact bf f h (by kernel_rfl)
  |_::_::_::_::_::_::_::r,_,l=>exact absurd l (by simp only [List.length_cons];lia)
theorem fq (P:Params) (a b c d e:Value):lJ P .fk [a,b]/\lJ P .bK [a,b]/\lJ P .de [a,b,c]/\lJ P .de [a,b,c,d]/\lJ P .de [a,b,c,d,e]:=
  ⟨fun S=>by kernel_rfl,fun S=>by kernel_rfl,fun S=>by kernel_rfl,fun S=>by kernel_rfl,fun S=>by kernel_rfl⟩
theorem vg {f:Fn} (h:dvN f≠0):f=.fk\/f=.bK\/f=.de:=by
  simpa [h] using nB (n:=60) (p:=fun f:Fn=>decide (dvN f=0)||(decide (f=.fk)||(decide (f=.bK)||decide (f=.de)))) (by kernel_rfl) f
theorem AF {l:Nat} (h:l+(1 - (1 - (3 - l)))=3) (n:l≠3):l=2:=(by decide:∀ l,l<=3->l+(1 - (1 - (3 - l)))=3->l≠3->l=2) l (Nat.le_trans (Nat.le_add_right _ _) (Nat.le_of_eq h)) h n
theorem CV {l:Nat} (h:l+(3 - (3 - (6 - l)))=6) (n:l≠6):l=3\/l=4\/l=5:=(by decide:∀ l,l<=6->l+(3 - (3 - (6 - l)))=6->l≠6->l=3\/l=4\/l=5) l (Nat.le_trans (Nat.le_add_right _ _) (Nat.le_of_eq h)) h n
theorem wi (P:Params) (f:Fn) (vs:List Value) (h:vs.length+(dvN f - (dvN f - (i9 f - vs.length)))=i9 f):lJ P f vs:=by
  by_cases hl:vs.length=i9 f
  · exact rD P f vs hl
  · have hd:dvN f≠0:=fun z=>by rw [z] at h;lia
    rcases vg hd with rfl | rfl | rfl
    · refine E20 (BC (AF h hl)) fun a b z2=>?_
      subst z2
      exact (fq P a b a a a).1
    · refine E20 (BC (AF h hl)) fun a b z2=>?_
      subst z2
      exact (fq P a b a a a).2.1
    · rcases CV h hl with h | h | h
      · refine E30 (CR h) fun a b c z3=>?_
        subst z3
        exact (fq P a b c a a).2.2.1
      · refine E40 (CT h) fun a b c d z4=>?_
        subst z4
        exact (fq P a b c d a).2.2.2.1
      · refine E50 (Dz h) fun a b c d e z5=>?_
        subst z5
        exact (fq P a b c d e).2.2.2.2
theorem fj {l:List Str} (h:ph l=true):l.Nodup:=by
  induction l with
  |nil=>exact .nil
  |cons x r ih=>
    exact cg h fun a b=>List.nodup_cons.mpr ⟨by simpa using a,ih b⟩
theorem iX {x:Str}:∀ {names:List (Str×NameKind)} {n:Nat} {acc:List (Str×Addr)},((x,NameKind.cell)∈names\/∃ c,acc.lookup x=some c)->∃ c,(cellsFrom n names acc).lookup x=some c
  |[],_,_,h=>by rcases h with h|h;cases h;exact h
  |(y,k)::r,n,acc,h=>by
    unfold cellsFrom
    by_cases hk:(k==NameKind.cell)=true
    · rw [if_pos hk]
      refine iX ?_
      by_cases hx:x=y
      · exact .inr ⟨n,by rw [hx];simp [List.lookup_cons]⟩
      · have hxy:(x==y)=false:=by simpa using hx
        rcases h with h | ⟨c,h⟩
        · rcases List.mem_cons.mp h with h | h
          · exact absurd (congrArg Prod.fst h) hx
          · exact .inl h
        · exact .inr ⟨c,by rw [List.lookup_cons,hxy];exact h⟩
    · rw [if_neg hk]
      refine iX ?_
      rcases h with h | h
      · rcases List.mem_cons.mp h with h | h
        · obtain ⟨rfl,rfl⟩:=Prod.mk.inj h;exact absurd rfl hk
        · exact .inl h
      · exact .inr h
section
variable {θ:List OA} {h:Heap} {i:FI}
noncomputable def lK (i:FI) (fr:Fr) (θ:List OA) (h:Heap) (cm:Str->Option Value):Prop:=∀ (k:Nat) (x:Str) (v:V),i.cells[k]?=some x->fr.cells[k]?=some (some v)->∃ u,cm x=some u/\R θ h v u
theorem zU {α:Type} {l:List (Option α)} {k j:Nat} {v z:α} (e:(l.set k (some v))[j]?=some (some z)) (P:Prop) (k1:j=k->v=z->P) (k2:j≠k->l[j]?=some (some z)->P):P:=by
  by_cases hj:j=k
  · subst hj
    rw [List.getElem?_set_self'] at e
    exact E11 (Option.map_eq_some_iff.mp e) fun _ _ q=>k1 rfl (Option.some.inj q)
  · rw [List.getElem?_set_ne (Ne.symm hj)] at e
    exact k2 hj e
theorem uy {ns:List Str} (nd:ns.Nodup) {l:List (Option V)} {m:Str->Option Value} {k:Nat} {x:Str} {v:V} {u:Value} (hk:ns[k]?=some x) (hv:R θ h v u) (H:∀ (j:Nat) (y:Str) (z:V),ns[j]?=some y->l[j]?=some (some z)->∃ u,m y=some u/\R θ h z u):
    ∀ (j:Nat) (y:Str) (z:V),ns[j]?=some y->(l.set k (some v))[j]?=some (some z)->∃ w,(if y=x then some u else m y)=some w/\R θ h z w:=fun j y z e1 e2=>
  zU e2 _ (fun ej ez=>by
    subst ej ez
    exact ⟨u,if_pos (sm e1 hk),hv⟩) fun ne e2=>(H j y z e1 e2).imp fun w q=>⟨(if_neg fun ey=>ne (mu nd (ey▸e1) hk)).trans q.1,q.2⟩
theorem ql {kind:Str->Option NameKind} (hk:∀ x,kind x=i.scope.names.lookup x) (nl:i.locs.Nodup) (nc:i.cells.Nodup) {ps:List (Bool×Nat)}:∀ {names:List Str} {vals:List V} {us:List Value} {fr:Fr} {m cm:Str->Option Value},
    my i ps names=true->RL θ h vals us->vals.length=ps.length->jS i fr θ h m->lK i fr θ h cm->
    jS i (oM ps vals fr) θ h (bindL kind (names.zip us) m)/\lK i (oM ps vals fr) θ h (bindC kind (names.zip us) cm)/\∀ x∈names.zip us,i.scope.names.lookup x.1=some .local\/i.scope.names.lookup x.1=some .cell:=by
  induction ps with
  |nil=>
    intro names vals us fr m cm hp hr hl h1 h2
    rw [List.isEmpty_iff.mp hp]
    exact ⟨h1,h2,fun _ hx=>absurd hx List.not_mem_nil⟩
  |cons p ps ih=>
    intro names vals us fr m cm hp hr hl h1 h2
    cases hr with
    |nil=>exact absurd hl.symm (Nat.succ_ne_zero _)
    |@cons v vs u us hv hr=>
      cases names with
      |nil=>exact nof hp
      |cons x xs=>
        refine cg hp fun hx hq=>?_
        have hm:=Nat.succ.inj hl
        obtain ⟨b,k⟩:=p
        cases b with
        |false=>
          refine E01 (cN hx) fun k1 k2=>?_
          have hkx:kind x=some .local:=(hk x).trans k2
          have q:=ih (fr:=fr.put k v) (m:=fun y=>if y=x then some u else m y) (cm:=cm) hq hr hm (uy nl k1 hv h1) h2
          refine ⟨?_,?_,fun y hy=>(List.mem_cons.mp hy).elim (fun e=>e▸.inl k2) (q.2.2 y)⟩
          · show jS i _ θ h (bindL kind _ (if kind x=some .local then _ else _));rw [if_pos hkx];exact q.1
          · show lK i _ θ h (bindC kind _ (if kind x=some .local then _ else _));rw [if_pos hkx];exact q.2.1
        |true=>
          refine cg hx fun k1 k2=>?_
          have k2:=eq_of_beq k2
          have hkx:¬ kind x=some .local:=by rw [hk,k2];decide
          have q:=ih (fr:=fr.sd k v) (m:=m) (cm:=fun y=>if y=x then some u else cm y) hq hr hm h1 (uy nc (eq_of_beq k1) hv h2)
          refine ⟨?_,?_,fun y hy=>(List.mem_cons.mp hy).elim (fun e=>e▸.inr k2) (q.2.2 y)⟩
          · show jS i _ θ h (bindL kind _ (if kind x=some .local then _ else _));rw [if_neg hkx];exact q.1
          · show lK i _ θ h (bindC kind _ (if kind x=some .local then _ else _));rw [if_neg hkx];exact q.2.1
end
theorem CC {θ:List OA} {h:Heap} {x:V} {v:Value} (e:dv1 x v=true):R θ h x v:=by
  cases x with
  |none=>rw [eq_of_beq (show (v==.none)=true from e)];exact .none
  |bool a=>rw [eq_of_beq (show (v==.bool a)=true from e)];exact .bool a
  |int a=>
    cases v with
    |int b t=>rw [of_decide_eq_true (show decide (a=b)=true from e)];exact .int _ _
    |_=>exact nof e
  |_=>exact nof e
theorem Az {θ:List OA} {h:Heap}:∀ {xs:List V} {vs:List Value},oY xs vs=true->RL θ h xs vs:=by
  intro xs
  induction xs with
  |nil=>intro vs e;cases vs with
    |nil=>exact .nil
    |cons=>exact nof e
  |cons x xs ih=>intro vs e;cases vs with
    |nil=>exact nof e
    |cons v vs=>exact cg e fun h1 h2=>.cons (CC h1) (ih h2)
theorem nO {n k:Nat} {v:V}:(List.replicate n (none:Option V))[k]?=some (some v)->False:=fun e=>by
  rw [List.getElem?_replicate] at e
  split at e<;>cases e
section
variable {w:World} {h₁:Heap} {W n:Nat}
theorem vZ {α:Type} {p:α->Bool} {o:Option α} {P:Prop} (h:o.any p=true) (k:∀ x,o=some x->p x=true->P):P:=by
  cases o with
  |none=>exact nof h
  |some x=>exact k x rfl h
theorem zA {o:Obj} {x:FuncData} (h:isFn o.data=true):o.data=.func (CG (some o) x):=by
  obtain ⟨_,_,d⟩:=o
  cases d<;>first | rfl | exact nof h
theorem AD {P:Params} {f:Fn} (h:xf ((KK P).lookup (fc f).addr)=true):∃ o,(KK P).lookup (fc f).addr=some o/\o.data=.func (fdOf P f):=vZ h fun o e h=>⟨o,e,by
  unfold fdOf;rw [e];exact zA h⟩
theorem CH {q:Str} {d:Data} (h:(match d with
    |.fields vs=>vs[1]?.any fun x=>match x with
      |.str x _=>x==q
      |_=>false
    |_=>false:Bool)=true):∃ vs t,d=.fields vs/\vs[1]?=some (.str q t):=by
  cases d with
  |fields vs=>
    refine vZ h fun x e h=>?_
    cases x with
    |str x t=>exact ⟨vs,t,rfl,eq_of_beq h▸e⟩
    |_=>exact nof h
  |_=>exact nof h
theorem code_at {P:Params} {cd:Value} {q:Str} {h:Heap} (X:(KK P).In h) (e:wL P cd q=true):h.CodeRec cd q:=by
  cases cd with
  |ref c=>exact vZ e fun o ho e=>E20 (CH e) fun vs t ⟨hd,hx⟩=>⟨_,o,vs,t,rfl,X _ _ ho,hd,hx⟩
  |_=>exact nof e
theorem y8 {P:Params} {f:Fn} (h:t7 (fdOf P f).body=true):(fdOf P f).body=.stmts (bodyOf P f):=by
  unfold bodyOf
  generalize (fdOf P f).body=b at h
  cases b<;>first | rfl | exact nof h
theorem zj (hs:Bool):CS w h₁ (af W 0 hs) 0 hs:=fun A θ s σ f args vs res σ' RR _ _ _ _ e _=>by exact no e
set_option backward.match.sparseCases true in
theorem qx (B:Base w h₁) {hs:Bool} {A:Around} {θ:List OA} {s:Shared} {σ:St} {f:Fn} {fr₀:Fr} {vs:List Value} {RR:Result->Shared->Prop} (rm:vQ (n+1) hs A) (fi₀:bN h₁ θ s.heap A) (I:Inv w h₁ θ σ s.heap)
    (hlen':vs.length+(dvN f - (dvN f - (i9 f - vs.length)))=i9 f)
    (b1:jS (fi w.params f) fr₀ θ s.heap (bindL (fun x=>(fi w.params f).scope.names.lookup x) (gi w.params f vs) fun _=>none)) (b2:lK (fi w.params f) fr₀ θ s.heap (bindC (fun x=>(fi w.params f).scope.names.lookup x) (gi w.params f vs) fun _=>none))
    (b3:∀ x∈gi w.params f vs,(fi w.params f).scope.names.lookup x.1=some .local\/(fi w.params f).scope.names.lookup x.1=some .cell)
    (k:∀ env s',To w h₁ noW θ s σ θ s'->FX h₁ (fi w.params f) env (A.deeper env)->Go w h₁ n hs (A.deeper env) (fi w.params f) env fr₀ σ θ s'->(∀ b,FW (fi w.params f) env b->s.heap.get? b=none)->
      s'.heap.Ns env.locals (bindL (fun x=>(fi w.params f).scope.names.lookup x) (gi w.params f vs) fun _=>none)->
      wpAny (model pw w) (A.deeper env) (execs (j8 (fe f).body (fi w.params f) (bodyOf w.params f)) env) (fun f s'=>RR (.ok (.ret (match f with | .ret v=>v | _=>.none))) s')
        (fun e s'=>wpAny (model pw w) (A.deeper env) (leaving env e) (fun _ s''=>RR (.error e) s'') (fun e' s''=>RR (.error e') s'') s') s'):
    codeAny (model pw w) A (.call (.ref (fc f).addr) ⟨vs,[]⟩) RR s:=by
  have hc:=rK w.params f
  unfold chk at hc
  simp only [Bool.and_eq_true,beq_iff_eq,Bool.not_eq_true',List.isEmpty_iff,List.all_eq_true] at hc
  refine E01 hc fun y0 c15=>?_
  obtain ⟨⟨⟨⟨⟨⟨⟨⟨⟨⟨⟨⟨⟨c1,c2⟩,c3⟩,c4⟩,c5⟩,c6⟩,c7⟩,c8⟩,c9⟩,c10⟩,c11⟩,c12⟩,c13⟩,c14⟩:=y0
  refine E11 (AD c1) fun o ho hd=>?_
  have X:=B.at I
  refine codeAny_call_function (by have:=rm.depth;lia) (X _ _ ho) hd c4 c5 (y8 c6) (code_at X c7) ?_
  refine (Looks.of_peek (M:=model pw w) X (wi w.params f vs hlen' _)).here ?_
  rw [c2]
  have hcell:∀ x,(fi w.params f).scope.names.lookup x=some .cell->∃ c,(cellsFrom (s.heap.objs.size+1) (fdOf w.params f).scope.names []).lookup x=some c:=fun x hx=>iX (.inl (lookup_mem hx))
  refine wpAny_newFunctionEnv_cells c3 (fun x hx=>(b3 x hx).imp id fun z=>⟨z,?_⟩) fun env he s1 ic=>?_
  · refine E10 (hcell _ z) fun c hc=>?_;rw [hc];rfl
  have hlim:s1.heap.NoLimit:=(noLimit X).keeps ic.toInCall.keep
  refine ⟨hlim,codeAny_func ?_⟩
  rw [← Bq]
  have hloc:env.locals=s.heap.objs.size:=by rw [he];rfl
  have hsc:env.scope=(fi w.params f).scope:=by rw [he];rfl
  have hce:env.cells=cellsFrom (s.heap.objs.size+1) (fdOf w.params f).scope.names []:=by rw [he];rfl
  have hfr:env.frame=some env.locals:=by rw [he];rfl
  have hkin:env.kindOf=fun x=>(fi w.params f).scope.names.lookup x:=by funext x;rw [he];rfl
  have hgl:env.globals=mainGlobals:=by rw [he];exact c8
  have hbn:env.builtins=builtinsNs:=by rw [he];exact c9
  clear he
  refine E21 ic.done fun h' tk z2 kp=>?_
  subst z2
  have kp:Keeps s.heap h':=kp
  have t0:To w h₁ noW θ s σ θ { s with heap:=h',toks:=tk }:=⟨.of_keeps kp,I.keeps kp,rfl,rfl⟩
  have n0:∀ b:Nat,s.heap.objs.size<=b->s.heap.get? b=none:=fun b hb=>by
    cases e:s.heap.get? b with
    |none=>rfl
    |some o=>have:=iO e;lia
  have n1:∀ b:Nat,s.heap.objs.size<=b->h₁.get? b=none:=fun b hb=>by
    cases e:h₁.get? b with
    |none=>rfl
    |some o=>have:=I.base _ _ e;rw [n0 b hb] at this;exact no this
  have no:∀ b:Nat,s.heap.objs.size<=b->¬ own θ b:=fun b hb=>I.dX ((Above.size _).mono hb)
  have hcl:∀ n c,(n,c)∈env.cells->s.heap.objs.size<=c:=fun n c hm=>by have:=ic.above n c hm;rw [hloc] at this;exact Nat.le_of_lt this
  have kd:env.scope.kind=.function:=by rw [hsc];exact c3
  refine E11 (jI ic.toInCall.ns) fun oL eL fL=>?_
  have ff:=fi₀.ext t0.ext
  obtain ⟨hh,l,hl,hL⟩:=ff
  have hAf:(A.deeper env).frames=some (env::l):=by
    show A.frames.map _=_
    rw [hl];rfl
  have X':FX h₁ (fi w.params f) env (A.deeper env):=⟨hfr,⟨l,hAf⟩,by rw [hloc];exact n1 _ (Nat.le_refl _),fun p hp=>n1 _ (hcl p.1 p.2 hp),fun x y c h1 h2=>name_of_addr ic.apart (mem_of_lookup h1) (mem_of_lookup h2),fj c12⟩
  have G:Go w h₁ n hs (A.deeper env) (fi w.params f) env fr₀ σ θ { s with heap:=h',toks:=tk }:=by
    refine ⟨⟨by have:=rm.depth;show A.depth+1+_+_<_;lia,by have:=rm.units;show A.units+3+_+_<_;lia,rm.hnd⟩,⟨hh,_,hAf,fun env' he'=>?_⟩,t0.inv,⟨hsc,c3,fj c11,hgl,hbn,by rw [hloc];exact no _ (Nat.le_refl _),⟨_,ic.toInCall.ns,?_⟩,fun j x hj hx=>?_⟩⟩
    · rcases List.mem_cons.mp he' with rfl | he'
      · exact ⟨by rw [kd];decide,_,oL,hfr,X'.lb,by rw [hloc];exact no _ (Nat.le_refl _),eL,fL⟩
      · exact hL env' he'
    · rw [hkin]
      exact fun j x v h1 h2=>(b1 j x v h1 h2).imp fun _ r=>⟨r.1,r.2.mono t0.ext⟩
    · refine E10 (hcell x hx) fun c hc=>?_
      rw [← hce] at hc
      refine ⟨c,_,hc,no _ (hcl _ _ (mem_of_lookup hc)),ic.cell x c hc,fun v hv=>?_⟩
      rw [hkin]
      exact (b2 j x v hj hv).imp fun _ r=>⟨r.1,r.2.mono t0.ext⟩
  have newW:∀ b,FW (fi w.params f) env b->s.heap.get? b=none:=fun b hb=>by
    rcases hb with rfl | ⟨_,x,c,_,_,hc,rfl⟩
    · exact n0 _ (by rw [hloc];exact Nat.le_refl _)
    · exact n0 _ (hcl _ _ (mem_of_lookup hc))
  exact k env _ t0 X' G newW (hkin▸ic.toInCall.ns)
theorem zi (B:Base w h₁) (H:∀ hs,CS w h₁ (af W n hs) n hs) (hs:Bool):CS w h₁ (af W (n+1) hs) (n+1) hs:=fun A θ s σ f args vs res σ' RR rm fi₀ I ra e k=>by
  refine cR e fun hlen e=>aR e fun q e1 e=>?_
  · have hlen:=of_decide_eq_true hlen
    have hc:=rK w.params f
    unfold chk at hc
    simp only [Bool.and_eq_true,beq_iff_eq,Bool.not_eq_true',List.isEmpty_iff,List.all_eq_true] at hc
    refine E01 hc fun y0 c15=>?_
    obtain ⟨⟨⟨⟨⟨⟨⟨⟨⟨⟨⟨⟨⟨c1,c2⟩,c3⟩,c4⟩,c5⟩,c6⟩,c7⟩,c8⟩,c9⟩,c10⟩,c11⟩,c12⟩,c13⟩,c14⟩:=y0
    refine E11 (AD c1) fun o ho hd=>?_
    have X:=B.at I
    have hdl:(fe f).dfl.length=dvN f:=by rw [(Az (θ:=[]) (h:=s.heap) c14).length];exact wN _ _
    have hral:=ra.length
    have hlen':vs.length+(dvN f - (dvN f - (i9 f - vs.length)))=i9 f:=by
      unfold cU at hlen
      rw [List.length_append,List.length_drop,hdl,hral] at hlen
      exact hlen
    have hr:RL θ s.heap (cU (fe f).params.length (fe f).dfl args) (vs++(vh w.params f).drop (dvN f - (i9 f - vs.length))):=by
      unfold cU
      rw [hdl,hral]
      exact ra.append ((Az c14).drop _)
    have binv:=ql (θ:=θ) (h:=s.heap) (i:=fi w.params f) (kind:=fun x=>(fi w.params f).scope.names.lookup x) (fun _=>rfl) (fj c11) (fj c12) (fr:=⟨List.replicate (fe f).nl none,List.replicate (fe f).nc none⟩) (m:=fun _=>none) (cm:=fun _=>none) c13 hr hlen
      (fun _ _ _ _ z=>(nO z).elim) (fun _ _ _ _ z=>(nO z).elim)
    refine E02 binv fun b1 b2 b3=>?_
    obtain ⟨fl,fr',σ1⟩:=q
    refine qx B rm fi₀ I hlen' b1 b2 b3 fun env s' t0 X' G newW _=>?_
    have c10:jA (fe f).body=true:=c10
    refine (Dg B H (fe f).body).exs G X' c10 (xH _ f) e1 ?_
    cases fl with
    |ret v=>
      obtain ⟨rfl,rfl⟩:=in2 e
      exact fun u s2 θ2 t2 r2 _=>k _ _ _ ⟨((t0.mono bA).trans t2).ext.forget newW,t2.inv,t2.os.trans t0.os,t2.gens.trans t0.gens⟩ r2
    |nxt=>
      obtain ⟨rfl,rfl⟩:=in2 e
      exact fun s2 θ2 t2 _=>k _ _ _ ⟨((t0.mono bA).trans t2).ext.forget newW,t2.inv,t2.os.trans t0.os,t2.gens.trans t0.gens⟩ .none
    |cnt=>exact no e
    |err x=>
      obtain ⟨rfl,rfl⟩:=in2 e
      refine fun u s2 θ2 t2 r2 xa fl G2=>?_
      refine E21 (id xa) fun m y z2 hy=>?_
      subst z2
      refine E11 r2.bq fun p hp z2=>?_
      subst z2
      have T2:=(t0.mono bA).trans t2
      refine E10 X'.fs fun outer hAf=>?_
      have hfr:=X'.fr
      refine xp (base:=s.heap) G2.inv G2.frs hAf hfr hp hy T2.ext.live (fun b o e=>⟨o,I.base _ _ e⟩) (fl.mono t0.ext.live) fun s3 t3 fl3=>?_
      have T3:To w h₁ (fun b=>s.heap.get? b=none) θ s _ θ2 s3:=(T2.mono newW).trans (t3.mono fun b q=>q.1)
      exact k _ _ _ ⟨T3.ext.forget fun b q=>q,T3.inv,T3.os,T3.gens⟩ (.ref hp) xa fl3
theorem wM (B:Base w h₁):∀ n hs,CS w h₁ (af W n hs) n hs
  |0=>zj
  |_+1=>zi B (wM B _)
end
section
variable {C:aD} {hs:Bool} {fr:Fr} {σ σ1 σ2 σ3:St}
theorem aI {β:Type} {o:Option (V×St)} {f:V->St->Option β} {r:Option β} {x:V} (h:o=some (x,σ)) (k:f x σ=r):bnd o f=r:=by subst h;exact k
theorem ay {α β:Type} {o:Option α} {f:α->Option β} {r:Option β} {x:α} (h:o=some x) (k:f x=r):bh o f=r:=by subst h;exact k
theorem bJ {op:Bo ()} {a b:ME} {x y v:V} (h:ev C hs a fr σ=some (x,σ1)) (h2:ev C hs b fr σ1=some (y,σ2)) (k:gP op x y=some v):ev C hs (.bin op a b) fr σ=some (v,σ2):=
  aI h (aI h2 (ay k rfl))
theorem fF {a:ME} {i:Int} (h:ev C hs a fr σ=some (.int i,σ1)):ev C hs (.neg a) fr σ=some (.int (-i),σ1):=aI h rfl
theorem eK {a:ME} {b:Bool} (h:ev C hs a fr σ=some (.bool b,σ1)):ev C hs (.not a) fr σ=some (.bool (!b),σ1):=aI h rfl
theorem ai {op:Co ()} {a b:ME} {x y:V} {v:Bool} (h:ev C hs a fr σ=some (x,σ1)) (h2:ev C hs b fr σ1=some (y,σ2)) (k:gQ op x y σ2=some v):ev C hs (.cmp op a b) fr σ=some (.bool v,σ2):=
  aI h (aI h2 (ay k rfl))
theorem dk {a b:ME} {v:V} (h:ev C hs a fr σ=some (.bool true,σ1)) (k:ev C hs b fr σ1=some (v,σ2)):ev C hs (.and a b) fr σ=some (v,σ2):=aI h k
theorem dD {a b:ME} (h:ev C hs a fr σ=some (.bool false,σ1)):ev C hs (.and a b) fr σ=some (.bool false,σ1):=aI h rfl
theorem rQ {a b:ME} {v:V} (h:ev C hs a fr σ=some (.bool false,σ1)) (k:ev C hs b fr σ1=some (v,σ2)):ev C hs (.or a b) fr σ=some (v,σ2):=aI h k
theorem AA {a b:ME} (h:ev C hs a fr σ=some (.bool true,σ1)):ev C hs (.or a b) fr σ=some (.bool true,σ1):=aI h rfl
theorem mj {t a b:ME} {v:V} (h:ev C hs t fr σ=some (.bool true,σ1)) (k:ev C hs a fr σ1=some (v,σ2)):ev C hs (.ife t a b) fr σ=some (v,σ2):=aI h k
theorem j6 {t a b:ME} {v:V} (h:ev C hs t fr σ=some (.bool false,σ1)) (k:ev C hs b fr σ1=some (v,σ2)):ev C hs (.ife t a b) fr σ=some (v,σ2):=aI h k
theorem aH {o:ME} {m:Nm} {n:Nat} {c:Cl ()} {as:List (Nm×V)} {v:V} (h:ev C hs o fr σ=some (.ref n,σ1)) (ho:σ1[n]?=some (.inst c as)) (hl:cQ as m=some v):ev C hs (.attr o m) fr σ=some (v,σ1):=
  aI h (ay (show bh σ1[n]? (v8 m)=some v from ay ho hl) rfl)
theorem ah {o i:ME} {xs:List V} {j:Int} {v:V} (h:ev C hs o fr σ=some (.tup xs,σ1)) (h2:ev C hs i fr σ1=some (.int j,σ2)) (hg:jz xs j=some v):ev C hs (.sub o i) fr σ=some (v,σ2):=
  aI h (aI h2 (ay hg rfl))
theorem bQ {o i:ME} {n:Nat} {xs:List V} {j:Int} {v:V} (h:ev C hs o fr σ=some (.ref n,σ1)) (h2:ev C hs i fr σ1=some (.int j,σ2)) (ho:σ2[n]?=some (.list xs)) (hg:jz xs j=some v):ev C hs (.sub o i) fr σ=some (v,σ2):=
  aI h (aI h2 (ay (show bh _ _=_ from ay ho hg) rfl))
theorem gN {o i:ME} {n:Nat} {kvs:List (Int×V)} {j:Int} {v:V} (h:ev C hs o fr σ=some (.ref n,σ1)) (h2:ev C hs i fr σ1=some (.int j,σ2)) (ho:σ2[n]?=some (.dI kvs)) (hg:aZ kvs j=some v):ev C hs (.sub o i) fr σ=some (v,σ2):=
  aI h (aI h2 (ay (show bh _ _=_ from ay ho hg) rfl))
theorem ae {a r:ME} {x:V} {xs:List V} (h:ev C hs a fr σ=some (x,σ1)) (h2:ev C hs r fr σ1=some (.tup xs,σ2)):ev C hs (.cons a r) fr σ=some (.tup (x::xs),σ2):=
  aI h (aI h2 rfl)
theorem ab {a:ME} {x:V} (h:ev C hs a fr σ=some (x,σ1)):ev C hs (.cons a .nil) fr σ=some (.tup [x],σ1):=ae h rfl
theorem mh {f args:ME} {g v:V} {xs:List V} (h:ev C hs f fr σ=some (g,σ1)) (h2:ev C hs args fr σ1=some (.tup xs,σ2)) (hc:jt C hs g xs σ2=some (.ok v,σ3)):ev C hs (.call f args) fr σ=some (v,σ3):=
  aI h (aI h2 (by show pq (jt C hs g xs σ2)=_;rw [hc];rfl))
theorem aV {f:Fn} {args:ME} {v:V} {xs:List V} (h2:ev C hs args fr σ=some (.tup xs,σ1)) (hc:C f xs σ1=some (.ok v,σ2)):ev C hs (.call (.glob (.fn f)) args) fr σ=some (v,σ2):=mh rfl h2 hc
theorem bF {b:Bi ()} {args:ME} {v:V} {xs:List V} (h2:ev C hs args fr σ=some (.tup xs,σ1)) (hc:jx hs b xs σ1=some (v,σ2)):ev C hs (.call (.glob (.bi b)) args) fr σ=some (v,σ2):=
  mh rfl h2 (show bnd (jx hs b xs σ1) _=_ from aI hc rfl)
theorem e_m {o args:ME} {m:Nm} {n:Nat} {c:Cl ()} {as:List (Nm×V)} {f:Fn} {xs:List V} {v:V} (h:ev C hs o fr σ=some (.ref n,σ1)) (ho:σ1[n]?=some (.inst c as)) (hm:cS c m=some f) (h2:ev C hs args fr σ1=some (.tup xs,σ2)) (hc:C f (.ref n::xs) σ2=some (.ok v,σ3)):
    ev C hs (.mcall o m args) fr σ=some (v,σ3):=
  aI h (ay ho (ay (x:=.fn f) (show (cS c m).map Me.fn=_ by rw [hm];rfl) (aI h2 (by show pq (C f (.ref n::xs) σ2)=_;rw [hc];rfl))))
theorem cE {o args:ME} {m:Nm} {n:Nat} {ob:O} {me:Me} {xs:List V} {v:V} (h:ev C hs o fr σ=some (.ref n,σ1)) (ho:σ1[n]?=some ob) (hm:xu ob m=some me) (hn:∀ f,me≠.fn f) (h2:ev C hs args fr σ1=some (.tup xs,σ2)) (hc:gE me n xs σ2=some (v,σ3)):
    ev C hs (.mcall o m args) fr σ=some (v,σ3):=
  aI h (ay ho (ay hm (aI h2 (by cases me<;>first | exact hc | exact absurd rfl (hn _)))))
theorem au {args:ME} {xs:List V} (h:ev C hs args fr σ=some (.tup xs,σ1)) (hf:fits xs.length=true):ev C hs (.tuple args) fr σ=some (.tup xs,σ1):=aI h (by show gd (fits xs.length) _=_;rw [hf];rfl)
theorem rP {args:ME} {xs:List V} (h:ev C hs args fr σ=some (.tup xs,σ1)) (hf:fits xs.length=true):ev C hs (.list args) fr σ=some (.ref σ1.length,σ1++[.list xs]):=aI h (by show gd (fits xs.length) _=_;rw [hf];rfl)
theorem wW {e:ME} {v:V} (h:ev C hs e fr σ=some (v,σ1)):evX C hs e fr σ=some (.ok v,σ1):=by
  have plain:evX C hs e fr σ=bnd (ev C hs e fr σ) (fun r σ=>some (Except.ok r,σ))->evX C hs e fr σ=some (.ok v,σ1):=fun h'=>by rw [h',h];rfl
  cases e with
  |call f args=>
    refine aK h fun g s1 e1 h=>aK h fun y s2 e2 h=>g9 h fun xs e3 h=>?_
    subst e3
    exact aI e1 (aI e2 (iu h))
  |_=>exact plain rfl
theorem iZ {β:Type} {c:Bool} {x r:Option β} (h:c=true) (k:x=r):gd c x=r:=by subst h;exact k
theorem tq {a b c:Int} (h:a+b=c):gP .add (.int a) (.int b)=some (.int c):=congrArg (fun x=>some (V.int x)) h
theorem k9 {a b c:Int} (h:a - b=c):gP .sub (.int a) (.int b)=some (.int c):=congrArg (fun x=>some (V.int x)) h
theorem kZ {a b c:Int} (h:a * b=c) (ha:small a=true) (hb:small b=true):gP .mul (.int a) (.int b)=some (.int c):=iZ (by rw [ha,hb];rfl) (congrArg (fun x=>some (V.int x)) h)
theorem qC {β:Type} {o:Option O} {xs:List V} {f:List V->Option β} {r:Option β} (h:o=some (.list xs)) (k:f xs=r):onL o f=r:=by subst h;exact k
theorem Bs {β:Type} {o:Option O} {xs:List (Int×V)} {f:List (Int×V)->Option β} {r:Option β} (h:o=some (.dI xs)) (k:f xs=r):BM o f=r:=by subst h;exact k
theorem zr {β:Type} {o:Option O} {xs:List Int} {f:List Int->Option β} {r:Option β} (h:o=some (.set xs)) (k:f xs=r):onSet o f=r:=by subst h;exact k
theorem bp {n:Nat} {x:V} {xs:List V} (h:σ[n]?=some (.list xs)) (hf:fits xs.length=true):gE .append n [x] σ=some (.none,σ.set n (.list (xs++[x]))):=qC h (iZ hf rfl)
theorem ud {n:Nat} {x:V} {xs:List V} (h:σ[n]?=some (.list (xs++[x]))):gE .pop n [] σ=some (x,σ.set n (.list xs)):=qC h (ay List.getLast?_concat (by rw [List.dropLast_concat]))
theorem xr {n:Nat} {k:Int} {d:V} {kvs:List (Int×V)} (h:σ[n]?=some (.dI kvs)):gE .get n [.int k,d] σ=some ((aZ kvs k).getD d,σ):=ay h rfl
theorem BG {n:Nat} {k:Tx} {d:V} {kvs:List (Tx×V)} (h:σ[n]?=some (.dS kvs)):gE .get n [.str k,d] σ=some ((aZ kvs k).getD d,σ):=ay h rfl
theorem BF {n:Nat} {a b:Int} {d:V} {kvs:List ((Int×Int)×V)} (h:σ[n]?=some (.dP kvs)):gE .get n [.tup [.int a,.int b],d] σ=some ((aZ kvs (a,b)).getD d,σ):=ay h rfl
theorem uc {n:Nat} {i:Int} {xs:List Int} (h:σ[n]?=some (.set xs)) (hf:xs.length<4000):gE .add n [.int i] σ=some (.none,σ.set n (.set (if i∈xs then xs else xs++[i]))):=zr h (iZ (decide_eq_true hf) rfl)
theorem bD {n:Nat} {xs:List V} (h:σ[n]?=some (.list xs)):jx hs .len [.ref n] σ=some (.int xs.length,σ):=ay (ay h rfl) rfl
theorem A4 {n:Nat} {xs:List (Int×V)} (h:σ[n]?=some (.dI xs)):jx hs .len [.ref n] σ=some (.int xs.length,σ):=ay (ay h rfl) rfl
theorem jr {n:Nat} {xs:List V} (h:σ[n]?=some (.list xs)) (hf:fits xs.length=true):jx hs .tuple [.ref n] σ=some (.tup xs,σ):=qC h (iZ hf rfl)
theorem A5 {n:Nat} {kvs:List (Int×V)} (h:σ[n]?=some (.dI kvs)) (hf:fits kvs.length=true):jx true .list [.ref n] σ=some (.ref σ.length,σ++[.list (kvs.map fun kv=>.int kv.1)]):=Bs h (iZ hf rfl)
theorem dh {n:Nat} {xs:List V} {i:Int} {x:V} (h:σ[n]?=some (.list xs)) (h0:0<=i) (h1:i.toNat<xs.length):setItem (.ref n) (.int i) x σ=some (σ.set n (.list (xs.set i.toNat x))):=ay h (ay (iZ (by rw [decide_eq_true h0,decide_eq_true h1];rfl) rfl) rfl)
theorem pE {n:Nat} {kvs:List (Int×V)} {i:Int} {x:V} (h:σ[n]?=some (.dI kvs)) (hf:fits kvs.length=true):setItem (.ref n) (.int i) x σ=some (σ.set n (.dI (dput kvs i x))):=ay h (ay (iZ hf rfl) rfl)
theorem DD {n:Nat} {kvs:List (Tx×V)} {i:Tx} {x:V} (h:σ[n]?=some (.dS kvs)) (hf:fits kvs.length=true):setItem (.ref n) (.str i) x σ=some (σ.set n (.dS (dput kvs i x))):=ay h (ay (iZ hf rfl) rfl)
theorem DC {n:Nat} {kvs:List ((Int×Int)×V)} {a b:Int} {x:V} (h:σ[n]?=some (.dP kvs)) (hf:fits kvs.length=true):setItem (.ref n) (.tup [.int a,.int b]) x σ=some (σ.set n (.dP (dput kvs (a,b) x))):=ay h (ay (iZ hf rfl) rfl)
theorem fG {n:Nat} {kvs:List (Int×V)} {i:Int} (h:σ[n]?=some (.dI kvs)):o8 (.int i) (.ref n) σ=some (aZ kvs i).isSome:=ay h rfl
theorem i6 {n:Nat} {xs:List Int} {i:Int} (h:σ[n]?=some (.set xs)):o8 (.int i) (.ref n) σ=some (decide (i∈xs)):=ay h rfl
end
noncomputable def Ends (r:fR) (Q:Fl->Fr->St->Prop):Prop:=∃ fl fr σ,r=some (fl,fr,σ)/\Q fl fr σ
noncomputable def Cp (r:Option (Except V V×St)) (Q:V->St->Prop):Prop:=∃ v σ,r=some (.ok v,σ)/\Q v σ
section
variable {C:Bool->aD} {W:Nat} {hs:Bool} {Q:Fl->Fr->St->Prop} {fr fr1 fr':Fr} {σ σ1 σ2 σ3 σ4 σ':St}
theorem Ends.of {r:fR} {fl:Fl} (h:r=some (fl,fr,σ)) (q:Q fl fr σ):Ends r Q:=⟨_,_,_,h,q⟩
theorem Ends.mono {r:fR} {Q':Fl->Fr->St->Prop} (h:Ends r Q) (q:∀ fl fr σ,Q fl fr σ->Q' fl fr σ):Ends r Q':=let ⟨_,_,_,e,x⟩:=h;⟨_,_,_,e,q _ _ _ x⟩
theorem cc {α:Type} {o:Option α} {f:α->fR} {x:α} (h:o=some x) (k:Ends (f x) Q):Ends (bh o f) Q:=by subst h;exact k
theorem f5 {o:Option (V×St)} {f:V->St->fR} {x:V} (h:o=some (x,σ)) (k:Ends (f x σ) Q):Ends (bnd o f) Q:=by subst h;exact k
theorem aa {s r:MS} (h:evS C W hs s fr σ=some (.nxt,fr1,σ1)) (k:Ends (evS C W hs r fr1 σ1) Q):Ends (evS C W hs (.cons s r) fr σ) Q:=cc h k
theorem ao (q:Q .nxt fr σ):Ends (evS C W hs .nil fr σ) Q:=.of rfl q
theorem aA {s r:MS} {v:V} (h:evS C W hs s fr σ=some (.ret v,fr1,σ1)) (q:Q (.ret v) fr1 σ1):Ends (evS C W hs (.cons s r) fr σ) Q:=cc h (.of rfl q)
theorem AW {s r:MS} (h:evS C W hs s fr σ=some (.cnt,fr1,σ1)) (q:Q .cnt fr1 σ1):Ends (evS C W hs (.cons s r) fr σ) Q:=cc h (.of rfl q)
noncomputable def Nx (C:Bool->aD) (W:Nat) (hs:Bool) (r:MS) (Q:Fl->Fr->St->Prop) (fl:Fl) (fr:Fr) (σ:St):Prop:=match fl with
  |.nxt=>Ends (evS C W hs r fr σ) Q
  |.cnt=>Q .cnt fr σ
  |.ret v=>Q (.ret v) fr σ
  |.err v=>Q (.err v) fr σ
theorem aj {s r:MS} (h:Ends (evS C W hs s fr σ) (Nx C W hs r Q)):Ends (evS C W hs (.cons s r) fr σ) Q:=by
  refine E31 h fun fl fr1 σ1 e q=>?_
  cases fl with
  |nxt=>exact cc e q
  |cnt=>exact cc e (.of rfl q)
  |ret v=>exact cc e (.of rfl q)
  |err v=>exact cc e (.of rfl q)
theorem aS {e:ME} {v:V} (h:ev (C hs) hs e fr σ=some (v,σ1)):evS C W hs (.expr e) fr σ=some (.nxt,fr,σ1):=aI h rfl
theorem av {i:Nat} {e:ME} {v:V} (h:ev (C hs) hs e fr σ=some (v,σ1)):evS C W hs (.asg i e) fr σ=some (.nxt,fr.put i v,σ1):=by
  show oN (evX (C hs) hs e fr σ) _ _=_
  rw [wW h];rfl
theorem Ci {i:Nat} {e:ME} {v:V} (h:ev (C hs) hs e fr σ=some (v,σ1)):evS C W hs (.asgC i e) fr σ=some (.nxt,fr.sd i v,σ1):=aI h rfl
theorem iC {i:Nat} {e:ME} {v:V} (h:ev (C hs) hs e fr σ=some (v,σ1)):evS C W hs (.asgComp i e) fr σ=some (.nxt,fr.put i v,σ1):=aI h rfl
theorem pY {i j:Nat} {e:ME} {x y:V} (h:ev (C true) true e fr σ=some (.tup [x,y],σ1)):evS C W true (.asg2 i j e) fr σ=some (.nxt,(fr.put i x).put j y,σ1):=aI h rfl
theorem aB {e:ME} {v:V} (h:ev (C hs) hs e fr σ=some (v,σ1)):evS C W hs (.ret e) fr σ=some (.ret v,fr,σ1):=by
  show oN (evX (C hs) hs e fr σ) _ _=_
  rw [wW h];rfl
theorem aw {c:ME} {a b:MS} (h:ev (C hs) hs c fr σ=some (.bool true,σ1)) (k:Ends (evS C W hs a fr σ1) Q):Ends (evS C W hs (.ite c a b) fr σ) Q:=f5 h k
theorem bw {c:ME} {a b:MS} (h:ev (C hs) hs c fr σ=some (.bool false,σ1)) (k:Ends (evS C W hs b fr σ1) Q):Ends (evS C W hs (.ite c a b) fr σ) Q:=f5 h k
theorem aN {c:ME} {a:MS} (h:ev (C hs) hs c fr σ=some (.bool false,σ1)):evS C W hs (.ite c a .nil) fr σ=some (.nxt,fr,σ1):=aI h rfl
theorem aM {o i e:ME} {v x y:V} (h:ev (C hs) hs e fr σ=some (v,σ1)) (h2:ev (C hs) hs o fr σ1=some (x,σ2)) (h3:ev (C hs) hs i fr σ2=some (y,σ3)) (k:setItem x y v σ3=some σ4):evS C W hs (.setitem o i e) fr σ=some (.nxt,fr,σ4):=
  aI h (aI h2 (aI h3 (ay k rfl)))
theorem vO {o e:ME} {m:Nm} {v x:V} (h:ev (C hs) hs e fr σ=some (v,σ1)) (h2:ev (C hs) hs o fr σ1=some (x,σ2)) (k:setAttr x m v σ2=some σ3):evS C W hs (.setattr o m e) fr σ=some (.nxt,fr,σ3):=
  aI h (aI h2 (ay k rfl))
theorem oi {i:Nat} {e:ME} {a b:Int} (h1:fr.locs[i]?.join=some (.int a)) (h:ev (C hs) hs e fr σ=some (.int b,σ1)):evS C W hs (.aug i .add e) fr σ=some (.nxt,fr.put i (.int (a+b)),σ1):=
  ay h1 (aI h rfl)
theorem dy {i:Nat} {it:ME} {b:MS} {x:V} {xs:List V} (h:ev (C hs) hs it fr σ=some (x,σ1)) (h2:itemsOf x σ1=some xs) (k:Ends (ft (fun v fr σ=>evS C W hs b (fr.put i v) σ) x xs 0 fr σ1) Q):Ends (evS C W hs (.for i it b) fr σ) Q:=
  f5 h (cc h2 k)
theorem dB {n:Nat} {f:Fn} {args:List V} {b:MS} {P:V->St->Prop} (hb:(fe f).body=b) (hl:decide ((cU (fe f).params.length (fe f).dfl args).length=(fe f).params.length)=true)
    (h:Ends (evS (af W n) W hs b (frameOf (fe f) args) σ) fun fl _ σ=>match fl with | .ret v=>P v σ | .nxt=>P .none σ | _=>False):Cp (af W (n+1) hs f args σ) P:=by
  subst hb
  refine E31 h fun fl fr1 σ1 e q=>?_
  have e2:∀ {r},(bh (evS (af W n) W hs (fe f).body (frameOf (fe f) args) σ) fun q=>match q.1 with | .ret v=>some (.ok v,q.2.2) | .nxt=>some (.ok .none,q.2.2) | .err x=>some (.error x,q.2.2) | .cnt=>none)=r->af W (n+1) hs f args σ=r:=fun z=>by
    show gd _ _=_
    rw [hl];exact z
  cases fl with
  |ret v=>exact ⟨v,σ1,e2 (ay e rfl),q⟩
  |nxt=>exact ⟨.none,σ1,e2 (ay e rfl),q⟩
  |cnt=>exact q.elim
  |err v=>exact q.elim
theorem Bg {n:Nat} {f:Fn} {args:List V} {b:MS} {P:V->St->Prop} (hb:(fe f).body=b) (hl:decide ((cU (fe f).params.length (fe f).dfl args).length=(fe f).params.length)=true)
    (h:∀ Q:Fl->Fr->St->Prop,(∀ v fr σ,P v σ->Q (.ret v) fr σ)->(∀ fr σ,P .none σ->Q .nxt fr σ)->Ends (evS (af W n) W hs b (frameOf (fe f) args) σ) Q):Cp (af W (n+1) hs f args σ) P:=
  dB hb hl (h _ (fun _ _ _ q=>q) fun _ _ q=>q)
theorem b6 {n:Nat} {f:Fn} {args:List V} {b:MS} {v:V} (hb:(fe f).body=b) (hl:decide ((cU (fe f).params.length (fe f).dfl args).length=(fe f).params.length)=true)
    (h:Ends (evS (af W n) W hs b (frameOf (fe f) args) σ) fun fl _ σ1=>fl=.ret v/\σ1=σ'):af W (n+1) hs f args σ=some (.ok v,σ'):=by
  refine E22 (dB (P:=fun a b=>a=v/\b=σ') hb hl (h.mono fun fl _ σ q=>by rw [q.1];exact ⟨rfl,q.2⟩)) fun _ _ e z3 z4=>?_
  subst z3
  subst z4
  exact e
theorem fM {n:Nat} {f:Fn} {args:List V} {b:MS} (hb:(fe f).body=b) (hl:decide ((cU (fe f).params.length (fe f).dfl args).length=(fe f).params.length)=true)
    (h:Ends (evS (af W n) W hs b (frameOf (fe f) args) σ) fun fl _ σ1=>fl=.nxt/\σ1=σ'):af W (n+1) hs f args σ=some (.ok .none,σ'):=by
  refine E22 (dB (P:=fun a b=>a=.none/\b=σ') hb hl (h.mono fun fl _ σ q=>by rw [q.1];exact ⟨rfl,q.2⟩)) fun _ _ e z3 z4=>?_
  subst z3
  subst z4
  exact e
theorem cw {b:V->Fr->St->fR} {it:V} {all:List V} (J:Nat->Fr->St->Prop) (hit:∀ i fr σ,J i fr σ->itemsOf it σ=some all)
    (h:∀ i x fr σ,all[i]?=some x->J i fr σ->Ends (b x fr σ) fun fl fr σ=>(fl=.nxt\/fl=.cnt)/\J (i+1) fr σ) (fin:∀ fr σ,J all.length fr σ->Q .nxt fr σ):
    ∀ (r:List V) (i:Nat) (fr:Fr) (σ:St),i+r.length=all.length->J i fr σ->Ends (ft b it r i fr σ) Q
  |[],i,fr,σ,hl,hj=>by
    have hl:i=all.length:=hl
    refine cc (hit _ _ _ hj) ?_
    show Ends (gd (decide (all.length<=i)) _) _
    rw [decide_eq_true (Nat.le_of_eq hl.symm)]
    exact .of rfl (fin _ _ (hl▸hj))
  |y::r,i,fr,σ,hl,hj=>by
    have hl:i+(r.length+1)=all.length:=hl
    have hx:=List.getElem?_eq_getElem (show i<all.length from hl▸Nat.lt_add_of_pos_right (Nat.succ_pos _))
    refine E32 (h i _ fr σ hx hj) fun fl fr1 σ1 e1 hf j1=>?_
    have:=cw J hit h fin r (i+1) fr1 σ1 (by rw [Nat.add_right_comm];exact hl) j1
    refine cc (hit _ _ _ hj) (cc hx (cc e1 ?_))
    rcases hf with rfl | rfl<;>exact this
theorem iB {c:Fr->St->Option (V×St)} {b:Fr->St->fR} (J:Nat->Fr->St->Prop)
    (step:∀ k fr σ,J k fr σ->(c fr σ=some (.bool false,σ)/\Q .nxt fr σ)\/(c fr σ=some (.bool true,σ)/\Ends (b fr σ) fun fl fr σ=>match fl with | .nxt=>∃ k',k'<k/\J k' fr σ | .cnt=>∃ k',k'<k/\J k' fr σ | .ret v=>Q (.ret v) fr σ | .err _=>False)):
    ∀ (W k:Nat) (fr:Fr) (σ:St),k<W->J k fr σ->Ends (cz c b W fr σ) Q
  |0,k,fr,σ,h,_=>absurd h (Nat.not_lt_zero _)
  |W+1,k,fr,σ,h,hj=>by
    rcases step k fr σ hj with ⟨e,q⟩ | ⟨e,fl,fr1,σ1,e1,q⟩
    · exact f5 e (.of rfl q)
    · refine f5 e (cc e1 ?_)
      cases fl with
      |nxt=>refine E11 q fun k' hk j=>?_;exact iB J step W k' fr1 σ1 (Nat.lt_of_lt_of_le hk (Nat.le_of_lt_succ h)) j
      |cnt=>refine E11 q fun k' hk j=>?_;exact iB J step W k' fr1 σ1 (Nat.lt_of_lt_of_le hk (Nat.le_of_lt_succ h)) j
      |ret v=>exact .of rfl q
      |err v=>exact q.elim
end
abbrev Cell:=Nat×Nat
noncomputable def cv (c:Cell):V:=.tup [.int c.1,.int c.2]
structure Cfg where
  sy:Nat
  tx:Nat
  an:Nat
  fu:Nat
  fn:Nat
  st:Nat
  hp:Nat
  sp:Nat
  tp:Nat
structure Sym where
  ts:List Tx
  fs:List Cell
noncomputable def stA (c:Cfg):List (Nm×V):=[(.aW,.ref c.sy),(.a8,.int 100000),(.aX,.ref c.hp),(.gw,.ref c.sp),(.jH,.ref c.tp),(.zP,.int 0),(.zO,.int 0)]
noncomputable def syA (c:Cfg):List (Nm×V):=[(.lB,.ref c.tx),(.cF,.ref c.an),(.fw,.ref c.fu),(.bT,.ref c.fn)]
noncomputable def kY (ts:List Tx):List (Tx×V):=ts.zipIdx.map fun p=>(p.1,.int p.2)
noncomputable def kX (fs:List Cell):List ((Int×Int)×V):=fs.zipIdx.map fun p=>(((p.1.1:Int),(p.1.2:Int)),.int p.2)
structure SMem (c:Cfg) (σ:St) (Y:Sym):Prop where
  sy:σ[c.sy]?=some (.inst .symbols (syA c))
  tx:σ[c.tx]?=some (.list (Y.ts.map .str))
  an:σ[c.an]?=some (.dS (kY Y.ts))
  fu:σ[c.fu]?=some (.list (Y.fs.map cv))
  fn:σ[c.fn]?=some (.dP (kX Y.fs))
structure Mem (c:Cfg) (σ:St) (Y:Sym) (H:List Cell):Prop extends SMem c σ Y where
  st:σ[c.st]?=some (.inst .store (stA c))
  hp:σ[c.hp]?=some (.list (H.map cv))
  sp:σ[c.sp]?=some (.list [])
  dj:[c.tx,c.fu,c.hp,c.sp].Nodup
theorem dH {xs:List V} {k:Nat}:jz xs (k:Int)=xs[k]?:=by simp [jz]
theorem cx {H:List Cell} {k:Nat}:jz (H.map cv) (k:Int)=H[k]?.map cv:=by rw [dH,List.getElem?_map]
theorem cC {a b:Cell} {σ:St}:gQ .eq (cv a) (cv b) σ=some (decide (a=b)):=by
  obtain ⟨a1,a2⟩:=a
  obtain ⟨b1,b2⟩:=b
  show gy (veq 11) [.int a1,.int a2] [.int b1,.int b2]=_
  show some (decide ((a1:Int)=b1)&&(decide ((a2:Int)=b2)&&true))=_
  congr 1
  rw [Bool.eq_iff_iff]
  simp [Int.natCast_inj]
theorem bE {a b:Nat} (h:a≠b):decide ((a:Int)=(b:Int))=false:=decide_eq_false fun e=>h (Int.ofNat_inj.mp e)
theorem bX {a b:Nat} (h:a=b):decide ((a:Int)=(b:Int))=true:=decide_eq_true (congrArg _ h)
section
variable {c:Cfg} {σ:St} {Y:Sym} {H:List Cell} {W n:Nat} {hs:Bool}
inductive Der (H:List Cell):Cell->Cell->Nat->Prop
  |done {c:Cell} (h:c.1≠0) (h1:c.1≠1):Der H c c 0
  |self {p:Nat} (h:H[p]?=some (0,p)):Der H (0,p) (0,p) 0
  |step {p:Nat} {c d:Cell} {k:Nat} (h:H[p]?=some c) (hn:c≠(0,p)) (hd:Der H c d k):Der H (0,p) d (k+1)
theorem fE (M:Mem c σ Y H) {a b:Cell} {k:Nat} (d:Der H a b k) (hW:k<W):af W (n+1) hs .kz [.ref c.st,cv a] σ=some (.ok (cv b),σ):=by
  refine b6 rfl rfl (aj (iB (fun k fr σ'=>∃ a x y,Der H a b k/\fr=⟨[some (.ref c.st),some (cv a),x,y],[]⟩/\σ'=σ) ?_ W k _ σ hW ⟨a,_,_,d,rfl,rfl⟩))
  rintro k fr σ' ⟨a,x,y,d,rfl,rfl⟩
  refine .inr ⟨rfl,?_⟩
  have e1:evS (af W n) W hs (.asg 2 (.sub (.loc 1) (.int 0))) ⟨[some (.ref c.st),some (cv a),x,y],[]⟩ σ'=some (.nxt,⟨[some (.ref c.st),some (cv a),some (.int a.1),y],[]⟩,σ'):=rfl
  refine aa e1 ?_
  cases d with
  |done h h1=>
    refine aj (bw (ai (v:=false) rfl rfl (congrArg some (bE h))) (aj (bw (ai (v:=false) rfl rfl (congrArg some (bE h1))) (aA (aB rfl) ⟨rfl,rfl⟩))))
  |@self p h=>
    refine aj (aw (ai (v:=true) rfl rfl rfl) (aa (av (bQ (aH rfl M.st rfl) (ah rfl rfl rfl) M.hp (cx.trans (congrArg _ h)))) (ao ?_)))
    exact aj (aw (ai rfl rfl (cC.trans (by rw [decide_eq_true rfl]))) (aA (aB rfl) ⟨rfl,rfl⟩))
  |@step p c1 _ k h hn hd=>
    refine aj (aw (ai (v:=true) rfl rfl rfl) (aa (av (bQ (aH rfl M.st rfl) (ah rfl rfl rfl) M.hp (cx.trans (congrArg _ h)))) (ao ?_)))
    exact aa (aN (ai rfl rfl (cC.trans (by rw [decide_eq_false hn])))) (aa (av rfl) (ao ⟨k,Nat.lt_succ_self k,c1,_,_,hd,rfl,rfl⟩))
end
section
variable {c:Cfg} {σ:St} {Y:Sym} {H H':List Cell} {W n:Nat} {hs:Bool}
noncomputable def aY (c:Cfg) (σ:St) (H:List Cell):St:=σ.set c.hp (.list (H.map cv))
theorem fX:aY c (aY c σ H) H'=aY c σ H':=by unfold aY;rw [List.set_set]
theorem aC {α:Type} {l:List α} {i:Nat} {x:α} (h:l[i]?=some x):i<l.length:=(List.getElem?_eq_some_iff.mp h).1
theorem iv (M:Mem c σ Y H):aY c σ H=σ:=by
  obtain ⟨h,e⟩:=List.getElem?_eq_some_iff.mp M.hp
  unfold aY
  rw [← e,List.set_getElem_self]
theorem aF {σ:St} {i j:Nat} {x:O} (h:i≠j):(σ.set i x)[j]?=σ[j]?:=List.getElem?_set_ne h
theorem bc {σ:St} {i:Nat} {x y:O} (h:σ[i]?=some y):(σ.set i x)[i]?=some x:=List.getElem?_set_self (aC h)
theorem aQ {σ:St} {i j:Nat} {x y:O} (h:σ[i]?=some x) (h':σ[j]?=some y) (hn:x≠y):i≠j:=fun e=>by subst e;rw [h] at h';exact hn (Option.some.inj h')
theorem Mem.aY (M:Mem c σ Y H) (H':List Cell):Mem c (aY c σ H') Y H':=by
  have d:=M.dj
  simp only [List.nodup_cons,List.mem_cons,List.not_mem_nil,or_false,not_or] at d
  refine E03 d fun y0 y1 d6 _=>?_
  obtain ⟨d1,d2,d3⟩:=y0
  obtain ⟨d4,d5⟩:=y1
  unfold Mine.aY
  exact ⟨⟨(aF (aQ M.hp M.sy (by simp))).trans M.sy,(aF (Ne.symm d2)).trans M.tx,(aF (aQ M.hp M.an (by simp))).trans M.an,(aF (Ne.symm d4)).trans M.fu,(aF (aQ M.hp M.fn (by simp))).trans M.fn⟩,
    (aF (aQ M.hp M.st (by simp))).trans M.st,bc M.hp,(aF d6).trans M.sp,M.dj⟩
theorem eX {a:Cell}:af W (n+1) hs .fH [cv a] σ=some (.ok (.bool (decide (a.1=0)||decide (a.1=1))),σ):=by
  refine b6 rfl rfl (aA (aB ?_) ⟨rfl,rfl⟩)
  by_cases h:a.1=0
  · rw [decide_eq_true h]
    exact AA (ai rfl rfl (congrArg some (bX (b:=0) h)))
  · rw [decide_eq_false h]
    refine rQ (ai rfl rfl (congrArg some (bE (b:=0) h))) (ai rfl rfl ?_)
    by_cases h:a.1=1
    · rw [decide_eq_true h];exact congrArg some (bX (b:=1) h)
    · rw [decide_eq_false h];exact congrArg some (bE (b:=1) h)
theorem eJ {s:V} {a:Cell}:af W (n+1) hs .dz [s,cv a] σ=some (.ok (.bool (decide (a.1=2)||decide (a.1=3))),σ):=by
  refine b6 rfl rfl (aA (aB ?_) ⟨rfl,rfl⟩)
  by_cases h:a.1=2
  · rw [decide_eq_true h]
    exact AA (ai rfl rfl (congrArg some (bX (b:=2) h)))
  · rw [decide_eq_false h]
    refine rQ (ai rfl rfl (congrArg some (bE (b:=2) h))) (ai rfl rfl ?_)
    by_cases h:a.1=3
    · rw [decide_eq_true h];exact congrArg some (bX (b:=3) h)
    · rw [decide_eq_false h];exact congrArg some (bE (b:=3) h)
noncomputable def bs (a:Cell):Nat:=if a.1=3 then a.2 else a.2+1
inductive eB (Y:Sym) (H:List Cell):Cell->Nat->Nat->Prop
  |lis (p:Nat):eB Y H (3,p) 0 2
  |str {p f t w:Nat} (h:H[p]?=some (6,f)) (hf:Y.fs[f]?=some (t,w)) (h0:f≠0):eB Y H (2,p) f w
theorem iW {s:V} {a:Cell}:af W (n+1) hs .lL [s,cv a] σ=some (.ok (.int (bs a)),σ):=by
  refine b6 rfl rfl ?_
  unfold bs
  by_cases h:a.1=3
  · rw [if_pos h]
    exact aj (aw (ai rfl rfl (congrArg some (bX (b:=3) h))) (aA (aB rfl) ⟨rfl,rfl⟩))
  · rw [if_neg h]
    exact aa (aN (ai rfl rfl (congrArg some (bE (b:=3) h)))) (aA (aB rfl) ⟨rfl,rfl⟩)
theorem tA (M:SMem c σ Y) {f t w:Nat} (hf:Y.fs[f]?=some (t,w)):af W (n+1) hs .iJ [.ref c.sy,.int f] σ=some (.ok (.int w),σ):=by
  refine b6 rfl rfl (aA (aB (ah (bQ (aH rfl M.sy rfl) rfl M.fu (cx.trans (congrArg _ hf))) rfl rfl)) ⟨rfl,rfl⟩)
theorem js (M:Mem c σ Y H) {a:Cell} {f w:Nat} (h:eB Y H a f w):af W (n+1) hs .fP [.ref c.st,cv a] σ=some (.ok (.int f),σ):=by
  refine b6 rfl rfl (aa (av rfl) ?_)
  cases h with
  |lis p=>exact aa (aN (ai (v:=false) rfl rfl rfl)) (aj (aw (ai (v:=true) rfl rfl rfl) (aA (aB rfl) ⟨rfl,rfl⟩)))
  |str h hf=>exact aj (aw (ai (v:=true) rfl rfl rfl) (aA (aB (ah (bQ (aH rfl M.st rfl) rfl M.hp (cx.trans (congrArg _ h))) rfl rfl)) ⟨rfl,rfl⟩))
theorem ll (M:Mem c σ Y H) {a:Cell} {f w:Nat} (h:eB Y H a f w):af W (n+2) hs .kA [.ref c.st,cv a] σ=some (.ok (.int w),σ):=by
  refine b6 rfl rfl (aa (av rfl) ?_)
  cases h with
  |lis p=>exact aj (aw (ai (v:=true) rfl rfl rfl) (aA (aB rfl) ⟨rfl,rfl⟩))
  |str h hf=>
    exact aa (aN (ai (v:=false) rfl rfl rfl)) (aj (aw (ai (v:=true) rfl rfl rfl)
      (aA (aB (e_m (aH rfl M.st rfl) M.sy rfl (ab (ah (bQ (aH rfl M.st rfl) rfl M.hp (cx.trans (congrArg _ h))) rfl rfl)) (tA M.toSMem hf))) ⟨rfl,rfl⟩)))
theorem Av (M:Mem c σ Y H) {a x:Cell} {i:Nat} (h:H[bs a+i]?=some x):af W (n+2) hs .nk [.ref c.st,cv a,.int ((i+1:Nat):Int)] σ=some (.ok (cv x),σ):=by
  refine b6 rfl rfl (aA (aB (bQ (aH rfl M.st rfl) (bJ (x:=.int ((bs a+(i+1):Nat):Int)) (bJ (e_m rfl M.st rfl (ab rfl) iW) rfl (tq (by lia))) rfl (v:=.int ((bs a+i:Nat):Int)) ?_) M.hp (cx.trans (congrArg _ h)))) ⟨rfl,rfl⟩)
  exact k9 (by lia)
theorem Bf (M:Mem c σ Y H) (x:Cell) (hl:H.length<100000):af W (n+1) hs .lN [.ref c.st,cv x] σ=some (.ok (.int H.length),aY c σ (H++[x])):=by
  refine b6 rfl rfl (aa (av (bF (ab (aH rfl M.st rfl)) (bD M.hp))) ?_)
  refine aa (aN (ai rfl (aH rfl M.st rfl) (congrArg some (decide_eq_false (by rw [List.length_map];lia))))) ?_
  refine aa (aS (cE (aH rfl M.st rfl) M.hp rfl (fun _=>nofun) (ab rfl) (bp M.hp (by rw [List.length_map];unfold fits;exact decide_eq_true (by (refine Nat.le_trans (by assumption) ?_;decide)))))) ?_
  refine aA (aB rfl) ⟨by rw [List.length_map],?_⟩
  unfold aY
  rw [List.map_append];rfl
theorem u9 (M:Mem c σ Y H) (hl:H.length<100000):af W (n+2) hs .iH [.ref c.st] σ=some (.ok (cv (0,H.length)),aY c σ (H++[(0,H.length)])):=by
  refine b6 rfl rfl (aa (av (au (ae rfl (ab (bF (ab (aH rfl M.st rfl)) (bD M.hp)))) rfl)) ?_)
  rw [List.length_map]
  refine aa (aS (e_m rfl M.st rfl (ab rfl) (Bf M (0,H.length) hl))) (aA (aB rfl) ⟨rfl,rfl⟩)
end
section
variable {c:Cfg} {σ:St} {Y:Sym} {H H':List Cell} {W n:Nat} {hs:Bool}
theorem pD {k i:Nat} {x:V} (e:(fZ 0 (k:Int) 1)[i]?=some x):x=.int i/\i<k:=by
  unfold fZ nh at e
  rw [List.getElem?_map] at e
  refine E11 (Option.map_eq_some_iff.mp e) fun j e1 e2=>?_
  obtain ⟨h1,h2⟩:=List.getElem?_eq_some_iff.mp e1
  simp at h1 h2
  subst h2;subst e2
  exact ⟨by simp,h1⟩
theorem dY {k:Nat}:(fZ 0 (k:Int) 1).length=k:=by unfold fZ nh;simp
theorem sh {k i:Nat} {x:V} (e:(fZ ((k:Int) - 1) (-1) (-1))[i]?=some x):x=.int ((k - 1 - i:Nat):Int)/\i<k:=by
  unfold fZ nh at e
  rw [List.getElem?_map] at e
  refine E11 (Option.map_eq_some_iff.mp e) fun j e1 e2=>?_
  obtain ⟨h1,h2⟩:=List.getElem?_eq_some_iff.mp e1
  simp at h1 h2
  subst h2;subst e2
  refine ⟨congrArg V.int ?_,by assumption⟩
  lia
theorem jb {k:Nat}:(fZ ((k:Int) - 1) (-1) (-1)).length=k:=by unfold fZ nh;simp
theorem w4 {k:Nat} (h:k<=1000000):i0 (k:Int)=true:=by unfold i0;simp;lia
theorem nu {k:Nat} (h:k<=1000000):jx hs .range [.int (k:Int)] σ=some (.rng 0 k 1,σ):=iZ (w4 h) rfl
theorem rC {k:Nat} (h:k<=1000000):jx hs .range [.int ((k:Int) - 1),.int (-1),.int (-1)] σ=some (.rng ((k:Int) - 1) (-1) (-1),σ):=by
  have:i0 ((k:Int) - 1)=true:=by unfold i0;simp;lia
  exact iZ (by rw [this];rfl) rfl
noncomputable def refs (h k:Nat):List Cell:=(List.range k).map fun i=>(0,h+i)
theorem vC (h k:Nat):refs h (k+1)=refs h k++[(0,h+k)]:=by unfold refs;rw [List.range_succ,List.map_append];rfl
theorem fY (h k:Nat):(refs h k).length=k:=by unfold refs;simp
theorem jY (M:Mem c σ Y H) {k:Nat} (hl:H.length+k<=100000):af W (n+1) hs .iI [.ref c.st,.int k] σ=some (.ok (.int H.length),aY c σ (H++refs H.length k)):=by
  refine b6 rfl rfl (aa (av (bF (ab (aH rfl M.st rfl)) (bD M.hp))) ?_)
  refine aa (aN (ai (bJ rfl rfl rfl) (aH rfl M.st rfl) (congrArg some (decide_eq_false (by rw [List.length_map];lia))))) ?_
  rw [List.length_map]
  refine aj (dy (bF (ab rfl) (nu (by lia))) rfl ?_)
  refine cw (fun i fr σ'=>σ'=aY c σ (H++refs H.length i)/\∃ x,fr=⟨[some (.ref c.st),some (.int k),some (.int H.length),x],[]⟩) (fun _ _ _ _=>rfl) ?_ ?_ _ 0 _ _ (by rw [Nat.zero_add]) ⟨?_,_,rfl⟩
  · rintro i x fr σ' hx ⟨rfl,y,rfl⟩
    refine E01 (pD hx) fun z0 hi=>?_
    subst z0
    have M':=M.aY (H++refs H.length i)
    refine aa (aS (cE (aH rfl M'.st rfl) M'.hp rfl (fun _=>nofun) (ab (au (ae rfl (ab (bJ rfl rfl rfl))) rfl)) (bp M'.hp (by rw [List.length_map,List.length_append,fY];unfold fits;exact decide_eq_true (by lia))))) (ao ⟨.inl rfl,?_,_,rfl⟩)
    unfold aY
    rw [List.set_set,vC,← List.append_assoc,List.map_append (l₁:=H++refs H.length i)]
    rfl
  · rintro fr σ' ⟨rfl,x,rfl⟩
    rw [dY]
    exact aA (aB rfl) ⟨rfl,rfl⟩
  · show σ=aY c σ (H++refs H.length 0)
    rw [show refs H.length 0=[] from rfl,List.append_nil,iv M]
theorem u6 (M:Mem c σ Y H) (hl:H.length+2<=100000):af W (n+2) hs .cY [.ref c.st,.int (0:Nat)] σ=some (.ok (cv (3,H.length)),aY c σ (H++refs H.length 2)):=by
  refine b6 rfl rfl (aj (aw (ai (v:=true) rfl rfl rfl) (aA (aB (au (ae rfl (ab (e_m rfl M.st rfl (ab rfl) (jY M (k:=2) hl)))) rfl)) ⟨rfl,rfl⟩)))
theorem u7 (M:Mem c σ Y H) {f t k:Nat} (h0:f≠0) (hf:Y.fs[f]?=some (t,k)) (hl:H.length+(k+1)<=100000):
    af W (n+2) hs .cY [.ref c.st,.int f] σ=some (.ok (cv (2,H.length)),aY c σ (H++(6,f)::refs (H.length+1) k)):=by
  refine b6 rfl rfl (aa (aN (ai rfl rfl (congrArg some (bE (b:=0) h0)))) ?_)
  have a1:ev (af W (n+1) hs) hs (.bin .add (.int 1) (.mcall (.attr (.loc 0) .aW) .lA (.cons (.loc 1) .nil))) ⟨[some (.ref c.st),some (.int f),none],[]⟩ σ=some (.int ((k+1:Nat):Int),σ):=
    bJ rfl (e_m (aH rfl M.st rfl) M.sy rfl (ab rfl) (tA M.toSMem hf)) (tq (by lia))
  refine aa (av (e_m rfl M.st rfl (ab a1) (jY M hl))) ?_
  have M':=M.aY (H++refs H.length (k+1))
  refine aa (aM (au (ae rfl (ab rfl)) rfl) (aH rfl M'.st rfl) rfl (dh M'.hp (by simp) ?_)) (aA (aB (au (ae rfl (ab rfl)) rfl)) ⟨rfl,?_⟩)
  · rw [List.length_map,List.length_append,fY];simp
  · unfold aY
    rw [List.set_set,Int.toNat_natCast]
    have e:cv (6,f)=.tup [.int 6,.int f]:=rfl
    rw [← e,← List.map_set]
    congr 2
    rw [List.set_append_right _ _ (Nat.le_refl _),Nat.sub_self]
    congr 1
    congr 1
    unfold refs
    rw [List.range_succ_eq_map,List.map_cons,List.set_cons_zero,List.map_map]
    congr 1
    apply List.map_congr_left
    intro i _
    show (0,H.length+(i+1))=(0,H.length+1+i)
    rw [Nat.add_comm i 1,Nat.add_assoc]
theorem rF (M:Mem c σ Y H) {p:Nat} {x:Cell} (hp:p<H.length):af W (n+1) hs .lM [.ref c.st,cv (0,p),cv x] σ=some (.ok .none,aY c σ (H.set p x)):=by
  have M':=M.aY (H.set p x)
  refine fM rfl rfl (aa (av (ah rfl rfl rfl)) (aj (aw (ai (v:=true) (ah rfl rfl rfl) rfl rfl) ?_)))
  refine aa (aM rfl (aH rfl M.st rfl) rfl (dh M.hp (Int.natCast_nonneg p) (by rw [List.length_map];exact hp))) ?_
  rw [Int.toNat_natCast,← List.map_set]
  exact aa (aN (ai rfl (aH rfl M'.st rfl) (congrArg some (decide_eq_false (Int.not_lt.mpr (Int.natCast_nonneg p)))))) (ao (ao ⟨rfl,rfl⟩))
theorem gJ (M:Mem c σ Y H) {a b:Cell} {k:Nat} (d:Der H a b k) (hb:b.1≠1) (hW:k<W):af W (n+2) hs .eP [.ref c.st,cv a] σ=some (.ok (cv b),σ):=by
  refine b6 rfl rfl (aa (av (e_m rfl M.st rfl (ab rfl) (fE M d hW))) ?_)
  exact aa (aN (ai (ah rfl rfl rfl) rfl (congrArg some (bE (b:=1) hb)))) (aA (aB rfl) ⟨rfl,rfl⟩)
theorem qm (M:Mem c σ Y H) {p q:Nat} (hp:p<H.length) (hq:q<H.length) (hne:p≠q):
    af W (n+2) hs .gz [.ref c.st,cv (0,p),cv (0,q)] σ=some (.ok .none,aY c σ (if p<q then H.set q (0,p) else H.set p (0,q))):=by
  refine fM rfl rfl (aa (aN (ai rfl rfl (cC.trans (by rw [decide_eq_false];intro e;exact hne (congrArg Prod.snd e))))) ?_)
  refine aj (aw (ai (v:=true) (ah rfl rfl rfl) (ah rfl rfl rfl) (congrArg some (bX rfl))) ?_)
  by_cases h:p<q
  · rw [if_pos h]
    exact aj (aw (ai (ah rfl rfl rfl) (ah rfl rfl rfl) (congrArg some (decide_eq_true (Int.ofNat_lt.mpr h)))) (aa (aS (e_m rfl M.st rfl (ae rfl (ab rfl)) (rF M hq))) (ao (ao (ao ⟨rfl,rfl⟩)))))
  · rw [if_neg h]
    exact aj (bw (ai (ah rfl rfl rfl) (ah rfl rfl rfl) (congrArg some (decide_eq_false fun e=>h (Int.ofNat_lt.mp e)))) (aa (aS (e_m rfl M.st rfl (ae rfl (ab rfl)) (rF M hp))) (ao (ao (ao ⟨rfl,rfl⟩)))))
end
section
variable {c:Cfg} {σ:St} {Y:Sym} {H H':List Cell} {W n:Nat} {hs:Bool} {l:St}
theorem aq {i:Nat} {x:O} (h:σ[i]?=some x):(σ++l)[i]?=some x:=by rw [List.getElem?_append_left (aC h)];exact h
theorem aE {k:Nat}:(σ++l)[σ.length+k]?=l[k]?:=by rw [List.getElem?_append_right (Nat.le_add_right _ _),Nat.add_sub_cancel_left]
theorem cq {k:Nat} {x:O}:(σ++l).set (σ.length+k) x=σ++l.set k x:=by rw [List.set_append_right _ _ (Nat.le_add_right _ _),Nat.add_sub_cancel_left]
theorem SMem.app (M:SMem c σ Y) (l:St):SMem c (σ++l) Y:=⟨aq M.sy,aq M.tx,aq M.an,aq M.fu,aq M.fn⟩
theorem Mem.app (M:Mem c σ Y H) (l:St):Mem c (σ++l) Y H:=⟨M.toSMem.app l,aq M.st,aq M.hp,aq M.sp,M.dj⟩
theorem fA (M:Mem c σ Y H):Mine.aY c (σ++l) H'=Mine.aY c σ H'++l:=by
  unfold Mine.aY
  rw [List.set_append_left _ _ (aC M.hp)]
theorem fits_of {k:Nat} (h:k<1000000):fits k=true:=by unfold fits;exact decide_eq_true h
noncomputable def f7 (H:List Cell) (p:Nat) (as:List Cell):Prop:=∀ j,j<as.length->H[p+j]?=as[j]?
theorem bM {α:Type} {l:List α} {i:Nat} {x:α} (h:l[i]?=some x):l.take (i+1)=l.take i++[x]:=by rw [List.take_add_one,h];rfl
theorem fD {i w:Nat} (h:i<w):w - 1 - i<w:=Nat.lt_of_le_of_lt (Nat.sub_le _ _) (Nat.sub_one_lt (Nat.ne_of_gt (Nat.lt_of_le_of_lt (Nat.zero_le _) h)))
theorem Cg {s w:Nat} (h:s+w<=100000):w<=1000000:=Nat.le_trans (Nat.le_add_left _ _) (Nat.le_trans h (by decide))
theorem xV {s w i m:Nat} (h:s+w<=100000) (hi:i<w):s+min i m<1000000:=Nat.lt_of_le_of_lt (Nat.add_le_add_left (Nat.le_trans (Nat.min_le_left _ _) (Nat.le_of_lt hi)) _) (Nat.lt_of_le_of_lt h (by decide))
theorem kG (M:Mem c σ Y H) {a:Cell} {f w k:Nat} {as S:List Cell} (hc:eB Y H a f w) (hw:as.length=w) (ha:f7 H (bs a) as) (hl:l[k]?=some (.list (S.map cv))) (hS:S.length+w<=100000):
    af W (n+3) hs .fy [.ref c.st,cv a,.ref (σ.length+k)] (σ++l)=some (.ok .none,σ++l.set k (.list ((S++as.reverse).map cv))):=by
  have M0:=M.app l
  refine fM rfl rfl (aa (av (e_m rfl M0.st rfl (ab rfl) iW)) ?_)
  refine aj (dy (bF (ae (bJ (e_m rfl M0.st rfl (ab rfl) (ll M0 hc)) rfl rfl) (ae (fF rfl) (ab (fF rfl)))) (rC (Cg hS))) rfl ?_)
  refine cw (fun i fr σ'=>σ'=σ++l.set k (.list ((S++as.reverse.take i).map cv))/\∃ x,fr=⟨[some (.ref c.st),some (cv a),some (.ref (σ.length+k)),some (.int (bs a)),x],[]⟩) (fun _ _ _ _=>rfl) ?_ ?_ _ 0 _ _ (by rw [Nat.zero_add]) ⟨?_,_,rfl⟩
  · rintro i x fr σ' hx ⟨rfl,y,rfl⟩
    refine E01 (sh hx) fun z0 hi=>?_
    subst z0
    have M':=M.app (l.set k (.list ((S++as.reverse.take i).map cv)))
    obtain ⟨x,hx⟩:∃ x,as[w - 1 - i]?=some x:=⟨_,List.getElem?_eq_getElem (by rw [hw];exact fD hi)⟩
    have hxr:as.reverse[i]?=some x:=by rw [List.getElem?_reverse (by rw [hw];exact hi),hw];exact hx
    have g:(σ++l.set k (.list ((S++as.reverse.take i).map cv)))[σ.length+k]?=some (.list ((S++as.reverse.take i).map cv)):=aE.trans (bc hl)
    refine aa (aS (cE rfl g rfl (fun _=>nofun) (ab (bQ (aH rfl M'.st rfl) (bJ rfl rfl (v:=.int ((bs a+(w - 1 - i):Nat):Int)) rfl) M'.hp (cx.trans (congrArg _ ((ha _ (by rw [hw];exact fD hi)).trans hx))))) (bp g (by rw [List.length_map,List.length_append,List.length_take];exact fits_of (xV hS hi))))) (ao ⟨.inl rfl,?_,_,rfl⟩)
    rw [cq,List.set_set,bM hxr,← List.append_assoc,List.map_append (l₁:=S++as.reverse.take i)]
    rfl
  · rintro fr σ' ⟨rfl,x,rfl⟩
    rw [jb,← hw,show as.reverse.take as.length=as.reverse from List.take_of_length_le (by simp)]
    exact ao ⟨rfl,rfl⟩
  · show σ++l=σ++l.set k (.list ((S++[]).map cv))
    rw [List.append_nil]
    obtain ⟨h,e⟩:=List.getElem?_eq_some_iff.mp hl
    rw [← e,List.set_getElem_self]
end
set_option genInjectivity true in
mutual
inductive T|v (n:Nat)|a (n:Nat)|i (n:Nat)|s (f:Nat) (l:TL)
inductive TL|nil|cons (t:T) (r:TL)
end
noncomputable def T.ctorIdx (b:T):Nat:=b.casesOn (fun _=>0) (fun _=>1) (fun _=>2) fun _ _=>3
noncomputable def TL.ctorIdx (b:TL):Nat:=b.casesOn 0 fun _ _=>1
mutual
noncomputable def sz:T->Nat
  |.v _=>1
  |.a _=>1
  |.i _=>1
  |.s _ l=>szL l+1
noncomputable def szL:TL->Nat
  |.nil=>0
  |.cons t r=>sz t+szL r
end
noncomputable def aU:TL->Nat
  |.nil=>0
  |.cons _ r=>aU r+1
mutual
noncomputable def tv:T->V
  |.v n=>.tup [.str .t_v,.int n]
  |.a n=>.tup [.str .t_a,.int n]
  |.i n=>.tup [.str .t_i,.int n]
  |.s f l=>.tup [.str .t_s,.int f,.tup (tvl l)]
noncomputable def tvl:TL->List V
  |.nil=>[]
  |.cons t r=>tv t::tvl r
end
mutual
noncomputable def aJ (κ:Nat) (Y:Sym) (H:List Cell):Cell->T->Prop
  |c,.v p=>c=(0,p)/\H[p]?=some (0,p)
  |c,.a n=>c=(4,n)
  |c,.i n=>c=(5,n)
  |c,.s f l=>eB Y H c f (aU l)/\cA κ Y H (bs c) l
noncomputable def cA (κ:Nat) (Y:Sym) (H:List Cell):Nat->TL->Prop
  |_,.nil=>True
  |p,.cons t r=>(∃ k x d,H[p]?=some x/\Der H x d k/\k<=κ/\aJ κ Y H d t)/\cA κ Y H (p+1) r
end
section
variable {κ p f w k n:Nat} {t:T} {l r:TL} {Y:Sym} {H:List Cell} {c d:Cell}
theorem aJ.v (h:H[p]?=some (0,p)):aJ κ Y H (0,p) (.v p):=⟨rfl,h⟩
theorem aJ.a (n:Nat):aJ κ Y H (4,n) (.a n):=rfl
theorem aJ.i (n:Nat):aJ κ Y H (5,n) (.i n):=rfl
theorem aJ.s (h:eB Y H c f w) (hl:cA κ Y H (bs c) l) (hw:aU l=w):aJ κ Y H c (.s f l):=⟨hw▸h,hl⟩
theorem cA.nil (p:Nat):cA κ Y H p .nil:=trivial
theorem cA.cons (h:H[p]?=some c) (hd:Der H c d k) (hk:k<=κ) (ht:aJ κ Y H d t) (hr:cA κ Y H (p+1) r):cA κ Y H p (.cons t r):=⟨⟨k,c,d,h,hd,hk,ht⟩,hr⟩
theorem aJ.var (h:aJ κ Y H d (.v p)):d=(0,p)/\H[p]?=some (0,p):=h
theorem aJ.atm (h:aJ κ Y H d (.a p)):d=(4,p):=h
theorem aJ.itm (h:aJ κ Y H d (.i p)):d=(5,p):=h
theorem aJ.cmp (h:aJ κ Y H d (.s f l)):∃ w,eB Y H d f w/\cA κ Y H (bs d) l/\aU l=w:=⟨_,h.1,h.2,rfl⟩
theorem cA.con (h:cA κ Y H p (.cons t r)):∃ k x d,H[p]?=some x/\Der H x d k/\k<=κ/\aJ κ Y H d t/\cA κ Y H (p+1) r:=E33 h.1 fun k x d a b c e=>⟨k,x,d,a,b,c,e,h.2⟩
theorem fB {a b p q:Nat} {P:Prop} (h:c=(a,p)) (h':c=(b,q)) (n:a≠b):P:=absurd (congrArg Prod.fst (h.symm.trans h')) n
theorem eB.tag (h:eB Y H c f w):c.1=2\/c.1=3:=by cases h with | lis=>exact .inr rfl | str=>exact .inl rfl
theorem eB.inv (h:eB Y H c f w):(c.1=3/\f=0/\w=2)\/(c.1=2/\H[c.2]?=some (6,f)):=by
  cases h with
  |lis=>exact .inl ⟨rfl,rfl,rfl⟩
  |str h=>exact .inr ⟨rfl,h⟩
theorem eB.no {b q:Nat} {P:Prop} (h:eB Y H c f w) (h':c=(b,q)) (n:b≠2) (m:b≠3):P:=h.tag.elim (fun e=>absurd ((congrArg Prod.fst h').symm.trans e) n) fun e=>absurd ((congrArg Prod.fst h').symm.trans e) m
end
noncomputable def Rep (κ:Nat) (Y:Sym) (H:List Cell) (c:Cell) (t:T):Prop:=∃ d k,Der H c d k/\k<=κ/\aJ κ Y H d t
theorem kj (t:T):0<sz t:=by cases t<;>exact Nat.succ_pos _
theorem Der.fn {H:List Cell} {a b b':Cell} {k k':Nat} (h:Der H a b k):Der H a b' k'->b=b':=by
  induction h generalizing k' with
  |done h0 h1=>
    intro h'
    cases h' with
    |done=>rfl
    |self=>exact absurd rfl h0
    |step=>exact absurd rfl h0
  |self h=>
    intro h'
    cases h' with
    |done h0=>exact absurd rfl h0
    |self=>rfl
    |step h' hn=>rw [h] at h';exact absurd (Option.some.inj h').symm hn
  |step h hn d ih=>
    intro h'
    cases h' with
    |done h0=>exact absurd rfl h0
    |self h'=>rw [h] at h';exact absurd (Option.some.inj h') hn
    |step h' _ d'=>obtain rfl:=sm h h';exact ih d'
theorem eB.fn {Y:Sym} {H:List Cell} {c:Cell} {f w f' w':Nat} (h:eB Y H c f w) (h':eB Y H c f' w'):f=f'/\w=w':=by
  cases h with
  |lis=>cases h';exact ⟨rfl,rfl⟩
  |str h hf=>
    cases h' with
    |str h' hf'=>
      obtain rfl:=(Prod.mk.inj (sm h h')).2
      exact ⟨rfl,(Prod.mk.inj (sm hf hf')).2⟩
theorem ux {a b p:Nat} {c:Cell} (h:c=(p,a)) (h':c=(p,b)):a=b:=congrArg Prod.snd (h.symm.trans h')
mutual
theorem aJ.fn {κ:Nat} {Y:Sym} {H:List Cell} {c:Cell}:∀ {t t':T},aJ κ Y H c t->aJ κ Y H c t'->t=t'
  |.v _,.v _,h,h'=>congrArg T.v (ux h.1 h'.1)
  |.v _,.a _,h,h'=>fB h.1 h' (by decide)
  |.v _,.i _,h,h'=>fB h.1 h' (by decide)
  |.v _,.s _ _,h,h'=>h'.1.no h.1 (by decide) (by decide)
  |.a _,.v _,h,h'=>fB h h'.1 (by decide)
  |.a _,.a _,h,h'=>congrArg T.a (ux h h')
  |.a _,.i _,h,h'=>fB h h' (by decide)
  |.a _,.s _ _,h,h'=>h'.1.no h (by decide) (by decide)
  |.i _,.v _,h,h'=>fB h h'.1 (by decide)
  |.i _,.a _,h,h'=>fB h h' (by decide)
  |.i _,.i _,h,h'=>congrArg T.i (ux h h')
  |.i _,.s _ _,h,h'=>h'.1.no h (by decide) (by decide)
  |.s _ _,.v _,h,h'=>h.1.no h'.1 (by decide) (by decide)
  |.s _ _,.a _,h,h'=>h.1.no h' (by decide) (by decide)
  |.s _ _,.i _,h,h'=>h.1.no h' (by decide) (by decide)
  |.s f l,.s g l',h,h'=>by rw [(h.1.fn h'.1).1,cA.fn h.2 h'.2 (h.1.fn h'.1).2]
theorem cA.fn {κ:Nat} {Y:Sym} {H:List Cell}:∀ {l l':TL} {p:Nat},cA κ Y H p l->cA κ Y H p l'->aU l=aU l'->l=l'
  |.nil,.nil,_,_,_,_=>rfl
  |.nil,.cons _ _,_,_,_,e=>absurd e.symm (Nat.succ_ne_zero _)
  |.cons _ _,.nil,_,_,_,e=>absurd e (Nat.succ_ne_zero _)
  |.cons t r,.cons t' r',p,h,h',e=>E33 h.1 fun k x d a b _ q=>E33 h'.1 fun k' x' d' a' b' _ q'=>by
    obtain rfl:=sm a a'
    obtain rfl:=b.fn b'
    rw [aJ.fn q q',cA.fn h.2 h'.2 (Nat.succ.inj e)]
end
theorem cA.cells {κ:Nat} {Y:Sym} {H:List Cell}:∀ {l:TL} {p:Nat},cA κ Y H p l->∃ as,as.length=aU l/\f7 H p as
  |.nil,p,_=>⟨[],rfl,fun j hj=>absurd hj (Nat.not_lt_zero _)⟩
  |.cons t r,p,h=>E33 h.1 fun k c d a _ _ _=>E11 (cA.cells h.2) fun as e1 e2=>⟨c::as,congrArg (·+1) e1,fun j hj=>by
    cases j with
    |zero=>exact a
    |succ j=>rw [Nat.add_succ,← Nat.succ_add];exact e2 j (Nat.lt_of_succ_lt_succ hj)⟩
theorem cA.no6 {κ p f:Nat} {Y:Sym} {H:List Cell} {l:TL} {P:Prop} (h6:H[p]?=some (6,f)) (hl:cA κ Y H p l) (hw:aU l=2):P:=by
  cases l with
  |nil=>exact absurd hw.symm (by decide:¬ (2=0))
  |cons t r=>
    refine E33 hl.1 fun k x d a b _ q=>?_
    obtain rfl:=sm h6 a
    have e:d=(6,f):=b.fn (.done (by decide:¬ (6=0)) (by decide:¬ (6=1))) |>.symm▸rfl
    cases t with
    |v n=>exact fB e q.1 (by decide)
    |a n=>exact fB e q (by decide)
    |i n=>exact fB e q (by decide)
    |s g l=>exact q.1.no e (by decide) (by decide)
theorem eB.inj {κ f f':Nat} {l l':TL} {Y:Sym} {H:List Cell} {c c':Cell} (h:aJ κ Y H c (.s f l)) (h':aJ κ Y H c' (.s f' l')) (e:c.2=c'.2):c=c':=by
  refine Prod.ext ?_ e
  have b3:∀ {c:Cell},c.1=3->bs c=c.2:=fun q=>if_pos q
  rcases h.1.inv with ⟨q,_,z⟩ | ⟨q,h6⟩<;>rcases h'.1.inv with ⟨q',_,z'⟩ | ⟨q',h6'⟩
  · exact q.trans q'.symm
  · exact cA.no6 (e▸h6') (b3 q▸h.2) z
  · exact cA.no6 (e▸h6) (b3 q'▸h'.2) z'
  · exact q.trans q'.symm
theorem aJ.jX {κ:Nat} {Y:Sym} {H:List Cell} {c c':Cell} {t t':T} (h:aJ κ Y H c t) (h':aJ κ Y H c' t') (hc:c.1=2\/c.1=3) (hc':c'.1=2\/c'.1=3) (e:c.2=c'.2):t=t':=by
  have cp:∀ {c:Cell} {t:T},aJ κ Y H c t->(c.1=2\/c.1=3)->∃ f l,t=.s f l:=fun {c t} h hc=>by
    have go:∀ {a p:Nat},c=(a,p)->a≠2->a≠3->∃ f l,t=.s f l:=fun e n m=>hc.elim (fun q=>absurd ((congrArg Prod.fst e).symm.trans q) n) fun q=>absurd ((congrArg Prod.fst e).symm.trans q) m
    cases t with
    |v n=>exact go h.1 (by decide) (by decide)
    |a n=>exact go h (by decide) (by decide)
    |i n=>exact go h (by decide) (by decide)
    |s f l=>exact ⟨f,l,rfl⟩
  refine E20 (cp h hc) fun f l e1=>E20 (cp h' hc') fun g l' e2=>?_
  subst e1
  subst e2
  exact aJ.fn h ((eB.inj h h' e)▸h')
mutual
noncomputable def occ (p:Nat):T->Bool
  |.v q=>decide (p=q)
  |.a _=>false
  |.i _=>false
  |.s _ l=>cJ p l
noncomputable def cJ (p:Nat):TL->Bool
  |.nil=>false
  |.cons t r=>occ p t||cJ p r
end
mutual
noncomputable def vfs:T->List Nat->List Nat
  |.v p,F=>if p∈F then F else F++[p]
  |.a _,F=>F
  |.i _,F=>F
  |.s _ l,F=>dQ l F
noncomputable def dQ:TL->List Nat->List Nat
  |.nil,F=>F
  |.cons t r,F=>dQ r (vfs t F)
end
theorem b9 {p:Nat} (t:T):∀ F:List Nat,p∈vfs t F↔p∈F\/occ p t=true:=
  t.rec (motive_1:=fun t=>∀ F:List Nat,p∈vfs t F↔p∈F\/occ p t=true) (motive_2:=fun l=>∀ F:List Nat,p∈dQ l F↔p∈F\/cJ p l=true)
    (fun q F=>by
      show p∈(if q∈F then F else F++[q])↔p∈F\/decide (p=q)=true
      rw [decide_eq_true_iff]
      by_cases h:q∈F
      · rw [if_pos h];exact ⟨.inl,fun h1=>h1.elim id fun e=>e▸h⟩
      · rw [if_neg h,List.mem_append,List.mem_singleton])
    (fun _ _=>⟨.inl,fun h=>h.elim id nofun⟩) (fun _ _=>⟨.inl,fun h=>h.elim id nofun⟩) (fun _ _ h=>h) (fun _=>⟨.inl,fun h=>h.elim id nofun⟩)
    fun t r h1 h2 F=>(h2 _).trans (by rw [h1 F,or_assoc];show _↔_\/(occ p t||cJ p r)=true;rw [Bool.or_eq_true])
theorem yE {p:Nat} (l:TL) (F:List Nat):p∈dQ l F↔p∈F\/cJ p l=true:=b9 (.s 0 l) F
theorem pV (t:T):∀ F:List Nat,(∀ p,occ p t=true->p∈F)->vfs t F=F:=
  t.rec (motive_1:=fun t=>∀ F:List Nat,(∀ p,occ p t=true->p∈F)->vfs t F=F) (motive_2:=fun l=>∀ F:List Nat,(∀ p,cJ p l=true->p∈F)->dQ l F=F)
    (fun q _ h=>if_pos (h q (decide_eq_true rfl))) (fun _ _ _=>rfl) (fun _ _ _=>rfl) (fun _ _ h=>h) (fun _ _=>rfl)
    fun t r h1 h2 F h=>by
      show dQ r (vfs t F)=F
      rw [h1 F fun p e=>h p (show (occ p t||cJ p r)=true by rw [e];rfl)]
      exact h2 F fun p e=>h p (show (occ p t||cJ p r)=true by rw [e,Bool.or_true])
theorem Dn (l:TL) (F:List Nat) (h:∀ p,cJ p l=true->p∈F):dQ l F=F:=pV (.s 0 l) F h
theorem dd (t:T):∀ F:List Nat,(vfs t F).length<=F.length+sz t:=
  t.rec (motive_1:=fun t=>∀ F:List Nat,(vfs t F).length<=F.length+sz t) (motive_2:=fun l=>∀ F:List Nat,(dQ l F).length<=F.length+szL l)
    (fun q F=>by
      show (if q∈F then F else F++[q]).length<=F.length+1
      by_cases h:q∈F
      · rw [if_pos h];exact Nat.le_succ _
      · rw [if_neg h,List.length_append];exact Nat.le_refl _)
    (fun _ _=>Nat.le_succ _) (fun _ _=>Nat.le_succ _) (fun _ _ h F=>Nat.le_succ_of_le (h F)) (fun _=>Nat.le_refl _)
    fun t r h1 h2 F=>Nat.le_trans (h2 _) (by show _<=F.length+(sz t+szL r);rw [← Nat.add_assoc];exact Nat.add_le_add_right (h1 F) _)
noncomputable def zs (F:List Nat):List Int:=F.map fun (p:Nat)=>(p:Int)
noncomputable def cI:MS->Nat->MS
  |.cons s _,0=>s
  |.cons _ r,k+1=>cI r k
  |_,_=>.nil
noncomputable def wC:MS->ME
  |.while c _=>c
  |_=>.bad
noncomputable def wB:MS->MS
  |.while _ b=>b
  |_=>.nil
theorem eA:∀ l:TL,aU l<=szL l
  |.nil=>Nat.le_refl _
  |.cons t r=>by show aU r+1<=sz t+szL r;rw [Nat.add_comm];exact Nat.add_le_add (kj t) (eA r)
section
variable {κ:Nat} {c:Cfg} {σ:St} {Y:Sym} {H H':List Cell} {W n:Nat} {hs:Bool} {Q:Fl->Fr->St->Prop}
noncomputable def oV (c:Cell):Prop:=c.1=2\/c.1=3
noncomputable def Pre (κ:Nat) (Y:Sym) (H:List Cell) (s:Nat) (Mt F:List Nat):Prop:=∀ q∈Mt,∀ c t,aJ κ Y H c t->oV c->c.2=q->sz t<s->∀ p,occ p t=true->p∈F
noncomputable def Cv (κ:Nat) (Y:Sym) (H:List Cell) (q:Nat) (F:List Nat):Prop:=∀ c t,aJ κ Y H c t->oV c->c.2=q->∀ p,occ p t=true->p∈F
noncomputable def σv (σ:St) (F Mt:List Nat) (S:List Cell):St:=σ++[.list (F.map fun p=>cv (0,p)),.set (zs F),.set (zs Mt),.list (S.map cv)]
noncomputable def frv (c:Cfg) (σ:St) (x:V):Fr:=⟨[some (.ref c.st),some x,some (.ref σ.length),some (.ref (σ.length+1)),some (.ref (σ.length+2)),some (.ref (σ.length+3))],[]⟩
noncomputable def ua (W n:Nat) (hs:Bool):Nat->Fr->St->fR:=cz (ev (af W (n+3) hs) hs (wC (cI eH 4))) (evS (af W (n+3)) W hs (wB (cI eH 4)))
theorem Pre.le {s s':Nat} {Mt F:List Nat} (h:Pre κ Y H s Mt F) (l:s'<=s):Pre κ Y H s' Mt F:=fun q hq c t r k e z=>h q hq c t r k e (Nat.lt_of_lt_of_le z l)
theorem Pre.next {s:Nat} {Mt Mt' F F':List Nat} (h:Pre κ Y H s Mt F) (hF:∀ p∈F,p∈F') (hM:∀ q∈Mt',q∈Mt\/Cv κ Y H q F'):Pre κ Y H s Mt' F':=fun q hq c t r k e z p o=>by
  rcases hM q hq with h1 | h1
  · exact hF p (h q h1 c t r k e z p o)
  · exact h1 c t r k e p o
theorem gm {p:Nat} {F:List Nat}:((p:Int)∈zs F)↔p∈F:=by
  unfold zs
  simp only [List.mem_map]
  exact ⟨fun ⟨a,h,e⟩=>Int.ofNat_inj.mp e▸h,fun h=>⟨p,h,rfl⟩⟩
theorem pZ {F:List Nat} {p:Nat}:zs F++[(p:Int)]=zs (F++[p]):=by unfold zs;rw [List.map_append];rfl
theorem th {F:List Nat}:(zs F).length=F.length:=List.length_map _
theorem bP {x y:V} {σ:St} {b:Bool} (h:o8 x y σ=some b):gQ .notin x y σ=some (!b):=by show (o8 x y σ).map _=_;rw [h];rfl
theorem hZ {c:Fr->St->Option (V×St)} {b:Fr->St->fR} {W:Nat} {fr:Fr} {σ σ1:St} (h:c fr σ=some (.bool true,σ1)) (k:Ends (b fr σ1) fun fl fr2 σ2=>match fl with | .nxt=>Ends (cz c b W fr2 σ2) Q | .cnt=>Ends (cz c b W fr2 σ2) Q | .ret v=>Q (.ret v) fr2 σ2 | .err _=>False):Ends (cz c b (W+1) fr σ) Q:=by
  refine E31 k fun fl fr2 σ2 e q=>?_
  refine f5 h (cc e ?_)
  cases fl with
  |nxt=>exact q
  |cnt=>exact q
  |ret v=>exact .of rfl q
  |err v=>exact q.elim
mutual
theorem AU (M:Mem c σ Y H) (hW:κ<W):∀ (t:T) {x d:Cell} {k:Nat} {F Mt:List Nat} {S:List Cell},Der H x d k->k<=κ->aJ κ Y H d t->Pre κ Y H (sz t+1) Mt F->Mt.length+sz t<=4000->F.length+sz t<=4000->S.length+sz t<=90000->
    ∀ (K:Nat),(∀ W' x1 Mt',K<=W'->(∀ q∈Mt',q∈Mt\/Cv κ Y H q (vfs t F))->Mt'.length<=Mt.length+sz t->Ends (ua W n hs W' (frv c σ x1) (σv σ (vfs t F) Mt' S)) Q)->
    ∀ W' x1,K+sz t<=W'->Ends (ua W n hs W' (frv c σ x1) (σv σ F Mt (S++[x]))) Q:=fun t x d k F Mt S hd hk ht hp hM hF hS K kont W' x1 hW'=>by
  obtain ⟨W',rfl⟩:∃ m,W'=m+1:=⟨W' - 1,by have:=kj t;lia⟩
  have M1:=M.app [.list (F.map fun p=>cv (0,p)),.set (zs F),.set (zs Mt),.list ((S++[x]).map cv)]
  have M2:=M.app [.list (F.map fun p=>cv (0,p)),.set (zs F),.set (zs Mt),.list (S.map cv)]
  have hc:ev (af W (n+3) hs) hs (wC (cI eH 4)) (frv c σ x1) (σv σ F Mt (S++[x]))=some (.bool true,σv σ F Mt (S++[x])):=
    ai (bF (ab rfl) (bD (aE (k:=3)))) rfl (congrArg some (decide_eq_true (by simp)))
  have hpop:ev (af W (n+3) hs) hs (.mcall (.loc 5) .gZ .nil) (frv c σ x1) (σv σ F Mt (S++[x]))=some (cv x,σv σ F Mt S):=by
    have:=ud (σ:=σv σ F Mt (S++[x])) (n:=σ.length+3) (x:=cv x) (xs:=S.map cv) ((aE (k:=3)).trans (by simp))
    rw [show (σv σ F Mt (S++[x])).set (σ.length+3) (.list (S.map cv))=σv σ F Mt S from cq (k:=3)] at this
    exact cE rfl (aE (k:=3)) rfl (fun _=>nofun) rfl this
  have h1:evS (af W (n+3)) W hs (.asg 1 (.mcall (.loc 0) .dK (.cons (.mcall (.loc 5) .gZ .nil) .nil))) (frv c σ x1) (σv σ F Mt (S++[x]))=some (.nxt,frv c σ (cv d),σv σ F Mt S):=
    av (e_m rfl M1.st rfl (ab hpop) (fE (n:=n+2) M2 hd (by exact Nat.lt_of_le_of_lt (by assumption) (by assumption))))
  refine hZ hc (aa h1 ?_)
  cases t with
  |v p=>
    refine E01 ht.var fun z0 h=>?_
    subst z0
    refine aj (aw (ai (v:=true) (ah rfl rfl rfl) rfl rfl) ?_)
    by_cases hpF:p∈F
    · have e:vfs (.v p) F=F:=if_pos hpF
      refine aa (aN (ai (v:=false) (ah rfl rfl rfl) rfl ((bP (i6 (aE (k:=1)))).trans (by rw [decide_eq_true (gm.mpr hpF)];rfl)))) (ao (ao ?_))
      have:=kont W' (cv (0,p)) Mt (Nat.le_of_succ_le_succ hW') (fun q hq=>.inl hq) (by exact Nat.le_add_right _ _)
      rw [e] at this
      exact this
    · have e:vfs (.v p) F=F++[p]:=if_neg hpF
      have e1:gE .add (σ.length+1) [.int (p:Int)] (σv σ F Mt S)=some (.none,σ++[.list (F.map fun p=>cv (0,p)),.set (zs (F++[p])),.set (zs Mt),.list (S.map cv)]):=by
        have:=uc (σ:=σv σ F Mt S) (n:=σ.length+1) (i:=(p:Int)) (xs:=zs F) (aE (k:=1)) (by rw [th];exact hF)
        rw [if_neg (mt gm.mp hpF),pZ] at this
        exact this.trans (congrArg (fun z=>some (V.none,z)) (cq (k:=1)))
      have e2:gE .append (σ.length+0) [cv (0,p)] (σ++[.list (F.map fun p=>cv (0,p)),.set (zs (F++[p])),.set (zs Mt),.list (S.map cv)])=some (.none,σv σ (F++[p]) Mt S):=by
        have:=bp (σ:=σ++[.list (F.map fun p=>cv (0,p)),.set (zs (F++[p])),.set (zs Mt),.list (S.map cv)]) (n:=σ.length+0) (x:=cv (0,p)) (aE (k:=0)) (by rw [List.length_map];exact fits_of (Nat.lt_of_lt_of_le hF (by decide)))
        refine this.trans (congrArg (fun z=>some (V.none,z)) ((cq (k:=0)).trans ?_))
        unfold σv
        rw [List.map_append];rfl
      refine aj (aw (ai (v:=true) (ah rfl rfl rfl) rfl ((bP (i6 (aE (k:=1)))).trans (by rw [decide_eq_false (mt gm.mp hpF)];rfl))) ?_)
      refine aa (aS (cE rfl (aE (k:=1)) rfl (fun _=>nofun) (ab (ah rfl rfl rfl)) e1)) (aa (aS (cE rfl (aE (k:=0)) rfl (fun _=>nofun) (ab rfl) e2)) (ao (ao (ao ?_))))
      have:=kont W' (cv (0,p)) Mt (Nat.le_of_succ_le_succ hW') (fun q hq=>.inl hq) (by exact Nat.le_add_right _ _)
      rw [e] at this
      exact this
  |a m=>
    obtain rfl:=ht.atm
    refine aj (bw (ai (v:=false) (ah rfl rfl rfl) rfl rfl) ?_)
    exact aa (aN (dD (e_m rfl M2.st rfl (ab rfl) eJ))) (ao (ao (kont W' (cv (4,m)) Mt (Nat.le_of_succ_le_succ hW') (fun q hq=>.inl hq) (by exact Nat.le_add_right _ _))))
  |i m=>
    obtain rfl:=ht.itm
    refine aj (bw (ai (v:=false) (ah rfl rfl rfl) rfl rfl) ?_)
    exact aa (aN (dD (e_m rfl M2.st rfl (ab rfl) eJ))) (ao (ao (kont W' (cv (5,m)) Mt (Nat.le_of_succ_le_succ hW') (fun q hq=>.inl hq) (by exact Nat.le_add_right _ _))))
  |s f l=>
    have ht0:=ht
    refine E12 ht.cmp fun w h hl hw=>?_
    have htag:=h.tag
    have hsz:sz (.s f l)=szL l+1:=rfl
    refine aj (bw (ai (v:=false) (ah rfl rfl rfl) rfl (congrArg some (bE (b:=0) (by lia)))) ?_)
    have hcm:ev (af W (n+3) hs) hs (.mcall (.loc 0) .bj (.cons (.loc 1) .nil)) (frv c σ (cv d)) (σv σ F Mt S)=some (.bool true,σv σ F Mt S):=by
      have:=eJ (W:=W) (n:=n+2) (hs:=hs) (σ:=σv σ F Mt S) (s:=.ref c.st) (a:=d)
      rw [show (decide (d.1=2)||decide (d.1=3))=true by rcases htag with h | h<;>simp [h]] at this
      exact e_m rfl M2.st rfl (ab rfl) this
    by_cases hq:d.2∈Mt
    · have e:vfs (.s f l) F=F:=pV _ _ fun p o=>hp d.2 hq d _ ht0 htag rfl (Nat.lt_succ_self _) p o
      refine aa (aN (dk hcm (ai (v:=false) (ah rfl rfl rfl) rfl ((bP (i6 (aE (k:=2)))).trans (by rw [decide_eq_true (gm.mpr hq)];rfl))))) (ao (ao ?_))
      have:=kont W' (cv d) Mt (by lia) (fun q hq=>.inl hq) (by exact Nat.le_add_right _ _)
      rw [e] at this
      exact this
    · refine E11 hl.cells fun as ha1 ha2=>?_
      have e1:gE .add (σ.length+2) [.int (d.2:Int)] (σv σ F Mt S)=some (.none,σv σ F (Mt++[d.2]) S):=by
        have:=uc (σ:=σv σ F Mt S) (n:=σ.length+2) (i:=(d.2:Int)) (xs:=zs Mt) (aE (k:=2)) (by rw [th];lia)
        rw [if_neg (mt gm.mp hq),pZ] at this
        exact this.trans (congrArg (fun z=>some (V.none,z)) (cq (k:=2)))
      have e2:=kG (n:=n) (hs:=hs) (W:=W) M h (ha1.trans hw) ha2 (k:=3) (l:=[.list (F.map fun p=>cv (0,p)),.set (zs F),.set (zs (Mt++[d.2])),.list (S.map cv)]) rfl (by have:aU l<=szL l:=eA l;lia)
      refine aj (aw (dk hcm (ai (v:=true) (ah rfl rfl rfl) rfl ((bP (i6 (aE (k:=2)))).trans (by rw [decide_eq_false (mt gm.mp hq)];rfl)))) ?_)
      refine aa (aS (cE rfl (aE (k:=2)) rfl (fun _=>nofun) (ab (ah rfl rfl rfl)) e1)) (aa (aS (aV (ae rfl (ae rfl (ab rfl))) e2)) (ao (ao (ao ?_))))
      refine yF M hW l hl ha1 ha2 (fun q hq' c' t' r cm e z p o=>?_) (by simp;lia) (by exact Nat.le_of_lt (by assumption)) (by exact Nat.le_of_lt (by assumption)) K (fun W'' x2 Mt' hK hM' hlen=>?_) W' (cv d) (by lia)
      · rcases List.mem_append.mp hq' with h1 | h1
        · exact hp q h1 c' t' r cm e (by lia) p o
        · simp at h1
          have:=aJ.jX r ht0 cm htag (e.trans h1)
          rw [this,hsz] at z
          lia
      · refine kont W'' x2 Mt' hK (fun q hq'=>?_) (by simp at hlen;lia)
        rcases hM' q hq' with h1 | h1
        · rcases List.mem_append.mp h1 with h1 | h1
          · exact .inl h1
          · simp at h1
            refine .inr fun c' t' r cm e p o=>?_
            have:=aJ.jX r ht0 cm htag (e.trans h1)
            rw [this] at o
            exact (b9 _ _).mpr (.inr o)
        · exact .inr h1
theorem yF (M:Mem c σ Y H) (hW:κ<W):∀ (l:TL) {p:Nat} {as:List Cell} {F Mt:List Nat} {S:List Cell},cA κ Y H p l->as.length=aU l->f7 H p as->Pre κ Y H (szL l+1) Mt F->Mt.length+szL l<=4000->F.length+szL l<=4000->S.length+szL l<=90000->
    ∀ (K:Nat),(∀ W' x1 Mt',K<=W'->(∀ q∈Mt',q∈Mt\/Cv κ Y H q (dQ l F))->Mt'.length<=Mt.length+szL l->Ends (ua W n hs W' (frv c σ x1) (σv σ (dQ l F) Mt' S)) Q)->
    ∀ W' x1,K+szL l<=W'->Ends (ua W n hs W' (frv c σ x1) (σv σ F Mt (S++as.reverse))) Q
  |.nil,p,as,F,Mt,S,hl,h1,h2,hp,hM,hF,hS,K,kont,W',x1,hW'=>by
    cases as with
    |cons=>exact (Nat.succ_ne_zero _ h1).elim
    |nil=>
      rw [List.reverse_nil,List.append_nil]
      exact kont W' x1 Mt hW' (fun q hq=>.inl hq) (by exact Nat.le_refl _)
  |.cons t r,p,as,F,Mt,S,hl,h1,h2,hp,hM,hF,hS,K,kont,W',x1,hW'=>by
    refine E34 hl.con fun k x d hx hd hk ht hr=>?_
    cases as with
    |nil=>exact (Nat.succ_ne_zero _ h1.symm).elim
    |cons a as=>
      have hlen:as.length=aU r:=Nat.succ.inj h1
      have ha:x=a:=by
        have:=h2 0 (by simp)
        rw [Nat.add_zero,hx] at this
        exact Option.some.inj this
      subst ha
      have hsz:szL (.cons t r)=sz t+szL r:=rfl
      have hlr:=eA r
      rw [List.reverse_cons,← List.append_assoc]
      refine AU M hW t hd hk ht (hp.le (by lia)) (by lia) (by lia) (by rw [List.length_append,List.length_reverse];lia) (K+szL r) (fun W'' x2 Mt' hK hM' hlen'=>?_) W' x1 (by lia)
      have hsub:∀ p∈F,p∈vfs t F:=fun p h=>(b9 t F).mpr (.inl h)
      have hF2:=dd t F
      refine yF M hW r hr hlen (fun j hj=>by have:=h2 (j+1) (by simpa using hj);rw [Nat.add_assoc,Nat.add_comm 1 j];simpa using this) ((hp.le (by exact Nat.le_add_left _ _)).next hsub hM') (by lia) (by lia) (by lia) K (fun W3 x3 Mt3 hK3 hM3 hlen3=>?_) W'' x2 (by assumption)
      refine kont W3 x3 Mt3 hK3 (fun q hq=>?_) (by lia)
      rcases hM3 q hq with h | h
      · rcases hM' q h with h | h
        · exact .inl h
        · exact .inr fun c' t' r' cm e p o=>(yE r _).mpr (.inl (h c' t' r' cm e p o))
      · exact .inr h
end
end
section
variable {κ:Nat} {C:aD} {fr:Fr} {c:Cfg} {σ σ0:St} {Y:Sym} {H H':List Cell} {W n:Nat} {hs:Bool} {Q:Fl->Fr->St->Prop} {l:St}
theorem rR:ev C hs (.call (.glob (.bi .set)) .nil) fr (σ++l)=some (.ref (σ.length+l.length),σ++(l++[.set []])):=by
  refine bF rfl ?_
  show some (V.ref (σ++l).length,(σ++l)++[.set []])=_
  rw [List.length_append,List.append_assoc]
theorem j7 {args:ME} {xs:List V} (h:ev C hs args fr σ0=some (.tup xs,σ++l)) (hf:fits xs.length=true):ev C hs (.list args) fr σ0=some (.ref (σ.length+l.length),σ++(l++[.list xs])):=by
  refine (rP h hf).trans ?_
  rw [List.length_append,List.append_assoc]
theorem b7 {args:ME} {xs:List V} (h:ev C hs args fr σ0=some (.tup xs,σ)) (hf:fits xs.length=true):ev C hs (.list args) fr σ0=some (.ref σ.length,σ++[.list xs]):=rP h hf
theorem o5:ev C hs (.dict0 .I) fr (σ++l)=some (.ref (σ.length+l.length),σ++(l++[.dI []])):=by
  show some (V.ref (σ++l).length,(σ++l)++[.dI []])=_
  rw [List.length_append,List.append_assoc]
theorem aJ.vw {c:Cell} {t:T} (h:aJ κ Y H c t):c.1≠1:=by
  have no:∀ {a p:Nat},c=(a,p)->a≠1->c.1≠1:=fun e n q=>n ((congrArg Prod.fst e).symm.trans q)
  cases t with
  |v n=>exact no h.1 (by decide)
  |a n=>exact no h (by decide)
  |i n=>exact no h (by decide)
  |s f l=>exact fun q=>h.1.tag.elim (fun z=>absurd (q.symm.trans z) (by decide)) fun z=>absurd (q.symm.trans z) (by decide)
theorem wt (M:Mem c σ Y H) {a d:Cell} {k:Nat} {t:T} (hd:Der H a d k) (hk:k<=κ) (ht:aJ κ Y H d t) (hW:κ<W):af W (n+2) hs .eP [.ref c.st,cv a] σ=some (.ok (cv d),σ):=
  gJ M hd ht.vw (by exact Nat.lt_of_le_of_lt (by assumption) (by assumption))
theorem aJ.der {d:Cell} {t:T} (h:aJ κ Y H d t):∃ k,k<=κ/\Der H d d k:=by
  have dn:d.1≠0->∃ k,k<=κ/\Der H d d k:=fun n=>⟨0,Nat.zero_le _,.done n h.vw⟩
  cases t with
  |v n=>obtain ⟨rfl,h⟩:=h;exact ⟨0,Nat.zero_le _,.self h⟩
  |a n=>exact dn fun q=>absurd ((congrArg Prod.fst (aJ.atm h)).symm.trans q) (by decide:¬ (4=0))
  |i n=>exact dn fun q=>absurd ((congrArg Prod.fst (aJ.itm h)).symm.trans q) (by decide:¬ (5=0))
  |s f l=>exact dn fun q=>h.1.tag.elim (fun z=>absurd (q.symm.trans z) (by decide)) fun z=>absurd (q.symm.trans z) (by decide)
theorem kH (M:Mem c σ Y H) {a:Cell} {t:T} (ha:Rep κ Y H a t) (hz:sz t<=4000) (hW:sz t+κ+1<W):∃ j,af W (n+4) hs .iA [.ref c.st,cv a] σ=some (.ok (.ref σ.length),σ++.list ((vfs t []).map fun p=>cv (0,p))::j):=by
  refine E22 ha fun d k hd hk ht=>?_
  refine E11 ht.der fun k' hk' hdd=>?_
  have:=dB (W:=W) (n:=n+3) (hs:=hs) (f:=.iA) (args:=[.ref c.st,cv a]) (σ:=σ) (b:=eH) (P:=fun v σ'=>v=.ref σ.length/\∃ j,σ'=σ++.list ((vfs t []).map fun p=>cv (0,p))::j) rfl rfl ?_
  · obtain ⟨v,σ',e,rfl,j,rfl⟩:=this
    exact ⟨j,e⟩
  refine aa (av (b7 rfl rfl)) (aa (av (rR (l:=[.list []]))) (aa (av (rR (l:=[.list [],.set []]))) ?_))
  have M3:=M.app [.list [],.set [],.set []]
  refine aa (av (j7 (l:=[.list [],.set [],.set []]) (ab (e_m rfl M3.st rfl (ab rfl) (wt M3 hd hk ht (by lia)))) rfl)) ?_
  refine aj (AU (n:=n) M (by lia) t (F:=[]) (Mt:=[]) (S:=[]) hdd hk' ht (fun q hq=>nomatch hq) (by simpa using hz) (by simpa using hz) (by simp;(refine Nat.le_trans (by assumption) ?_;decide)) 1 (fun W' x1 Mt' hK hM' hlen=>?_) W (cv a) (by lia))
  obtain ⟨W',rfl⟩:∃ m,W'=m+1:=⟨W' - 1,by lia⟩
  refine f5 (x:=.bool false) (ai (bF (ab rfl) (bD (aE (k:=3)))) rfl (congrArg some (decide_eq_false (by simp)))) (.of rfl ?_)
  exact aA (aB rfl) ⟨rfl,_,rfl⟩
end
section
variable {κ:Nat} {c:Cfg} {σ:St} {Y:Sym} {H H':List Cell} {W n:Nat} {hs:Bool} {Q:Fl->Fr->St->Prop} {l:St} {p:Nat}
noncomputable def p8 (κ:Nat) (Y:Sym) (H:List Cell) (p s:Nat) (Mt:List Nat):Prop:=∀ q∈Mt,∀ c t,aJ κ Y H c t->oV c->c.2=q->sz t<s->occ p t=false
noncomputable def CvO (κ:Nat) (Y:Sym) (H:List Cell) (p q:Nat):Prop:=∀ c t,aJ κ Y H c t->oV c->c.2=q->occ p t=false
noncomputable def σo (σ:St) (Mt:List Nat) (S:List Cell):St:=σ++[.set (zs Mt),.list (S.map cv)]
noncomputable def fro (c:Cfg) (σ:St) (p:Nat) (x:V):Fr:=⟨[some (.ref c.st),some (cv (0,p)),some x,some (.ref σ.length),some (.ref (σ.length+1))],[]⟩
noncomputable def t9 (W n:Nat) (hs:Bool):Nat->Fr->St->fR:=cz (ev (af W (n+3) hs) hs (wC (cI eG 5))) (evS (af W (n+3)) W hs (wB (cI eG 5)))
theorem p8.le {s s':Nat} {Mt:List Nat} (h:p8 κ Y H p s Mt) (l:s'<=s):p8 κ Y H p s' Mt:=fun q hq c t r k e z=>h q hq c t r k e (Nat.lt_of_lt_of_le z l)
theorem p8.next {s:Nat} {Mt Mt':List Nat} (h:p8 κ Y H p s Mt) (hM:∀ q∈Mt',q∈Mt\/CvO κ Y H p q):p8 κ Y H p s Mt':=fun q hq c t r k e z=>by
  rcases hM q hq with h1 | h1
  · exact h q h1 c t r k e z
  · exact h1 c t r k e
noncomputable def isV (p:Nat):T->Bool
  |.v q=>decide (p=q)
  |_=>false
theorem aJ.wU {d:Cell} {t:T} (h:aJ κ Y H d t):decide (d=(0,p))=isV p t:=by
  cases t with
  |v q=>
    by_cases e:p=q
    · rw [h.1,e];exact (decide_eq_true rfl).trans (decide_eq_true rfl).symm
    · rw [decide_eq_false (fun z=>e (ux z h.1))];exact (decide_eq_false e).symm
  |a q=>exact decide_eq_false fun z=>fB z h (by decide)
  |i q=>exact decide_eq_false fun z=>fB z h (by decide)
  |s f l=>exact decide_eq_false fun z=>h.1.no z (by decide) (by decide)
mutual
theorem AJ (M:Mem c σ Y H) (hW:κ<W):∀ (t:T) (_:occ p t=true->∀ fr l',Q (.ret (.bool true)) fr (σ++l')) {x d:Cell} {k:Nat} {Mt:List Nat} {S:List Cell},Der H x d k->k<=κ->aJ κ Y H d t->p8 κ Y H p (sz t+1) Mt->Mt.length+sz t<=4000->S.length+sz t<=90000->
    ∀ (K:Nat),(occ p t=false->∀ W' x1 Mt',K<=W'->(∀ q∈Mt',q∈Mt\/CvO κ Y H p q)->Mt'.length<=Mt.length+sz t->Ends (t9 W n hs W' (fro c σ p x1) (σo σ Mt' S)) Q)->
    ∀ W' x1,K+sz t<=W'->Ends (t9 W n hs W' (fro c σ p x1) (σo σ Mt (S++[x]))) Q:=fun t hT x d k Mt S hd hk ht hp hM hS K kont W' x1 hW'=>by
  obtain ⟨W',rfl⟩:∃ m,W'=m+1:=⟨W' - 1,by have:=kj t;lia⟩
  have M1:=M.app [.set (zs Mt),.list ((S++[x]).map cv)]
  have M2:=M.app [.set (zs Mt),.list (S.map cv)]
  have hc:ev (af W (n+3) hs) hs (wC (cI eG 5)) (fro c σ p x1) (σo σ Mt (S++[x]))=some (.bool true,σo σ Mt (S++[x])):=
    ai (bF (ab rfl) (bD (aE (k:=1)))) rfl (congrArg some (decide_eq_true (by simp)))
  have hpop:ev (af W (n+3) hs) hs (.mcall (.loc 4) .gZ .nil) (fro c σ p x1) (σo σ Mt (S++[x]))=some (cv x,σo σ Mt S):=by
    have:=ud (σ:=σo σ Mt (S++[x])) (n:=σ.length+1) (x:=cv x) (xs:=S.map cv) ((aE (k:=1)).trans (by simp))
    rw [show (σo σ Mt (S++[x])).set (σ.length+1) (.list (S.map cv))=σo σ Mt S from cq (k:=1)] at this
    exact cE rfl (aE (k:=1)) rfl (fun _=>nofun) rfl this
  have h1:evS (af W (n+3)) W hs (.asg 2 (.mcall (.loc 0) .dK (.cons (.mcall (.loc 4) .gZ .nil) .nil))) (fro c σ p x1) (σo σ Mt (S++[x]))=some (.nxt,fro c σ p (cv d),σo σ Mt S):=
    av (e_m rfl M1.st rfl (ab hpop) (fE (n:=n+2) M2 hd (by exact Nat.lt_of_le_of_lt (by assumption) (by assumption))))
  have heq:=ht.wU (p:=p)
  refine hZ hc (aa h1 ?_)
  have hcm:ev (af W (n+3) hs) hs (.mcall (.loc 0) .bj (.cons (.loc 2) .nil)) (fro c σ p (cv d)) (σo σ Mt S)=some (.bool (decide (d.1=2)||decide (d.1=3)),σo σ Mt S):=
    e_m rfl M2.st rfl (ab rfl) (eJ (W:=W) (n:=n+2) (hs:=hs) (σ:=σo σ Mt S) (s:=.ref c.st) (a:=d))
  cases t with
  |v q=>
    refine E01 ht.var fun z0 h=>?_
    subst z0
    by_cases e:p=q
    · rw [show isV p (.v q)=true from decide_eq_true e] at heq
      exact aj (aw (ai rfl rfl (cC.trans (congrArg some heq))) (aA (aB rfl) (hT (decide_eq_true e) _ _)))
    · rw [show isV p (.v q)=false from decide_eq_false e] at heq
      exact aa (aN (ai rfl rfl (cC.trans (congrArg some heq)))) (aa (aN (dD hcm)) (ao (kont (decide_eq_false e) W' _ Mt (Nat.le_of_succ_le_succ hW') (fun q hq=>.inl hq) (by exact Nat.le_add_right _ _))))
  |a m=>
    obtain rfl:=ht.atm
    exact aa (aN (ai rfl rfl (cC.trans (congrArg some heq)))) (aa (aN (dD hcm)) (ao (kont rfl W' _ Mt (Nat.le_of_succ_le_succ hW') (fun q hq=>.inl hq) (by exact Nat.le_add_right _ _))))
  |i m=>
    obtain rfl:=ht.itm
    exact aa (aN (ai rfl rfl (cC.trans (congrArg some heq)))) (aa (aN (dD hcm)) (ao (kont rfl W' _ Mt (Nat.le_of_succ_le_succ hW') (fun q hq=>.inl hq) (by exact Nat.le_add_right _ _))))
  |s f l=>
    have ht0:=ht
    refine E12 ht.cmp fun w h hl hw=>?_
    have htag:=h.tag
    have hsz:sz (.s f l)=szL l+1:=rfl
    rw [show (decide (d.1=2)||decide (d.1=3))=true by rcases htag with h | h<;>simp [h]] at hcm
    refine aa (aN (ai rfl rfl (cC.trans (congrArg some heq)))) ?_
    by_cases hq:d.2∈Mt
    · have e:occ p (.s f l)=false:=hp d.2 hq d _ ht0 htag rfl (Nat.lt_succ_self _)
      exact aa (aN (dk hcm (ai (v:=false) (ah rfl rfl rfl) rfl ((bP (i6 (aE (k:=0)))).trans (by rw [decide_eq_true (gm.mpr hq)];rfl))))) (ao (kont e W' (cv d) Mt (by lia) (fun q hq=>.inl hq) (by exact Nat.le_add_right _ _)))
    · refine E11 hl.cells fun as ha1 ha2=>?_
      have e1:gE .add (σ.length+0) [.int (d.2:Int)] (σo σ Mt S)=some (.none,σo σ (Mt++[d.2]) S):=by
        have:=uc (σ:=σo σ Mt S) (n:=σ.length+0) (i:=(d.2:Int)) (xs:=zs Mt) (aE (k:=0)) (by rw [th];lia)
        rw [if_neg (mt gm.mp hq),pZ] at this
        exact this.trans (congrArg (fun z=>some (V.none,z)) (cq (k:=0)))
      have e2:=kG (n:=n) (hs:=hs) (W:=W) M h (ha1.trans hw) ha2 (k:=1) (l:=[.set (zs (Mt++[d.2])),.list (S.map cv)]) rfl (by have:aU l<=szL l:=eA l;lia)
      refine aj (aw (dk hcm (ai (v:=true) (ah rfl rfl rfl) rfl ((bP (i6 (aE (k:=0)))).trans (by rw [decide_eq_false (mt gm.mp hq)];rfl)))) ?_)
      refine aa (aS (cE rfl (aE (k:=0)) rfl (fun _=>nofun) (ab (ah rfl rfl rfl)) e1)) (aa (aS (aV (ae rfl (ae rfl (ab rfl))) e2)) (ao (ao ?_)))
      refine xP M hW l hT hl ha1 ha2 (fun q hq' c' t' r cm e z=>?_) (by simp;lia) (by exact Nat.le_of_lt (by assumption)) K (fun ho W'' x2 Mt' hK hM' hlen=>?_) W' (cv d) (by lia)
      · rcases List.mem_append.mp hq' with h1 | h1
        · exact hp q h1 c' t' r cm e (by lia)
        · simp at h1
          have:=aJ.jX r ht0 cm htag (e.trans h1)
          rw [this,hsz] at z
          lia
      · refine kont ho W'' x2 Mt' hK (fun q hq'=>?_) (by simp at hlen;lia)
        rcases hM' q hq' with h1 | h1
        · rcases List.mem_append.mp h1 with h1 | h1
          · exact .inl h1
          · simp at h1
            refine .inr fun c' t' r cm e=>?_
            rw [aJ.jX r ht0 cm htag (e.trans h1)]
            exact ho
        · exact .inr h1
theorem xP (M:Mem c σ Y H) (hW:κ<W):∀ (l:TL) (_:cJ p l=true->∀ fr l',Q (.ret (.bool true)) fr (σ++l')) {p':Nat} {as:List Cell} {Mt:List Nat} {S:List Cell},cA κ Y H p' l->as.length=aU l->f7 H p' as->p8 κ Y H p (szL l+1) Mt->Mt.length+szL l<=4000->S.length+szL l<=90000->
    ∀ (K:Nat),(cJ p l=false->∀ W' x1 Mt',K<=W'->(∀ q∈Mt',q∈Mt\/CvO κ Y H p q)->Mt'.length<=Mt.length+szL l->Ends (t9 W n hs W' (fro c σ p x1) (σo σ Mt' S)) Q)->
    ∀ W' x1,K+szL l<=W'->Ends (t9 W n hs W' (fro c σ p x1) (σo σ Mt (S++as.reverse))) Q
  |.nil,hT,p',as,Mt,S,hl,h1,h2,hp,hM,hS,K,kont,W',x1,hW'=>by
    cases as with
    |cons=>exact (Nat.succ_ne_zero _ h1).elim
    |nil=>
      rw [List.reverse_nil,List.append_nil]
      exact kont rfl W' x1 Mt hW' (fun q hq=>.inl hq) (by exact Nat.le_refl _)
  |.cons t r,hT,p',as,Mt,S,hl,h1,h2,hp,hM,hS,K,kont,W',x1,hW'=>by
    refine E34 hl.con fun k x d hx hd hk ht hr=>?_
    cases as with
    |nil=>exact (Nat.succ_ne_zero _ h1.symm).elim
    |cons a as=>
      have hlen:as.length=aU r:=Nat.succ.inj h1
      have ha:x=a:=by
        have:=h2 0 (by simp)
        rw [Nat.add_zero,hx] at this
        exact Option.some.inj this
      subst ha
      have hsz:szL (.cons t r)=sz t+szL r:=rfl
      have hlr:=eA r
      rw [List.reverse_cons,← List.append_assoc]
      refine AJ M hW t (fun o=>hT (show (occ _ t||_)=true by rw [o];rfl)) hd hk ht (hp.le (by lia)) (by lia) (by rw [List.length_append,List.length_reverse];lia) (K+szL r) (fun ho W'' x2 Mt' hK hM' hlen'=>?_) W' x1 (by lia)
      refine xP M hW r (fun o=>hT (show (_||cJ _ r)=true by rw [o,Bool.or_true])) hr hlen (fun j hj=>by have:=h2 (j+1) (by simpa using hj);rw [Nat.add_assoc,Nat.add_comm 1 j];simpa using this) ((hp.le (by exact Nat.le_add_left _ _)).next hM') (by lia) (by lia) K (fun ho' W3 x3 Mt3 hK3 hM3 hlen3=>?_) W'' x2 (by assumption)
      refine kont (show (occ _ t||cJ _ r)=false by rw [ho,ho'];rfl) W3 x3 Mt3 hK3 (fun q hq=>?_) (by lia)
      rcases hM3 q hq with h | h
      · exact hM' q h
      · exact .inr h
end
theorem wz (M:Mem c σ Y H) {a:Cell} {t:T} (ha:Rep κ Y H a t) (hz:sz t<=4000) (hW:sz t+κ+1<W):∃ j,af W (n+4) hs .kg [.ref c.st,cv (0,p),cv a] σ=some (.ok (.bool (occ p t)),σ++j):=by
  refine E22 ha fun d k hd hk ht=>?_
  refine E11 ht.der fun k' hk' hdd=>?_
  have:=Bg (W:=W) (n:=n+3) (hs:=hs) (f:=.kg) (args:=[.ref c.st,cv (0,p),cv a]) (σ:=σ) (b:=eG) (P:=fun v σ'=>v=.bool (occ p t)/\∃ j,σ'=σ++j) rfl rfl ?_
  · obtain ⟨v,σ',e,rfl,j,rfl⟩:=this
    exact ⟨j,e⟩
  intro Q kr _
  have heq:=ht.wU (p:=p)
  refine aa (av (e_m rfl M.st rfl (ab rfl) (fE (n:=n+2) M hd (by lia)))) ?_
  have hcm:∀ fr:Fr,fr.locs[0]?=some (some (.ref c.st))->fr.locs[2]?=some (some (cv d))->ev (af W (n+3) hs) hs (.mcall (.loc 0) .bj (.cons (.loc 2) .nil)) fr σ=some (.bool (decide (d.1=2)||decide (d.1=3)),σ):=fun fr h0 h2=>
    e_m (show ja (fr.locs[0]?.join) σ=_ by rw [h0];rfl) M.st rfl (ab (show ja (fr.locs[2]?.join) σ=_ by rw [h2];rfl)) (eJ (W:=W) (n:=n+2) (hs:=hs) (σ:=σ) (s:=.ref c.st) (a:=d))
  cases t with
  |v q=>
    refine E01 ht.var fun z0 h=>?_
    subst z0
    by_cases e:p=q
    · rw [show isV p (.v q)=true from decide_eq_true e] at heq
      exact aj (aw (ai rfl rfl (cC.trans (congrArg some heq))) (aA (aB rfl) (kr _ _ _ ⟨congrArg V.bool (decide_eq_true e).symm,[],(List.append_nil _).symm⟩)))
    · rw [show isV p (.v q)=false from decide_eq_false e] at heq
      exact aa (aN (ai rfl rfl (cC.trans (congrArg some heq)))) (aj (aw (rQ (ai (v:=false) (ah rfl rfl rfl) rfl rfl) (eK (hcm _ rfl rfl))) (aA (aB rfl) (kr _ _ _ ⟨congrArg V.bool (decide_eq_false e).symm,[],(List.append_nil _).symm⟩))))
  |a m=>
    obtain rfl:=ht.atm
    exact aa (aN (ai rfl rfl (cC.trans (congrArg some heq)))) (aj (aw (rQ (ai (v:=false) (ah rfl rfl rfl) rfl rfl) (eK (hcm _ rfl rfl))) (aA (aB rfl) (kr _ _ _ ⟨rfl,[],(List.append_nil _).symm⟩))))
  |i m=>
    obtain rfl:=ht.itm
    exact aa (aN (ai rfl rfl (cC.trans (congrArg some heq)))) (aj (aw (rQ (ai (v:=false) (ah rfl rfl rfl) rfl rfl) (eK (hcm _ rfl rfl))) (aA (aB rfl) (kr _ _ _ ⟨rfl,[],(List.append_nil _).symm⟩))))
  |s f l=>
    have htag:d.1=2\/d.1=3:=ht.1.tag
    rw [show (decide (d.1=2)||decide (d.1=3))=true by rcases htag with h | h<;>simp [h]] at hcm
    refine aa (aN (ai rfl rfl (cC.trans (congrArg some heq)))) (aa (aN (rQ (ai (v:=false) (ah rfl rfl rfl) rfl rfl) (eK (hcm _ rfl rfl)))) ?_)
    refine aa (av (bF rfl rfl)) (aa (av (j7 (l:=[.set []]) (ab rfl) rfl)) ?_)
    refine aj (AJ (Q:=Nx _ _ _ _ Q) (n:=n) (Mt:=[]) (S:=[]) M (by lia) (.s f l) (fun o fr l'=>(kr _ _ _ ⟨congrArg V.bool o.symm,_,rfl⟩)) hdd hk' ht (fun q hq=>nomatch hq) (by simpa using hz) (by simp;(refine Nat.le_trans (by assumption) ?_;decide)) 1 (fun ho W' x1 Mt' hK hM' hlen=>?_) W (cv d) (by lia))
    · obtain ⟨W',rfl⟩:∃ m,W'=m+1:=⟨W' - 1,by lia⟩
      refine f5 (x:=.bool false) (ai (bF (ab rfl) (bD (aE (k:=1)))) rfl (congrArg some (decide_eq_false (by simp)))) (.of rfl ?_)
      exact aA (aB rfl) (kr _ _ _ ⟨congrArg V.bool ho.symm,_,rfl⟩)
end
mutual
noncomputable def ren (f:Nat->Nat):T->T
  |.v p=>.v (f p)
  |.a n=>.a n
  |.i n=>.i n
  |.s g l=>.s g (cW f l)
noncomputable def cW (f:Nat->Nat):TL->TL
  |.nil=>.nil
  |.cons t r=>.cons (ren f t) (cW f r)
end
mutual
theorem iw {f g:Nat->Nat}:∀ (t:T),(∀ p,occ p t=true->f p=g p)->ren f t=ren g t
  |.v p,h=>congrArg T.v (h p (decide_eq_true rfl))
  |.a _,_=>rfl
  |.i _,_=>rfl
  |.s _ l,h=>congrArg (T.s _) (mE l h)
theorem mE {f g:Nat->Nat}:∀ (l:TL),(∀ p,cJ p l=true->f p=g p)->cW f l=cW g l
  |.nil,_=>rfl
  |.cons t r,h=>by
    have h1:=iw t fun p o=>h p (show (occ p t||_)=true by rw [o];rfl)
    have h2:=mE r fun p o=>h p (show (_||cJ p r)=true by rw [o,Bool.or_true])
    show TL.cons _ _=TL.cons _ _
    rw [h1,h2]
end
theorem lH (t:T):∀ F:List Nat,∃ G,vfs t F=F++G:=
  t.rec (motive_1:=fun t=>∀ F:List Nat,∃ G,vfs t F=F++G) (motive_2:=fun l=>∀ F:List Nat,∃ G,dQ l F=F++G)
    (fun p F=>by
      by_cases h:p∈F
      · exact ⟨[],(show vfs (.v p) F=F from if_pos h).trans (List.append_nil _).symm⟩
      · exact ⟨_,if_neg h⟩)
    (fun _ _=>⟨[],(List.append_nil _).symm⟩) (fun _ _=>⟨[],(List.append_nil _).symm⟩) (fun _ _ h=>h) (fun _=>⟨[],(List.append_nil _).symm⟩)
    fun t r h1 h2 F=>E10 (h1 F) fun G e=>E10 (h2 (vfs t F)) fun G2 e2=>⟨G++G2,e2.trans (by rw [e,List.append_assoc])⟩
theorem q5 (l:TL) (F:List Nat):∃ G,dQ l F=F++G:=lH (.s 0 l) F
noncomputable def idx (F:List Nat) (p:Nat):Nat:=F.idxOf p
theorem lu {F G:List Nat} {p:Nat} (h:p∈F):idx (F++G) p=idx F p:=by unfold idx;rw [List.idxOf_append,if_pos h]
theorem xc {F:List Nat} {p:Nat} (t:TL) (h:p∈F):idx (dQ t F) p=idx F p:=by refine E10 (q5 t F) fun G e=>?_;rw [e,lu h]
section
variable {α β:Type} [DecidableEq α] [DecidableEq β] (e:α->β)
noncomputable def ng (l:List α):List (β×V):=l.zipIdx.map fun p=>(e p.1,.int p.2)
variable {e}
theorem l9 (he:∀ a b,e a=e b->a=b) (a:α):∀ (l:List α) (k:Nat),aZ ((l.zipIdx k).map fun p=>(e p.1,V.int p.2)) (e a)=if a∈l then some (.int ((k+l.idxOf a:Nat):Int)) else none
  |[],k=>rfl
  |b::l,k=>by
    show (if e b=e a then some (V.int k) else aZ ((l.zipIdx (k+1)).map _) (e a))=_
    rw [l9 he a l (k+1),List.idxOf_cons]
    by_cases h:b=a
    · subst h;simp
    · rw [if_neg (fun z=>h (he _ _ z))]
      have:¬ a=b:=fun z=>h z.symm
      have hb:(b==a)=false:=beq_eq_false_iff_ne.mpr h
      by_cases h2:a∈l
      · simp [hb,h2];lia
      · simp [this,h2]
theorem gK (he:∀ a b,e a=e b->a=b) {l:List α} {a:α} (h:a∈l):aZ (ng e l) (e a)=some (.int (l.idxOf a)):=by
  unfold ng;rw [l9 he,if_pos h,Nat.zero_add]
theorem lq (he:∀ a b,e a=e b->a=b) {l:List α} {a:α} (h:a∉l):aZ (ng e l) (e a)=none:=by
  unfold ng;rw [l9 he,if_neg h]
theorem oX {k:β} {x:V}:∀ {kvs:List (β×V)},aZ kvs k=none->dput kvs k x=kvs++[(k,x)]
  |[],_=>rfl
  |(j,v)::r,h=>by
    have h':(if j=k then some v else aZ r k)=none:=h
    by_cases hj:j=k
    · rw [if_pos hj] at h';cases h'
    · rw [if_neg hj] at h'
      show (if j=k then (j,x)::r else (j,v)::dput r k x)=_
      rw [if_neg hj,oX h'];rfl
theorem mf (he:∀ a b,e a=e b->a=b) {l:List α} {a:α} (h:a∉l):dput (ng e l) (e a) (.int l.length)=ng e (l++[a]):=by
  rw [oX (lq he h)]
  unfold ng
  rw [List.zipIdx_append,List.map_append,Nat.zero_add];rfl
theorem gL {k j:β} {x:V}:∀ {kvs:List (β×V)},aZ (dput kvs k x) j=if k=j then some x else aZ kvs j
  |[]=>rfl
  |(i,v)::r=>by
    show aZ (if i=k then (i,x)::r else (i,v)::dput r k x) j=if k=j then some x else if i=j then some v else aZ r j
    by_cases h:i=k
    · subst h
      rw [if_pos rfl]
      show (if i=j then some x else aZ r j)=_
      split<;>rfl
    · rw [if_neg h]
      show (if i=j then some v else aZ (dput r k x) j)=_
      rw [gL]
      by_cases h2:i=j
      · subst h2;rw [if_pos rfl,if_pos rfl,if_neg (Ne.symm h)]
      · rw [if_neg h2,if_neg h2]
theorem jw {k:β} {x:V}:∀ {kvs:List (β×V)},(dput kvs k x).length<=kvs.length+1
  |[]=>Nat.le_refl _
  |(i,v)::r=>by
    show (if i=k then (i,x)::r else (i,v)::dput r k x).length<=_
    split
    · simp
    · have:=jw (k:=k) (x:=x) (kvs:=r);simp;assumption
theorem ur {l:List α}:(ng e l).length=l.length:=by unfold ng;simp
end
noncomputable def nI (p:Nat):Int:=p
theorem gn (a b:Nat) (h:nI a=nI b):a=b:=Int.ofNat_inj.mp h
noncomputable def tb (F:List Nat):List (Int×V):=ng nI F
section
variable {κ:Nat} {c:Cfg} {σ:St} {Y:Sym} {H H':List Cell} {W n:Nat} {hs:Bool} {l:St} {a:Nat} {x y:O} {kvs kvs':List (Int×V)}
noncomputable def eO (σ:St) (a:Nat) (kvs:List (Int×V)):St:=σ.set a (.dI kvs)
theorem jO:(eO σ a kvs).length=σ.length:=List.length_set
theorem Mem.eO (M:Mem c σ Y H) (h:σ[a]?=some (.dI kvs)) (kvs':List (Int×V)):Mem c (eO σ a kvs') Y H:=by
  unfold Mine.eO
  exact ⟨⟨(aF (aQ h M.sy (by simp))).trans M.sy,(aF (aQ h M.tx (by simp))).trans M.tx,(aF (aQ h M.an (by simp))).trans M.an,(aF (aQ h M.fu (by simp))).trans M.fu,(aF (aQ h M.fn (by simp))).trans M.fn⟩,
    (aF (aQ h M.st (by simp))).trans M.st,(aF (aQ h M.hp (by simp))).trans M.hp,(aF (aQ h M.sp (by simp))).trans M.sp,M.dj⟩
theorem mI (h:σ[a]?=some (.dI kvs)):(eO σ a kvs')[a]?=some (.dI kvs'):=bc h
theorem a7 {k:Nat}:(eO σ a kvs++l)[σ.length+k]?=l[k]?:=by rw [← jO (σ:=σ) (a:=a) (kvs:=kvs)];exact aE
theorem hU {k:Nat}:(eO σ a kvs++l).set (σ.length+k) x=eO σ a kvs++l.set k x:=by rw [← jO (σ:=σ) (a:=a) (kvs:=kvs)];exact cq
theorem xZ (h:σ[a]?=some (.dI kvs)) {k2 k3:List (Int×V)}:(eO σ a k2++l).set a (.dI k3)=eO σ a k3++l:=by
  rw [List.set_append_left _ _ (by rw [jO];exact aC h)]
  unfold Mine.eO
  rw [List.set_set]
theorem nV (h:σ[a]?=some (.dI kvs)):eO σ a kvs=σ:=by
  obtain ⟨h,e⟩:=List.getElem?_eq_some_iff.mp h
  unfold Mine.eO
  rw [← e,List.set_getElem_self]
end
section
variable {κ:Nat} {c:Cfg} {σ:St} {Y:Sym} {H H':List Cell} {W n:Nat} {Q:Fl->Fr->St->Prop} {l:St} {a:Nat} {kv0:List (Int×V)}
theorem wR {C:aD} {hs:Bool} {fr:Fr} {σ σ1 σ2:St} {o i:ME} {k:Nat} {xs:List V} {j:Nat} (h:ev C hs o fr σ=some (.ref k,σ1)) (h2:ev C hs i fr σ1=some (.int j,σ2)) (ho:σ2[k]?=some (.list xs)) (hj:j<=1000000) (hf:xs.length<1000000):
    ev C hs (.slFrom o i) fr σ=some (.ref σ2.length,σ2++[.list (xs.drop j)]):=by
  refine aI h (aI h2 ?_)
  show onL σ2[k]? _=_
  rw [ho]
  show gd (decide ((0:Int)<=j)&&(small j&&fits xs.length)) _=_
  rw [fits_of hf,show small (j:Int)=true by unfold small;simp;lia,decide_eq_true (Int.natCast_nonneg j)]
  rfl
theorem vN {C:Bool->aD} {hs:Bool} {fr:Fr} {σ σ1 σ2:St} {o i:ME} {k:Nat} {xs:List V} {j:Nat} (h:ev (C hs) hs o fr σ=some (.ref k,σ1)) (h2:ev (C hs) hs i fr σ1=some (.int j,σ2)) (ho:σ2[k]?=some (.list xs)) (hj:j<=1000000):
    evS C W hs (.delFrom o i) fr σ=some (.nxt,fr,σ2.set k (.list (xs.take j))):=by
  refine aI h (aI h2 ?_)
  show onL σ2[k]? _=_
  rw [ho]
  show gd (decide ((0:Int)<=j)&&small j) _=_
  rw [show small (j:Int)=true by unfold small;simp;lia,decide_eq_true (Int.natCast_nonneg j)]
  rfl
noncomputable def vis (x:Cell):V:=.tup [.int 0,cv x]
noncomputable def bld (x:Cell):V:=.tup [.int 1,cv x]
noncomputable def σt (σ:St) (a:Nat) (F:List Nat) (K:List (Int×V)) (R S:List V) (J:St):St:=eO σ a (tb F)++(.dI K::.list R::.list S::J)
noncomputable def frt (c:Cfg) (a m:Nat) (x1 x6 x7 x8 x9 x10 x11 x12:Option V):Fr:=⟨[some (.ref c.st),x1,some (.ref a),some (.ref m),some (.ref (m+1)),some (.ref (m+2)),x6,x7,x8,x9,x10,x11,x12],[]⟩
inductive FT (c:Cfg) (a m:Nat):Fr->Prop|mk (x1 x6 x7 x8 x9 x10 x11 x12:Option V):FT c a m (frt c a m x1 x6 x7 x8 x9 x10 x11 x12)
noncomputable def jE (W n:Nat):Nat->Fr->St->fR:=cz (ev (af W (n+3) true) true (wC (cI bG 3))) (evS (af W (n+3)) W true (wB (cI bG 3)))
noncomputable def CvK (κ:Nat) (Y:Sym) (H:List Cell) (q:Nat) (v:V) (F:List Nat):Prop:=∀ c t,aJ κ Y H c t->oV c->c.2=q->v=tv (ren (idx F) t)/\∀ p,occ p t=true->p∈F
noncomputable def p7 (κ:Nat) (Y:Sym) (H:List Cell) (s:Nat) (K:List (Int×V)) (F:List Nat):Prop:=∀ q v,aZ K (nI q)=some v->∀ c t,aJ κ Y H c t->oV c->c.2=q->sz t<s->v=tv (ren (idx F) t)/\∀ p,occ p t=true->p∈F
theorem p7.le {s s':Nat} {K:List (Int×V)} {F:List Nat} (h:p7 κ Y H s K F) (l:s'<=s):p7 κ Y H s' K F:=fun q v hq c t r k e z=>h q v hq c t r k e (Nat.lt_of_lt_of_le z l)
theorem grow {v:V} {F F':List Nat} {t:T} (hF:∃ G,F'=F++G) (h:v=tv (ren (idx F) t)/\∀ p,occ p t=true->p∈F):v=tv (ren (idx F') t)/\∀ p,occ p t=true->p∈F':=by
  refine E10 hF fun G z1=>?_
  subst z1
  refine ⟨?_,fun p o=>List.mem_append_left _ (h.2 p o)⟩
  rw [iw t fun p o=>lu (h.2 p o)];exact h.1
theorem p7.next {s:Nat} {K K':List (Int×V)} {F F':List Nat} (h:p7 κ Y H s K F) (hF:∃ G,F'=F++G) (hM:∀ q v,aZ K' (nI q)=some v->aZ K (nI q)=some v\/CvK κ Y H q v F'):p7 κ Y H s K' F':=fun q v hq c t r k e z=>by
  rcases hM q v hq with h1 | h1
  · exact grow hF (h q v h1 c t r k e z)
  · exact h1 c t r k e
theorem CvK.grow {q:Nat} {v:V} {F F':List Nat} (h:CvK κ Y H q v F) (hF:∃ G,F'=F++G):CvK κ Y H q v F':=fun c t r k e=>Mine.grow hF (h c t r k e)
theorem n8 {F:List Nat} {K:List (Int×V)} {R S:List V} {J:St} (h:σ[a]?=some (.dI kv0)):(σt σ a F K R S J)[a]?=some (.dI (tb F)):=aq (mI h)
theorem yg {F:List Nat} {K:List (Int×V)} {R S:List V} {J:St} {x:V} {fr:Fr} (hf:FT c a σ.length fr):ev (af W (n+3) true) true (wC (cI bG 3)) fr (σt σ a F K R (S++[x]) J)=some (.bool true,σt σ a F K R (S++[x]) J):=by
  obtain ⟨x1,x6,x7,x8,x9,x10,x11,x12⟩:=hf
  exact ai (bF (ab rfl) (bD (a7 (k:=2)))) rfl (congrArg some (decide_eq_true (by simp)))
theorem AO {F:List Nat} {K:List (Int×V)} {R S:List V} {J:St} {x:V} {x1 x6 x7 x8 x9 x10 x11 x12:Option V}:ev (af W (n+3) true) true (.mcall (.loc 5) .gZ .nil) (frt c a σ.length x1 x6 x7 x8 x9 x10 x11 x12) (σt σ a F K R (S++[x]) J)=some (x,σt σ a F K R S J):=by
  have:=ud (σ:=σt σ a F K R (S++[x]) J) (n:=σ.length+2) (x:=x) (xs:=S) (a7 (k:=2))
  rw [show (σt σ a F K R (S++[x]) J).set (σ.length+2) (.list S)=σt σ a F K R S J from hU (k:=2)] at this
  exact cE rfl (a7 (k:=2)) rfl (fun _=>nofun) rfl this
theorem n7 {F:List Nat} {K:List (Int×V)} {R S:List V} {J:St} {x:V} (hR:R.length<1000000):gE .append (σ.length+1) [x] (σt σ a F K R S J)=some (.none,σt σ a F K (R++[x]) S J):=by
  have:=bp (σ:=σt σ a F K R S J) (n:=σ.length+1) (x:=x) (xs:=R) (a7 (k:=1)) (fits_of hR)
  exact this.trans (congrArg (fun z=>some (V.none,z)) (hU (k:=1)))
theorem yf {F:List Nat} {K:List (Int×V)} {R S:List V} {J:St} {x:V} (hR:S.length<1000000):gE .append (σ.length+2) [x] (σt σ a F K R S J)=some (.none,σt σ a F K R (S++[x]) J):=by
  have:=bp (σ:=σt σ a F K R S J) (n:=σ.length+2) (x:=x) (xs:=S) (a7 (k:=2)) (fits_of hR)
  exact this.trans (congrArg (fun z=>some (V.none,z)) (hU (k:=2)))
theorem uH {F:List Nat} {K:List (Int×V)} {R S:List V} {J:St} {q:Nat} {x:V} (hK:K.length<1000000):setItem (.ref (σ.length+0)) (.int (nI q)) x (σt σ a F K R S J)=some (σt σ a F (dput K (nI q) x) R S J):=by
  have:=pE (σ:=σt σ a F K R S J) (n:=σ.length+0) (i:=nI q) (x:=x) (kvs:=K) (a7 (k:=0)) (fits_of hK)
  exact this.trans (congrArg some (hU (k:=0)))
theorem Mem.t (M:Mem c σ Y H) (h:σ[a]?=some (.dI kv0)) (F:List Nat) (K:List (Int×V)) (R S:List V) (J:St):Mem c (σt σ a F K R S J) Y H:=(M.eO h _).app _
theorem Cb (M:Mem c σ Y H) (ht:σ[a]?=some (.dI kv0)) {d:Cell} {f w:Nat} {as:List Cell} {F:List Nat} {K:List (Int×V)} {R S:List V} {J:St} {fr:Fr} (hc:eB Y H d f w) (hw:as.length=w) (ha:f7 H (bs d) as) (hS:S.length+w<=100000)
    (hfr:∃ x6 x7 x8 x9 x10 x12,fr=frt c a σ.length (some (cv d)) x6 x7 x8 x9 x10 (some (.int (bs d))) x12) (hQ:∀ fr',FT c a σ.length fr'->Q .nxt fr' (σt σ a F K R (S++(as.map vis).reverse) J)):
    Ends (evS (af W (n+3)) W true (.for 12 (.call (.glob (.bi .range)) (.cons (.bin .sub (.mcall (.loc 0) .ir (.cons (.loc 1) .nil)) (.int 1)) (.cons (.neg (.int 1)) (.cons (.neg (.int 1)) .nil)))) (.cons (.expr (.mcall (.loc 5) .aT (.cons (.tuple (.cons (.glob (.int 0)) (.cons (.sub (.attr (.loc 0) .aX) (.bin .add (.loc 11) (.loc 12))) .nil))) .nil))) .nil)) fr (σt σ a F K R S J)) Q:=by
  refine E60 hfr fun x6 x7 x8 x9 x10 x12 z6=>?_
  subst z6
  have M0:=M.t ht F K R S J
  refine dy (bF (ae (bJ (e_m rfl M0.st rfl (ab rfl) (ll M0 hc)) rfl rfl) (ae (fF rfl) (ab (fF rfl)))) (rC (Cg hS))) rfl ?_
  have hr:∀ i,i<w->∃ x,as[w - 1 - i]?=some x/\(as.map vis).reverse[i]?=some (vis x):=fun i hi=>by
    obtain ⟨x,hx⟩:∃ x,as[w - 1 - i]?=some x:=⟨_,List.getElem?_eq_getElem (by rw [hw];exact fD hi)⟩
    refine ⟨x,hx,?_⟩
    rw [List.getElem?_reverse (by rw [List.length_map,hw];exact hi),List.length_map,hw,List.getElem?_map,hx];rfl
  refine cw (fun i fr σ'=>σ'=σt σ a F K R (S++(as.map vis).reverse.take i) J/\∃ x12,fr=frt c a σ.length (some (cv d)) x6 x7 x8 x9 x10 (some (.int (bs d))) x12) (fun _ _ _ _=>rfl) ?_ ?_ _ 0 _ _ (by rw [Nat.zero_add]) ⟨?_,_,rfl⟩
  · rintro i x fr σ' hx ⟨rfl,y,rfl⟩
    refine E01 (sh hx) fun z0 hi=>?_
    subst z0
    refine E11 (hr i hi) fun x hx hxr=>?_
    have M':=M.t ht F K R (S++(as.map vis).reverse.take i) J
    refine aa (aS (cE rfl (a7 (k:=2)) rfl (fun _=>nofun) (ab (au (ae rfl (ab (bQ (aH rfl M'.st rfl) (bJ rfl rfl (v:=.int ((bs d+(w - 1 - i):Nat):Int)) rfl) M'.hp (cx.trans (congrArg _ ((ha _ (by rw [hw];exact fD hi)).trans hx)))))) rfl)) (yf (by rw [List.length_append,List.length_take];exact xV hS hi)))) (ao ⟨.inl rfl,?_,_,rfl⟩)
    rw [bM hxr,← List.append_assoc];rfl
  · rintro fr σ' ⟨rfl,x,rfl⟩
    rw [jb,← hw,show (as.map vis).reverse.take as.length=(as.map vis).reverse from List.take_of_length_le (by simp)]
    exact hQ _ (.mk ..)
  · rw [List.take_zero,List.append_nil]
end
section
variable {κ:Nat} {c:Cfg} {σ:St} {Y:Sym} {H H':List Cell} {W n:Nat} {Q:Fl->Fr->St->Prop} {l:St} {a:Nat} {kv0:List (Int×V)}
theorem cO:∀ l:TL,(tvl l).length=aU l
  |.nil=>rfl
  |.cons _ r=>congrArg (·+1) (cO r)
theorem eN {f:Nat->Nat}:∀ l:TL,aU (cW f l)=aU l
  |.nil=>rfl
  |.cons _ r=>congrArg (·+1) (eN r)
theorem Aj (M:Mem c σ Y H) (ht0:σ[a]?=some (.dI kv0)) {d:Cell} {f w:Nat} {F:List Nat} {K:List (Int×V)} {R S ys:List V} {J:St} {fr:Fr} {W':Nat} (hc:eB Y H d f w) (hy:ys.length=w) (hR:R.length+w<=99000) (hK:K.length<1000000) (hf:FT c a σ.length fr)
    (k:∀ fr' J',FT c a σ.length fr'->Ends (jE W n W' fr' (σt σ a F (dput K (nI d.2) (.tup [.str .t_s,.int f,.tup ys])) (R++[.tup [.str .t_s,.int f,.tup ys]]) S J')) Q):
    Ends (jE W n (W'+1) fr (σt σ a F K (R++ys) (S++[bld d]) J)) Q:=by
  refine hZ (yg hf) ?_
  obtain ⟨x1,x6,x7,x8,x9,x10,x11,x12⟩:=hf
  have M0:=M.t ht0 F K (R++ys) S J
  refine aa (pY AO) ?_
  refine aj (aw (ai (v:=true) rfl rfl rfl) ?_)
  refine aa (av (e_m rfl M0.st rfl (ab rfl) (js (n:=n+2) M0 hc))) ?_
  refine aa (av (bJ (bF (ab rfl) (bD (a7 (k:=1)))) (e_m rfl M0.st rfl (ab rfl) (ll (n:=n+1) M0 hc)) (v:=.int (R.length:Int)) (k9 (by rw [List.length_append,hy];push_cast;lia)))) ?_
  have hlen:(R++ys).length=R.length+w:=by rw [List.length_append,hy]
  refine aa (av (au (ae rfl (ae rfl (ab (bF (ab (wR rfl rfl (a7 (k:=1)) (by lia) (by lia))) (jr (xs:=ys) ?_ (fits_of (by lia))))))) rfl)) ?_
  · rw [List.getElem?_append_right (Nat.le_refl _),Nat.sub_self,List.drop_left];rfl
  have e3:σt σ a F K (R++ys) S J++[.list ((R++ys).drop R.length)]=σt σ a F K (R++ys) S (J++[.list ((R++ys).drop R.length)]):=by unfold σt;rw [List.append_assoc];rfl
  rw [e3]
  refine aa (vN rfl rfl (a7 (k:=1)) (by lia)) ?_
  rw [show (σt σ a F K (R++ys) S (J++[.list ((R++ys).drop R.length)])).set (σ.length+1) (.list ((R++ys).take R.length))=σt σ a F K R S (J++[.list ((R++ys).drop R.length)]) from (hU (k:=1)).trans (by rw [List.take_left];rfl)]
  refine aa (aM rfl rfl (ah rfl rfl rfl) (uH hK)) ?_
  refine aa (aS (cE rfl (a7 (k:=1)) rfl (fun _=>nofun) (ab rfl) (n7 (by lia)))) (AW rfl ?_)
  exact k _ _ (.mk ..)
theorem Al (M:Mem c σ Y H) (ht0:σ[a]?=some (.dI kv0)) (hW:κ<W) {x d:Cell} {k:Nat} {F:List Nat} {K:List (Int×V)} {R S:List V} {J:St} {fr:Fr} {W':Nat} (hd:Der H x d k) (hk:k<=κ) (hf:FT c a σ.length fr)
    (kont:∀ x7 x8 x9 x11 x12,Ends (evS (af W (n+3)) W true (.cons (cI (wB (cI bG 3)) 4) .nil) (frt c a σ.length (some (cv d)) (some (.int 0)) x7 x8 x9 (some (.int d.1)) x11 x12) (σt σ a F K R S J)) fun fl fr2 σ2=>match fl with | .nxt=>Ends (jE W n W' fr2 σ2) Q | .cnt=>Ends (jE W n W' fr2 σ2) Q | .ret v=>Q (.ret v) fr2 σ2 | .err _=>False):
    Ends (jE W n (W'+1) fr (σt σ a F K R (S++[vis x]) J)) Q:=by
  refine hZ (yg hf) ?_
  obtain ⟨x1,x6,x7,x8,x9,x10,x11,x12⟩:=hf
  have M0:=M.t ht0 F K R S J
  refine aa (pY AO) ?_
  refine aa (aN (ai (v:=false) rfl rfl rfl)) ?_
  refine aa (av (e_m rfl M0.st rfl (ab rfl) (fE (n:=n+2) M0 hd (by exact Nat.lt_of_le_of_lt (by assumption) (by assumption))))) ?_
  refine aa (av (ah rfl rfl rfl)) ?_
  exact kont _ _ _ _ _
mutual
theorem AP (M:Mem c σ Y H) (ht0:σ[a]?=some (.dI kv0)) (hW:κ<W):∀ (t:T) {x d:Cell} {k:Nat} {F:List Nat} {K:List (Int×V)} {R S:List V} {J:St},Der H x d k->k<=κ->aJ κ Y H d t->p7 κ Y H (sz t+1) K F->K.length+2 * sz t<=4000->F.length+sz t<=4000->S.length+2 * sz t<=90000->R.length+sz t<=90000->
    ∀ (B:Nat),(∀ W' fr K' J',B<=W'->FT c a σ.length fr->(∀ q v,aZ K' (nI q)=some v->aZ K (nI q)=some v\/CvK κ Y H q v (vfs t F))->K'.length<=K.length+2 * sz t->Ends (jE W n W' fr (σt σ a (vfs t F) K' (R++[tv (ren (idx (vfs t F)) t)]) S J')) Q)->
    ∀ W' fr,B+2 * sz t<=W'->FT c a σ.length fr->Ends (jE W n W' fr (σt σ a F K R (S++[vis x]) J)) Q:=fun t x d k F K R S J hd hk ht hp hK hF hS hR B kont W' fr hW' hfr=>by
  obtain ⟨W',rfl⟩:∃ m,W'=m+1:=⟨W' - 1,by have:=kj t;lia⟩
  refine Al M ht0 hW hd hk hfr fun x7 x8 x9 x11 x12=>?_
  have M0:=M.t ht0 F K R S J
  cases t with
  |v p=>
    refine E01 ht.var fun z0 h=>?_
    subst z0
    refine aj (aw (ai (v:=true) rfl rfl rfl) ?_)
    by_cases hpF:p∈F
    · have e:vfs (.v p) F=F:=if_pos hpF
      refine aa (aN (ai (v:=false) (ah rfl rfl rfl) rfl ((bP (fG (n8 ht0))).trans (by rw [show aZ (tb F) ((p:Nat):Int)=_ from gK gn hpF];rfl)))) ?_
      refine aa (aS (cE rfl (a7 (k:=1)) rfl (fun _=>nofun) (ab (au (ae rfl (ab (gN rfl (ah rfl rfl rfl) (n8 ht0) (gK gn hpF)))) rfl)) (n7 (by (refine Nat.le_trans (by assumption) ?_;decide))))) (ao (ao ?_))
      have:=kont W' (frt c a σ.length (some (cv (0,p))) (some (.int 0)) x7 x8 x9 (some (.int 0)) x11 x12) K J (Nat.le_of_lt (Nat.le_of_succ_le_succ (show _+2<=_+1 from hW'))) (.mk ..) (fun q v hq=>.inl hq) (by exact Nat.le_add_right _ _)
      rw [e] at this
      exact this
    · have e:vfs (.v p) F=F++[p]:=if_neg hpF
      have e2:setItem (.ref a) (.int (nI p)) (.int (tb F).length) (σt σ a F K R S J)=some (σt σ a (F++[p]) K R S J):=by
        refine (pE (n8 ht0) (fits_of (by unfold tb;rw [ur];exact Nat.lt_of_lt_of_le hF (by decide)))).trans (congrArg some ?_)
        unfold σt
        rw [xZ ht0]
        unfold tb
        rw [ur,mf gn hpF]
      refine aj (aw (ai (v:=true) (ah rfl rfl rfl) rfl ((bP (fG (n8 ht0))).trans (by rw [show aZ (tb F) ((p:Nat):Int)=_ from lq gn hpF];rfl))) ?_)
      refine aa (aM (bF (ab rfl) (A4 (n8 ht0))) rfl (ah rfl rfl rfl) e2) (ao ?_)
      refine aa (aS (cE rfl (a7 (k:=1)) rfl (fun _=>nofun) (ab (au (ae rfl (ab (gN rfl (ah rfl rfl rfl) (n8 ht0) (gK gn (List.mem_append_right F (List.mem_singleton.mpr rfl)))))) rfl)) (n7 (by (refine Nat.le_trans (by assumption) ?_;decide))))) (ao (ao ?_))
      have:=kont W' (frt c a σ.length (some (cv (0,p))) (some (.int 0)) x7 x8 x9 (some (.int 0)) x11 x12) K J (Nat.le_of_lt (Nat.le_of_succ_le_succ (show _+2<=_+1 from hW'))) (.mk ..) (fun q v hq=>.inl hq) (by exact Nat.le_add_right _ _)
      rw [e] at this
      exact this
  |a m=>
    obtain rfl:=ht.atm
    refine aj (bw (ai (v:=false) rfl rfl rfl) (aj (aw (ai (v:=true) rfl rfl rfl) ?_)))
    exact aa (aS (cE rfl (a7 (k:=1)) rfl (fun _=>nofun) (ab (au (ae rfl (ab (ah rfl rfl rfl))) rfl)) (n7 (by (refine Nat.le_trans (by assumption) ?_;decide))))) (ao (ao (ao (kont W' _ K J (Nat.le_of_lt (Nat.le_of_succ_le_succ (show _+2<=_+1 from hW'))) (.mk ..) (fun q v hq=>.inl hq) (by exact Nat.le_add_right _ _)))))
  |i m=>
    obtain rfl:=ht.itm
    refine aj (bw (ai (v:=false) rfl rfl rfl) (aj (bw (ai (v:=false) rfl rfl rfl) (aj (aw (ai (v:=true) rfl rfl rfl) ?_)))))
    exact aa (aS (cE rfl (a7 (k:=1)) rfl (fun _=>nofun) (ab (au (ae rfl (ab (ah rfl rfl rfl))) rfl)) (n7 (by (refine Nat.le_trans (by assumption) ?_;decide))))) (ao (ao (ao (ao (kont W' _ K J (Nat.le_of_lt (Nat.le_of_succ_le_succ (show _+2<=_+1 from hW'))) (.mk ..) (fun q v hq=>.inl hq) (by exact Nat.le_add_right _ _))))))
  |s f l=>
    have ht1:=ht
    refine E12 ht.cmp fun w h hl hw=>?_
    have htag:=h.tag
    have hsz:sz (.s f l)=szL l+1:=rfl
    refine aj (bw (ai (v:=false) rfl rfl (congrArg some (bE (b:=0) (by lia)))) (aj (bw (ai (v:=false) rfl rfl (congrArg some (bE (b:=4) (by lia)))) (aj (bw (ai (v:=false) rfl rfl (congrArg some (bE (b:=5) (by lia)))) ?_)))))
    rcases hq:aZ K (nI d.2) with _ | v
    · refine E11 hl.cells fun as ha1 ha2=>?_
      have hlt:=eA l
      have hK1:=jw (k:=nI d.2) (x:=V.none) (kvs:=K)
      refine aj (bw (ai (v:=false) (ah rfl rfl rfl) rfl ((fG (a7 (k:=0))).trans (by rw [show aZ K ((d.2:Nat):Int)=_ from hq];rfl))) ?_)
      refine aa (aM rfl rfl (ah rfl rfl rfl) (uH (by lia))) ?_
      refine aa (aS (cE rfl (a7 (k:=2)) rfl (fun _=>nofun) (ab (au (ae rfl (ab rfl)) rfl)) (yf (by lia)))) ?_
      have M1:=M.t ht0 F (dput K (nI d.2) .none) R (S++[bld d]) J
      refine aa (av (e_m rfl M1.st rfl (ab rfl) iW)) ?_
      refine aj (Cb M ht0 h (ha1.trans hw) ha2 (by rw [List.length_append,List.length_singleton];lia) ⟨_,_,_,_,_,_,rfl⟩ fun fr' hf'=>ao (ao (ao (ao (ao ?_)))))
      refine yo M ht0 hW l hl ha1 ha2 (fun q v hq' c' t' r cm e z=>?_) (by lia) (by exact Nat.le_of_lt (by assumption)) (by rw [List.length_append,List.length_singleton];lia) (by exact Nat.le_of_lt (by assumption)) (B+1) (fun W'' fr2 K' J' hB hf2 hM hlen=>?_) W' fr' (by lia) hf'
      · rw [gL] at hq'
        by_cases hqq:nI d.2=nI q
        · have:=aJ.jX r ht1 cm htag (e.trans (gn _ _ hqq).symm)
          rw [this,hsz] at z
          lia
        · rw [if_neg hqq] at hq'
          exact hp q v hq' c' t' r cm e (by lia)
      · obtain ⟨W'',rfl⟩:∃ m,W''=m+1:=⟨W'' - 1,by lia⟩
        have hyl:(tvl (cW (idx (dQ l F)) l)).length=w:=by rw [cO,eN,hw]
        have hK2:=jw (k:=nI d.2) (x:=tv (ren (idx (dQ l F)) (.s f l))) (kvs:=K')
        refine Aj M ht0 h hyl (by lia) (by lia) hf2 fun fr3 J3 hf3=>kont W'' fr3 _ J3 (by lia) hf3 (fun q v hq'=>?_) ?_
        · rw [gL] at hq'
          by_cases hqq:nI d.2=nI q
          · rw [if_pos hqq] at hq'
            refine .inr fun c' t' r cm e=>?_
            rw [aJ.jX r ht1 cm htag (e.trans (gn _ _ hqq).symm)]
            exact ⟨(Option.some.inj hq').symm,fun p o=>(b9 (.s f l) F).mpr (.inr o)⟩
          · rw [if_neg hqq] at hq'
            rcases hM q v hq' with h1 | h1
            · rw [gL,if_neg hqq] at h1
              exact .inl h1
            · exact .inr h1
        · exact Nat.le_trans hK2 (by lia)
    · refine E01 (hp d.2 v hq d _ ht1 htag rfl (Nat.lt_succ_self _)) fun z0 ho=>?_
      subst z0
      have e:vfs (.s f l) F=F:=pV _ _ ho
      refine aj (aw (ai (v:=true) (ah rfl rfl rfl) rfl ((fG (a7 (k:=0))).trans (by rw [show aZ K ((d.2:Nat):Int)=_ from hq];rfl))) ?_)
      refine aa (av (gN rfl (ah rfl rfl rfl) (a7 (k:=0)) hq)) ?_
      refine aa (aN (ai (v:=false) rfl rfl rfl)) ?_
      refine aa (aS (cE rfl (a7 (k:=1)) rfl (fun _=>nofun) (ab rfl) (n7 (by lia)))) (ao (ao (ao (ao (ao ?_)))))
      have:=kont W' (frt c a σ.length (some (cv d)) (some (.int 0)) x7 x8 (some (tv (ren (idx F) (.s f l)))) (some (.int d.1)) x11 x12) K J (by lia) (.mk ..) (fun q v hq=>.inl hq) (by exact Nat.le_add_right _ _)
      rw [e] at this
      exact this
theorem yo (M:Mem c σ Y H) (ht0:σ[a]?=some (.dI kv0)) (hW:κ<W):∀ (l:TL) {p:Nat} {as:List Cell} {F:List Nat} {K:List (Int×V)} {R S:List V} {J:St},cA κ Y H p l->as.length=aU l->f7 H p as->p7 κ Y H (szL l+1) K F->K.length+2 * szL l<=4000->F.length+szL l<=4000->S.length+2 * szL l<=90000->R.length+szL l<=90000->
    ∀ (B:Nat),(∀ W' fr K' J',B<=W'->FT c a σ.length fr->(∀ q v,aZ K' (nI q)=some v->aZ K (nI q)=some v\/CvK κ Y H q v (dQ l F))->K'.length<=K.length+2 * szL l->Ends (jE W n W' fr (σt σ a (dQ l F) K' (R++tvl (cW (idx (dQ l F)) l)) S J')) Q)->
    ∀ W' fr,B+2 * szL l<=W'->FT c a σ.length fr->Ends (jE W n W' fr (σt σ a F K R (S++(as.map vis).reverse) J)) Q
  |.nil,p,as,F,K,R,S,J,hl,h1,h2,hp,hK,hF,hS,hR,B,kont,W',fr,hW',hfr=>by
    cases as with
    |cons=>exact (Nat.succ_ne_zero _ h1).elim
    |nil=>
      have:=kont W' fr K J hW' hfr (fun q v hq=>.inl hq) (by exact Nat.le_refl _)
      rw [show R++tvl (cW (idx (dQ .nil F)) .nil)=R from List.append_nil _] at this
      rw [show S++(([]:List Cell).map vis).reverse=S from List.append_nil _]
      exact this
  |.cons t r,p,as,F,K,R,S,J,hl,h1,h2,hp,hK,hF,hS,hR,B,kont,W',fr,hW',hfr=>by
    refine E34 hl.con fun k x d hx hd hk ht hr=>?_
    cases as with
    |nil=>exact (Nat.succ_ne_zero _ h1.symm).elim
    |cons a' as=>
      have hlen:as.length=aU r:=Nat.succ.inj h1
      have ha:x=a':=by
        have:=h2 0 (by simp)
        rw [Nat.add_zero,hx] at this
        exact Option.some.inj this
      subst ha
      have hsz:szL (.cons t r)=sz t+szL r:=rfl
      have hlr:=eA r
      have hst:=kj t
      rw [List.map_cons,List.reverse_cons,← List.append_assoc]
      refine AP M ht0 hW t hd hk ht (hp.le (by lia)) (by lia) (by lia) (by rw [List.length_append,List.length_reverse,List.length_map];lia) (by lia) (B+2 * szL r) (fun W'' fr2 K2 J2 hB hf2 hM2 hlen2=>?_) W' fr (by lia) hfr
      have hF2:=dd t F
      refine yo M ht0 hW r hr hlen (fun j hj=>by have:=h2 (j+1) (by simpa using hj);rw [Nat.add_assoc,Nat.add_comm 1 j];simpa using this) ((hp.le (by exact Nat.le_add_left _ _)).next (lH t F) hM2) (by lia) (by lia) (by lia) (by rw [List.length_append,List.length_singleton];lia) B (fun W3 fr3 K3 J3 hB3 hf3 hM3 hlen3=>?_) W'' fr2 (by assumption) hf2
      have:=kont W3 fr3 K3 J3 hB3 hf3 (fun q v hq=>?_) (by lia)
      · rw [show R++tvl (cW (idx (dQ (.cons t r) F)) (.cons t r))=R++[tv (ren (idx (vfs t F)) t)]++tvl (cW (idx (dQ r (vfs t F))) r) from ?_] at this
        · exact this
        · rw [List.append_assoc]
          show R++(tv (ren (idx (dQ r (vfs t F))) t)::_)=_
          rw [iw t fun p o=>xc r ((b9 t F).mpr (.inr o))]
          rfl
      · rcases hM3 q v hq with h | h
        · rcases hM2 q v h with h | h
          · exact .inl h
          · exact .inr (h.grow (q5 r _))
        · exact .inr h
end
end
noncomputable def assoc {β:Type}:List (Nat×β)->Nat->Option β
  |[],_=>none
  |q::r,x=>if q.1=x then some q.2 else assoc r x
noncomputable def dm {β:Type} (f:β->V) (l:List (Nat×β)):List (Int×V):=l.map fun q=>(nI q.1,f q.2)
section
variable {β:Type} {f:β->V} {x:Nat} {y:β}
theorem ct:∀ {l:List (Nat×β)},aZ (dm f l) (nI x)=(assoc l x).map f
  |[]=>rfl
  |q::r=>by
    show (if nI q.1=nI x then some (f q.2) else aZ (dm f r) (nI x))=(if q.1=x then some q.2 else assoc r x).map f
    rw [ct]
    by_cases h:q.1=x
    · rw [if_pos (congrArg _ h),if_pos h];rfl
    · rw [if_neg (fun z=>h (gn _ _ z)),if_neg h]
theorem jv {l:List (Nat×β)} (h:assoc l x=none):dput (dm f l) (nI x) (f y)=dm f (l++[(x,y)]):=by
  rw [oX (by rw [ct,h];rfl)]
  unfold dm
  rw [List.map_append];rfl
theorem fS {r:List (Nat×β)}:∀ {l:List (Nat×β)},assoc (l++r) x=(assoc l x).or (assoc r x)
  |[]=>rfl
  |q::l=>by
    show (if q.1=x then some q.2 else assoc (l++r) x)=Option.or (if q.1=x then some q.2 else assoc l x) _
    rw [fS]
    by_cases h:q.1=x
    · rw [if_pos h,if_pos h];rfl
    · rw [if_neg h,if_neg h]
theorem j4 {l:List (Nat×β)}:(dm f l).length=l.length:=List.length_map _
end
mutual
noncomputable def Wf (Y:Sym):T->Prop
  |.s f l=>(∃ a,Y.fs[f]?=some (a,aU l))/\aU l<=3/\WfL Y l
  |_=>True
noncomputable def WfL (Y:Sym):TL->Prop
  |.nil=>True
  |.cons t r=>Wf Y t/\WfL Y r
end
noncomputable def Pd (pend:List (Nat×TL)) (i:Nat):Prop:=∃ b∈pend,b.1<=i/\i<b.1+aU b.2
noncomputable def gH:Nat->List (Nat×TL)->Nat->Prop
  |lo,[],hi=>lo<=hi
  |lo,b::r,hi=>lo<=b.1/\gH (b.1+aU b.2) r hi
theorem gH.bd {i:Nat}:∀ {pend:List (Nat×TL)} {lo hi:Nat},gH lo pend hi->lo<=hi/\(Pd pend i->lo<=i/\i<hi)
  |[],lo,hi,h=>⟨h,fun ⟨_,hb,_⟩=>nomatch hb⟩
  |b::r,lo,hi,h=>by
    refine E01 (gH.bd (i:=i) h.2) fun h1 h2=>?_
    have h0:=h.1
    refine ⟨by lia,fun ⟨c,hc,h3,h4⟩=>?_⟩
    rcases List.mem_cons.mp hc with rfl | hc
    · lia
    · have:=h2 ⟨c,hc,h3,h4⟩;lia
theorem gH.app {q:List (Nat×TL)} {mid hi:Nat}:∀ {pend:List (Nat×TL)} {lo:Nat},gH lo pend mid->gH mid q hi->gH lo (pend++q) hi
  |[],lo,h,h2=>by
    cases q with
    |nil=>exact Nat.le_trans h h2
    |cons b r=>exact ⟨Nat.le_trans h h2.1,h2.2⟩
  |b::r,lo,h,h2=>⟨h.1,gH.app h.2 h2⟩
theorem Pd.app {p q:List (Nat×TL)} {i:Nat}:Pd (p++q) i↔Pd p i\/Pd q i:=by
  unfold Pd
  constructor
  · rintro ⟨b,hb,h⟩
    exact (List.mem_append.mp hb).imp (fun z=>⟨b,z,h⟩) fun z=>⟨b,z,h⟩
  · rintro (⟨b,hb,h⟩ | ⟨b,hb,h⟩)
    · exact ⟨b,List.mem_append_left _ hb,h⟩
    · exact ⟨b,List.mem_append_right _ hb,h⟩
theorem Pd.hd {p:Nat} {t:T} {r:TL} {rest:List (Nat×TL)} {i:Nat}:Pd ((p,.cons t r)::rest) i↔i=p\/Pd ((p+1,r)::rest) i:=by
  have e:aU (.cons t r)=aU r+1:=rfl
  constructor
  · rintro ⟨b,hb,h1,h2⟩
    rcases List.mem_cons.mp hb with rfl | hb
    · by_cases h:i=p
      · exact .inl h
      · exact .inr ⟨_,List.mem_cons_self,by simp only [e] at *;lia,by simp only [e] at *;lia⟩
    · exact .inr ⟨b,List.mem_cons_of_mem _ hb,h1,h2⟩
  · rintro (rfl | ⟨b,hb,h1,h2⟩)
    · exact ⟨_,List.mem_cons_self,Nat.le_refl _,by simp only [e];lia⟩
    · rcases List.mem_cons.mp hb with rfl | hb
      · exact ⟨_,List.mem_cons_self,by simp only [e] at *;exact Nat.le_of_lt (by assumption),by simp only [e] at *;lia⟩
      · exact ⟨b,List.mem_cons_of_mem _ hb,h1,h2⟩
abbrev Tab:=List (Nat×Nat)
structure lO (H:List Cell) (tab:Tab):Prop where
  un:∀ x p,assoc tab x=some p->H[p]?=some (0,p)
  inj:∀ x y p,assoc tab x=some p->assoc tab y=some p->x=y
structure PS (Y:Sym) (Hb:List Cell) (tab0:Tab) (x:Cell) (t:T) (H:List Cell) (tab:Tab) (pend:List (Nat×TL)):Prop where
  ri:gH Hb.length pend H.length
  ho:∀ i,Pd pend i->H[i]?=some (0,i)
  bo:∀ (i:Nat) (c:Cell),Hb[i]?=some c->H[i]?=some c
  tb:lO H tab
  np:∀ y p,assoc tab y=some p->¬ Pd pend p
  nw:∀ y p,assoc tab y=some p->assoc tab0 y=some p\/Hb.length<=p
  ol:∀ y p,assoc tab0 y=some p->assoc tab y=some p
  wf:∀ b∈pend,WfL Y b.2
  ky:∀ y p,assoc tab y=some p->assoc tab0 y=some p\/occ y t=true
  po:∀ b∈pend,∀ y,cJ y b.2=true->occ y t=true
  cv:∀ y,occ y t=true->assoc tab y=none->∃ b∈pend,cJ y b.2=true
  cl:∀ (Hf:List Cell) (α:Nat->Nat),(∀ (i:Nat) (c:Cell),H[i]?=some c->¬ Pd pend i->Hf[i]?=some c)->(∀ y p,assoc tab y=some p->α y=p)->(∀ b∈pend,cA 1 Y Hf b.1 (cW α b.2))->Rep 1 Y Hf x (ren α t)
section
variable {Y:Sym} {Hb H H':List Cell} {tab0 tab tab':Tab} {x:Cell} {t0 t:T} {p:Nat} {r:TL} {rest new:List (Nat×TL)}
theorem PS.step (P:PS Y Hb tab0 x t0 H tab ((p,.cons t r)::rest))
    (ag:∀ (i:Nat) (c:Cell),H[i]?=some c->i≠p->H'[i]?=some c) (ri:gH H.length new H'.length) (ho:∀ i,Pd new i->H'[i]?=some (0,i))
    (tb:lO H' tab') (sub:∀ y q,assoc tab y=some q->assoc tab' y=some q) (np:∀ y q,assoc tab' y=some q->assoc tab y=some q\/(q=p/\occ y t=true))
    (wf:∀ b∈new,WfL Y b.2) (po:∀ b∈new,∀ y,cJ y b.2=true->occ y t=true) (cv:∀ y,occ y t=true->assoc tab' y=none->∃ b∈new,cJ y b.2=true)
    (cl:∀ (Hf:List Cell) (α:Nat->Nat),(∀ (i:Nat) (c:Cell),H'[i]?=some c->¬ Pd (((p+1,r)::rest)++new) i->Hf[i]?=some c)->(∀ y q,assoc tab' y=some q->α y=q)->(∀ b∈new,cA 1 Y Hf b.1 (cW α b.2))->
      ∃ d d' k,Hf[p]?=some d/\Der Hf d d' k/\k<=1/\aJ 1 Y Hf d' (ren α t)):
    PS Y Hb tab0 x t0 H' tab' (((p+1,r)::rest)++new):=by
  have e:aU (.cons t r)=aU r+1:=rfl
  have ri0:Hb.length<=p/\gH (p+aU (.cons t r)) rest H.length:=P.ri
  have ri1:gH (p+1) ((p+1,r)::rest) H.length:=⟨Nat.le_refl _,by have:=ri0.2;rw [e] at this;rw [Nat.add_assoc,Nat.add_comm 1];exact this⟩
  have pp:Pd ((p,.cons t r)::rest) p:=Pd.hd.mpr (.inl rfl)
  have pl:=(P.ri.bd (i:=p)).2 pp
  have hp:=P.ho p pp
  have gt:∀ i,Pd ((p+1,r)::rest) i->p<i:=fun i h=>((ri1.bd (i:=i)).2 h).1
  have hn:∀ i,Pd new i->H.length<=i:=fun i h=>((ri.bd (i:=i)).2 h).1
  have hl:=fun i (h:Pd ((p,TL.cons t r)::rest) i)=>((P.ri.bd (i:=i)).2 h).2
  refine ⟨gH.app ⟨by lia,ri1.2⟩ ri,fun i h=>?_,fun i c h=>ag i c (P.bo i c h) (by have:=(List.getElem?_eq_some_iff.mp h).1;lia),tb,fun y q hq h=>?_,fun y q hq=>?_,fun y q hq=>sub y q (P.ol y q hq),fun b hb=>?_,fun y q hq=>?_,fun b hb y o=>?_,fun y o hy=>?_,fun Hf α ha hα hr=>P.cl Hf α (fun i c hi hnp=>?_) (fun y q hq=>hα y q (sub y q hq)) fun b hb=>?_⟩
  · rcases Pd.app.mp h with h | h
    · exact ag i _ (P.ho i (Pd.hd.mpr (.inr h))) (by have:=gt i h;exact Nat.ne_of_gt (by assumption))
    · exact ho i h
  · rcases np y q hq with h1 | ⟨rfl,_⟩
    · have:=P.np y q h1
      rcases Pd.app.mp h with h | h
      · exact this (Pd.hd.mpr (.inr h))
      · have:=hn q h;have:=(List.getElem?_eq_some_iff.mp (P.tb.un y q h1)).1;lia
    · rcases Pd.app.mp h with h | h
      · have:=gt q h;lia
      · have:=hn q h;lia
  · rcases np y q hq with h1 | ⟨rfl,_⟩
    · exact P.nw y q h1
    · exact .inr pl.1
  · rcases List.mem_append.mp hb with hb | hb
    · rcases List.mem_cons.mp hb with rfl | hb
      · exact (P.wf _ List.mem_cons_self).2
      · exact P.wf b (List.mem_cons_of_mem _ hb)
    · exact wf b hb
  · rcases np y q hq with h1 | ⟨_,o⟩
    · exact P.ky y q h1
    · exact .inr (P.po _ List.mem_cons_self y (by show (occ y t||_)=true;rw [o];rfl))
  · rcases List.mem_append.mp hb with hb | hb
    · rcases List.mem_cons.mp hb with rfl | hb
      · exact P.po _ List.mem_cons_self y (by show (_||cJ y r)=true;rw [show cJ y r=true from o,Bool.or_true])
      · exact P.po b (List.mem_cons_of_mem _ hb) y o
    · exact P.po _ List.mem_cons_self y (by show (occ y t||_)=true;rw [po b hb y o];rfl)
  · have h0:assoc tab y=none:=by
      cases h:assoc tab y with
      |none=>rfl
      |some q=>rw [sub y q h] at hy;cases hy
    refine E11 (P.cv y o h0) fun b hb ob=>?_
    rcases List.mem_cons.mp hb with rfl | hb
    · rcases (Bool.or_eq_true _ _).mp ob with o1 | o1
      · refine E11 (cv y o1 hy) fun b hb o2=>?_
        exact ⟨b,List.mem_append_right _ hb,o2⟩
      · exact ⟨_,List.mem_append_left _ List.mem_cons_self,o1⟩
    · exact ⟨b,List.mem_append_left _ (List.mem_cons_of_mem _ hb),ob⟩
  · have hip:i≠p:=fun z=>hnp (z▸pp)
    refine ha i c (ag i c hi hip) fun h=>?_
    rcases Pd.app.mp h with h | h
    · exact hnp (Pd.hd.mpr (.inr h))
    · have:=hn i h;have:=(List.getElem?_eq_some_iff.mp hi).1;lia
  · rcases List.mem_cons.mp hb with rfl | hb
    · refine E33 (cl Hf α ha hα fun b hb=>hr b (List.mem_append_right _ hb)) fun d d' k h1 h2 h3 h4=>?_
      exact .cons h1 h2 h3 h4 (hr (p+1,r) (List.mem_append_left _ List.mem_cons_self))
    · exact hr b (List.mem_append_left _ (List.mem_cons_of_mem _ hb))
theorem PS.drop (P:PS Y Hb tab0 x t0 H tab ((p,.nil)::rest)):PS Y Hb tab0 x t0 H tab rest:=by
  have pd:∀ i,Pd rest i->Pd ((p,.nil)::rest) i:=fun i ⟨b,hb,h⟩=>⟨b,List.mem_cons_of_mem _ hb,h⟩
  have dp:∀ i,Pd ((p,.nil)::rest) i->Pd rest i:=fun i ⟨b,hb,h⟩=>by
    rcases List.mem_cons.mp hb with rfl | hb
    · have h1:=h.1;have h2:=h.2;exact absurd h2 (Nat.not_lt.mpr h1)
    · exact ⟨b,hb,h⟩
  refine ⟨?_,fun i h=>P.ho i (pd i h),P.bo,P.tb,fun y q hq h=>P.np y q hq (pd q h),P.nw,P.ol,fun b hb=>P.wf b (List.mem_cons_of_mem _ hb),P.ky,fun b hb=>P.po b (List.mem_cons_of_mem _ hb),fun y o hy=>?_,fun Hf α ha hα hr=>P.cl Hf α (fun i c hi hn=>ha i c hi fun h=>hn (pd i h)) hα fun b hb=>?_⟩
  · have h0:Hb.length<=p/\gH (p+0) rest H.length:=P.ri
    cases hr:rest with
    |nil=>rw [hr] at h0;exact Nat.le_trans h0.1 h0.2
    |cons b q=>rw [hr] at h0;exact ⟨Nat.le_trans h0.1 h0.2.1,h0.2.2⟩
  · refine E11 (P.cv y o hy) fun b hb ob=>?_
    rcases List.mem_cons.mp hb with rfl | hb
    · exact nof ob
    · exact ⟨b,hb,ob⟩
  · rcases List.mem_cons.mp hb with rfl | hb
    · exact .nil _
    · exact hr b hb
end
section
variable {C:aD} {c:Cfg} {σ σ1:St} {Y:Sym} {H H0 H' Hb:List Cell} {W n a:Nat} {Q:Fl->Fr->St->Prop} {J:St} {kv0:List (Int×V)} {tab tab' tab0:Tab} {x:Cell} {t0:T}
theorem dg {b:V->Fr->St->fR} {it y x:V} {all r:List V} {i:Nat} {fr:Fr} (h:itemsOf it σ=some all) (hx:all[i]?=some x) (k:Ends (b x fr σ) fun fl fr σ=>match fl with | .nxt=>Ends (ft b it r (i+1) fr σ) Q | .cnt=>Ends (ft b it r (i+1) fr σ) Q | .ret v=>Q (.ret v) fr σ | .err _=>False):Ends (ft b it (y::r) i fr σ) Q:=by
  refine E31 k fun fl fr2 σ2 e q=>?_
  refine cc h (cc hx (cc e ?_))
  cases fl with
  |nxt=>exact q
  |cnt=>exact q
  |ret v=>exact .of rfl q
  |err v=>exact q.elim
theorem kJ {b:V->Fr->St->fR} {it:V} {all:List V} {i:Nat} {fr:Fr} (h:itemsOf it σ=some all) (hi:all.length<=i) (q:Q .nxt fr σ):Ends (ft b it [] i fr σ) Q:=by
  refine cc h ?_
  show Ends (gd (decide (all.length<=i)) _) _
  rw [decide_eq_true hi]
  exact .of rfl q
noncomputable def rf (p:Nat):V:=cv (0,p)
noncomputable def σq (c:Cfg) (a:Nat) (σ:St) (H:List Cell) (tab:Tab) (J:St):St:=aY c (eO σ a (dm rf tab)) H++J
theorem uA:(aY c (eO σ a (dm rf tab)) H).length=σ.length:=List.length_set.trans jO
theorem AK {k:Nat}:(σq c a σ H tab J)[σ.length+k]?=J[k]?:=by rw [← uA (c:=c) (σ:=σ) (a:=a) (tab:=tab) (H:=H)];exact aE
theorem C9 {k:Nat} {o:O}:(σq c a σ H tab J).set (σ.length+k) o=σq c a σ H tab (J.set k o):=by rw [← uA (c:=c) (σ:=σ) (a:=a) (tab:=tab) (H:=H)];exact cq
theorem C8 (M:Mem c σ Y H0) (h:σ[a]?=some (.dI kv0)):c.hp≠a:=aQ M.hp h (by simp)
theorem uz (M:Mem c σ Y H0) (h:σ[a]?=some (.dI kv0)):(σq c a σ H tab J)[a]?=some (.dI (dm rf tab)):=aq ((aF (C8 M h)).trans (mI h))
theorem qR (M:Mem c σ Y H0) (h:σ[a]?=some (.dI kv0)):Mem c (σq c a σ H tab J) Y H:=((M.eO h _).aY H).app J
theorem uB (M:Mem c σ Y H0) (h:σ[a]?=some (.dI kv0)):aY c (σq c a σ H tab J) H'=σq c a σ H' tab J:=(fA (M.eO h _ |>.aY H)).trans (congrArg (·++J) fX)
theorem AL (M:Mem c σ Y H0) (h:σ[a]?=some (.dI kv0)):(σq c a σ H tab J).set a (.dI (dm rf tab'))=σq c a σ H tab' J:=by
  unfold σq
  rw [List.set_append_left _ _ (by rw [uA];exact aC h)]
  unfold aY Mine.eO
  rw [List.set_comm _ _ (C8 M h),List.set_set]
noncomputable def blk (b:Nat×TL):V:=.tup [.int b.1,.tup (tvl b.2)]
noncomputable def sP:List (Nat×TL)->Nat
  |[]=>0
  |b::r=>szL b.2+sP r
theorem mH {p q:List (Nat×TL)}:sP (p++q)=sP p+sP q:=by
  induction p with
  |nil=>exact (Nat.zero_add _).symm
  |cons b r ih=>show szL b.2+sP (r++q)=_;rw [ih];exact (Nat.add_assoc _ _ _).symm
noncomputable def frq (c:Cfg) (a m:Nat) (x1 x3 x4 x5 x7 x8 x9 x10 x11:Option V):Fr:=⟨[some (.ref c.st),x1,some (.ref a),x3,x4,x5,some (.ref (m+1)),x7,x8,x9,x10,x11],[]⟩
noncomputable def fBody:MS->MS
  |.for _ _ b=>b
  |_=>.nil
noncomputable def As:MS:=fBody (cI (wB (cI bW 8)) 2)
theorem pB {C:Bool->aD} (M:Mem c σ Y H0) (h:σ[a]?=some (.dI kv0)) {fr:Fr} {e i:ME} {p:Nat} {d:Cell} (he:ev (C true) true e fr σ1=some (cv d,σq c a σ H tab J)) (h0:ev (C true) true (.loc 0) fr (σq c a σ H tab J)=some (.ref c.st,σq c a σ H tab J)) (hi:ev (C true) true i fr (σq c a σ H tab J)=some (.int p,σq c a σ H tab J)) (hp:p<H.length):
    evS C W true (.setitem (.attr (.loc 0) .aX) i e) fr σ1=some (.nxt,fr,σq c a σ (H.set p d) tab J):=by
  have M1:=qR (H:=H) (tab:=tab) (J:=J) M h
  refine (aM he (aH h0 M1.st rfl) hi (dh M1.hp (Int.natCast_nonneg p) (by rw [List.length_map];exact hp))).trans ?_
  rw [Int.toNat_natCast,← List.map_set]
  exact congrArg (fun z=>some (Fl.nxt,fr,z)) (uB (H':=H.set p d) M h)
end
section
variable {c:Cfg} {σ σ1:St} {Y:Sym} {H H0 H' Hb:List Cell} {W n a:Nat} {Q:Fl->Fr->St->Prop} {J:St} {kv0:List (Int×V)} {tab tab' tab0:Tab} {x:Cell} {t0 t:T} {p:Nat} {r:TL} {rest:List (Nat×TL)} {kl:List V}
theorem PS.lt (P:PS Y Hb tab0 x t0 H tab ((p,.cons t r)::rest)):p<H.length:=((P.ri.bd (i:=p)).2 (Pd.hd.mpr (.inl rfl))).2
theorem PS.nx (P:PS Y Hb tab0 x t0 H tab ((p,.cons t r)::rest)) {i:Nat} (h:Pd ((p+1,r)::rest) i):p<i/\i<H.length:=by
  have ri0:Hb.length<=p/\gH (p+(aU r+1)) rest H.length:=P.ri
  exact (gH.bd (pend:=(p+1,r)::rest) ⟨Nat.le_refl _,by rw [Nat.add_assoc,Nat.add_comm 1];exact ri0.2⟩).2 h
theorem PS.flat (P:PS Y Hb tab0 x t0 H tab ((p,.cons t r)::rest)) {d:Cell} (ht:∀ y,occ y t=true->∃ q,assoc tab y=some q)
    (cl:∀ (Hf:List Cell) (α:Nat->Nat),Hf[p]?=some d->(∀ y q,assoc tab y=some q->α y=q/\Hf[q]?=some (0,q)/\q≠p)->∃ d' k,Der Hf d d' k/\k<=1/\aJ 1 Y Hf d' (ren α t)):
    PS Y Hb tab0 x t0 (H.set p d) tab ((p+1,r)::rest):=by
  have:=P.step (H':=H.set p d) (tab':=tab) (new:=[]) (fun i c h hi=>by rw [List.getElem?_set_ne (Ne.symm hi)];exact h) (by rw [List.length_set];exact Nat.le_refl _) (fun i h=>nomatch h)
    ⟨fun y q hq=>?_,P.tb.inj⟩ (fun y q h=>h) (fun y q h=>.inl h) (fun b h=>nomatch h) (fun b h=>nomatch h) (fun y o h=>by refine E10 (ht y o) fun q e=>?_;rw [e] at h;cases h) fun Hf α ha hα _=>?_
  · rw [List.append_nil] at this;exact this
  · rw [List.getElem?_set_ne (fun z=>P.np y q hq (Pd.hd.mpr (.inl z.symm)))];exact P.tb.un y q hq
  · rw [List.append_nil] at ha
    have h1:=ha p d (List.getElem?_set_self P.lt) fun h=>Nat.lt_irrefl _ (P.nx h).1
    refine E22 (cl Hf α h1 fun y q hq=>by
      have hqp:q≠p:=fun z=>P.np y q hq (Pd.hd.mpr (.inl z))
      exact ⟨hα y q hq,ha q _ (by rw [List.getElem?_set_ne (Ne.symm hqp)];exact P.tb.un y q hq) fun h=>P.np y q hq (Pd.hd.mpr (.inr h)),hqp⟩) fun d' k h2 h3 h4=>?_
    exact ⟨d,d',k,h1,h2,h3,h4⟩
theorem PS.fresh (P:PS Y Hb tab0 x t0 H tab ((p,.cons (.v n) r)::rest)) (h:assoc tab n=none):PS Y Hb tab0 x t0 H (tab++[(n,p)]) ((p+1,r)::rest):=by
  have hp:=P.ho p (Pd.hd.mpr (.inl rfl))
  have as:∀ y,assoc (tab++[(n,p)]) y=(assoc tab y).or (if n=y then some p else none):=fun y=>fS
  have sub:∀ y q,assoc tab y=some q->assoc (tab++[(n,p)]) y=some q:=fun y q e=>by rw [as,e];rfl
  have np:∀ y q,assoc (tab++[(n,p)]) y=some q->assoc tab y=some q\/(q=p/\n=y):=fun y q e=>by
    rw [as] at e
    cases h:assoc tab y with
    |some z=>rw [h] at e;exact .inl e
    |none=>
      rw [h] at e
      by_cases hn:n=y
      · rw [if_pos hn] at e;exact .inr ⟨(Option.some.inj e).symm,hn⟩
      · rw [if_neg hn] at e;exact no e
  have no:∀ y,assoc tab y≠some p:=fun y e=>P.np y p e (Pd.hd.mpr (.inl rfl))
  have:=P.step (H':=H) (tab':=tab++[(n,p)]) (new:=[]) (fun i c h _=>h) (Nat.le_refl H.length) (fun i h=>nomatch h)
    ⟨fun y q hq=>?_,fun y z q hy hz=>?_⟩ sub (fun y q e=>(np y q e).imp_right fun z=>⟨z.1,decide_eq_true z.2.symm⟩) (fun b h=>nomatch h) (fun b h=>nomatch h) (fun y o hh=>?_) fun Hf α ha hα _=>?_
  · rw [List.append_nil] at this;exact this
  · rcases np y q hq with h1 | ⟨rfl,_⟩
    · exact P.tb.un y q h1
    · exact hp
  · rcases np y q hy with h1 | ⟨rfl,rfl⟩
    · rcases np z q hz with h2 | ⟨rfl,_⟩
      · exact P.tb.inj y z q h1 h2
      · exact (no y h1).elim
    · rcases np z _ hz with h2 | ⟨_,rfl⟩
      · exact (no z h2).elim
      · rfl
  · obtain rfl:y=n:=of_decide_eq_true o
    rw [as,h,if_pos rfl] at hh
    cases hh
  · rw [List.append_nil] at ha
    have hα1:α n=p:=hα n p (by rw [as,h];exact if_pos rfl)
    have h1:=ha p _ hp fun h=>Nat.lt_irrefl _ (P.nx h).1
    refine ⟨(0,p),(0,p),0,h1,.self h1,Nat.zero_le _,?_⟩
    show aJ 1 Y Hf _ (.v (α n))
    rw [hα1];exact .v h1
theorem uC {h k i:Nat} (hi:i<k):(refs h k)[i]?=some (0,h+i):=by
  unfold refs
  rw [List.getElem?_map,List.getElem?_range hi];rfl
theorem PS.block {f:Nat} {l:TL} (P:PS Y Hb tab0 x t0 H tab ((p,.cons (.s f l) r)::rest)) {d:Cell} {blk:List Cell} (hq:bs d+aU l=H.length+blk.length) (hq0:H.length<=bs d)
    (hb:∀ i,bs d<=i->i<bs d+aU l->(H++blk)[i]?=some (0,i)) (hd:d.1≠0/\d.1≠1)
    (hc:∀ Hf:List Cell,(∀ (i:Nat) (c:Cell),H.length<=i->i<bs d->(H++blk)[i]?=some c->Hf[i]?=some c)->eB Y Hf d f (aU l)):
    PS Y Hb tab0 x t0 ((H++blk).set p d) tab ((p+1,r)::rest++[(bs d,l)]):=by
  have lt:=P.lt
  have gpp:∀ i,p<i->((H++blk).set p d)[i]?=(H++blk)[i]?:=fun i hi=>List.getElem?_set_ne (Nat.ne_of_lt hi)
  have pd1:∀ i,Pd [(bs d,l)] i↔bs d<=i/\i<bs d+aU l:=fun i=>⟨fun ⟨b,hb,h⟩=>by rw [List.mem_singleton.mp hb] at h;exact h,fun h=>⟨_,List.mem_singleton.mpr rfl,h⟩⟩
  have w:=P.wf _ List.mem_cons_self
  have old:∀ (i:Nat) (c:Cell),H[i]?=some c->i≠p->((H++blk).set p d)[i]?=some c:=fun i c h hi=>by
    rw [List.getElem?_set_ne (Ne.symm hi),List.getElem?_append_left (List.getElem?_eq_some_iff.mp h).1];exact h
  refine P.step old ⟨hq0,by rw [List.length_set,List.length_append,← hq];exact Nat.le_refl _⟩ (fun i h=>?_) ⟨fun y q hq=>?_,P.tb.inj⟩ (fun y q h=>h) (fun y q h=>.inl h) (fun b h=>?_) (fun b h y o=>by rw [List.mem_singleton.mp h] at o;exact o) (fun y o h=>⟨_,List.mem_singleton.mpr rfl,o⟩) fun Hf α ha hα hr=>?_
  · have h:=(pd1 i).mp h
    rw [gpp i (by lia)];exact hb i h.1 h.2
  · exact old q _ (P.tb.un y q hq) fun z=>P.np y q hq (Pd.hd.mpr (.inl z))
  · rw [List.mem_singleton.mp h];exact w.1.2.2
  · refine ⟨d,d,0,ha p d (List.getElem?_set_self (by rw [List.length_append];lia)) fun h=>?_,.done hd.1 hd.2,Nat.zero_le _,.s (w:=aU l) (hc Hf fun i c h1 h2 h3=>ha i c ((gpp i (by exact Nat.lt_of_lt_of_le (by assumption) (by assumption))).trans h3) fun h=>?_) (hr _ (List.mem_singleton.mpr rfl)) (eN l)⟩
    · rcases Pd.app.mp h with h | h
      · exact Nat.lt_irrefl _ (P.nx h).1
      · have:=(pd1 p).mp h;lia
    · rcases Pd.app.mp h with h | h
      · have:=(P.nx h).2;lia
      · have:=(pd1 i).mp h;lia
end
section
variable {c:Cfg} {σ σ1:St} {Y:Sym} {H H0 H' Hb:List Cell} {W n a:Nat} {Q:Fl->Fr->St->Prop} {J:St} {kv0:List (Int×V)} {tab tab' tab0:Tab} {x:Cell} {t0:T} {p:Nat} {rest:List (Nat×TL)} {kl:List V}
noncomputable def kC (H:List Cell) (tab:Tab) (Wl:List V) (k:Nat):Prop:=H.length+tab.length+Wl.length+6 * k<=90000
theorem kC.mono {H H':List Cell} {tab tab':Tab} {Wl Wl':List V} {k k':Nat} (h:kC H tab Wl k) (e:H'.length+tab'.length+Wl'.length+6 * k'<=H.length+tab.length+Wl.length+6 * k):kC H' tab' Wl' k':=Nat.le_trans e h
theorem tB (M:Mem c σ Y H) (h0:Y.fs[0]?=some (1,2)) {f:Nat} {l:TL} (w:Wf Y (.s f l)) (hl:H.length+4<=100000):∃ d blk,af W (n+2) true .cY [.ref c.st,.int f] σ=some (.ok (cv d),aY c σ (H++blk))/\blk.length<=4/\
    bs d+aU l=H.length+blk.length/\H.length<=bs d/\(∀ i,bs d<=i->i<bs d+aU l->(H++blk)[i]?=some (0,i))/\(d.1≠0/\d.1≠1)/\
    ∀ Hf:List Cell,(∀ (i:Nat) (c:Cell),H.length<=i->i<bs d->(H++blk)[i]?=some c->Hf[i]?=some c)->eB Y Hf d f (aU l):=by
  refine E02 w fun y0 hl3 _=>?_
  obtain ⟨t,ha⟩:=y0
  by_cases hf:f=0
  · subst hf
    rw [h0] at ha
    refine E01 (Prod.mk.inj (Option.some.inj ha)) fun z0 hk=>?_
    subst z0
    rw [← hk]
    refine ⟨(3,H.length),refs H.length 2,u6 M (Nat.le_trans (Nat.add_le_add_left (by decide) _) hl),by rw [fY];exact Nat.le_add_left _ _,by rw [fY];rfl,Nat.le_refl _,fun i h1 h2=>?_,by simp,fun _ _=>.lis _⟩
    have h1:H.length<=i:=h1
    have h2:i<H.length+2:=h2
    rw [List.getElem?_append_right h1,uC (Nat.sub_lt_left_of_lt_add h1 h2)]
    exact congrArg (fun z=>some (0,z)) (Nat.add_sub_cancel' h1)
  · refine ⟨(2,H.length),(6,f)::refs (H.length+1) (aU l),u7 M hf ha (by lia),by rw [List.length_cons,fY];exact Nat.lt_succ_of_le (by assumption),by rw [List.length_cons,fY];show H.length+1+_=_;lia,Nat.le_succ _,fun i h1 h2=>?_,by simp,fun Hf hh=>.str (t:=t) (hh H.length (6,f) (Nat.le_refl _) (Nat.lt_succ_self _) ?_) ha hf⟩
    · have h1:H.length+1<=i:=h1
      have h2:i<H.length+1+aU l:=h2
      rw [List.getElem?_append_right (by exact Nat.le_of_lt (by assumption)),show i - H.length=(i - H.length - 1)+1 from (Nat.sub_add_cancel (Nat.sub_pos_of_lt h1)).symm,List.getElem?_cons_succ,Nat.sub_sub,uC (Nat.sub_lt_left_of_lt_add h1 h2)]
      exact congrArg (fun z=>some (0,z)) (Nat.add_sub_cancel' h1)
    · rw [List.getElem?_append_right (Nat.le_refl _),Nat.sub_self];rfl
theorem BS (M:Mem c σ Y H0) (h0:Y.fs[0]?=some (1,2)) (h:σ[a]?=some (.dI kv0)) {t:T} {r:TL} {Wl:List V} {x1 x3 x4 x5 x7 x9 x10 x11:Option V}
    (P:PS Y Hb tab0 x t0 H tab ((p,.cons t r)::rest)) (rm:kC H tab Wl (sz t))
    (kont:∀ H' tab' new x4 x11,PS Y Hb tab0 x t0 H' tab' ((p+1,r)::rest++new)->H'.length+tab'.length+(Wl++new.map blk).length+6 * sP new<=H.length+tab.length+Wl.length+6 * sz t->sP new+new.length<=sz t->
      Q .nxt (frq c a σ.length x1 x3 x4 x5 x7 (some (.int ((p+1:Nat):Int))) x9 (some (tv t)) x11) (σq c a σ H' tab' [.list kl,.list (Wl++new.map blk)])):
    Ends (evS (af W (n+3)) W true As (frq c a σ.length x1 x3 x4 x5 x7 (some (.int (p:Nat))) x9 (some (tv t)) x11) (σq c a σ H tab [.list kl,.list Wl])) Q:=by
  have M1:=qR (H:=H) (tab:=tab) (J:=[.list kl,.list Wl]) M h
  have lt:=P.lt
  unfold kC at rm
  have fin:∀ {H' tab' new x4 x11},PS Y Hb tab0 x t0 H' tab' ((p+1,r)::rest++new)->H'.length+tab'.length+(Wl++new.map blk).length+6 * sP new<=H.length+tab.length+Wl.length+6 * sz t->sP new+new.length<=sz t->
      Ends (evS (af W (n+3)) W true (.cons (.aug 8 .add (.int 1)) .nil) (frq c a σ.length x1 x3 x4 x5 x7 (some (.int (p:Nat))) x9 (some (tv t)) x11) (σq c a σ H' tab' [.list kl,.list (Wl++new.map blk)])) Q:=
    fun P' e1 e2=>aa (oi rfl rfl) (ao (kont _ _ _ _ _ P' e1 e2))
  have wl:Wl=Wl++([]:List (Nat×TL)).map blk:=(List.append_nil _).symm
  have rl:((p+1,r)::rest)=((p+1,r)::rest)++[]:=(List.append_nil _).symm
  have get:(σq c a σ H tab [.list kl,.list Wl])[a]?=some (.dI (dm rf tab)):=uz M h
  have flat:∀ {H' tab' x4 x11},PS Y Hb tab0 x t0 H' tab' ((p+1,r)::rest)->H'.length+tab'.length<=H.length+tab.length+6->
      Ends (evS (af W (n+3)) W true (.cons (.aug 8 .add (.int 1)) .nil) (frq c a σ.length x1 x3 x4 x5 x7 (some (.int (p:Nat))) x9 (some (tv t)) x11) (σq c a σ H' tab' [.list kl,.list Wl])) Q:=fun P' e=>by
    have:=kj t
    rw [rl] at P';rw [wl]
    exact fin P' (by rw [← wl];show _+6 * 0<=_;lia) (Nat.zero_le _)
  cases t with
  |v m=>
    refine aa (av (ah rfl rfl rfl)) (aj (aw (ai (v:=true) rfl rfl rfl) ?_))
    cases hm:assoc tab m with
    |some q=>
      have g:aZ (dm rf tab) ((m:Nat):Int)=some (cv (0,q)):=(ct (f:=rf) (l:=tab) (x:=m)).trans (by rw [hm];rfl)
      refine aj (aw (ai (v:=true) (ah rfl rfl rfl) rfl ((fG get).trans (by rw [g];rfl))) ?_)
      refine aa (pB M h (d:=(0,q)) (gN rfl (ah rfl rfl rfl) get g) rfl rfl lt) (ao (ao (flat (P.flat (d:=(0,q)) (fun y o=>by obtain rfl:y=m:=of_decide_eq_true o;exact ⟨q,hm⟩) fun Hf α h1 h2=>?_) (by rw [List.length_set];exact Nat.le_add_right _ _))))
      refine E02 (h2 m q hm) fun e1 e2 e3=>?_
      refine ⟨(0,q),0,.self e2,Nat.zero_le _,?_⟩
      show aJ 1 Y Hf _ (.v (α m))
      rw [e1];exact .v e2
    |none=>
      have g:aZ (dm rf tab) ((m:Nat):Int)=none:=(ct (f:=rf) (l:=tab) (x:=m)).trans (by rw [hm];rfl)
      refine aj (bw (ai (v:=false) (ah rfl rfl rfl) rfl ((fG get).trans (by rw [g];rfl))) ?_)
      have e:setItem (.ref a) (.int (nI m)) (rf p) (σq c a σ H tab [.list kl,.list Wl])=some (σq c a σ H (tab++[(m,p)]) [.list kl,.list Wl]):=
        (pE get (fits_of (by rw [j4];lia))).trans (congrArg some (by rw [jv hm];exact AL M h))
      exact aa (aM (au (ae rfl (ab rfl)) rfl) rfl (ah rfl rfl rfl) e) (ao (ao (flat (P.fresh hm) (by rw [List.length_append];show _+(_+1)<=_;lia))))
  |a m=>
    refine aa (av (ah rfl rfl rfl)) (aj (bw (ai (v:=false) rfl rfl rfl) (aj (aw (ai (v:=true) rfl rfl rfl) ?_))))
    exact aa (pB M h (d:=(4,m)) (au (ae rfl (ab (ah rfl rfl rfl))) rfl) rfl rfl lt) (ao (ao (flat (P.flat (d:=(4,m)) (fun y o=>nomatch o) fun Hf α h1 h2=>⟨_,0,.done (by simp) (by simp),Nat.zero_le _,.a m⟩) (by rw [List.length_set];exact Nat.le_add_right _ _))))
  |i m=>
    refine aa (av (ah rfl rfl rfl)) (aj (bw (ai (v:=false) rfl rfl rfl) (aj (bw (ai (v:=false) rfl rfl rfl) (aj (aw (ai (v:=true) rfl rfl rfl) ?_))))))
    exact aa (pB M h (d:=(5,m)) (au (ae rfl (ab (ah rfl rfl rfl))) rfl) rfl rfl lt) (ao (ao (ao (flat (P.flat (d:=(5,m)) (fun y o=>nomatch o) fun Hf α h1 h2=>⟨_,0,.done (by simp) (by simp),Nat.zero_le _,.i m⟩) (by rw [List.length_set];exact Nat.le_add_right _ _)))))
  |s f l=>
    have hs:sz (.s f l)=szL l+1:=rfl
    refine E26 (tB (W:=W) (n:=n+1) M1 h0 (P.wf _ List.mem_cons_self).1 (by lia)) fun d bk e1 e2 e3 e4 e5 e6 e7=>?_
    rw [uB M h] at e1
    refine aa (av (ah rfl rfl rfl)) (aj (bw (ai (v:=false) rfl rfl rfl) (aj (bw (ai (v:=false) rfl rfl rfl) (aj (bw (ai (v:=false) rfl rfl rfl) ?_))))))
    refine aa (av (e_m rfl M1.st rfl (ab (ah rfl rfl rfl)) e1)) (aa (pB M h (d:=d) rfl rfl rfl (by rw [List.length_append];lia)) ?_)
    have M2:=qR (H:=(H++bk).set p d) (tab:=tab) (J:=[.list kl,.list Wl]) M h
    have g:(σq c a σ ((H++bk).set p d) tab [.list kl,.list Wl])[σ.length+1]?=some (.list Wl):=AK (k:=1)
    refine aa (aS (cE rfl g rfl (fun _=>nofun) (ab (au (ae (e_m rfl M2.st rfl (ab rfl) iW) (ab (ah rfl rfl rfl))) rfl)) (bp g (fits_of (by lia))))) (ao (ao (ao ?_)))
    have e9:(σq c a σ ((H++bk).set p d) tab [.list kl,.list Wl]).set (σ.length+1) (.list (Wl++[blk (bs d,l)]))=σq c a σ ((H++bk).set p d) tab [.list kl,.list (Wl++[blk (bs d,l)])]:=C9 (k:=1)
    exact (congrArg (fun z=>Ends (evS (af W (n+3)) W true _ _ z) Q) e9).mpr (fin (new:=[(bs d,l)]) (P.block e3 e4 e5 e6 e7) (by rw [List.length_set,List.length_append,List.length_append];show _+(_+1)+6 * (szL l+0)<=_;lia) (by show szL l+0+1<=_;exact Nat.le_refl _))
end
section
variable {c:Cfg} {σ σ1:St} {Y:Sym} {H H0 H' Hb:List Cell} {W n a:Nat} {Q:Fl->Fr->St->Prop} {J:St} {kv0:List (Int×V)} {tab tab' tab0:Tab} {x:Cell} {t0:T} {p:Nat} {rest:List (Nat×TL)} {kl:List V} {Wl:List V} {x1 x3 x4 x5 x7 x8 x9 x10 x11:Option V}
theorem uw (M:Mem c σ Y H0) (h0:Y.fs[0]?=some (1,2)) (h:σ[a]?=some (.dI kv0)) {all:List V}:∀ (l:TL) {pre:List V} {p:Nat} {rest:List (Nat×TL)} {H:List Cell} {tab:Tab} {Wl:List V} {x4 x10 x11:Option V},
    all=pre++tvl l->PS Y Hb tab0 x t0 H tab ((p,l)::rest)->kC H tab Wl (szL l)->
    (∀ H' tab' new x4 x8 x10 x11,PS Y Hb tab0 x t0 H' tab' (rest++new)->H'.length+tab'.length+(Wl++new.map blk).length+6 * sP new<=H.length+tab.length+Wl.length+6 * szL l->sP new+new.length<=szL l->
      Q .nxt (frq c a σ.length x1 x3 x4 x5 x7 x8 x9 x10 x11) (σq c a σ H' tab' [.list kl,.list (Wl++new.map blk)]))->
    Ends (ft (fun v fr σ=>evS (af W (n+3)) W true As (fr.put 10 v) σ) (.tup all) (tvl l) pre.length (frq c a σ.length x1 x3 x4 x5 x7 (some (.int (p:Nat))) x9 x10 x11) (σq c a σ H tab [.list kl,.list Wl])) Q
  |.nil,pre,p,rest,H,tab,Wl,x4,x10,x11,ha,P,rm,kont=>by
    refine kJ rfl (by rw [ha,show tvl .nil=[] from rfl,List.append_nil];exact Nat.le_refl _) ?_
    have:=kont H tab [] x4 (some (.int p)) x10 x11 (by rw [List.append_nil];exact P.drop) (by rw [List.map_nil,List.append_nil];exact Nat.le_refl _) (Nat.zero_le _)
    rw [List.map_nil,List.append_nil] at this;exact this
  |.cons t r,pre,p,rest,H,tab,Wl,x4,x10,x11,ha,P,rm,kont=>by
    have hz:szL (.cons t r)=sz t+szL r:=rfl
    refine dg rfl (x:=tv t) (by rw [ha,List.getElem?_append_right (Nat.le_refl _),Nat.sub_self];rfl) ?_
    refine BS (x10:=none) M h0 h P (rm.mono (by lia)) fun H' tab' new x4 x11 P' e1 e2=>?_
    have ih:=uw M h0 h r (pre:=pre++[tv t]) (Wl:=Wl++new.map blk) (x4:=x4) (x10:=some (tv t)) (x11:=x11) (show all=pre++[tv t]++tvl r by rw [ha,List.append_assoc];rfl) P' (rm.mono (by lia)) fun H2 tab2 new2 x4 x8 x10 x11 P2 e3 e4=>?_
    · rw [List.length_append] at ih;exact ih
    · have:=kont H2 tab2 (new++new2) x4 x8 x10 x11 (by rw [← List.append_assoc];exact P2) (by rw [List.map_append,← List.append_assoc,mH];lia) (by rw [mH,List.length_append];lia)
      rw [List.map_append,← List.append_assoc] at this;exact this
theorem xR (M:Mem c σ Y H0) (h0:Y.fs[0]?=some (1,2)) (h:σ[a]?=some (.dI kv0)):∀ (k:Nat) {W':Nat} {pend:List (Nat×TL)} {dn:List V} {H:List Cell} {tab:Tab} {x4 x8 x9 x10 x11:Option V},
    sP pend+pend.length<=k->k<W'->PS Y Hb tab0 x t0 H tab pend->kC H tab (dn++pend.map blk) (sP pend)->
    (∀ H' tab' wl x4 x7 x8 x9 x10 x11,PS Y Hb tab0 x t0 H' tab' []->H'.length+tab'.length<=H.length+tab.length+(dn++pend.map blk).length+6 * sP pend->
      Q .nxt (frq c a σ.length x1 x3 x4 x5 x7 x8 x9 x10 x11) (σq c a σ H' tab' [.list kl,.list wl]))->
    Ends (cz (ev (af W (n+3) true) true (wC (cI bW 8))) (evS (af W (n+3)) W true (wB (cI bW 8))) W' (frq c a σ.length x1 x3 x4 x5 (some (.int (dn.length:Nat))) x8 x9 x10 x11) (σq c a σ H tab [.list kl,.list (dn++pend.map blk)])) Q
  |k,0,_,_,_,_,_,_,_,_,_,_,hW,_,_,_=>absurd hW (Nat.not_lt_zero _)
  |k,W'+1,pend,dn,H,tab,x4,x8,x9,x10,x11,hk,hW,P,rm,kont=>by
    have g:(σq c a σ H tab [.list kl,.list (dn++pend.map blk)])[σ.length+1]?=some (.list (dn++pend.map blk)):=AK (k:=1)
    cases pend with
    |nil=>
      refine f5 (x:=.bool false) (ai rfl (bF (ab rfl) (bD g)) (congrArg some (decide_eq_false (by simp)))) (.of rfl ?_)
      exact kont _ _ _ _ _ _ _ _ _ P (by exact Nat.le_add_right _ _)
    |cons b rest=>
      obtain ⟨p,l⟩:=b
      have hsp:sP ((p,l)::rest)=szL l+sP rest:=rfl
      have hln:((p,l)::rest).length=rest.length+1:=rfl
      obtain ⟨k,rfl⟩:∃ m,k=m+1:=⟨k - 1,by lia⟩
      refine hZ (σ1:=σq c a σ H tab [.list kl,.list (dn++((p,l)::rest).map blk)]) (ai rfl (bF (ab rfl) (bD g)) (congrArg some (decide_eq_true (by simp;lia)))) ?_
      refine aa (pY (x:=.int p) (y:=.tup (tvl l)) (bQ rfl rfl g (dH.trans (by simp;rfl)))) (aa (oi rfl rfl) ?_)
      refine aj (dy rfl rfl ?_)
      refine uw M h0 h l (pre:=[]) (p:=p) (rest:=rest) rfl P (rm.mono (by lia)) fun H' tab' new x4 x8 x10 x11 P' e1 e2=>ao ?_
      have el:dn++((p,l)::rest).map blk++new.map blk=(dn++[blk (p,l)])++(rest++new).map blk:=by simp
      rw [el] at e1 ⊢
      have ih:=xR M h0 h k (W':=W') (pend:=rest++new) (dn:=dn++[blk (p,l)]) (x4:=x4) (x8:=x8) (x9:=some (.tup (tvl l))) (x10:=x10) (x11:=x11) (by rw [mH,List.length_append];lia) (by lia) P' (rm.mono (by rw [mH];lia)) fun H2 tab2 wl x4 x7 x8 x9 x10 x11 P2 e3=>kont H2 tab2 wl x4 x7 x8 x9 x10 x11 P2 (by rw [mH] at e3;lia)
      rw [List.length_append] at ih;exact ih
end
section
variable {c:Cfg} {σ σ1:St} {Y:Sym} {H H':List Cell} {W n a:Nat} {Q:Fl->Fr->St->Prop} {J:St} {tab tab':Tab} {t:T}
theorem BV (M:Mem c σ Y H) (h:σ[a]?=some (.dI (dm rf tab))):σq c a σ H tab J=σ++J:=by
  unfold σq
  rw [nV h,iv M]
theorem nt {q:Nat×Nat}:∀ {l:Tab},q∈l->∃ p,assoc l q.1=some p
  |b::l,h=>by
    show ∃ p,(if b.1=q.1 then some b.2 else assoc l q.1)=some p
    by_cases e:b.1=q.1
    · exact ⟨b.2,if_pos e⟩
    · rw [if_neg e]
      rcases List.mem_cons.mp h with rfl | h
      · exact (e rfl).elim
      · exact nt h
theorem vv {i:Nat} (h:Pd [] i):False:=by refine E11 h fun _ h _=>?_;cases h
noncomputable def knd:T->Tx
  |.v _=>.t_v
  |.a _=>.t_a
  |.i _=>.t_i
  |.s _ _=>.t_s
theorem iY {C:aD} {hs:Bool} {fr:Fr} {e:ME} (h:ev C hs e fr σ=some (tv t,σ)):ev C hs (.sub e (.int 0)) fr σ=some (.str (knd t),σ):=by
  cases t<;>exact ah h rfl rfl
theorem PS.here (tb:lO H tab) (x:Cell) (t:T) (cv:∀ y,occ y t=true->assoc tab y≠none) (cl:∀ (Hf:List Cell) (α:Nat->Nat),(∀ (i:Nat) (c:Cell),H[i]?=some c->Hf[i]?=some c)->(∀ y p,assoc tab y=some p->α y=p)->Rep 1 Y Hf x (ren α t)):PS Y H tab x t H tab []:=
  ⟨Nat.le_refl _,fun i h=>(vv h).elim,fun i c h=>h,tb,fun y p _ h=>vv h,fun y p h=>.inl h,fun y p h=>h,fun b h=>(nomatch h),fun y p h=>.inl h,fun b h=>(nomatch h),fun y o h=>(cv y o h).elim,fun Hf α ha hα _=>cl Hf α (fun i c h=>ha i c h vv) hα⟩
theorem BU {m:Nat} (tb:lO H tab) (hm:assoc tab m=none):PS Y H tab (0,H.length) (.v m) (H++[(0,H.length)]) (tab++[(m,H.length)]) []:=by
  have as:∀ y,assoc (tab++[(m,H.length)]) y=(assoc tab y).or (if m=y then some H.length else none):=fun y=>fS
  have np:∀ y q,assoc (tab++[(m,H.length)]) y=some q->assoc tab y=some q\/(q=H.length/\m=y):=fun y q e=>by
    rw [as] at e
    cases h:assoc tab y with
    |some z=>rw [h] at e;exact .inl e
    |none=>
      rw [h] at e
      by_cases hn:m=y
      · rw [if_pos hn] at e;exact .inr ⟨(Option.some.inj e).symm,hn⟩
      · rw [if_neg hn] at e;exact no e
  have lst:(H++[(0,H.length)])[H.length]?=some (0,H.length):=by rw [List.getElem?_append_right (Nat.le_refl _),Nat.sub_self];rfl
  have old:∀ (i:Nat) (c:Cell),H[i]?=some c->(H++[(0,H.length)])[i]?=some c:=fun i c h=>by rw [List.getElem?_append_left (List.getElem?_eq_some_iff.mp h).1];exact h
  have lt:∀ y q,assoc tab y=some q->q<H.length:=fun y q h=>(List.getElem?_eq_some_iff.mp (tb.un y q h)).1
  have am:assoc (tab++[(m,H.length)]) m=some H.length:=by rw [as,hm];exact if_pos rfl
  refine ⟨(show H.length<=_ by rw [List.length_append];exact Nat.le_add_right _ _),fun i h=>(vv h).elim,old,⟨fun y q hq=>?_,fun y z q hy hz=>?_⟩,fun y p _ h=>vv h,fun y q hq=>(np y q hq).imp_right fun z=>Nat.le_of_eq z.1.symm,fun y q hq=>by rw [as,hq];rfl,fun b h=>(nomatch h),fun y q hq=>(np y q hq).imp_right fun z=>decide_eq_true z.2.symm,fun b h=>(nomatch h),fun y o hh=>?_,fun Hf α ha hα _=>?_⟩
  · rcases np y q hq with h1 | ⟨rfl,_⟩
    · exact old _ _ (tb.un y q h1)
    · exact lst
  · rcases np y q hy with h1 | ⟨rfl,rfl⟩
    · rcases np z q hz with h2 | ⟨rfl,_⟩
      · exact tb.inj y z q h1 h2
      · exact absurd (lt y _ h1) (Nat.lt_irrefl _)
    · rcases np z _ hz with h2 | ⟨_,rfl⟩
      · exact absurd (lt z _ h2) (Nat.lt_irrefl _)
      · rfl
  · obtain rfl:y=m:=of_decide_eq_true o
    rw [am] at hh;cases hh
  · have e2:=ha _ _ lst vv
    refine ⟨(0,H.length),0,.self e2,Nat.zero_le _,?_⟩
    show aJ 1 Y Hf _ (.v (α m))
    rw [hα m _ am];exact .v e2
theorem Cy (M:Mem c σ Y H) (h0:Y.fs[0]?=some (1,2)) (h:σ[a]?=some (.dI (dm rf tab))) (tb:lO H tab) (wf:Wf Y t) (rm:H.length+tab.length+6 * sz t+10<=90000) (hW:sz t+2<W):
    ∃ x H' tab' J,af W (n+4) true .fm [.ref c.st,tv t,.ref a] σ=some (.ok (cv x),σq c a σ H' tab' J)/\PS Y H tab x t H' tab' []/\H'.length+tab'.length<=H.length+tab.length+6 * sz t+10:=by
  have:=dB (W:=W) (n:=n+3) (hs:=true) (f:=.fm) (args:=[.ref c.st,tv t,.ref a]) (σ:=σ) (b:=bW)
    (P:=fun v σ'=>∃ x H' tab' J,v=cv x/\σ'=σq c a σ H' tab' J/\PS Y H tab x t H' tab' []/\H'.length+tab'.length<=H.length+tab.length+6 * sz t+10) rfl rfl ?_
  · obtain ⟨v,σ',e,x,H',tab',J,rfl,rfl,p⟩:=this
    exact ⟨x,H',tab',J,e,p⟩
  refine aj (dy (x:=.ref σ.length) (xs:=(dm rf tab).map fun kv=>.int kv.1) (bF (ab rfl) (A5 h (fits_of (by rw [j4];lia)))) (by show (match (σ++[.list _])[σ.length]? with | some (.list xs)=>some xs | _=>none)=_;rw [show σ.length=σ.length+0 from rfl,aE];rfl) ?_)
  have M1:=M.app [.list ((dm rf tab).map fun kv=>.int kv.1)]
  have g:(σ++[.list ((dm rf tab).map fun kv=>V.int kv.1)])[a]?=some (.dI (dm rf tab)):=aq h
  refine cw (fun i fr σ'=>σ'=σ++[.list ((dm rf tab).map fun kv=>.int kv.1)]/\∃ x3,fr=⟨[some (.ref c.st),some (tv t),some (.ref a),x3,none,none,none,none,none,none,none,none],[]⟩) (fun i fr σ' hj=>?_) ?_ ?_ _ 0 _ _ (by rw [Nat.zero_add]) ⟨rfl,_,rfl⟩
  · rw [hj.1]
    show (match (σ++[.list _])[σ.length]? with | some (.list xs)=>some xs | _=>none)=_
    rw [show σ.length=σ.length+0 from rfl,aE];rfl
  · rintro i y fr σ' hy ⟨rfl,x3,rfl⟩
    unfold dm at hy
    rw [List.map_map,List.getElem?_map] at hy
    refine E11 (Option.map_eq_some_iff.mp hy) fun q hq z2=>?_
    subst z2
    refine E10 (nt (List.mem_of_getElem? hq)) fun p hp=>?_
    have gp:aZ (dm rf tab) (nI q.1)=some (cv (0,p)):=ct.trans (by rw [hp];rfl)
    exact aa (aN (ai (v:=false) (ah (gN rfl rfl g gp) rfl rfl) rfl rfl)) (ao ⟨.inl rfl,rfl,_,rfl⟩)
  rintro fr σ' ⟨rfl,x3,rfl⟩
  generalize hkl:((dm rf tab).map fun kv=>V.int kv.1)=kl at *
  have M1:=M.app [.list kl]
  have qs:σ++[.list kl]=σq c a σ H tab [.list kl]:=(BV M h).symm
  refine aa (av (iY (t:=t) rfl)) ?_
  cases t with
  |v m=>
    refine aj (aw (ai (v:=true) rfl rfl rfl) ?_)
    cases hm:assoc tab m with
    |some q=>
      have gp:aZ (dm rf tab) ((m:Nat):Int)=some (cv (0,q)):=(ct (f:=rf) (l:=tab) (x:=m)).trans (by rw [hm];rfl)
      refine aa (aN (ai (v:=false) (ah rfl rfl rfl) rfl ((bP (fG g)).trans (by rw [gp];rfl)))) (aA (aB (gN rfl (ah rfl rfl rfl) g gp)) ⟨(0,q),H,tab,_,rfl,qs,PS.here tb _ _ (fun y o=>?_) fun Hf α ha hα=>?_,by lia⟩)
      · obtain rfl:y=m:=of_decide_eq_true o
        rw [hm];simp
      · have e2:=ha q _ (tb.un m q hm)
        refine ⟨(0,q),0,.self e2,Nat.zero_le _,?_⟩
        show aJ 1 Y Hf _ (.v (α m))
        rw [hα m q hm];exact .v e2
    |none=>
      have gp:aZ (dm rf tab) ((m:Nat):Int)=none:=(ct (f:=rf) (l:=tab) (x:=m)).trans (by rw [hm];rfl)
      have ps:PS Y H tab (0,H.length) (.v m) (H++[(0,H.length)]) (tab++[(m,H.length)]) []:=BU tb hm
      refine aj (aw (ai (v:=true) (ah rfl rfl rfl) rfl ((bP (fG g)).trans (by rw [gp];rfl))) ?_)
      have e1:=u9 (W:=W) (n:=n+1) (hs:=true) M1 (by lia)
      rw [qs,uB M h] at e1
      have gq:(σq c a σ (H++[(0,H.length)]) tab [.list kl])[a]?=some (.dI (dm rf tab)):=uz M h
      have e2:setItem (.ref a) (.int (nI m)) (cv (0,H.length)) (σq c a σ (H++[(0,H.length)]) tab [.list kl])=some (σq c a σ (H++[(0,H.length)]) (tab++[(m,H.length)]) [.list kl]):=
        (pE gq (fits_of (by rw [j4];lia))).trans (congrArg some (by rw [show cv (0,H.length)=rf H.length from rfl,jv hm];exact AL M h))
      rw [← qs] at e1
      refine aa (aM (e_m rfl M1.st rfl rfl e1) rfl (ah rfl rfl rfl) e2) (ao (aA (aB (gN rfl (ah rfl rfl rfl) (uz M h) (v:=cv (0,H.length)) ?_)) ⟨_,_,_,_,rfl,rfl,ps,by rw [List.length_append,List.length_append];show _+1+(_+1)<=_+_+6 * 1+10;lia⟩))
      refine (ct (f:=rf) (x:=m)).trans ?_
      rw [fS,hm]
      show (if m=m then some (H.length) else none).map rf=_
      rw [if_pos rfl];rfl
  |a m=>
    refine aa (aN (ai (v:=false) rfl rfl rfl)) (aj (aw (ai (v:=true) rfl rfl rfl) (aA (aB (au (ae rfl (ab (ah rfl rfl rfl))) rfl)) ⟨(4,m),H,tab,_,rfl,qs,PS.here tb _ _ (fun y o=>nomatch o) fun Hf α _ _=>⟨_,0,.done (by simp) (by simp),Nat.zero_le _,.a m⟩,by lia⟩)))
  |i m=>
    refine aa (aN (ai (v:=false) rfl rfl rfl)) (aa (aN (ai (v:=false) rfl rfl rfl)) (aj (aw (ai (v:=true) rfl rfl rfl) (aA (aB (au (ae rfl (ab (ah rfl rfl rfl))) rfl)) ⟨(5,m),H,tab,_,rfl,qs,PS.here tb _ _ (fun y o=>nomatch o) fun Hf α _ _=>⟨_,0,.done (by simp) (by simp),Nat.zero_le _,.i m⟩,by lia⟩))))
  |s f l=>
    have hsz:sz (.s f l)=szL l+1:=rfl
    refine E26 (tB (W:=W) (n:=n+1) M1 h0 wf (by lia)) fun d bk e1 e2 e3 e4 e5 e6 e7=>?_
    rw [qs,uB M h] at e1
    have M2:=qR (H:=H++bk) (tab:=tab) (J:=[.list kl]) M h
    refine aa (aN (ai (v:=false) rfl rfl rfl)) (aa (aN (ai (v:=false) rfl rfl rfl)) (aa (aN (ai (v:=false) rfl rfl rfl)) ?_))
    refine aa (av (e_m rfl M1.st rfl (ab (ah rfl rfl rfl)) (by rw [qs];exact e1))) ?_
    have e8:∀ v,σq c a σ (H++bk) tab [.list kl]++[.list v]=σq c a σ (H++bk) tab [.list kl,.list v]:=fun v=>List.append_assoc _ _ _
    have e9:(σq c a σ (H++bk) tab [.list kl]).length=σ.length+1:=by unfold σq;rw [List.length_append,uA];rfl
    refine aa (av (v:=.ref (σ.length+1)) (σ1:=σq c a σ (H++bk) tab [.list kl,.list [blk (bs d,l)]]) ?_) (aa (av rfl) (aj ?_))
    · rw [← e8,← e9]
      exact rP (ab (au (ae (e_m rfl M2.st rfl (ab rfl) iW) (ab (ah rfl rfl rfl))) rfl)) rfl
    have old:∀ (i:Nat) (c:Cell),H[i]?=some c->(H++bk)[i]?=some c:=fun i c h=>by rw [List.getElem?_append_left (List.getElem?_eq_some_iff.mp h).1];exact h
    have pd1:∀ i,Pd [(bs d,l)] i->bs d<=i/\i<bs d+aU l:=fun i ⟨b,hb,h⟩=>by rw [List.mem_singleton.mp hb] at h;exact h
    have ps:PS Y H tab d (.s f l) (H++bk) tab [(bs d,l)]:=by
      refine ⟨⟨e4,by rw [List.length_append];exact Nat.le_of_eq e3⟩,fun i h=>e5 i (pd1 i h).1 (pd1 i h).2,old,⟨fun y q hq=>old _ _ (tb.un y q hq),tb.inj⟩,fun y q hq h=>?_,fun y q h=>.inl h,fun y q h=>h,fun b hb=>?_,fun y q h=>.inl h,fun b hb y o=>by rw [List.mem_singleton.mp hb] at o;exact o,fun y o _=>⟨_,List.mem_singleton.mpr rfl,o⟩,fun Hf α ha hα hr=>?_⟩
      · have:=(pd1 q h).1;have:=(List.getElem?_eq_some_iff.mp (tb.un y q hq)).1;lia
      · rw [List.mem_singleton.mp hb];exact wf.2.2
      · exact ⟨d,0,.done e6.1 e6.2,Nat.zero_le _,.s (w:=aU l) (e7 Hf fun i c h1 h2 h3=>ha i c h3 fun h=>by have:=(pd1 i h).1;lia) (hr _ (List.mem_singleton.mpr rfl)) (eN l)⟩
    have hb:([]++[(bs d,l)].map blk:List V)=[blk (bs d,l)]:=rfl
    have hsp:sP [(bs d,l)]=szL l:=rfl
    refine xR M h0 h (szL l+1) (pend:=[(bs d,l)]) (dn:=[]) (by rw [hsp];exact Nat.le_refl _) (by lia) ps (by unfold kC;rw [hb,hsp,List.length_append];show _+_+1+_<=_;lia) fun H' tab' wl x4 x7 x8 x9 x10 x11 P' e=>?_
    rw [hb,hsp,List.length_append] at e
    have e:H'.length+tab'.length<=H.length+bk.length+tab.length+1+6 * szL l:=e
    exact aA (aB rfl) ⟨_,_,_,_,rfl,rfl,P',by lia⟩
end
noncomputable def toL:TL->List T
  |.nil=>[]
  |.cons t r=>t::toL r
noncomputable def ofL:List T->TL
  |[]=>.nil
  |t::r=>.cons t (ofL r)
theorem fa:∀ l:TL,tvl l=(toL l).map tv
  |.nil=>rfl
  |.cons t r=>congrArg (tv t::·) (fa r)
theorem bB:∀ l:TL,(toL l).length=aU l
  |.nil=>rfl
  |.cons _ r=>congrArg (·+1) (bB r)
theorem Ao:∀ {l l':TL},toL l=toL l'->l=l'
  |.nil,.nil,_=>rfl
  |.cons t r,.cons t' r',h=>by
    refine E01 (List.cons.inj h) fun h1 h2=>?_
    rw [h1,Ao h2]
mutual
noncomputable def sub (s:Nat->T):T->T
  |.v x=>s x
  |.a n=>.a n
  |.i n=>.i n
  |.s f l=>.s f (bZ s l)
noncomputable def bZ (s:Nat->T):TL->TL
  |.nil=>.nil
  |.cons t r=>.cons (sub s t) (bZ s r)
end
theorem cK {s:Nat->T}:∀ l:TL,toL (bZ s l)=(toL l).map (sub s)
  |.nil=>rfl
  |.cons t r=>congrArg (sub s t::·) (cK r)
theorem qT {f:Nat->Nat}:∀ l:TL,toL (cW f l)=(toL l).map (ren f)
  |.nil=>rfl
  |.cons t r=>congrArg (ren f t::·) (qT r)
theorem mR:∀ (l:TL) (F:List Nat),dQ l F=(toL l).foldl (fun F t=>vfs t F) F
  |.nil,_=>rfl
  |.cons t r,F=>mR r (vfs t F)
theorem fx {p:Nat}:∀ {l:TL},cJ p l=true↔∃ t∈toL l,occ p t=true
  |.nil=>⟨fun h=>(nomatch h),fun ⟨_,h,_⟩=>nomatch h⟩
  |.cons t r=>by
    show (occ p t||cJ p r)=true↔∃ u∈t::toL r,_
    rw [Bool.or_eq_true,fx (l:=r)]
    simp
mutual
noncomputable def dp:T->Nat
  |.s _ l=>dpL l+1
  |_=>0
noncomputable def dpL:TL->Nat
  |.nil=>0
  |.cons t r=>max (dp t) (dpL r)
end
theorem j5 {t:T}:∀ {l:TL},t∈toL l->dp t<=dpL l
  |.cons u r,h=>by
    rcases List.mem_cons.mp h with rfl | h
    · exact Nat.le_max_left _ _
    · exact Nat.le_trans (j5 h) (Nat.le_max_right _ _)
mutual
theorem sub_congr {s s':Nat->T}:∀ (t:T),(∀ x,occ x t=true->s x=s' x)->sub s t=sub s' t
  |.v x,h=>h x (decide_eq_true rfl)
  |.a _,_=>rfl
  |.i _,_=>rfl
  |.s f l,h=>congrArg (T.s f) (mM l h)
theorem mM {s s':Nat->T}:∀ (l:TL),(∀ x,cJ x l=true->s x=s' x)->bZ s l=bZ s' l
  |.nil,_=>rfl
  |.cons t r,h=>by
    have h1:=sub_congr t fun x o=>h x (show (occ x t||_)=true by rw [o];rfl)
    have h2:=mM r fun x o=>h x (show (_||cJ x r)=true by rw [o,Bool.or_true])
    show TL.cons _ _=TL.cons _ _
    rw [h1,h2]
end
mutual
theorem sub_sub {s s':Nat->T}:∀ (t:T),sub s' (sub s t)=sub (fun x=>sub s' (s x)) t
  |.v x=>rfl
  |.a _=>rfl
  |.i _=>rfl
  |.s f l=>congrArg (T.s f) (nZ l)
theorem nZ {s s':Nat->T}:∀ (l:TL),bZ s' (bZ s l)=bZ (fun x=>sub s' (s x)) l
  |.nil=>rfl
  |.cons t r=>by
    show TL.cons _ _=TL.cons _ _
    rw [sub_sub t,nZ r]
end
mutual
theorem d9:∀ (t:T),sub .v t=t
  |.v x=>rfl
  |.a _=>rfl
  |.i _=>rfl
  |.s f l=>congrArg (T.s f) (uD l)
theorem uD:∀ (l:TL),bZ .v l=l
  |.nil=>rfl
  |.cons t r=>by
    show TL.cons _ _=TL.cons _ _
    rw [d9 t,uD r]
end
abbrev Bd:=List (Nat×T)
inductive cT (B:Bd):Nat->T->T->Prop
  |stop {t:T} (h:∀ x,t=.v x->assoc B x=none):cT B 0 t t
  |go {x k:Nat} {u t:T} (h:assoc B x=some u) (r:cT B k u t):cT B (k+1) (.v x) t
structure Sol (B:Bd) (s:Nat->T):Prop where
  so1:∀ x u,assoc B x=some u->s x=sub s u
  so0:∀ x,assoc B x=none->s x=.v x
  ch:∀ t,∃ k t',k<=B.length/\cT B k t t'
theorem cT.fin {B:Bd} {k:Nat} {t t':T} (h:cT B k t t'):∀ x,t'=.v x->assoc B x=none:=by
  induction h with
  |stop h=>exact h
  |go _ _ ih=>exact ih
theorem cT.nY {B:Bd} {k:Nat} {s:Nat->T} {t t':T} (S:Sol B s) (h:cT B k t t'):sub s t=sub s t':=by
  induction h with
  |stop h=>rfl
  |go h _ ih=>exact (S.so1 _ _ h).trans ih
theorem Sol.nil:Sol [] .v:=⟨fun _ _ h=>(nomatch h),fun _ _=>rfl,fun t=>⟨0,t,Nat.le_refl _,.stop fun _ _=>rfl⟩⟩
noncomputable def one (x:Nat) (w:T):Nat->T:=fun z=>if z=x then w else .v z
noncomputable def upd (s:Nat->T) (x:Nat) (w:T):Nat->T:=fun y=>sub (one x w) (s y)
theorem sub_one {x:Nat} {w t:T} (h:occ x t=false):sub (one x w) t=t:=by
  refine (sub_congr t fun y o=>if_neg fun e=>?_).trans (d9 t)
  rw [e,h] at o;exact nof o
theorem bO {β:Type} {B:List (Nat×β)} {x y:Nat} {e:β}:assoc (B++[(x,e)]) y=(assoc B y).or (if x=y then some e else none):=fS
theorem Sol.add {B:Bd} {s:Nat->T} {x:Nat} {e:T} (S:Sol B s) (hx:assoc B x=none) (he:∀ y,e=.v y->assoc B y=none) (hne:e≠.v x) (ho:occ x (Mine.sub s e)=false):Sol (B++[(x,e)]) (upd s x (Mine.sub s e)):=by
  refine ⟨fun y u h=>?_,fun y h=>?_,fun t=>?_⟩
  · rw [bO] at h
    cases hy:assoc B y with
    |some u'=>
      rw [hy] at h;cases h
      show Mine.sub _ (s y)=_
      rw [S.so1 y _ hy,sub_sub];rfl
    |none=>
      rw [hy] at h
      by_cases e1:x=y
      · subst e1
        have h:(if x=x then some e else none)=some u:=h
        rw [if_pos rfl] at h;obtain rfl:=Option.some.inj h
        show Mine.sub _ (s x)=Mine.sub (fun y=>Mine.sub (one x (Mine.sub s e)) (s y)) e
        rw [← sub_sub,S.so0 x hy,sub_one ho]
        exact if_pos rfl
      · have h:(if x=y then some e else none)=some u:=h
        rw [if_neg e1] at h;exact no h
  · rw [bO] at h
    cases hy:assoc B y with
    |some u'=>rw [hy] at h;cases h
    |none=>
      rw [hy] at h
      have h:(if x=y then some e else none)=none:=h
      show Mine.sub _ (s y)=_
      rw [S.so0 y hy]
      refine if_neg fun z=>?_
      rw [if_pos z.symm] at h;cases h
  · have he':cT (B++[(x,e)]) 0 e e:=.stop fun y h=>by
      rw [bO,he y h]
      exact if_neg fun z=>hne (h.trans (congrArg T.v z.symm))
    refine E21 (S.ch t) fun k t' hk r=>?_
    rw [List.length_append]
    suffices ∃ k' t',k'<=k+1/\cT (B++[(x,e)]) k' t t' from let ⟨k',t',h,r⟩:=this;⟨k',t',Nat.le_trans h (Nat.succ_le_succ hk),r⟩
    clear hk
    induction r with
    |@stop t h=>
      by_cases e1:t=.v x
      · subst e1
        exact ⟨1,e,Nat.le_refl _,.go (by rw [bO,hx];exact if_pos rfl) he'⟩
      · refine ⟨0,t,Nat.zero_le _,.stop fun y h2=>?_⟩
        rw [bO,h y h2]
        exact if_neg fun z=>e1 (h2.trans (congrArg T.v z.symm))
    |go h _ ih=>
      refine E21 ih fun k' t' h1 r=>?_
      exact ⟨k'+1,t',Nat.succ_le_succ h1,.go (by rw [bO,h];rfl) r⟩
theorem ik {body:V->St->Option (Option V×St)} {it:V} {d:Nat} {xs:List V} (I:List V->St->Prop) (hit:∀ acc σ,I acc σ->itemsOf it σ=some xs) (hx:xs.length<1000000)
    (h:∀ acc x σ,xs[acc.length]?=some x->I acc σ->∃ y σ',body x σ=some (some y,σ')/\σ'[d]?=some (.list acc)/\I (acc++[y]) (σ'.set d (.list (acc++[y])))):
    ∀ (r acc:List V) (σ:St),acc.length+r.length=xs.length->I acc σ->∃ ys σ',cj body it d r acc.length σ=some σ'/\ys.length=xs.length/\I ys σ'
  |[],acc,σ,hl,hI=>by
    have hl:acc.length=xs.length:=hl
    refine ⟨acc,σ,ay (hit _ _ hI) ?_,hl,hI⟩
    show gd (decide (xs.length<=acc.length)) _=_
    rw [decide_eq_true (Nat.le_of_eq hl.symm)];rfl
  |_::r,acc,σ,hl,hI=>by
    simp only [List.length_cons] at hl
    have hx1:xs[acc.length]?=some xs[acc.length]:=List.getElem?_eq_getElem (by lia)
    refine E22 (h acc _ σ hx1 hI) fun y σ' e1 e2 e3=>?_
    refine E21 (ik I hit hx h r (acc++[y]) _ (by rw [List.length_append];show acc.length+1+_=_;lia) e3) fun ys σ2 e4 e5=>?_
    rw [List.length_append] at e4
    exact ⟨ys,σ2,ay (hit _ _ hI) (ay hx1 (ay e1 (aI (bp e2 (fits_of (by lia))) e4))),e5⟩
section
variable {C:aD} {hs:Bool} {fr:Fr} {σ σ0:St} {W n a:Nat} {B:Bd} {s:Nat->T}
theorem oZ {it elt:ME} {xs ys:List V} {j0:St} {xv:V} (hi:ev C hs it fr σ0=some (xv,σ++j0)) (hit:∀ l,itemsOf xv (σ++l)=some xs) (hl:ys.length=xs.length) (hx:xs.length<1000000)
    (h:∀ (i:Nat) (x y:V) (l:St),xs[i]?=some x->ys[i]?=some y->∃ j,ev C hs elt ⟨[some x],fr.cells⟩ (σ++l)=some (y,σ++(l++j))):∃ j,ev C hs (.comp it elt) fr σ0=some (.ref (σ.length+j0.length),σ++(j0++.list ys::j)):=by
  have e0:(σ++j0).length=σ.length+j0.length:=List.length_append
  obtain ⟨zs,σ',e1,e2,e3,j,rfl⟩:=ik (body:=fun v σ=>bnd (ev C hs elt ⟨[some v],fr.cells⟩ σ) fun y σ=>some (some y,σ)) (it:=xv) (d:=(σ++j0).length) (xs:=xs)
    (fun acc σ'=>(∃ r,acc++r=ys)/\∃ j,σ'=σ++(j0++.list acc::j)) (fun _ _ h=>by obtain ⟨_,j,rfl⟩:=h;exact hit _) hx (fun acc x σ' hx hI=>by
      obtain ⟨⟨r,hr⟩,j,rfl⟩:=hI
      have hlt:=(List.getElem?_eq_some_iff.mp hx).1
      obtain ⟨y,r,rfl⟩:∃ y r',r=y::r':=by
        cases r with
        |nil=>rw [List.append_nil] at hr;rw [hr,hl] at hlt;exact absurd hlt (Nat.lt_irrefl _)
        |cons y r=>exact ⟨y,r,rfl⟩
      obtain ⟨j2,e⟩:=h acc.length x y _ hx (by rw [← hr,List.getElem?_append_right (Nat.le_refl _),Nat.sub_self];rfl)
      have e':∀ l,(j0++O.list acc::j)++l=j0++O.list acc::(j++l):=fun l=>List.append_assoc _ _ _
      have sp:∀ l,σ++(j0++l)=(σ++j0)++l:=fun l=>(List.append_assoc _ _ _).symm
      refine ⟨y,_,aI e rfl,?_,⟨r,by rw [← hr,List.append_assoc];rfl⟩,j++j2,?_⟩
      · rw [e',sp];exact aE (k:=0)
      · rw [e',sp,sp];exact cq (k:=0)) xs [] (σ++j0++[.list []]) (by simp) ⟨⟨ys,rfl⟩,[],List.append_assoc _ _ _⟩
  refine E10 e3 fun r hr=>?_
  obtain rfl:r=[]:=by
    have:=congrArg List.length hr
    rw [List.length_append] at this
    exact List.eq_nil_of_length_eq_zero (by lia)
  rw [List.append_nil] at hr
  subst hr
  refine ⟨j,aI hi (ay (x:=xs) (hit _) ?_)⟩
  rw [← e0]
  exact ay e1 rfl
theorem cD {e:ME} {t:T} {k:Tx} (h:ev C hs e fr σ=some (tv t,σ)):ev C hs (.cmp .eq (.sub e (.int 0)) (.str k)) fr σ=some (.bool (decide (knd t=k)),σ):=ai (iY h) rfl rfl
theorem kF (hb:σ[a]?=some (.dI (dm tv B))) {k:Nat} {t t':T} (r:cT B k t t') (hk:k<W):af W (n+1) hs .jC [tv t,.ref a] σ=some (.ok (tv t'),σ):=by
  refine b6 rfl rfl (aj (iB (fun k fr σ'=>σ'=σ/\∃ t,cT B k t t'/\fr=⟨[some (tv t),some (.ref a)],[]⟩) ?_ W k _ σ hk ⟨rfl,t,r,rfl⟩))
  rintro k fr σ' ⟨rfl,t,r,rfl⟩
  have c1:ev (af W n hs) hs (.cmp .eq (.sub (.loc 0) (.int 0)) (.str .t_v)) ⟨[some (tv t),some (.ref a)],[]⟩ σ'=some (.bool (decide (knd t=.t_v)),σ'):=cD rfl
  cases r with
  |stop h=>
    refine .inl ⟨?_,aA (aB rfl) ⟨rfl,rfl⟩⟩
    cases t' with
    |v x=>exact dk c1 (ai (ah rfl rfl rfl) rfl ((fG hb).trans (by rw [show aZ (dm tv B) ((x:Nat):Int)=_ from ct (f:=tv) (x:=x),h x rfl];rfl)))
    |_=>exact dD c1
  |@go x k u _ h r=>
    have g:aZ (dm tv B) ((x:Nat):Int)=some (tv u):=(ct (f:=tv) (x:=x)).trans (by rw [h];rfl)
    exact .inr ⟨dk c1 (ai (ah rfl rfl rfl) rfl ((fG hb).trans (by rw [g];rfl))),aa (av (gN rfl (ah rfl rfl rfl) hb g)) (ao ⟨k,Nat.lt_succ_self k,rfl,u,r,rfl⟩)⟩
theorem sQ {t:T}:∀ {l:TL},t∈toL l->sz t<=szL l
  |.cons u r,h=>by
    show sz t<=sz u+szL r
    rcases List.mem_cons.mp h with rfl | h
    · exact Nat.le_add_right _ _
    · exact Nat.le_trans (sQ h) (Nat.le_add_left _ _)
theorem cT.toS {B:Bd} {k f:Nat} {t t':T} {l:TL} (S:Sol B s) (r:cT B k t t') (h:sub s t=.s f l):∃ l',t'=.s f l'/\bZ s l'=l:=by
  rw [r.nY S] at h
  cases t' with
  |v x=>rw [show sub s (.v x)=s x from rfl,S.so0 x (r.fin x rfl)] at h;exact T.noConfusion h
  |a x=>exact T.noConfusion h
  |i x=>exact T.noConfusion h
  |s g l'=>cases h;exact ⟨l',rfl,rfl⟩
theorem cT.ns {B:Bd} {k:Nat} {t t':T} (S:Sol B s) (r:cT B k t t') (h:knd (sub s t)≠.t_s):t'=sub s t:=by
  rw [r.nY S] at h ⊢
  cases t' with
  |v x=>exact (S.so0 x (r.fin x rfl)).symm
  |a x=>rfl
  |i x=>rfl
  |s g l'=>exact (h rfl).elim
noncomputable def rg (hs:Bool) (σ:St) (W a:Nat) (B:Bd) (s:Nat->T) (n:Nat):Prop:=∀ (t:T) (l:St),dp (sub s t)<=n->sz (sub s t)<1000000->σ[a]?=some (.dI (dm tv B))->∃ j,af W (n+2) hs .cV [tv t,.ref a] (σ++l)=some (.ok (tv (sub s t)),σ++(l++j))
theorem qo (S:Sol B s) (hW:B.length<W) (n:Nat) (ih:∀ m,n=m+1->rg hs σ W a B s m):rg hs σ W a B s n:=fun t l hn hz hb=>by
  refine E21 (S.ch t) fun k t' hk r=>?_
  have hb':(σ++l)[a]?=some (.dI (dm tv B)):=aq hb
  have:=dB (W:=W) (n:=n+1) (hs:=hs) (f:=.cV) (args:=[tv t,.ref a]) (σ:=σ++l) (b:=lX) (P:=fun v σ'=>v=tv (sub s t)/\∃ j,σ'=σ++(l++j)) rfl rfl ?_
  · obtain ⟨v,σ',e,rfl,j,rfl⟩:=this
    exact ⟨j,e⟩
  refine aa (av (aV (ae rfl (ab rfl)) (kF (n:=n) hb' r (by exact Nat.lt_of_le_of_lt (by assumption) (by assumption))))) ?_
  have c1:∀ fr,ev (af W (n+1) hs) hs (.loc 0) fr (σ++l)=some (tv t',σ++l)->ev (af W (n+1) hs) hs (.cmp .eq (.sub (.loc 0) (.int 0)) (.str .t_s)) fr (σ++l)=some (.bool (decide (knd t'=.t_s)),σ++l):=fun fr h=>cD h
  by_cases hk:knd (sub s t)=.t_s
  · obtain ⟨f,q,e⟩:∃ f q,sub s t=.s f q:=by
      cases h:sub s t with
      |s f q=>exact ⟨f,q,rfl⟩
      |_=>rw [h] at hk;cases hk
    refine E11 (r.toS S e) fun q' z1 z2=>?_
    subst z1
    subst z2
    rw [e] at hn hz ⊢
    obtain ⟨n,rfl⟩:∃ m,n=m+1:=⟨n - 1,by have:dpL (bZ s q')+1<=n:=hn;lia⟩
    have lz:aU q'<1000000:=by have:=eA (bZ s q');have:=bB (bZ s q');rw [cK,List.length_map,bB] at this;have:sz (.s f (bZ s q'))=szL (bZ s q')+1:=rfl;lia
    refine aj (aw (c1 _ rfl) ?_)
    have hc:=oZ (C:=af W (n+1+1) hs) (hs:=hs) (fr:=⟨[some (tv (.s f q'))],[some (.ref a)]⟩) (σ:=σ) (σ0:=σ++l) (it:=.sub (.loc 0) (.int 2)) (elt:=.call (.glob (.fn .cV)) (.cons (.loc 0) (.cons (.cell 0) .nil))) (xs:=tvl q') (ys:=tvl (bZ s q')) (j0:=l) (ah rfl rfl rfl) (fun _=>rfl)
      (by rw [cO,cO,← bB,← bB,cK,List.length_map]) (by rw [cO];exact lz) fun i x y l2 hx hy=>?_
    · refine E10 hc fun j e1=>?_
      refine aA (aB (au (ae rfl (ae (ah rfl rfl rfl) (ab (bF (ab e1) (jr (xs:=tvl (bZ s q')) ?_ ?_))))) rfl)) ⟨rfl,_,rfl⟩
      · rw [← List.length_append,← List.append_assoc];exact aE (k:=0)
      · rw [cO,← bB,cK,List.length_map,bB];exact fits_of lz
    · rw [fa,List.getElem?_map] at hx
      rw [fa,cK,List.map_map,List.getElem?_map] at hy
      refine E11 (Option.map_eq_some_iff.mp hx) fun u hu z2=>?_
      subst z2
      rw [hu] at hy
      obtain rfl:=Option.some.inj hy
      have hm:sub s u∈toL (bZ s q'):=by rw [cK];exact List.mem_map_of_mem (List.mem_of_getElem? hu)
      refine E10 (ih n rfl u l2 (by have:=j5 hm;have:dpL (bZ s q')+1<=n+1:=hn;lia) (by have:=sQ hm;have:sz (.s f (bZ s q'))=szL (bZ s q')+1:=rfl;lia) hb) fun j e=>?_
      exact ⟨j,aV (ae rfl (ab rfl)) e⟩
  · obtain rfl:=r.ns S hk
    exact aa (aN ((c1 _ rfl).trans (by rw [decide_eq_false hk]))) (aA (aB rfl) ⟨rfl,[],by rw [List.append_nil]⟩)
theorem oP (S:Sol B s) (hW:B.length<W) (n:Nat):rg hs σ W a B s n:=by
  induction n with
  |zero=>exact qo S hW _ fun m e=>absurd e.symm (Nat.succ_ne_zero m)
  |succ n ih=>exact qo S hW _ fun m e=>Nat.succ.inj e▸ih
end
section
variable {C:aD} {hs:Bool} {fr:Fr} {σ σ0:St} {W a:Nat} {B:Bd} {s:Nat->T}
theorem rZ {b:Bool}:∀ (bs:List Bool),qK (.bool b) (bs.map .bool)=some (decide (b∈bs))
  |[]=>rfl
  |c::bs=>ay rfl (ay (rZ bs) (by cases b<;>cases c<;>simp))
theorem uO {m:Nat} (ih:∀ t u,dp t<=m->∃ b,veq (2 * m+2) (tv t) (tv u)=some b/\(b=true↔t=u)):∀ (l l':TL),dpL l<=m->∃ b,gy (veq (2 * m+2)) (tvl l) (tvl l')=some b/\(b=true↔l=l')
  |.nil,.nil,_=>⟨true,rfl,by simp⟩
  |.nil,.cons _ _,_=>⟨false,rfl,by simp⟩
  |.cons _ _,.nil,_=>⟨false,rfl,by simp⟩
  |.cons t r,.cons t' r',h=>by
    refine E11 (ih t t' (Nat.le_trans (Nat.le_max_left _ _) h)) fun b1 e1 h1=>?_
    refine E11 (uO ih r r' (Nat.le_trans (Nat.le_max_right _ _) h)) fun b2 e2 h2=>?_
    exact ⟨b1&&b2,ay e1 (ay e2 rfl),by rw [Bool.and_eq_true,h1,h2];simp⟩
noncomputable def num:T->Nat
  |.v n=>n
  |.a n=>n
  |.i n=>n
  |.s n _=>n
noncomputable def tl:T->List V
  |.s _ l=>[.tup (tvl l)]
  |_=>[]
theorem AS {n:Nat} {t u:T} (h:∀ f l g l',t=.s f l->u=.s g l'->∃ b,veq (n+1) (.tup (tvl l)) (.tup (tvl l'))=some b/\(b=true↔l=l')):∃ b,veq (n+2) (tv t) (tv u)=some b/\(b=true↔t=u):=by
  have e:∀ t,tv t=.tup (.str (knd t)::.int (num t)::tl t):=fun t=>by cases t<;>rfl
  have k:∃ b,gy (veq (n+1)) (tl t) (tl u)=some b/\(knd t=knd u->num t=num u->(b=true↔t=u)):=by
    cases t with
    |s f l=>
      cases u with
      |s g l'=>
        refine E11 (h f l g l' rfl rfl) fun b e1 h1=>?_
        exact ⟨b&&true,ay e1 rfl,fun _ e2=>by rw [Bool.and_true,h1,show f=g from e2];simp⟩
      |_=>exact ⟨false,rfl,fun z=>nomatch z⟩
    |v x=>cases u with
      |v y=>exact ⟨true,rfl,fun _ z=>by rw [show x=y from z];simp⟩
      |s g l'=>exact ⟨false,rfl,fun z=>nomatch z⟩
      |_=>exact ⟨true,rfl,fun z=>nomatch z⟩
    |a x=>cases u with
      |a y=>exact ⟨true,rfl,fun _ z=>by rw [show x=y from z];simp⟩
      |s g l'=>exact ⟨false,rfl,fun z=>nomatch z⟩
      |_=>exact ⟨true,rfl,fun z=>nomatch z⟩
    |i x=>cases u with
      |i y=>exact ⟨true,rfl,fun _ z=>by rw [show x=y from z];simp⟩
      |s g l'=>exact ⟨false,rfl,fun z=>nomatch z⟩
      |_=>exact ⟨true,rfl,fun z=>nomatch z⟩
  refine E11 k fun b e1 h1=>?_
  refine ⟨decide (knd t=knd u)&&(decide ((num t:Int)=num u)&&b),?_,?_⟩
  · rw [e t,e u]
    show bh (some (decide (knd t=knd u))) (fun a=>bh (bh (some (decide ((num t:Int)=num u))) fun a=>bh (gy (veq (n+1)) (tl t) (tl u)) fun b=>some (a&&b)) fun b=>some (a&&b))=_
    rw [e1];rfl
  · rw [Bool.and_eq_true,Bool.and_eq_true,decide_eq_true_eq,decide_eq_true_eq,Int.natCast_inj]
    exact ⟨fun z=>(h1 z.1 z.2.1).mp z.2.2,fun z=>⟨congrArg knd z,congrArg num z,(h1 (congrArg knd z) (congrArg num z)).mpr z⟩⟩
theorem yC:∀ (m:Nat) (t u:T),dp t<=m->∃ b,veq (2 * m+2) (tv t) (tv u)=some b/\(b=true↔t=u)
  |0,t,u,h=>AS fun f l g l' e=>by subst e;exact absurd h (Nat.not_succ_le_zero _)
  |m+1,t,u,h=>AS fun f l g l' e _=>uO (yC m) l l' (by subst e;exact Nat.le_of_succ_le_succ h)
theorem rL {t u:T} (h:dp t<=5):∃ b,gQ .eq (tv t) (tv u) σ=some b/\(b=true↔t=u):=by
  refine E11 (yC 5 t u h) fun b e hb=>?_
  refine ⟨b,?_,hb⟩
  cases t<;>cases u<;>exact e
end
section
variable {C:aD} {hs:Bool} {fr:Fr} {σ σ0:St} {W a x:Nat} {B:Bd} {s:Nat->T} {α:Nat->Nat}
theorem in_list {n:Nat} {xs:List V} {y:V} {b:Bool} (h:σ[n]?=some (.list xs)) (hb:qK y xs=some b):o8 y (.ref n) σ=some b:=ay h hb
theorem CB {t:T} (h:knd t≠.t_s):gQ .eq (tv t) (tv (.v x)) σ=some (occ x t):=by
  cases t with
  |v y=>
    show some (decide ((y:Int)=x)&&true)=some (decide (x=y))
    rw [Bool.and_true]
    congr 1
    rw [Bool.eq_iff_iff,decide_eq_true_eq,decide_eq_true_eq,Int.natCast_inj]
    exact eq_comm
  |s f l=>exact (h rfl).elim
  |_=>rfl
noncomputable def vP (hs:Bool) (σ:St) (W a x:Nat) (B:Bd) (s:Nat->T) (n:Nat):Prop:=∀ (t:T) (l:St),dp (sub s t)<=n->sz (sub s t)<1000000->σ[a]?=some (.dI (dm tv B))->∃ j,af W (n+2) hs .dT [.int x,tv t,.ref a] (σ++l)=some (.ok (.bool (occ x (sub s t))),σ++(l++j))
theorem l8 (S:Sol B s) (hW:B.length<W) (n:Nat) (ih:∀ m,n=m+1->vP hs σ W a x B s m):vP hs σ W a x B s n:=fun t l hn hz hb=>by
  refine E21 (S.ch t) fun k t' hk r=>?_
  have hb':(σ++l)[a]?=some (.dI (dm tv B)):=aq hb
  have:=dB (W:=W) (n:=n+1) (hs:=hs) (f:=.dT) (args:=[.int x,tv t,.ref a]) (σ:=σ++l) (b:=jq) (P:=fun v σ'=>v=.bool (occ x (sub s t))/\∃ j,σ'=σ++(l++j)) rfl rfl ?_
  · obtain ⟨v,σ',e,rfl,j,rfl⟩:=this
    exact ⟨j,e⟩
  refine aa (av (aV (ae rfl (ab rfl)) (kF (n:=n) hb' r (by exact Nat.lt_of_le_of_lt (by assumption) (by assumption))))) ?_
  by_cases hk:knd (sub s t)=.t_s
  · obtain ⟨f,q,e⟩:∃ f q,sub s t=.s f q:=by
      cases h:sub s t with
      |s f q=>exact ⟨f,q,rfl⟩
      |_=>rw [h] at hk;cases hk
    refine E11 (r.toS S e) fun q' z1 z2=>?_
    subst z1
    subst z2
    rw [e] at hn hz ⊢
    obtain ⟨n,rfl⟩:∃ m,n=m+1:=⟨n - 1,by have:dpL (bZ s q')+1<=n:=hn;lia⟩
    have lz:aU q'<1000000:=by have:=eA (bZ s q');have:=bB (bZ s q');rw [cK,List.length_map,bB] at this;have:sz (.s f (bZ s q'))=szL (bZ s q')+1:=rfl;lia
    refine aj (aw (cD (t:=.s f q') rfl) ?_)
    have hc:=oZ (C:=af W (n+1+1) hs) (hs:=hs) (fr:=⟨[some (tv (.s f q'))],[some (.int x),some (.ref a)]⟩) (σ:=σ) (σ0:=σ++l) (it:=.sub (.loc 0) (.int 2)) (elt:=.call (.glob (.fn .dT)) (.cons (.cell 0) (.cons (.loc 0) (.cons (.cell 1) .nil)))) (xs:=tvl q') (ys:=((toL q').map fun u=>occ x (sub s u)).map V.bool) (j0:=l) (ah rfl rfl rfl) (fun _=>rfl)
      (by rw [cO,List.length_map,List.length_map,bB]) (by rw [cO];exact lz) fun i y z l2 hx hy=>?_
    · refine E10 hc fun j e1=>?_
      refine aA (aB (ai rfl e1 ((in_list ?_ (rZ ((toL q').map fun u=>occ x (sub s u)))).trans ?_))) ⟨rfl,_,rfl⟩
      · rw [← List.length_append,← List.append_assoc];exact aE (k:=0)
      · congr 1
        rw [Bool.eq_iff_iff,decide_eq_true_eq]
        refine .trans ?_ (fx (l:=bZ s q')).symm
        rw [cK]
        simp only [List.mem_map]
        exact ⟨fun ⟨a,h,o⟩=>⟨_,⟨a,h,rfl⟩,o⟩,fun ⟨_,⟨a,h,e⟩,o⟩=>⟨a,h,e▸o⟩⟩
    · rw [fa,List.getElem?_map] at hx
      rw [List.map_map,List.getElem?_map] at hy
      refine E11 (Option.map_eq_some_iff.mp hx) fun u hu z2=>?_
      subst z2
      rw [hu] at hy
      obtain rfl:=Option.some.inj hy
      have hm:sub s u∈toL (bZ s q'):=by rw [cK];exact List.mem_map_of_mem (List.mem_of_getElem? hu)
      refine E10 (ih n rfl u l2 (by have:=j5 hm;have:dpL (bZ s q')+1<=n+1:=hn;lia) (by have:=sQ hm;have:sz (.s f (bZ s q'))=szL (bZ s q')+1:=rfl;lia) hb) fun j e=>?_
      exact ⟨j,aV (ae rfl (ae rfl (ab rfl))) e⟩
  · obtain rfl:=r.ns S hk
    exact aa (aN ((cD rfl).trans (by rw [decide_eq_false hk]))) (aA (aB (ai rfl rfl (CB hk))) ⟨rfl,[],by rw [List.append_nil]⟩)
theorem wu (S:Sol B s) (hW:B.length<W) (n:Nat):vP hs σ W a x B s n:=by
  induction n with
  |zero=>exact l8 S hW _ fun m e=>absurd e.symm (Nat.succ_ne_zero m)
  |succ n ih=>exact l8 S hW _ fun m e=>Nat.succ.inj e▸ih
end
noncomputable def Kp (A:List Nat) (σ σ':St):Prop:=∀ (i:Nat) (o:O),σ[i]?=some o->i∉A->σ'[i]?=some o
section
variable {σ σ1 σ2 σ' l:St} {A A':List Nat} {i:Nat} {o:O}
theorem Kp.refl:Kp A σ σ:=fun _ _ h _=>h
theorem Kp.trans (h:Kp A σ σ1) (h2:Kp A σ1 σ2):Kp A σ σ2:=fun i o e n=>h2 i o (h i o e n) n
theorem Kp.mono (h:Kp A σ σ1) (s:∀ i∈A,i∈A'):Kp A' σ σ1:=fun i o e n=>h i o e fun z=>n (s i z)
theorem Kp.app:Kp A σ (σ++l):=fun _ _ h _=>aq h
theorem Kp.set (h:i∈A):Kp A σ (σ.set i o):=fun j _ e n=>(aF (fun z:i=j=>n (z▸h))).trans e
theorem SMem.kp {c:Cfg} {Y:Sym} (M:SMem c σ Y) (K:Kp A σ σ') (h:∀ i∈A,i∉[c.sy,c.tx,c.an,c.fu,c.fn]):SMem c σ' Y:=
  have g:∀ {j o},j∈[c.sy,c.tx,c.an,c.fu,c.fn]->σ[j]?=some o->σ'[j]?=some o:=fun m e=>K _ _ e fun z=>h _ z m
  ⟨g (.head _) M.sy,g (.tail _ (.head _)) M.tx,g (.tail _ (.tail _ (.head _))) M.an,g (.tail _ (.tail _ (.tail _ (.head _)))) M.fu,g (.tail _ (.tail _ (.tail _ (.tail _ (.head _))))) M.fn⟩
theorem Mem.kp {c:Cfg} {Y:Sym} {H:List Cell} (M:Mem c σ Y H) (K:Kp A σ σ') (h:∀ i∈A,i∉[c.sy,c.tx,c.an,c.fu,c.fn]/\i∉[c.st,c.hp,c.sp]):Mem c σ' Y H:=
  have g:∀ {j o},j∈[c.st,c.hp,c.sp]->σ[j]?=some o->σ'[j]?=some o:=fun m e=>K _ _ e fun z=>(h _ z).2 m
  ⟨M.toSMem.kp K fun i hi=>(h i hi).1,g (.head _) M.st,g (.tail _ (.head _)) M.hp,g (.tail _ (.tail _ (.head _))) M.sp,M.dj⟩
end
noncomputable def bd (B:Bd) (s:Nat->T) (x:Nat) (e:T):Option (Bd×(Nat->T)):=cond (occ x (sub s e)) none (some (B++[(x,e)],upd s x (sub s e)))
inductive Lf (α:Nat->Nat) (B:Bd) (s:Nat->T):T->T->Option (Bd×(Nat->T))->Prop
  |eq {e:T} (h:knd e≠.t_s):Lf α B s e e (some (B,s))
  |bl {x:Nat} {e:T} (hne:e≠.v x) (lt:∀ y,e=.v y->α y<α x):Lf α B s (.v x) e (bd B s x e)
  |br {x:Nat} {e:T} (hk:knd e≠.t_v):Lf α B s e (.v x) (bd B s x e)
  |cl {e e':T} (hk:knd e≠.t_v) (hk':knd e'≠.t_v) (hne:e≠e') (hs:knd e=.t_s->knd e'=.t_s->num e≠num e'):Lf α B s e e' none
structure Lv (α:Nat->Nat) (B:Bd) (s:Nat->T) (t u:T) (R:Option (Bd×(Nat->T))):Prop where
  ex:∃ k te k' ue,cT B k t te/\cT B k' u ue/\Lf α B s te ue R/\dp te<=5
  d1:dp (sub s t)<=20
  d2:dp (sub s u)<=20
  z1:sz (sub s t)<=2000
  z2:sz (sub s u)<=2000
section
variable {C:aD} {hs:Bool} {fr:Fr} {σ σ0:St} {W n a x:Nat} {B:Bd} {s:Nat->T} {α:Nat->Nat} {R:Option (Bd×(Nat->T))} {t u te ue:T}
theorem cT.ch {k:Nat} (S:Sol B s) (h:cT B k t u):k<=B.length:=by
  refine E21 (S.ch t) fun k' t' hk r=>?_
  suffices k=k' from this▸hk
  clear S hk
  induction h generalizing k' with
  |stop h=>cases r with
    |stop=>rfl
    |go h2=>rw [h _ rfl] at h2;exact no h2
  |go h _ ih=>cases r with
    |stop h2=>rw [h2 _ rfl] at h;exact no h
    |go h2 r=>obtain rfl:=sm h h2;rw [ih _ r]
noncomputable def Ans (R:Option (Bd×(Nat->T))) (A:List Nat) (a:Nat) (σ:St) (r:Option (Except V V×St)):Prop:=∃ σ',r=some (.ok (.bool R.isSome),σ')/\Kp A σ σ'/\∀ B s,R=some (B,s)->σ'[a]?=some (.dI (dm tv B))
theorem oj {C:Bool->aD} {e:ME} {t:Bool} {r:MS} {Q:Fl->Fr->St->Prop} {σ1:St} (h:ev (C hs) hs e fr σ=some (.bool t,σ1)) (k1:t=true->Ends (evS C W hs r fr σ1) Q) (k2:t=false->Q (.ret (.bool false)) fr σ1):Ends (evS C W hs (.cons (.ite (.not e) (.cons (.ret (.bool false)) .nil) .nil) r) fr σ) Q:=by
  cases t with
  |true=>exact aa (aN (eK h)) (k1 rfl)
  |false=>exact aj (aw (eK h) (aA (aB rfl) (k2 rfl)))
theorem ig {B':Bd} {s':Nat->T} (h:bd B s x te=some (B',s')):occ x (sub s te)=false/\B'=B++[(x,te)]/\s'=upd s x (sub s te):=by
  unfold bd at h
  cases o:occ x (sub s te) with
  |true=>rw [o] at h;cases h
  |false=>rw [o] at h;cases h;exact ⟨rfl,rfl,rfl⟩
theorem Cu:(bd B s x te).isSome=!occ x (sub s te):=by unfold bd;cases occ x (sub s te)<;>rfl
theorem BL (S:Sol B s) (hW:B.length<W) {x3:Option V} {rest:MS} (hb:σ[a]?=some (.dI (dm tv B))) (hx:assoc B x=none) (hd:dp (sub s ue)<=20) (hz:sz (sub s ue)<=2000) (hB:B.length<1000):
    Ends (evS (af W (n+22)) W hs (.cons (.ite (.cmp .eq (.sub (.loc 0) (.int 0)) (.str .t_v)) (.cons (.ite (.call (.glob (.fn .dT)) (.cons (.sub (.loc 0) (.int 1)) (.cons (.loc 1) (.cons (.loc 2) .nil)))) (.cons (.ret (.bool false)) .nil) .nil)
      (.cons (.setitem (.loc 2) (.sub (.loc 0) (.int 1)) (.loc 1)) (.cons (.ret (.bool true)) .nil))) .nil) rest) ⟨[some (tv (.v x)),some (tv ue),some (.ref a),x3],[]⟩ σ) fun fl _ σ'=>fl=.ret (.bool (bd B s x ue).isSome)/\Kp [a] σ σ'/\∀ B' s',bd B s x ue=some (B',s')->σ'[a]?=some (.dI (dm tv B')):=by
  refine E10 (wu (hs:=hs) (W:=W) (x:=x) S hW (n+20) ue [] (by lia) (by (refine Nat.lt_of_le_of_lt (by assumption) ?_;decide)) hb) fun j e=>?_
  rw [List.append_nil] at e
  have hb2:(σ++j)[a]?=some (.dI (dm tv B)):=aq hb
  rw [Cu]
  refine aj (aw (cD (t:=.v x) rfl) ?_)
  cases o:occ x (sub s ue) with
  |true=>
    rw [o] at e
    refine aj (aw (aV (ae (ah rfl rfl rfl) (ae rfl (ab rfl))) e) (aA (aB rfl) ⟨rfl,Kp.app,fun B' s' h=>?_⟩))
    have:=(ig h).1
    rw [o] at this;cases this
  |false=>
    rw [o] at e
    refine aa (aN (aV (ae (ah rfl rfl rfl) (ae rfl (ab rfl))) e)) (aa (aM rfl rfl (ah rfl rfl rfl) (pE hb2 (fits_of (by rw [j4];(refine Nat.le_trans (by assumption) ?_;decide))))) (aA (aB rfl) ⟨rfl,Kp.app.trans (Kp.set (.head _)),fun B' s' h=>?_⟩))
    rw [(ig h).2.1]
    exact (bc hb2).trans (congrArg (fun z=>some (O.dI z)) (jv hx))
end
section
variable {C:aD} {hs:Bool} {fr:Fr} {σ σ0:St} {W n a x:Nat} {B:Bd} {s:Nat->T} {α:Nat->Nat} {R:Option (Bd×(Nat->T))} {t u te ue:T}
theorem qy {e:ME} (h:ev C hs e fr σ=some (tv t,σ)):ev C hs (.sub e (.int 1)) fr σ=some (.int (num t),σ):=by cases t<;>exact ah h rfl rfl
theorem vi {p q:ME} {a b:Tx} (h:ev C hs p fr σ=some (.str a,σ)) (h2:ev C hs q fr σ=some (.str b,σ)):ev C hs (.cmp .ne p q) fr σ=some (.bool (!decide (a=b)),σ):=ai h h2 rfl
theorem wQ {p q r:ME} {b1 b2 b3:Bool} (h1:ev C hs p fr σ=some (.bool b1,σ)) (h2:ev C hs q fr σ=some (.bool b2,σ)) (h3:ev C hs r fr σ=some (.bool b3,σ)):ev C hs (.or3 p q r) fr σ=some (.bool (b1||(b2||b3)),σ):=by
  refine aI h1 ?_
  cases b1 with
  |true=>rfl
  |false=>
    refine aI h2 ?_
    cases b2 with
    |true=>rfl
    |false=>exact h3
theorem uf (S:Sol B s) (hW:B.length<W) {k k':Nat} (r:cT B k t (.v x)) (r':cT B k' u ue) (hne:ue≠.v x) (hb:σ[a]?=some (.dI (dm tv B))) (hd:dp (sub s u)<=20) (hz:sz (sub s u)<=2000) (hB:B.length<1000):
    Ans (bd B s x ue) [a] a σ (af W (n+23) hs .cf [tv t,tv u,.ref a] σ):=by
  refine E11 (rL (σ:=σ) (t:=.v x) (u:=ue) (Nat.zero_le _)) fun b e1 h1=>?_
  obtain rfl:b=false:=Bool.eq_false_iff.mpr fun z=>hne (h1.mp z).symm
  rw [r'.nY S] at hd hz
  have:=dB (W:=W) (n:=n+22) (hs:=hs) (f:=.cf) (args:=[tv t,tv u,.ref a]) (σ:=σ) (b:=bU) (P:=fun v σ'=>v=.bool (bd B s x ue).isSome/\Kp [a] σ σ'/\∀ B' s',bd B s x ue=some (B',s')->σ'[a]?=some (.dI (dm tv B'))) rfl rfl
    (aa (av (aV (ae rfl (ab rfl)) (kF (n:=n+21) hb r (Nat.lt_of_le_of_lt (r.ch S) hW)))) (aa (av (aV (ae rfl (ab rfl)) (kF (n:=n+21) hb r' (Nat.lt_of_le_of_lt (r'.ch S) hW)))) (aa (aN (ai rfl rfl e1)) ((BL (n:=n) S hW hb (r.fin x rfl) hd hz hB).mono fun fl _ σ' q=>by rw [q.1];exact ⟨rfl,q.2⟩))))
  refine E22 this fun v σ' e z3 q=>?_
  subst z3
  exact ⟨σ',e,q⟩
theorem oQ (S:Sol B s) (hW:B.length<W) (hb:σ[a]?=some (.dI (dm tv B))) (hB:B.length<1000) (L:Lv α B s t u R):Ans R [a] a σ (af W (n+24) hs .cf [tv t,tv u,.ref a] σ):=by
  obtain ⟨⟨k,te,k',ue,r,r',l,hdt⟩,d1,d2,z1,z2⟩:=L
  have run:(Ends (evS (af W (n+23)) W hs (.cons (cI bU 2) (.cons (cI bU 3) (.cons (cI bU 4) (.cons (cI bU 5) (.cons (cI bU 6) (.cons (cI bU 7) .nil)))))) ⟨[some (tv te),some (tv ue),some (.ref a),none],[]⟩ σ) fun fl _ σ'=>fl=.ret (.bool R.isSome)/\Kp [a] σ σ'/\∀ B' s',R=some (B',s')->σ'[a]?=some (.dI (dm tv B')))->Ans R [a] a σ (af W (n+24) hs .cf [tv t,tv u,.ref a] σ):=fun h=>by
    have:=dB (W:=W) (n:=n+23) (hs:=hs) (f:=.cf) (args:=[tv t,tv u,.ref a]) (σ:=σ) (b:=bU) (P:=fun v σ'=>v=.bool R.isSome/\Kp [a] σ σ'/\∀ B' s',R=some (B',s')->σ'[a]?=some (.dI (dm tv B'))) rfl rfl
      (aa (av (aV (ae rfl (ab rfl)) (kF (n:=n+22) hb r (Nat.lt_of_le_of_lt (r.ch S) hW)))) (aa (av (aV (ae rfl (ab rfl)) (kF (n:=n+22) hb r' (Nat.lt_of_le_of_lt (r'.ch S) hW)))) (h.mono fun fl _ σ' q=>by rw [q.1];exact ⟨rfl,q.2⟩)))
    refine E22 this fun v σ' e z3 q=>?_
    subst z3
    exact ⟨σ',e,q⟩
  refine E11 (rL (σ:=σ) (t:=te) (u:=ue) hdt) fun b e1 h1=>?_
  cases l with
  |eq h=>
    obtain rfl:=h1.mpr rfl
    exact run (aj (aw (ai rfl rfl e1) (aA (aB rfl) ⟨rfl,Kp.refl,fun B' s' h=>by obtain ⟨rfl,rfl⟩:=in2 h;exact hb⟩)))
  |bl hne lt=>exact uf (n:=n+1) S hW r r' hne hb d2 z2 hB
  |@br x _ hk=>
    obtain rfl:b=false:=Bool.eq_false_iff.mpr fun z=>hk (congrArg knd (h1.mp z))
    refine run (aa (aN (ai rfl rfl e1)) (aa (aN ((cD rfl).trans (by rw [decide_eq_false hk]))) (aj (aw (cD (t:=.v x) rfl) ?_))))
    rw [r.nY S] at d1 z1
    refine E12 (uf (n:=n) (hs:=hs) (σ:=σ) (t:=.v x) (u:=te) (ue:=te) (x:=x) S hW (.stop (r'.fin)) (.stop (r.fin)) (fun z=>hk (congrArg knd z)) hb d1 z1 hB) fun σ' e q1 q2=>?_
    exact aA (aB (aV (ae rfl (ae rfl (ab rfl))) e)) ⟨rfl,q1,q2⟩
  |cl hk hk' hne hs'=>
    obtain rfl:b=false:=Bool.eq_false_iff.mpr fun z=>hne (h1.mp z)
    refine run (aa (aN (ai rfl rfl e1)) (aa (aN ((cD rfl).trans (by rw [decide_eq_false hk]))) (aa (aN ((cD rfl).trans (by rw [decide_eq_false hk']))) (aj (aw ((wQ (vi (iY rfl) rfl) (vi (iY rfl) rfl) (ai (qy rfl) (qy rfl) rfl)).trans ?_) (aA (aB rfl) ⟨rfl,Kp.refl,fun B' s' h=>nomatch h⟩))))))
    by_cases h2:knd te=.t_s
    · by_cases h3:knd ue=.t_s
      · rw [decide_eq_false (mt Int.natCast_inj.mp (hs' h2 h3)),Bool.not_false,Bool.or_true,Bool.or_true]
      · rw [decide_eq_false h3];simp
    · rw [decide_eq_false h2];rfl
theorem Lv.sol (S:Sol B s) {B1:Bd} {s1:Nat->T} (L:Lv α B s t u (some (B1,s1))):Sol B1 s1/\B1.length<=B.length+1:=by
  obtain ⟨⟨k,te,k',ue,r,r',l,hdt⟩,_⟩:=L
  generalize hR:some (B1,s1)=R at l
  cases l with
  |eq h=>obtain ⟨rfl,rfl⟩:=in2 hR;exact ⟨S,Nat.le_succ _⟩
  |bl hne lt=>
    refine E02 (ig hR.symm) fun o z1 z2=>?_
    subst z1
    subst z2
    exact ⟨S.add (r.fin _ rfl) r'.fin hne o,by rw [List.length_append];exact Nat.le_refl _⟩
  |br hk=>
    refine E02 (ig hR.symm) fun o z1 z2=>?_
    subst z1
    subst z2
    exact ⟨S.add (r'.fin _ rfl) r.fin (fun z=>hk (congrArg knd z)) o,by rw [List.length_append];exact Nat.le_refl _⟩
  |cl=>cases hR
inductive Pr (α:Nat->Nat) (B:Bd) (s:Nat->T):T->T->Option (Bd×(Nat->T))->Prop
  |leaf {t u:T} {R:Option (Bd×(Nat->T))} (L:Lv α B s t u R):Pr α B s t u R
  |one {f:Nat} {t u:T} {R:Option (Bd×(Nat->T))} (hne:t≠u) (hd:dp t<=4) (L:Lv α B s t u R):Pr α B s (.s f (.cons t .nil)) (.s f (.cons u .nil)) R
  |two {f:Nat} {t u t' u':T} {B1:Bd} {s1:Nat->T} {R:Option (Bd×(Nat->T))} (hne:t≠u) (hd:dp t<=4) (hd':dp t'<=4) (L:Lv α B s t u (some (B1,s1))) (L':Lv α B1 s1 t' u' R):Pr α B s (.s f (.cons t (.cons t' .nil))) (.s f (.cons u (.cons u' .nil))) R
end
section
variable {C:aD} {hs:Bool} {fr:Fr} {σ σ0:St} {W n a x:Nat} {B:Bd} {s:Nat->T} {α:Nat->Nat} {R:Option (Bd×(Nat->T))} {t u te ue:T}
theorem dF {i:Nat} {v:V} (h:fr.locs[i]?.join=some v):ev C hs (.loc i) fr σ=some (v,σ):=by
  show ja _ _=_
  rw [h];rfl
theorem xx (hW:0<W) {f:Nat} {l l':TL} (hb:σ[a]?=some (.dI (dm tv B))) (hne:l≠l') (hd:dp (.s f l)<=5) (hl:aU l<=1000)
    (h:Ends (ft (fun v fr σ=>evS (af W (n+24)) W hs (.cons (.ite (.not (.call (.glob (.fn .cf)) (.cons (.sub (.sub (.loc 0) (.int 2)) (.loc 3)) (.cons (.sub (.sub (.loc 1) (.int 2)) (.loc 3)) (.cons (.loc 2) .nil))))) (.cons (.ret (.bool false)) .nil) .nil) .nil) (fr.put 3 v) σ) (.rng 0 (aU l) 1) (fZ 0 (aU l) 1) 0 ⟨[some (tv (.s f l)),some (tv (.s f l')),some (.ref a),none],[]⟩ σ)
      fun fl _ σ'=>((fl=.nxt/\R.isSome=true)\/fl=.ret (.bool R.isSome))/\Kp [a] σ σ'/\∀ B' s',R=some (B',s')->σ'[a]?=some (.dI (dm tv B'))):
    Ans R [a] a σ (af W (n+25) hs .cf [tv (.s f l),tv (.s f l'),.ref a] σ):=by
  refine E11 (rL (σ:=σ) (t:=.s f l) (u:=.s f l') hd) fun b e1 h1=>?_
  obtain rfl:b=false:=Bool.eq_false_iff.mpr fun z=>hne (T.s.inj (h1.mp z)).2
  have len:∀ fr,fr.locs[0]?.join=some (tv (.s f l))->ev (af W (n+24) hs) hs (.call (.glob (.bi .len)) (.cons (.sub (.loc 0) (.int 2)) .nil)) fr σ=some (.int (aU l),σ):=fun fr h0=>
    bF (ab (ah (dF h0) rfl rfl)) (by rw [← cO];rfl)
  have:=dB (W:=W) (n:=n+24) (hs:=hs) (f:=.cf) (args:=[tv (.s f l),tv (.s f l'),.ref a]) (σ:=σ) (b:=bU) (P:=fun v σ'=>v=.bool R.isSome/\Kp [a] σ σ'/\∀ B' s',R=some (B',s')->σ'[a]?=some (.dI (dm tv B'))) rfl rfl
    (aa (av (aV (ae rfl (ab rfl)) (kF (n:=n+23) (t:=.s f l) hb (.stop fun _ z=>nomatch z) hW))) (aa (av (aV (ae rfl (ab rfl)) (kF (n:=n+23) (t:=.s f l') hb (.stop fun _ z=>nomatch z) hW)))
      (aa (aN (ai rfl rfl e1)) (aa (aN (cD (t:=.s f l) rfl)) (aa (aN (cD (t:=.s f l') rfl))
        (aa (aN (wQ (b1:=false) (b2:=false) (b3:=false) (vi (b:=.t_s) (iY (t:=.s f l) rfl) rfl) (vi (b:=.t_s) (iY (t:=.s f l') rfl) rfl) (ai (op:=.ne) (x:=.int f) (y:=.int f) (qy (t:=.s f l) rfl) (qy (t:=.s f l') rfl) (congrArg (fun b=>some (!b)) (bX (a:=f) rfl)))))
          (aj (dy (bF (ab (len _ rfl)) (nu (by (refine Nat.le_trans (by assumption) ?_;decide)))) rfl (h.mono fun fl _ σ' q=>?_)))))))))
  · refine E22 this fun v σ' e z3 q=>?_
    subst z3
    exact ⟨σ',e,q⟩
  · obtain ⟨q,q2⟩:=q
    rcases q with ⟨rfl,q⟩ | rfl
    · rw [q] at *
      exact aA (aB rfl) ⟨rfl,q2⟩
    · exact ⟨rfl,q2⟩
theorem wy (S:Sol B s) (hW:B.length+1<W) (hb:σ[a]?=some (.dI (dm tv B))) (hB:B.length+1<1000) (P:Pr α B s t u R):Ans R [a] a σ (af W (n+25) hs .cf [tv t,tv u,.ref a] σ):=by
  cases P with
  |leaf L=>exact oQ (n:=n+1) S (by exact Nat.le_of_lt (by assumption)) hb (by exact Nat.le_of_lt (by assumption)) L
  |@one f t u _ hne hd L=>
    refine E12 (oQ (n:=n) (W:=W) (hs:=hs) S (by exact Nat.le_of_lt (by assumption)) hb (by exact Nat.le_of_lt (by assumption)) L) fun σ' e q1 q2=>?_
    refine xx (by lia) hb (fun z=>hne (TL.cons.inj z).1) (show max (dp t) 0+1<=5 by lia) (by show 0+1<=1000;exact Nat.succ_pos _) (dg rfl (x:=.int 0) rfl (oj (aV (ae (ah (ah rfl rfl rfl) rfl rfl) (ae (ah (ah rfl rfl rfl) rfl rfl) (ab rfl))) e) (fun z=>ao (kJ rfl (Nat.le_refl 1) ⟨.inl ⟨rfl,z⟩,q1,q2⟩)) fun z=>⟨.inr (by rw [z]),q1,q2⟩))
  |@two f t u t' u' B1 s1 _ hne hd hd' L L'=>
    refine E12 (oQ (n:=n) (W:=W) (hs:=hs) S (by exact Nat.le_of_lt (by assumption)) hb (by exact Nat.le_of_lt (by assumption)) L) fun σ' e q1 q2=>?_
    refine E01 (L.sol S) fun S1 hl=>?_
    refine E12 (oQ (n:=n) (W:=W) (hs:=hs) S1 (by exact Nat.lt_of_le_of_lt (by assumption) (by assumption)) (q2 _ _ rfl) (by exact Nat.lt_of_le_of_lt (by assumption) (by assumption)) L') fun σ2 e2 q3 q4=>?_
    refine xx (by lia) hb (fun z=>hne (TL.cons.inj z).1) (show max (dp t) (max (dp t') 0)+1<=5 by lia) (by show 0+1+1<=1000;exact Nat.le_add_left _ _) (dg rfl (x:=.int 0) rfl (oj (aV (ae (ah (ah rfl rfl rfl) rfl rfl) (ae (ah (ah rfl rfl rfl) rfl rfl) (ab rfl))) e) (fun _=>ao ?_) fun z=>nomatch z))
    exact dg rfl (x:=.int 1) rfl (oj (aV (ae (ah (ah rfl rfl rfl) rfl rfl) (ae (ah (ah rfl rfl rfl) rfl rfl) (ab rfl))) e2) (fun z=>ao (kJ rfl (Nat.le_refl 2) ⟨.inl ⟨rfl,z⟩,q1.trans q3,q4⟩)) fun z=>⟨.inr (by rw [z]),q1.trans q3,q4⟩)
end
section
variable {C:aD} {hs:Bool} {fr:Fr} {σ σ0 σ1 σ':St} {W a1 a2 x:Nat} {F:List Nat} {g:Nat->Nat} {D:Nat->Prop}
theorem nr {f h:Nat->Nat} (hi:∀ y∈F,f y=f x->y=x):assoc (F.map fun y=>(f y,h y)) (f x)=if x∈F then some (h x) else none:=by
  induction F with
  |nil=>rfl
  |cons b F ih=>
    show (if f b=f x then some (h b) else assoc _ (f x))=_
    rw [ih fun y m=>hi y (List.mem_cons_of_mem _ m)]
    by_cases e:f b=f x
    · obtain rfl:=hi b List.mem_cons_self e
      rw [if_pos e,if_pos List.mem_cons_self]
    · have hb:x≠b:=fun z=>e (congrArg f z.symm)
      rw [if_neg e]
      by_cases m:x∈F
      · rw [if_pos m,if_pos (List.mem_cons_of_mem _ m)]
      · rw [if_neg m,if_neg fun z=>(List.mem_cons.mp z).elim hb m]
noncomputable def iV (p:Nat):V:=.int p
noncomputable def thr (g:Nat->Nat) (F:List Nat):Tab:=F.map fun x=>(x,g x)
noncomputable def bck (g:Nat->Nat) (F:List Nat):Tab:=F.map fun x=>(g x,x)
structure TB (g:Nat->Nat) (a1 a2:Nat) (F:List Nat) (σ:St):Prop where
  t:σ[a1]?=some (.dI (dm iV (thr g F)))
  b:σ[a2]?=some (.dI (dm iV (bck g F)))
theorem TB.kp {A:List Nat} (h:TB g a1 a2 F σ) (K:Kp A σ σ') (h1:a1∉A) (h2:a2∉A):TB g a1 a2 F σ':=⟨K _ _ h.t h1,K _ _ h.b h2⟩
noncomputable def p5 (D:Nat->Prop) (g:Nat->Nat):Prop:=∀ x y,D x->D y->g x=g y->x=y
theorem lr {i:Nat} {t:T} (h:fr.cells[i]?.join=some (tv t)):ev C hs (.sub (.cell i) (.int 0)) fr σ=some (.str (knd t),σ):=iY (show ja _ _=_ by rw [h];rfl)
theorem rO {i:Nat} {t:T} (h:fr.cells[i]?.join=some (tv t)):ev C hs (.sub (.cell i) (.int 1)) fr σ=some (.int (num t),σ):=qy (show ja _ _=_ by rw [h];rfl)
theorem pb (t:T):knd (ren g t)=knd t:=by cases t<;>rfl
theorem Dp {t:T} (hF:∀ x∈F,D x) (ht:∀ x,occ x t=true->D x):∀ x∈vfs t F,D x:=fun x h=>((b9 t F).mp h).elim (hF x) (ht x)
theorem w9:∀ (ts:List T) {F:List Nat},(∀ x∈F,D x)->(∀ t∈ts,∀ x,occ x t=true->D x)->∀ x∈ts.foldl (fun F t=>vfs t F) F,D x
  |[],_,hF,_=>hF
  |t::ts,_,hF,h=>w9 ts (Dp hF (h t List.mem_cons_self)) fun u m=>h u (List.mem_cons_of_mem _ m)
theorem zJ (hg:p5 D g) (hF:∀ x∈F,D x) (hx:D x) (hl:F.length<900000) (h:TB g a1 a2 F σ) (hn:a1≠a2) {n:Nat}:
    ∃ σ',af W (n+1) hs .bR [tv (.v x),tv (.v (g x)),.ref a1,.ref a2] σ=some (.ok (.bool true),σ')/\Kp [a1,a2] σ σ'/\TB g a1 a2 (vfs (.v x) F) σ':=by
  have as1:∀ {G:List Nat},assoc (thr g G) x=if x∈G then some (g x) else none:=nr (f:=id) fun _ _ e=>e
  have as2:∀ {G:List Nat},(∀ y∈G,D y)->assoc (bck g G) (g x)=if x∈G then some x else none:=fun hG=>nr (f:=g) (h:=id) fun y m e=>hg y x (hG y m) hx e
  have fin:∀ {σ':St} {G:List Nat} {fr:Fr},fr.cells=[some (tv (.v x)),some (tv (.v (g x))),some (.ref a1),some (.ref a2)]->(∀ y∈G,D y)->x∈G->TB g a1 a2 G σ'->ev (af W n hs) hs (.and (.cmp .eq (.mcall (.cell 2) .iP (.cons (.sub (.cell 0) (.int 1)) (.cons (.neg (.int 1)) .nil))) (.sub (.cell 1) (.int 1))) (.cmp .eq (.mcall (.cell 3) .iP (.cons (.sub (.cell 1) (.int 1)) (.cons (.neg (.int 1)) .nil))) (.sub (.cell 0) (.int 1)))) fr σ'=some (.bool true,σ'):=fun {σ' G fr} hc hD hm T=>by
    obtain ⟨locs,cells⟩:=fr
    subst hc
    have g1:aZ (dm iV (thr g G)) ((x:Nat):Int)=some (.int (g x)):=(ct (f:=iV) (x:=x)).trans (by rw [as1,if_pos hm];rfl)
    have g2:aZ (dm iV (bck g G)) ((g x:Nat):Int)=some (.int x):=(ct (f:=iV) (x:=g x)).trans (by rw [as2 hD,if_pos hm];rfl)
    exact dk (ai (x:=.int (g x)) (y:=.int (g x)) (cE rfl T.t rfl (fun _=>nofun) (ae (ah rfl rfl rfl) (ab (fF rfl))) ((xr T.t).trans (by rw [g1];rfl))) (ah rfl rfl rfl) (congrArg some (bX (a:=g x) rfl)))
      (ai (x:=.int x) (y:=.int x) (cE rfl T.b rfl (fun _=>nofun) (ae (ah rfl rfl rfl) (ab (fF rfl))) ((xr T.b).trans (by rw [g2];rfl))) (ah rfl rfl rfl) (congrArg some (bX (a:=x) rfl)))
  have:=dB (W:=W) (n:=n) (hs:=hs) (f:=.bR) (args:=[tv (.v x),tv (.v (g x)),.ref a1,.ref a2]) (σ:=σ) (b:=di) (P:=fun v σ'=>v=.bool true/\Kp [a1,a2] σ σ'/\TB g a1 a2 (vfs (.v x) F) σ') rfl rfl
    (aa (aN (vi (a:=.t_v) (b:=.t_v) (ah rfl rfl rfl) (ah rfl rfl rfl))) (aj (aw (ai (v:=true) (ah rfl rfl rfl) rfl rfl) ?_)))
  · refine E22 this fun v σ' e z3 q=>?_
    subst z3
    exact ⟨σ',e,q⟩
  have c1:aZ (dm iV (thr g F)) ((x:Nat):Int)=(if x∈F then some (g x) else none).map iV:=(ct (f:=iV) (x:=x)).trans (by rw [as1])
  have c2:aZ (dm iV (bck g F)) ((g x:Nat):Int)=(if x∈F then some x else none).map iV:=(ct (f:=iV) (x:=g x)).trans (by rw [as2 hF])
  by_cases hm:x∈F
  · have e:vfs (.v x) F=F:=if_pos hm
    rw [if_pos hm] at c1
    rw [e]
    exact aa (aN (dD (ai (v:=false) (ah rfl rfl rfl) rfl ((bP (fG h.t)).trans (by rw [c1];rfl))))) (aA (aB (fin rfl hF hm h)) ⟨rfl,Kp.refl,h⟩)
  · have e:vfs (.v x) F=F++[x]:=if_neg hm
    have hD:∀ y∈F++[x],D y:=fun y m=>(List.mem_append.mp m).elim (hF y) fun z=>List.mem_singleton.mp z▸hx
    rw [if_neg hm] at c1 c2
    rw [e]
    have s1:setItem (.ref a1) (.int (nI x)) (iV (g x)) σ=some (σ.set a1 (.dI (dm iV (thr g (F++[x]))))):=(pE h.t (fits_of (by rw [j4];unfold thr;rw [List.length_map];(refine Nat.le_trans (by assumption) ?_;decide)))).trans (by rw [jv (by rw [as1,if_neg hm])];unfold thr;rw [List.map_append];rfl)
    have hb:(σ.set a1 (.dI (dm iV (thr g (F++[x])))))[a2]?=some (.dI (dm iV (bck g F))):=(aF hn).trans h.b
    have s2:setItem (.ref a2) (.int (nI (g x))) (iV x) (σ.set a1 (.dI (dm iV (thr g (F++[x])))))=some ((σ.set a1 (.dI (dm iV (thr g (F++[x]))))).set a2 (.dI (dm iV (bck g (F++[x]))))):=(pE hb (fits_of (by rw [j4];unfold bck;rw [List.length_map];(refine Nat.le_trans (by assumption) ?_;decide)))).trans (by rw [jv (by rw [as2 hF,if_neg hm])];unfold bck;rw [List.map_append];rfl)
    have T2:TB g a1 a2 (F++[x]) ((σ.set a1 (.dI (dm iV (thr g (F++[x]))))).set a2 (.dI (dm iV (bck g (F++[x]))))):=⟨(aF (Ne.symm hn)).trans (bc h.t),bc hb⟩
    exact aj (aw (dk (ai (v:=true) (ah rfl rfl rfl) rfl ((bP (fG h.t)).trans (by rw [c1];rfl))) (ai (v:=true) (ah rfl rfl rfl) rfl ((bP (fG h.b)).trans (by rw [c2];rfl))))
      (aa (aM (ah rfl rfl rfl) rfl (ah rfl rfl rfl) s1) (aa (aM (ah rfl rfl rfl) rfl (ah rfl rfl rfl) s2) (ao (aA (aB (fin rfl hD (List.mem_append_right _ (List.mem_singleton.mpr rfl)) T2)) ⟨rfl,(Kp.set (.head _)).trans (Kp.set (.tail _ (.head _))),T2⟩)))))
end
section
variable {C:aD} {hs:Bool} {fr:Fr} {σ σ0 σ1 σ':St} {W a1 a2 x:Nat} {F:List Nat} {g:Nat->Nat} {D:Nat->Prop}
theorem mm {u:T}:∀ (l:TL) (F:List Nat) (k:Nat),(toL l)[k]?=some u->(((toL l).take k).foldl (fun F t=>vfs t F) F).length+sz u<=F.length+szL l
  |.nil,F,k,h=>nomatch h
  |.cons t r,F,0,h=>by
    obtain rfl:=Option.some.inj h
    exact Nat.add_le_add_left (Nat.le_add_right _ _) _
  |.cons t r,F,k+1,h=>by
    have h1:=dd t F
    have h2:=mm r (vfs t F) k h
    show (((toL r).take k).foldl (fun F t=>vfs t F) (vfs t F)).length+_<=F.length+(sz t+szL r)
    lia
theorem yt {l:TL} {i:Nat} {t:T} (h:(toL l)[i]?=some t):jz (tvl l) (i:Int)=some (tv t):=by rw [dH,fa,List.getElem?_map,h];rfl
theorem mF (k:Nat):(List.replicate k true).map V.bool++[V.bool true]=(List.replicate (k+1) true).map V.bool:=by
  rw [List.replicate_succ',List.map_append];rfl
noncomputable def oq (hs:Bool) (W a1 a2:Nat) (g:Nat->Nat) (D:Nat->Prop) (n:Nat):Prop:=∀ (t:T) (F:List Nat) (σ:St),dp t<=n->(∀ x∈F,D x)->(∀ x,occ x t=true->D x)->F.length+sz t<900000->TB g a1 a2 F σ->
    ∃ σ',af W (n+1) hs .bR [tv t,tv (ren g t),.ref a1,.ref a2] σ=some (.ok (.bool true),σ')/\Kp [a1,a2] σ σ'/\TB g a1 a2 (vfs t F) σ'
theorem nA (hg:p5 D g) (hn:a1≠a2) (n:Nat) (ih:∀ m,n=m+1->oq hs W a1 a2 g D m):oq hs W a1 a2 g D n:=fun t F σ hd hF ht hz h=>by
  have hkn:ev (af W n hs) hs (.cmp .ne (.sub (.cell 0) (.int 0)) (.sub (.cell 1) (.int 0))) ⟨[],[some (tv t),some (tv (ren g t)),some (.ref a1),some (.ref a2)]⟩ σ=some (.bool false,σ):=by
    have:=vi (C:=af W n hs) (hs:=hs) (σ:=σ) (fr:=⟨[],[some (tv t),some (tv (ren g t)),some (.ref a1),some (.ref a2)]⟩) (lr (i:=0) (t:=t) rfl) (lr (i:=1) (t:=ren g t) rfl)
    rw [pb,decide_eq_true rfl] at this
    exact this
  have start:(Ends (evS (af W n) W hs (.cons (cI di 1) (.cons (cI di 2) (.cons (cI di 3) .nil))) ⟨[],[some (tv t),some (tv (ren g t)),some (.ref a1),some (.ref a2)]⟩ σ) fun fl _ σ'=>fl=.ret (.bool true)/\Kp [a1,a2] σ σ'/\TB g a1 a2 (vfs t F) σ')->∃ σ',af W (n+1) hs .bR [tv t,tv (ren g t),.ref a1,.ref a2] σ=some (.ok (.bool true),σ')/\Kp [a1,a2] σ σ'/\TB g a1 a2 (vfs t F) σ':=fun k=>by
    have:=dB (W:=W) (n:=n) (hs:=hs) (f:=.bR) (args:=[tv t,tv (ren g t),.ref a1,.ref a2]) (σ:=σ) (b:=di) (P:=fun v σ'=>v=.bool true/\Kp [a1,a2] σ σ'/\TB g a1 a2 (vfs t F) σ') rfl rfl
      (aa (aN hkn) (k.mono fun fl _ σ' q=>by rw [q.1];exact ⟨rfl,q.2⟩))
    refine E22 this fun v σ' e z3 q=>?_
    subst z3
    exact ⟨σ',e,q⟩
  have leaf:∀ m,knd t≠.t_v->knd t≠.t_s->num t=m->num (ren g t)=m->vfs t F=F->∃ σ',af W (n+1) hs .bR [tv t,tv (ren g t),.ref a1,.ref a2] σ=some (.ok (.bool true),σ')/\Kp [a1,a2] σ σ'/\TB g a1 a2 (vfs t F) σ':=fun m h1 h2 e1 e2 e3=>by
    refine start (aa (aN ((ai (lr rfl) rfl rfl).trans (by rw [decide_eq_false h1]))) (aa (aN ((ai (lr rfl) rfl rfl).trans (by rw [decide_eq_false h2]))) (aA (aB (dk (ai (x:=.int m) (y:=.int m) ((rO rfl).trans (by rw [e1])) ((rO rfl).trans (by rw [e2])) (congrArg some (bX (a:=m) rfl))) (eK (b:=false) (bF (ae (rO rfl) (ab rfl)) rfl)))) ⟨rfl,Kp.refl,by rw [e3];exact h⟩)))
  cases t with
  |v x=>exact zJ hg hF (ht x (decide_eq_true rfl)) (Nat.le_of_lt hz) h hn
  |a m=>exact leaf m (show Tx.t_a≠.t_v by decide) (show Tx.t_a≠.t_s by decide) rfl rfl rfl
  |i m=>exact leaf m (show Tx.t_i≠.t_v by decide) (show Tx.t_i≠.t_s by decide) rfl rfl rfl
  |s f l=>
    have hsz:sz (.s f l)=szL l+1:=rfl
    have hlt:=eA l
    obtain ⟨n,rfl⟩:∃ m,n=m+1:=⟨n - 1,by have:dpL l+1<=n:=hd;lia⟩
    have len0:∀ (q:TL) (i:Nat) (fr:Fr) (g:Nat->Nat),fr.cells[i]?.join=some (tv (.s f q))->ev (af W (n+1) hs) hs (.call (.glob (.bi .len)) (.cons (.sub (.cell i) (.int 2)) .nil)) fr σ=some (.int (aU q),σ):=fun q i fr g h0=>
      bF (ab (ah (show ja _ _=_ by rw [h0];rfl) rfl rfl)) (by rw [← cO];rfl)
    have hlen:aU (cW g l)=aU l:=eN l
    refine start (aa (aN (ai (v:=false) (ah rfl rfl rfl) rfl rfl)) (aj (aw (ai (v:=true) (ah rfl rfl rfl) rfl rfl) (aa (aN (rQ (ai (op:=.ne) (x:=.int f) (y:=.int f) (ah rfl rfl rfl) (ah rfl rfl rfl) (congrArg (fun b=>some (!b)) (bX (a:=f) rfl)))
      (ai (op:=.ne) (x:=.int (aU l)) (y:=.int (aU l)) (len0 l 0 _ g rfl) ((len0 (cW g l) 1 _ g rfl).trans (by rw [hlen])) (congrArg (fun b=>some (!b)) (bX (a:=aU l) rfl))))) ?_))))
    refine E24 (ik (body:=fun v σ=>bnd (ev (af W (n+1) hs) hs (.call (.glob (.fn .bR)) (.cons (.sub (.sub (.cell 0) (.int 2)) (.loc 0)) (.cons (.sub (.sub (.cell 1) (.int 2)) (.loc 0)) (.cons (.cell 2) (.cons (.cell 3) .nil))))) ⟨[some v],[some (tv (.s f l)),some (tv (ren g (.s f l))),some (.ref a1),some (.ref a2)]⟩ σ) fun y σ=>some (some y,σ))
      (it:=.rng 0 (aU l) 1) (d:=σ.length) (xs:=fZ 0 (aU l) 1)
      (fun acc σ'=>(∃ k,acc=(List.replicate k true).map V.bool/\TB g a1 a2 (((toL l).take k).foldl (fun F t=>vfs t F) F) σ')/\Kp [a1,a2] σ σ'/\σ'[σ.length]?=some (.list acc)) (fun _ _ _=>rfl) (by rw [dY];lia)
      (fun acc y σ1 hy hI=>by
        refine E02 hI fun y0 K1 hd1=>?_
        obtain ⟨k,rfl,T1⟩:=y0
        rw [List.length_map,List.length_replicate] at hy
        refine E01 (pD hy) fun z0 hk=>?_
        subst z0
        obtain ⟨u,hu⟩:∃ u,(toL l)[k]?=some u:=⟨_,List.getElem?_eq_getElem (by rw [bB];exact hk)⟩
        have hm:=List.mem_of_getElem? hu
        have hu2:(toL (cW g l))[k]?=some (ren g u):=by rw [qT,List.getElem?_map,hu];rfl
        have hDl:∀ t∈(toL l).take k,∀ x,occ x t=true->D x:=fun t m x o=>ht x (fx.mpr ⟨t,List.mem_of_mem_take m,o⟩)
        have hl2:=mm l F k hu
        refine E12 (ih n rfl u _ σ1 (by have:=j5 hm;have:dpL l+1<=n+1:=hd;lia) (w9 _ hF hDl) (fun x o=>ht x (fx.mpr ⟨u,hm,o⟩)) (by lia) T1) fun σ2 e K2 T2=>?_
        have h1:=aC h.t
        have h2:=aC h.b
        have hnd:σ.length∉[a1,a2]:=by simp;lia
        have hd3:=K2 _ _ hd1 hnd
        refine ⟨.bool true,σ2,aI (aV (ae (ah (ah rfl rfl rfl) rfl (yt hu)) (ae (ah (ah rfl rfl rfl) rfl (yt hu2)) (ae rfl (ab rfl)))) e) rfl,hd3,⟨k+1,mF k,?_⟩,fun i o hi hA=>?_,bc hd3⟩
        · rw [bM hu,List.foldl_append]
          exact T2.kp (A:=[σ.length]) (Kp.set (.head _)) (by simp;exact Nat.ne_of_lt (by assumption)) (by simp;exact Nat.ne_of_lt (by assumption))
        · have:=aC hi
          exact (aF (by exact Nat.ne_of_gt (by assumption))).trans ((K1.trans K2) i o hi hA)) (fZ 0 (aU l) 1) [] (σ++[.list []]) (Nat.zero_add _) ⟨⟨0,rfl,⟨aq h.t,aq h.b⟩⟩,Kp.app,aE (k:=0)⟩) fun ys σ2 e1 e2 y4 K2 hd2=>?_
    obtain ⟨k,rfl,T2⟩:=y4
    rw [List.length_map,List.length_replicate,dY] at e2
    subst e2
    rw [List.take_of_length_le (by rw [bB];exact Nat.le_refl _),← mR] at T2
    have ec:ev (af W (n+1) hs) hs (.comp (.call (.glob (.bi .range)) (.cons (.call (.glob (.bi .len)) (.cons (.sub (.cell 0) (.int 2)) .nil)) .nil)) (.call (.glob (.fn .bR)) (.cons (.sub (.sub (.cell 0) (.int 2)) (.loc 0)) (.cons (.sub (.sub (.cell 1) (.int 2)) (.loc 0)) (.cons (.cell 2) (.cons (.cell 3) .nil))))))
        ⟨[],[some (tv (.s f l)),some (tv (ren g (.s f l))),some (.ref a1),some (.ref a2)]⟩ σ=some (.ref σ.length,σ2):=aI (bF (ab (len0 l 0 _ g rfl)) (nu (by lia))) (ay (x:=fZ 0 (aU l) 1) rfl (ay e1 rfl))
    exact aA (aB (ai (v:=true) rfl ec ((bP (in_list hd2 (rZ _))).trans (by rw [decide_eq_false (by simp)];rfl)))) ⟨rfl,K2,T2⟩
theorem tC (hg:p5 D g) (hn:a1≠a2) (n:Nat):oq hs W a1 a2 g D n:=by
  induction n with
  |zero=>exact nA hg hn _ fun m e=>absurd e.symm (Nat.succ_ne_zero m)
  |succ n ih=>exact nA hg hn _ fun m e=>Nat.succ.inj e▸ih
end
section
variable {C:aD} {hs:Bool} {fr:Fr} {σ σ0 σ1 σ':St} {W n a x:Nat} {F:List Nat} {c:Cfg} {Y Y':Sym}
noncomputable def Yle (Y Y':Sym):Prop:=(∃ r,Y'.ts=Y.ts++r)/\∃ r,Y'.fs=Y.fs++r
theorem Yle.refl:Yle Y Y:=⟨⟨[],(List.append_nil _).symm⟩,[],(List.append_nil _).symm⟩
theorem Yle.trans {Y2:Sym}:Yle Y Y'->Yle Y' Y2->Yle Y Y2:=fun ⟨⟨a,e⟩,b,f⟩ ⟨⟨a',e'⟩,b',f'⟩=>⟨⟨a++a',by rw [e',e,List.append_assoc]⟩,b++b',by rw [f',f,List.append_assoc]⟩
theorem Yle.fs {i:Nat} {q:Cell} (h:Yle Y Y') (e:Y.fs[i]?=some q):Y'.fs[i]?=some q:=by
  obtain ⟨_,r,z⟩:=h
  rw [z,List.getElem?_append_left (List.getElem?_eq_some_iff.mp e).1];exact e
mutual
theorem Wf.mono (h:Yle Y Y'):∀ t:T,Wf Y t->Wf Y' t
  |.v _,_=>trivial
  |.a _,_=>trivial
  |.i _,_=>trivial
  |.s f l,w=>⟨w.1.imp fun _ e=>h.fs e,w.2.1,WfL.mono h l w.2.2⟩
theorem WfL.mono (h:Yle Y Y'):∀ l:TL,WfL Y l->WfL Y' l
  |.nil,_=>trivial
  |.cons t r,w=>⟨Wf.mono h t w.1,WfL.mono h r w.2⟩
end
noncomputable def bC (Y:Sym) (t:Tx):Sym:=if t∈Y.ts then Y else ⟨Y.ts++[t],Y.fs⟩
noncomputable def jU (Y:Sym) (q:Cell):Sym:=if q∈Y.fs then Y else ⟨Y.ts,Y.fs++[q]⟩
theorem jh {t:Tx}:Yle Y (bC Y t):=by
  unfold bC;split
  · exact .refl
  · exact ⟨⟨_,rfl⟩,[],(List.append_nil _).symm⟩
theorem yM {q:Cell}:Yle Y (jU Y q):=by
  unfold jU;split
  · exact .refl
  · exact ⟨⟨[],(List.append_nil _).symm⟩,_,rfl⟩
theorem p9 {t:Tx}:t∈(bC Y t).ts:=by unfold bC;split<;>simp_all
noncomputable def ix {α:Type} [DecidableEq α] (l:List α) (a:α):Nat:=l.idxOf a
theorem CJ {α:Type} [DecidableEq α] {l:List α} {a:α} (h:a∈l):l[ix l a]?=some a:=by
  unfold ix
  rw [List.getElem?_eq_getElem (List.idxOf_lt_length_of_mem h),List.getElem_idxOf]
theorem xi {α:Type} [DecidableEq α] {l:List α} {a:α} (h:a∉l):ix (l++[a]) a=l.length:=by
  unfold ix
  rw [List.idxOf_append,if_neg h];simp
theorem yL {q:Cell}:(jU Y q).fs[ix (jU Y q).fs q]?=some q:=CJ (by unfold jU;split<;>simp_all)
theorem ge0 {k:Nat}:gQ .ge (.int (k:Int)) (.int 0) σ=some true:=congrArg some (decide_eq_true (Int.natCast_nonneg k))
noncomputable def cP (q:Cell):Int×Int:=(q.1,q.2)
theorem rE (p q:Cell) (h:cP p=cP q):p=q:=Prod.ext (Int.ofNat_inj.mp (congrArg Prod.fst h)) (Int.ofNat_inj.mp (congrArg Prod.snd h))
theorem oO (M:SMem c σ Y) (hd:c.tx≠c.fu) (t:Tx) (hl:Y.ts.length<900000):∃ σ',af W (n+1) hs .gc [.ref c.sy,.str t] σ=some (.ok (.int (ix (bC Y t).ts t)),σ')/\SMem c σ' (bC Y t)/\Kp [c.tx,c.an] σ σ':=by
  have get:∀ {v},(aZ (kY Y.ts) t).getD (.int (-1))=v->ev (af W n hs) hs (.mcall (.attr (.loc 0) .cF) .iP (.cons (.loc 1) (.cons (.neg (.int 1)) .nil))) ⟨[some (.ref c.sy),some (.str t),none,none],[]⟩ σ=some (v,σ):=fun h=>
    cE (aH rfl M.sy rfl) M.an rfl (fun _=>nofun) (ae rfl (ab (fF rfl))) ((BG M.an).trans (by rw [show (aZ (kY Y.ts) t).getD (.int (-1))=_ from h]))
  by_cases h:t∈Y.ts
  · have e:bC Y t=Y:=if_pos h
    rw [e]
    refine ⟨σ,b6 rfl rfl (aa (av (get (v:=.int (ix Y.ts t)) (by rw [show aZ (kY Y.ts) t=_ from gK (e:=id) (fun _ _ e=>e) h];rfl))) (aj (aw (ai rfl rfl ge0) (aA (aB rfl) ⟨rfl,rfl⟩)))),M,Kp.refl⟩
  · have e:bC Y t=⟨Y.ts++[t],Y.fs⟩:=if_neg h
    have ei:ix (Y.ts++[t]) t=Y.ts.length:=xi h
    rw [e,ei]
    have n1:c.tx≠c.sy:=aQ M.tx M.sy (by simp)
    have n2:c.tx≠c.an:=aQ M.tx M.an (by simp)
    have n3:c.an≠c.sy:=aQ M.an M.sy (by simp)
    have s1:(σ.set c.tx (.list ((Y.ts++[t]).map .str)))[c.an]?=some (.dS (kY Y.ts)):=(aF n2).trans M.an
    have sy1:(σ.set c.tx (.list ((Y.ts++[t]).map .str)))[c.sy]?=some (.inst .symbols (syA c)):=(aF n1).trans M.sy
    refine ⟨(σ.set c.tx (.list ((Y.ts++[t]).map .str))).set c.an (.dS (kY (Y.ts++[t]))),b6 rfl rfl (aa (av (get (v:=.int (-1)) (by rw [show aZ (kY Y.ts) t=_ from lq (e:=id) (fun _ _ e=>e) h];rfl))) (aa (aN (ai (v:=false) rfl rfl rfl)) (aa (av (v:=.int Y.ts.length) (bF (ab (aH rfl M.sy rfl)) ((bD M.tx).trans (by rw [List.length_map]))))
      (aa (aS (cE (aH rfl M.sy rfl) M.tx rfl (fun _=>nofun) (ab rfl) ((bp M.tx (by rw [List.length_map];exact fits_of (by (refine Nat.le_trans (by assumption) ?_;decide)))).trans (by rw [show Y.ts.map V.str++[V.str t]=(Y.ts++[t]).map V.str by rw [List.map_append];rfl])))) (aa (aM rfl (aH rfl sy1 rfl) rfl ((DD s1 (fits_of (by unfold kY;rw [List.length_map,List.length_zipIdx];(refine Nat.le_trans (by assumption) ?_;decide)))).trans ?_)) (aA (aB rfl) ⟨rfl,rfl⟩)))))),
      ⟨(aF n3).trans sy1,(aF (Ne.symm n2)).trans (bc M.tx),bc s1,(aF (aQ M.an M.fu (by simp))).trans ((aF hd).trans M.fu),(aF (aQ M.an M.fn (by simp))).trans ((aF (aQ M.tx M.fn (by simp))).trans M.fn)⟩,(Kp.set (.head _)).trans (Kp.set (.tail _ (.head _)))⟩
    rw [show dput (kY Y.ts) t (V.int (Y.ts.length:Int))=kY (Y.ts++[t]) from mf (e:=id) (fun _ _ e=>e) h]
theorem u5 (M:SMem c σ Y) (hd:c.tx≠c.fu) (q:Cell) (hl:Y.fs.length<900000):∃ σ',af W (n+1) hs .gA [.ref c.sy,.int q.1,.int q.2] σ=some (.ok (.int (ix (jU Y q).fs q)),σ')/\SMem c σ' (jU Y q)/\Kp [c.fu,c.fn] σ σ':=by
  have get:∀ {v},(aZ (kX Y.fs) (cP q)).getD (.int (-1))=v->ev (af W n hs) hs (.mcall (.attr (.loc 0) .bT) .iP (.cons (.loc 3) (.cons (.neg (.int 1)) .nil))) ⟨[some (.ref c.sy),some (.int q.1),some (.int q.2),some (cv q),none,none],[]⟩ σ=some (v,σ):=fun h=>
    cE (aH rfl M.sy rfl) M.fn rfl (fun _=>nofun) (ae rfl (ab (fF rfl))) ((BF M.fn).trans (by rw [show (aZ (kX Y.fs) ((q.1:Int),(q.2:Int))).getD (.int (-1))=_ from h]))
  have st:evS (af W n) W hs (.asg 3 (.tuple (.cons (.loc 1) (.cons (.loc 2) .nil)))) ⟨[some (.ref c.sy),some (.int q.1),some (.int q.2),none,none,none],[]⟩ σ=some (.nxt,⟨[some (.ref c.sy),some (.int q.1),some (.int q.2),some (cv q),none,none],[]⟩,σ):=av (au (ae rfl (ab rfl)) rfl)
  by_cases h:q∈Y.fs
  · have e:jU Y q=Y:=if_pos h
    rw [e]
    refine ⟨σ,b6 rfl rfl (aa st (aa (av (get (v:=.int (ix Y.fs q)) (by rw [show aZ (kX Y.fs) (cP q)=_ from gK (e:=cP) rE h];rfl))) (aj (aw (ai rfl rfl ge0) (aA (aB rfl) ⟨rfl,rfl⟩))))),M,Kp.refl⟩
  · have e:jU Y q=⟨Y.ts,Y.fs++[q]⟩:=if_neg h
    have ei:ix (Y.fs++[q]) q=Y.fs.length:=xi h
    rw [e,ei]
    have n1:c.fu≠c.sy:=aQ M.fu M.sy (by simp)
    have n2:c.fu≠c.fn:=aQ M.fu M.fn (by simp)
    have n3:c.fn≠c.sy:=aQ M.fn M.sy (by simp)
    have s1:(σ.set c.fu (.list ((Y.fs++[q]).map cv)))[c.fn]?=some (.dP (kX Y.fs)):=(aF n2).trans M.fn
    have sy1:(σ.set c.fu (.list ((Y.fs++[q]).map cv)))[c.sy]?=some (.inst .symbols (syA c)):=(aF n1).trans M.sy
    refine ⟨(σ.set c.fu (.list ((Y.fs++[q]).map cv))).set c.fn (.dP (kX (Y.fs++[q]))),b6 rfl rfl (aa st (aa (av (get (v:=.int (-1)) (by rw [show aZ (kX Y.fs) (cP q)=_ from lq (e:=cP) rE h];rfl))) (aa (aN (ai (v:=false) rfl rfl rfl)) (aa (av (v:=.int Y.fs.length) (bF (ab (aH rfl M.sy rfl)) ((bD M.fu).trans (by rw [List.length_map]))))
      (aa (aS (cE (aH rfl M.sy rfl) M.fu rfl (fun _=>nofun) (ab rfl) ((bp M.fu (by rw [List.length_map];exact fits_of (by (refine Nat.le_trans (by assumption) ?_;decide)))).trans (by rw [show Y.fs.map cv++[cv q]=(Y.fs++[q]).map cv by rw [List.map_append];rfl])))) (aa (aM rfl (aH rfl sy1 rfl) rfl ((DC s1 (fits_of (by unfold kX;rw [List.length_map,List.length_zipIdx];(refine Nat.le_trans (by assumption) ?_;decide)))).trans ?_)) (aA (aB rfl) ⟨rfl,rfl⟩))))))),
      ⟨(aF n3).trans sy1,(aF (aQ M.fn M.tx (by simp))).trans ((aF (Ne.symm hd)).trans M.tx),(aF (aQ M.fn M.an (by simp))).trans ((aF (aQ M.fu M.an (by simp))).trans M.an),(aF (Ne.symm n2)).trans (bc M.fu),bc s1⟩,(Kp.set (.head _)).trans (Kp.set (.tail _ (.head _)))⟩
    rw [show dput (kX Y.fs) ((q.1:Int),(q.2:Int)) (V.int (Y.fs.length:Int))=kX (Y.fs++[q]) from mf (e:=cP) rE h]
end
section
variable {C:aD} {hs:Bool} {fr:Fr} {σ σ0 σ1 σ':St} {W n a x:Nat} {F:List Nat} {c:Cfg} {Y Y':Sym}
noncomputable def iE (Y:Sym) (t:Tx) (k:Nat):Sym:=jU (bC Y t) (ix (bC Y t).ts t,k)
noncomputable def fno (Y:Sym) (t:Tx) (k:Nat):Nat:=ix (iE Y t k).fs (ix (bC Y t).ts t,k)
theorem gh {t:Tx} {k:Nat}:(iE Y t k).fs[fno Y t k]?=some (ix (bC Y t).ts t,k):=yL
theorem eV {t:Tx} {k:Nat}:Yle Y (iE Y t k):=jh.trans yM
theorem eD {t:Tx}:(bC Y t).ts.length<=Y.ts.length+1/\(bC Y t).fs=Y.fs:=by unfold bC;split<;>simp
theorem ji {t:Tx} {k:Nat}:(iE Y t k).ts.length<=Y.ts.length+1/\(iE Y t k).fs.length<=Y.fs.length+1:=by
  have h:=eD (Y:=Y) (t:=t)
  rw [← h.2]
  have h1:=h.1
  unfold iE jU
  split<;>simp [h1]
theorem rG (M:SMem c σ Y) (hd:c.tx≠c.fu) (t:Tx) (k:Nat) (hl:Y.ts.length<900000) (hf:Y.fs.length<900000):∃ σ',af W (n+2) hs .gf [.ref c.sy,.str t,.int k] σ=some (.ok (.int (fno Y t k)),σ')/\SMem c σ' (iE Y t k)/\Kp [c.tx,c.an,c.fu,c.fn] σ σ':=by
  refine E12 (oO (W:=W) (n:=n) (hs:=hs) M hd t hl) fun σ1 e1 M1 K1=>?_
  refine E12 (u5 (W:=W) (n:=n) (hs:=hs) M1 hd (ix (bC Y t).ts t,k) (by rw [eD.2];exact hf)) fun σ2 e2 M2 K2=>?_
  refine ⟨σ2,b6 rfl rfl (aA (aB (e_m rfl M.sy rfl (ae (e_m rfl M.sy rfl (ab rfl) e1) (ab rfl)) e2)) ⟨rfl,rfl⟩),M2,(K1.mono ?_).trans (K2.mono ?_)⟩
  · intro i h;exact List.mem_append_left [c.fu,c.fn] h
  · intro i h;exact List.mem_append_right [c.tx,c.an] h
theorem r6:∀ (F:List Nat),qK (.int (x:Nat)) (F.map iV)=some (decide (x∈F))
  |[]=>rfl
  |b::F=>ay rfl (ay (r6 F) (congrArg some (by
    rw [Bool.eq_iff_iff,Bool.or_eq_true,decide_eq_true_eq,decide_eq_true_eq,decide_eq_true_eq,List.mem_cons,Int.natCast_inj]
    exact or_congr_left eq_comm)))
noncomputable def q9 (hs:Bool) (W a:Nat) (n:Nat):Prop:=∀ (t:T) (F:List Nat) (σ:St),dp t<=n->F.length+sz t<900000->σ[a]?=some (.list (F.map iV))->af W (n+1) hs .gU [tv t,.ref a] σ=some (.ok (.ref a),σ.set a (.list ((vfs t F).map iV)))
theorem qn (n:Nat) (ih:∀ m,n=m+1->q9 hs W a m):q9 hs W a n:=fun t F σ hd hz h=>by
  have self:∀ {G},G=F->σ=σ.set a (.list (G.map iV)):=fun e=>by
    subst e
    obtain ⟨h1,e⟩:=List.getElem?_eq_some_iff.mp h
    rw [← e,List.set_getElem_self]
  have hn:=r6 (x:=num t) F
  refine b6 rfl rfl ?_
  cases t with
  |v x=>
    refine aj ?_
    by_cases hm:x∈F
    · refine bw (dk (cD (t:=.v x) rfl) (ai (v:=false) (ah rfl rfl rfl) rfl ((bP (in_list h hn)).trans (by rw [show decide (num (.v x)∈F)=true from decide_eq_true hm];rfl)))) (ao (aa (aN (cD (t:=.v x) rfl)) (aA (aB rfl) ⟨rfl,self (by simp only [vfs];rw [if_pos hm])⟩)))
    · refine aw (dk (cD (t:=.v x) rfl) (ai (v:=true) (ah rfl rfl rfl) rfl ((bP (in_list h hn)).trans (by rw [show decide (num (.v x)∈F)=false from decide_eq_false hm];rfl)))) (aa (aS (cE rfl h rfl (fun _=>nofun) (ab (ah rfl rfl rfl)) (bp h (fits_of (by rw [List.length_map];lia))))) (ao (aa (aN (cD (t:=.v x) rfl)) (aA (aB rfl) ⟨rfl,?_⟩))))
      rw [show vfs (.v x) F=F++[x] from if_neg hm,List.map_append];rfl
  |a m=>exact aa (aN (dD (cD (t:=.a m) rfl))) (aa (aN (cD (t:=.a m) rfl)) (aA (aB rfl) ⟨rfl,self rfl⟩))
  |i m=>exact aa (aN (dD (cD (t:=.i m) rfl))) (aa (aN (cD (t:=.i m) rfl)) (aA (aB rfl) ⟨rfl,self rfl⟩))
  |s f l=>
    obtain ⟨n,rfl⟩:∃ m,n=m+1:=⟨n - 1,by have:dpL l+1<=n:=hd;lia⟩
    refine aa (aN (dD (cD (t:=.s f l) rfl))) (aj (aw (cD (t:=.s f l) rfl) (aj (dy (xs:=tvl l) (ah rfl rfl rfl) rfl ?_))))
    refine cw (fun i fr σ'=>σ'=σ.set a (.list ((((toL l).take i).foldl (fun F t=>vfs t F) F).map iV))/\∃ x2,fr=⟨[some (tv (.s f l)),some (.ref a),x2],[]⟩) (fun _ _ _ _=>rfl) ?_ ?_ _ 0 _ _ (by rw [Nat.zero_add]) ⟨self rfl,_,rfl⟩
    · rintro i y fr σ' hy ⟨rfl,x2,rfl⟩
      rw [fa,List.getElem?_map] at hy
      refine E11 (Option.map_eq_some_iff.mp hy) fun u hu z2=>?_
      subst z2
      have hm:=List.mem_of_getElem? hu
      have e:=ih n rfl u _ _ (by have:=j5 hm;have:dpL l+1<=n+1:=hd;lia) (by have:=mm l F i hu;have:sz (.s f l)=szL l+1:=rfl;lia) (bc (x:=.list ((((toL l).take i).foldl (fun F t=>vfs t F) F).map iV)) h)
      rw [List.set_set] at e
      refine aa (aS (aV (ae rfl (ab rfl)) e)) (ao ⟨.inl rfl,?_,_,rfl⟩)
      rw [bM hu,List.foldl_append];rfl
    · rintro fr σ' ⟨rfl,x2,rfl⟩
      rw [cO,← bB,List.take_of_length_le (Nat.le_refl _),← mR]
      exact ao (aA (aB rfl) ⟨rfl,rfl⟩)
theorem wq (n:Nat):q9 hs W a n:=by
  induction n with
  |zero=>exact qn _ fun m e=>absurd e.symm (Nat.succ_ne_zero m)
  |succ n ih=>exact qn _ fun m e=>Nat.succ.inj e▸ih
noncomputable def cX (ts:List T) (e:T):T:=ts.foldr (fun t e=>.s 0 (.cons t (.cons e .nil))) e
theorem Ax {ts:List T} {e:T} (h:σ[a]?=some (.list (ts.map tv))) (hl:ts.length<900000):af W (n+1) hs .pe [.ref a,tv e] σ=some (.ok (tv (cX ts e)),σ++[.list (ts.map tv).reverse]):=by
  have it:itemsOf (.ref σ.length) (σ++[.list (ts.map tv).reverse])=some (ts.map tv).reverse:=by
    show (match (σ++[.list (ts.map tv).reverse])[σ.length]? with | some (.list xs)=>some xs | _=>none)=_
    rw [show σ.length=σ.length+0 from rfl,aE];rfl
  have e0:ev (af W n hs) hs (.slRev (.loc 0)) ⟨[some (.ref a),some (tv e),none],[]⟩ σ=some (.ref σ.length,σ++[.list (ts.map tv).reverse]):=aI rfl (by
    show onL σ[a]? _=_
    rw [h]
    show gd (fits _) _=_
    rw [fits_of (by rw [List.length_map];(refine Nat.le_trans (by assumption) ?_;decide))];rfl)
  refine b6 rfl rfl (aj (dy e0 it ?_))
  refine cw (fun i fr σ'=>σ'=σ++[.list (ts.map tv).reverse]/\∃ x2,fr=⟨[some (.ref a),some (tv (((ts.reverse).take i).foldl (fun e t=>.s 0 (.cons t (.cons e .nil))) e)),x2],[]⟩) (fun _ _ _ h=>h.1▸it) ?_ ?_ _ 0 _ _ (by rw [Nat.zero_add]) ⟨rfl,_,rfl⟩
  · rintro i y fr σ' hy ⟨rfl,x2,rfl⟩
    rw [← List.map_reverse,List.getElem?_map] at hy
    refine E11 (Option.map_eq_some_iff.mp hy) fun u hu z2=>?_
    subst z2
    refine aa (av (au (ae rfl (ae rfl (ab (au (ae rfl (ab rfl)) rfl)))) rfl)) (ao ⟨.inl rfl,rfl,some (tv u),?_⟩)
    rw [bM hu,List.foldl_append];rfl
  · rintro fr σ' ⟨rfl,x2,rfl⟩
    rw [← List.map_reverse,List.length_map,List.take_of_length_le (Nat.le_refl _),List.foldl_reverse]
    exact aA (aB rfl) ⟨rfl,rfl⟩
end
structure Imp (α:Nat->Nat) (Y:Sym) (H0:List Cell) (B:Bd) (H:List Cell):Prop where
  len:H0.length<=H.length
  top:H.length<=H0.length+100000
  keep:∀ (i:Nat) (c:Cell),H0[i]?=some c->(∀ x u,assoc B x=some u->α x≠i)->H[i]?=some c
  bnd:∀ x u,assoc B x=some u->H0[α x]?=some (0,α x)/\∃ d,H[α x]?=some d/\d≠(0,α x)/\aJ 1 Y H0 d (ren α u)
section
variable {α:Nat->Nat} {Y:Sym} {H0 H:List Cell} {B:Bd} {s:Nat->T} {t u t':T} {c d d':Cell} {k m p:Nat}
theorem Imp.nJ (I:Imp α Y H0 B H) (h:H0[p]?=some c) (hc:c≠(0,p)):H[p]?=some c:=I.keep p c h fun x u hx e=>by
  have:=(I.bnd x u hx).1
  rw [e,h] at this
  exact hc (Option.some.inj this)
theorem Imp.pre (I:Imp α Y H0 B H) (h:Der H0 c d k) (h2:Der H d d' m):Der H c d' (m+k):=by
  induction h with
  |done _ _=>exact h2
  |self _=>exact h2
  |step h hn _ ih=>exact .step (I.nJ h hn) hn (ih h2)
theorem aJ.tag {κ:Nat} (h:aJ κ Y H0 d t) (hv:knd t≠.t_v):d.1≠0/\d.1≠1:=by
  cases t with
  |v n=>exact (hv rfl).elim
  |a n=>rw [show d=(4,n) from h];exact ⟨(by decide:¬ (4=0)),(by decide:¬ (4=1))⟩
  |i n=>rw [show d=(5,n) from h];exact ⟨(by decide:¬ (5=0)),(by decide:¬ (5=1))⟩
  |s f l=>exact ⟨fun q=>h.1.tag.elim (fun z=>absurd (q.symm.trans z) (by decide)) fun z=>absurd (q.symm.trans z) (by decide),fun q=>h.1.tag.elim (fun z=>absurd (q.symm.trans z) (by decide)) fun z=>absurd (q.symm.trans z) (by decide)⟩
theorem Imp.tail (hα:∀ x y,α x=α y->x=y) (I:Imp α Y H0 B H) (r:cT B k t t'):∀ {d},aJ 1 Y H0 d (ren α t)->∃ d',Der H d d' k/\aJ 1 Y H0 d' (ren α t'):=by
  induction r with
  |@stop t h=>
    intro d hd
    refine ⟨d,?_,hd⟩
    by_cases hv:knd t=.t_v
    · cases t with
      |v x=>
        refine E01 (aJ.var hd) fun z0 h1=>?_
        subst z0
        exact .self (I.keep _ _ h1 fun y u hy e=>by rw [hα _ _ e,h x rfl] at hy;exact no hy)
      |_=>cases hv
    · have:=hd.tag (by rw [pb];exact hv)
      exact .done this.1 this.2
  |@go x k u t' h _ ih=>
    intro d hd
    refine E01 (aJ.var hd) fun z0 _=>?_
    subst z0
    obtain ⟨_,d2,h1,h2,h3⟩:=I.bnd x u h
    refine E11 (ih h3) fun d' h4 h5=>?_
    exact ⟨d',.step h1 h2 h4,h5⟩
theorem Imp.at (I:Imp α Y H0 B H) (h:H0[p]?=some c) (hd:Der H c d k):∃ c' k',H[p]?=some c'/\Der H c' d k'/\k'<=k:=by
  by_cases hb:∃ x u,assoc B x=some u/\α x=p
  · refine E21 hb fun x u hx z3=>?_
    subst z3
    obtain ⟨h1,d2,h2,h3,_⟩:=I.bnd x u hx
    rw [h] at h1
    obtain rfl:=Option.some.inj h1
    cases hd with
    |done h0=>exact (h0 rfl).elim
    |self h4=>rw [h2] at h4;exact (h3 (Option.some.inj h4)).elim
    |step h4 _ h5=>exact ⟨_,_,h4,h5,Nat.le_succ _⟩
  · exact ⟨c,k,I.keep p c h fun x u hx e=>hb ⟨x,u,hx,e⟩,hd,Nat.le_refl _⟩
theorem Imp.oV {f w:Nat} (I:Imp α Y H0 B H) (h:eB Y H0 d f w):eB Y H d f w:=by
  cases h with
  |lis p=>exact .lis p
  |str h hf h0=>exact .str (I.nJ h (by simp)) hf h0
theorem Imp.leaf (hα:∀ x y,α x=α y->x=y) (I:Imp α Y H0 B H) {κ:Nat} (hk:knd t≠.t_s) (hx:∀ x,t=.v x->assoc B x=none) (h:aJ 1 Y H0 d (ren α t)):aJ κ Y H d (ren α t):=by
  cases t with
  |v y=>
    refine E01 (aJ.var h) fun z0 h3=>?_
    subst z0
    exact .v (I.keep _ _ h3 fun z u hz e=>by rw [hα _ _ e,hx y rfl] at hz;exact no hz)
  |a y=>exact h
  |i y=>exact h
  |s f l=>exact (hk rfl).elim
theorem ki (hα:∀ x y,α x=α y->x=y) (S:Sol B s) (I:Imp α Y H0 B H) {r t:T} {c d:Cell} {k:Nat} (hk:knd r≠.t_s) (hr:sub s t=r) (hd:Der H0 c d k) (h1:k<=1) (ht:aJ 1 Y H0 d (ren α t)):∃ d' k',Der H c d' k'/\k'<=B.length+1/\aJ (B.length+1) Y H d' (ren α r):=by
  refine E21 (S.ch t) fun k0 t' hk0 r0=>?_
  refine E11 (I.tail hα r0 ht) fun d' h2 h3=>?_
  obtain rfl:=(r0.ns S (by rw [hr];exact hk)).trans hr
  exact ⟨d',k0+k,I.pre hd h2,Nat.add_le_add hk0 h1,I.leaf hα hk r0.fin h3⟩
mutual
theorem qU (hα:∀ x y,α x=α y->x=y) (S:Sol B s) (I:Imp α Y H0 B H):∀ (r:T) {t:T} {c d:Cell} {k:Nat},sub s t=r->Der H0 c d k->k<=1->aJ 1 Y H0 d (ren α t)->∃ d' k',Der H c d' k'/\k'<=B.length+1/\aJ (B.length+1) Y H d' (ren α r)
  |.s g rl,t,c,d,k,hr,hd,hk,ht=>by
    refine E21 (S.ch t) fun k0 t' hk0 r0=>?_
    refine E11 (I.tail hα r0 ht) fun d' h1 h2=>?_
    refine E11 (r0.toS S hr) fun l z1 e=>?_
    subst z1
    refine E12 (aJ.cmp h2) fun w h3 hl hw=>?_
    exact ⟨d',k0+k,I.pre hd h1,Nat.add_le_add hk0 hk,.s (I.oV h3) (qV hα S I rl e hl) (by rw [eN,← bB,← e,cK,List.length_map,bB,← hw,eN])⟩
  |.v y,t,c,d,k,hr,hd,hk,ht=>ki hα S I (show Tx.t_v≠.t_s by decide) hr hd hk ht
  |.a y,t,c,d,k,hr,hd,hk,ht=>ki hα S I (show Tx.t_a≠.t_s by decide) hr hd hk ht
  |.i y,t,c,d,k,hr,hd,hk,ht=>ki hα S I (show Tx.t_i≠.t_s by decide) hr hd hk ht
theorem qV (hα:∀ x y,α x=α y->x=y) (S:Sol B s) (I:Imp α Y H0 B H):∀ (rl:TL) {l:TL} {p:Nat},bZ s l=rl->cA 1 Y H0 p (cW α l)->cA (B.length+1) Y H p (cW α rl)
  |.nil,.nil,p,_,_=>.nil p
  |.cons r rl,.cons t l,p,hr,h=>by
    refine E01 (TL.cons.inj hr) fun h1 h2=>?_
    refine E33 h.1 fun k x d h' hd hk ht=>?_
    refine E22 (qU hα S I r h1 hd hk ht) fun d' k' h3 h4 h5=>?_
    refine E22 (I.at h' h3) fun c' k2 h6 h7 h8=>?_
    exact .cons h6 h7 (Nat.le_trans h8 h4) h5 (qV hα S I rl h2 h.2)
end
theorem jN (hα:∀ x y,α x=α y->x=y) (S:Sol B s) (I:Imp α Y H0 B H) (h:Rep 1 Y H0 c (ren α t)):Rep (B.length+1) Y H c (ren α (sub s t)):=by
  refine E22 h fun d k h1 h2 h3=>?_
  exact qU hα S I _ rfl h1 h2 h3
end
mutual
theorem jM {α:Nat->Nat} (hα:∀ x y,α x=α y->x=y):∀ (t u:T),ren α t=ren α u->t=u
  |.v x,u,h=>by
    cases u with
    |v y=>exact congrArg T.v (hα _ _ (T.v.inj h))
    |_=>exact T.noConfusion h
  |.a x,u,h=>by
    cases u with
    |a y=>exact congrArg T.a (T.a.inj h)
    |_=>exact T.noConfusion h
  |.i x,u,h=>by
    cases u with
    |i y=>exact congrArg T.i (T.i.inj h)
    |_=>exact T.noConfusion h
  |.s f l,u,h=>by
    cases u with
    |s g l'=>
      refine E01 (T.s.inj h) fun z0 e=>?_
      subst z0
      exact congrArg (T.s f) (qS hα l l' e)
    |_=>exact T.noConfusion h
theorem qS {α:Nat->Nat} (hα:∀ x y,α x=α y->x=y):∀ (l l':TL),cW α l=cW α l'->l=l'
  |.nil,.nil,_=>rfl
  |.cons t r,.cons t' r',h=>by
    refine E01 (TL.cons.inj h) fun h1 h2=>?_
    rw [jM hα t t' h1,qS hα r r' h2]
end
mutual
theorem jJ {α:Nat->Nat} {x:Nat} (hα:∀ x y,α x=α y->x=y):∀ (t:T),occ (α x) (ren α t)=occ x t
  |.v y=>by
    show decide (α x=α y)=decide (x=y)
    rw [Bool.eq_iff_iff,decide_eq_true_eq,decide_eq_true_eq]
    exact ⟨hα x y,congrArg α⟩
  |.a _=>rfl
  |.i _=>rfl
  |.s _ l=>qL hα l
theorem qL {α:Nat->Nat} {x:Nat} (hα:∀ x y,α x=α y->x=y):∀ (l:TL),cJ (α x) (cW α l)=cJ x l
  |.nil=>rfl
  |.cons t r=>by
    show (occ (α x) (ren α t)||cJ (α x) (cW α r))=(occ x t||cJ x r)
    rw [jJ hα t,qL hα r]
end
mutual
theorem ew {α:Nat->Nat}:∀ (t:T),sz (ren α t)=sz t
  |.v _=>rfl
  |.a _=>rfl
  |.i _=>rfl
  |.s _ l=>congrArg (·+1) (uE l)
theorem uE {α:Nat->Nat}:∀ (l:TL),szL (cW α l)=szL l
  |.nil=>rfl
  |.cons t r=>by
    show sz (ren α t)+szL (cW α r)=sz t+szL r
    rw [ew t,uE r]
end
section
variable {α:Nat->Nat} {c:Cfg} {σ σ1:St} {Y:Sym} {H H0:List Cell} {W n p sp:Nat} {B:Bd} {s:Nat->T} {t u:T} {J:St} {d:Cell} {Q:Fl->Fr->St->Prop}
theorem u0 (M:Mem c σ Y H) {κ:Nat} {t:T} (ha:Rep κ Y H d t) (hz:sz t<=4000) (hW:sz t+κ+1<W) (hp:p<H.length):∃ j,af W (n+5) true .eW [.ref c.st,cv (0,p),cv d,.bool true] σ=some (.ok (.bool (!occ p t)),cond (occ p t) σ (aY c σ (H.set p d))++j):=by
  refine E10 (wz (W:=W) (n:=n) (hs:=true) (p:=p) M ha hz hW) fun j e=>?_
  refine ⟨j,b6 rfl rfl ?_⟩
  cases o:occ p t with
  |true=>
    rw [o] at e
    exact aj (aw (dk rfl (aV (ae rfl (ae rfl (ab rfl))) e)) (aA (aB rfl) ⟨rfl,rfl⟩))
  |false=>
    rw [o] at e
    exact aa (aN (dk rfl (aV (ae rfl (ae rfl (ab rfl))) e))) (aa (aS (e_m rfl (M.app j).st rfl (ae rfl (ab rfl)) (rF (n:=n+3) (M.app j) hp))) (aA (aB rfl) ⟨rfl,fA M⟩))
noncomputable def pv (q:Cell×Cell):V:=.tup [cv q.1,cv q.2]
noncomputable def σu (c:Cfg) (σ:St) (H:List Cell) (sp:Nat) (Mt:List Int) (S:List V) (J:St):St:=aY c σ H++(.inst .pairset [(.gv,.int sp),(.jG,.ref (σ.length+1))]::.set Mt::.list S::J)
noncomputable def fru (c:Cfg) (m:Nat) (x1 x2 x6 x7:Option V):Fr:=⟨[some (.ref c.st),x1,x2,some (.bool true),some (.ref m),some (.ref (m+2)),x6,x7],[]⟩
theorem mB:(aY c σ H).length=σ.length:=List.length_set
theorem kP {l:St} {k:Nat}:(aY c σ H++l)[σ.length+k]?=l[k]?:=by rw [← mB (c:=c) (σ:=σ) (H:=H)];exact aE
theorem AR {l:St} {k:Nat} {o:O}:(aY c σ H++l).set (σ.length+k) o=aY c σ H++l.set k o:=by rw [← mB (c:=c) (σ:=σ) (H:=H)];exact cq
noncomputable def jF (W n:Nat):Nat->Fr->St->fR:=cz (ev (af W (n+6) true) true (wC (cI ie 2))) (evS (af W (n+6)) W true (wB (cI ie 2)))
theorem AQ {H':List Cell} {Mt:List Int} {S:List V} (M:Mem c σ Y H0):aY c (σu c σ H sp Mt S J) H'=σu c σ H' sp Mt S J:=(fA (M.aY H)).trans (congrArg (·++_) fX)
theorem Dk {Mt:List Int} {S:List V} {j:St}:σu c σ H sp Mt S J++j=σu c σ H sp Mt S (J++j):=List.append_assoc _ _ _
theorem yy (M:Mem c σ Y H0) {a b da db:Cell} {k k' W':Nat} {Mt:List Int} {S:List V} {x1 x2 x6 x7:Option V} (hd:Der H a da k) (hd':Der H b db k') (hk:k<W) (hk':k'<W)
    (h:Ends (evS (af W (n+6)) W true (.cons (cI (wB (cI ie 2)) 3) (.cons (cI (wB (cI ie 2)) 4) .nil)) (fru c σ.length x1 x2 (some (cv da)) (some (cv db))) (σu c σ H sp Mt S J)) fun fl fr2 σ2=>match fl with | .nxt=>Ends (jF W n W' fr2 σ2) Q | .cnt=>Ends (jF W n W' fr2 σ2) Q | .ret v=>Q (.ret v) fr2 σ2 | .err _=>False):
    Ends (jF W n (W'+1) (fru c σ.length x1 x2 x6 x7) (σu c σ H sp Mt (S++[pv (a,b)]) J)) Q:=by
  have M1:Mem c (σu c σ H sp Mt S J) Y H:=(M.aY H).app _
  refine hZ (σ1:=σu c σ H sp Mt (S++[pv (a,b)]) J) (ai (bF (ab rfl) (bD (kP (k:=2)))) rfl (congrArg some (decide_eq_true (by simp)))) ?_
  have hpop:=ud (σ:=σu c σ H sp Mt (S++[pv (a,b)]) J) (n:=σ.length+2) (x:=pv (a,b)) (xs:=S) (kP (k:=2))
  rw [show (σu c σ H sp Mt (S++[pv (a,b)]) J).set (σ.length+2) (.list S)=σu c σ H sp Mt S J from AR (k:=2)] at hpop
  refine aa (pY (x:=cv a) (y:=cv b) (cE rfl (kP (k:=2)) rfl (fun _=>nofun) rfl hpop)) ?_
  exact aa (av (e_m rfl M1.st rfl (ab rfl) (fE (n:=n+5) M1 hd hk))) (aa (av (e_m rfl M1.st rfl (ab rfl) (fE (n:=n+5) M1 hd' hk'))) h)
theorem Imp.add (hα:∀ x y,α x=α y->x=y) (I:Imp α Y H0 B H) {x:Nat} {e:T} (hx:assoc B x=none) (h0:H0[α x]?=some (0,α x)) (hd:d≠(0,α x)) (hr:aJ 1 Y H0 d (ren α e)):Imp α Y H0 (B++[(x,e)]) (H.set (α x) d):=by
  have lt:α x<H.length:=Nat.lt_of_lt_of_le (List.getElem?_eq_some_iff.mp h0).1 I.len
  refine ⟨by rw [List.length_set];exact I.len,by rw [List.length_set];exact I.top,fun i c h hn=>?_,fun y u hy=>?_⟩
  · rw [List.getElem?_set_ne (hn x e (by rw [bO,hx];exact if_pos rfl))]
    exact I.keep i c h fun y u hy=>hn y u (by rw [bO,hy];rfl)
  · rw [bO] at hy
    cases h:assoc B y with
    |some u'=>
      rw [h] at hy;cases hy
      obtain ⟨h1,d2,h2,h3⟩:=I.bnd y _ h
      refine ⟨h1,d2,?_,h3⟩
      rw [List.getElem?_set_ne fun z=>by rw [hα _ _ z,h] at hx;cases hx];exact h2
    |none=>
      rw [h] at hy
      by_cases e1:x=y
      · subst e1
        have hy:(if x=x then some e else none)=some u:=hy
        rw [if_pos rfl] at hy;obtain rfl:=Option.some.inj hy
        exact ⟨h0,d,List.getElem?_set_self lt,hd,hr⟩
      · have hy:(if x=y then some e else none)=some u:=hy
        rw [if_neg e1] at hy;exact no hy
end
section
variable {α:Nat->Nat} {c:Cfg} {σ σ1:St} {Y:Sym} {H H0:List Cell} {W n p sp:Nat} {B:Bd} {s:Nat->T} {t u e:T} {J:St} {d:Cell} {Q:Fl->Fr->St->Prop} {R:Option (Bd×(Nat->T))} {Mt:List Int} {Sv:List V}
theorem aJ.leaf {κ κ':Nat} {d':Cell} (h:aJ κ Y H d t) (h':aJ κ' Y H d' t) (hk:knd t≠.t_s):d=d':=by
  cases t with
  |v x=>exact (aJ.var h).1.trans (aJ.var h').1.symm
  |a x=>exact h.trans h'.symm
  |i x=>exact h.trans h'.symm
  |s f l=>exact (hk rfl).elim
theorem Rep.ofD {κ:Nat} (h:aJ κ Y H d t):Rep κ Y H d t:=let ⟨k,h1,h2⟩:=h.der;⟨d,k,h2,h1,h⟩
theorem Ce {S:List V}:Kp [c.hp] σ (σu c σ H sp Mt S J):=(Kp.set (.head _)).trans Kp.app
noncomputable def Cr (α:Nat->Nat) (Y:Sym) (H0:List Cell) (B:Bd) (a:Cell) (t:T):Prop:=Rep 1 Y H0 a (ren α t)\/∃ x u,t=.v x/\assoc B x=some u/\aJ 1 Y H0 a (ren α u)
theorem Cr.der (hα:∀ x y,α x=α y->x=y) (I:Imp α Y H0 B H) {a:Cell} (h:Cr α Y H0 B a t) {k:Nat} {te:T} (r:cT B k t te):∃ da k',Der H a da k'/\k'<=k+1/\aJ 1 Y H0 da (ren α te):=by
  rcases h with ⟨d,k1,h1,h2,h3⟩ | ⟨x,u,rfl,h1,h2⟩
  · refine E11 (I.tail hα r h3) fun da h4 h5=>?_
    exact ⟨da,_,I.pre h1 h4,Nat.add_le_add_left h2 _,h5⟩
  · cases r with
    |stop h=>rw [h x rfl] at h1;exact no h1
    |@go _ k _ _ h r=>
      obtain rfl:=sm h1 h
      refine E11 (I.tail hα r h2) fun da h4 h5=>?_
      exact ⟨da,k,h4,by lia,h5⟩
theorem Cr.at (hα:∀ x y,α x=α y->x=y) (I:Imp α Y H0 B H) {a:Cell} {k:Nat} (h:H0[p]?=some a) (hd:Der H0 a d k) (hk:k<=1) (ht:aJ 1 Y H0 d (ren α t)):∃ a',H[p]?=some a'/\Cr α Y H0 B a' t:=by
  by_cases hb:∃ x u,assoc B x=some u/\α x=p
  · refine E21 hb fun x u hx z3=>?_
    subst z3
    obtain ⟨h1,d2,h2,h3,h4⟩:=I.bnd x u hx
    have h':=h
    rw [h1] at h
    obtain rfl:=Option.some.inj h
    obtain rfl:=hd.fn (.self h1)
    have e:=ht.fn (t':=.v (α x)) (.v h1)
    exact ⟨d2,h2,.inr ⟨x,u,jM hα _ (.v x) e,hx,h4⟩⟩
  · exact ⟨a,I.keep p a h fun x u hx e=>hb ⟨x,u,hx,e⟩,.inl ⟨d,k,hd,hk,ht⟩⟩
theorem yv {Hm:List Cell} (M:Mem c σ Y Hm) (hα:∀ x y,α x=α y->x=y) (S:Sol B s) (I:Imp α Y H0 B H) {x:Nat} {fr:Fr} {i j:Nat} (hr:aJ 1 Y H0 d (ren α e)) (hne:e≠.v x) (hx:assoc B x=none) (h0:H0[α x]?=some (0,α x))
    (hz:sz (sub s e)<=2000) (hW:2100<W) (hB:B.length<=10) (l0:fr.locs[0]?.join=some (.ref c.st)) (l3:fr.locs[3]?.join=some (.bool true)) (li:fr.locs[i]?.join=some (cv (0,α x))) (lj:fr.locs[j]?.join=some (cv d))
    (kont:∀ B' s' H' J',bd B s x e=some (B',s')->Imp α Y H0 B' H'->Q .nxt fr (σu c σ H' sp Mt Sv J')) (stop:bd B s x e=none->∀ fr σ',Kp [c.hp] σ σ'->Q (.ret (.bool false)) fr σ'):
    Ends (evS (af W (n+6)) W true (.cons (.ite (.not (.call (.glob (.fn .eW)) (.cons (.loc 0) (.cons (.loc i) (.cons (.loc j) (.cons (.loc 3) .nil)))))) (.cons (.ret (.bool false)) .nil) .nil) .nil) fr (σu c σ H sp Mt Sv J)) Q:=by
  have M1:Mem c (σu c σ H sp Mt Sv J) Y H:=(M.aY H).app _
  have ra:=jN hα S I (Rep.ofD hr)
  refine E10 (u0 (W:=W) (n:=n+1) (p:=α x) M1 ra (by rw [ew];(refine Nat.le_trans (by assumption) ?_;decide)) (by rw [ew];lia) (Nat.lt_of_lt_of_le (List.getElem?_eq_some_iff.mp h0).1 I.len)) fun j e1=>?_
  rw [jJ hα] at e1
  have arg:=ae (C:=af W (n+6) true) (dF l0) (ae (dF li) (ae (dF lj) (ab (dF (σ:=σu c σ H sp Mt Sv J) (hs:=true) l3))))
  cases o:occ x (sub s e) with
  |true=>
    rw [o] at e1
    exact aj (aw (eK (b:=false) (aV arg e1)) (aA (aB rfl) (stop (by unfold bd;rw [o];rfl) _ _ (Ce.trans Kp.app))))
  |false=>
    rw [o] at e1
    refine aa (aN (eK (b:=true) (aV arg e1))) (ao ?_)
    have e2:aY c (σu c σ H sp Mt Sv J) (H.set (α x) d)++j=σu c σ (H.set (α x) d) sp Mt Sv (J++j):=by rw [AQ M];exact Dk
    show Q .nxt fr (aY c (σu c σ H sp Mt Sv J) (H.set (α x) d)++j)
    rw [e2]
    refine kont _ _ _ _ (by unfold bd;rw [o];rfl) (I.add hα hx h0 (fun z=>?_) hr)
    subst z
    exact hne (jM hα _ _ (hr.fn (t':=ren α (.v x)) (.v h0)))
theorem isv {d:Cell} (h:knd t≠.t_v) {κ:Nat} (hr:aJ κ Y H0 d (ren α t)):(decide (d.1=0)||decide (d.1=1))=false:=by
  have:=hr.tag (by rw [pb];exact h)
  rw [decide_eq_false this.1,decide_eq_false this.2];rfl
theorem z8 {σ:St} {x:V} {a b:Cell} {hs:Bool} (h:a.1≠b.1):af W (n+1) hs .dZ [x,cv a,cv b] σ=some (.ok (.bool false),σ):=
  b6 rfl rfl (aj (aw (ai (op:=.ne) (x:=.int a.1) (y:=.int b.1) (ah rfl rfl rfl) (ah rfl rfl rfl) (congrArg (fun b=>some (!b)) (bE h))) (aA (aB rfl) ⟨rfl,rfl⟩)))
theorem xW {σ:St} {x:V} {p q:Nat} {hs:Bool}:af W (n+1) hs .dZ [x,cv (3,p),cv (3,q)] σ=some (.ok (.bool true),σ):=
  b6 rfl rfl (aa (aN (ai (v:=false) (ah rfl rfl rfl) (ah rfl rfl rfl) rfl)) (aj (aw (ai (v:=true) (ah rfl rfl rfl) rfl rfl) (aA (aB rfl) ⟨rfl,rfl⟩))))
theorem same_str {σ:St} (M:Mem c σ Y H) {p q:Nat} {a b:Cell} {hs:Bool} (hp:H[p]?=some a) (hq:H[q]?=some b):af W (n+1) hs .dZ [.ref c.st,cv (2,p),cv (2,q)] σ=some (.ok (.bool (decide (a=b))),σ):=
  b6 rfl rfl (aa (aN (ai (v:=false) (ah rfl rfl rfl) (ah rfl rfl rfl) rfl)) (aa (aN (ai (v:=false) (ah rfl rfl rfl) rfl rfl)) (aA (aB (ai (bQ (aH rfl M.st rfl) (ah rfl rfl rfl) M.hp (cx.trans (congrArg _ hp))) (bQ (aH rfl M.st rfl) (ah rfl rfl rfl) M.hp (cx.trans (congrArg _ hq))) cC)) ⟨rfl,rfl⟩)))
theorem z7 {σ:St} (M1:Mem c σ Y H) (I:Imp α Y H0 B H) {te ue:T} {da db:Cell} (ha:aJ 1 Y H0 da (ren α te)) (hb:aJ 1 Y H0 db (ren α ue)) (hk1:knd te≠.t_v) (hk2:knd ue≠.t_v) (hs:knd te=.t_s->knd ue=.t_s->num te≠num ue) (hc:da.1=2\/da.1=3):
    af W (n+6) true .dZ [.ref c.st,cv da,cv db] σ=some (.ok (.bool false),σ):=by
  by_cases hab:da.1=db.1
  · have no:∀ {P:Prop} {d:Cell} {a p:Nat},d=(a,p)->da.1=d.1->a≠2->a≠3->P:=fun e q n m=>hc.elim (fun z=>absurd ((congrArg Prod.fst e).symm.trans (q.symm.trans z)) n) fun z=>absurd ((congrArg Prod.fst e).symm.trans (q.symm.trans z)) m
    cases te with
    |v y=>exact (hk1 rfl).elim
    |a y=>exact no ha rfl (by decide) (by decide)
    |i y=>exact no ha rfl (by decide) (by decide)
    |s f l=>cases ue with
      |v y=>exact (hk2 rfl).elim
      |a y=>exact no hb hab (by decide) (by decide)
      |i y=>exact no hb hab (by decide) (by decide)
      |s g l'=>
        have hfg:f≠g:=hs rfl rfl
        refine E12 ha.cmp fun _ h1 _ _=>E12 hb.cmp fun _ h2 _ _=>?_
        rcases h1.inv with ⟨q,z,_⟩ | ⟨q,h1⟩<;>rcases h2.inv with ⟨q',z',_⟩ | ⟨q',h2⟩
        · exact (hfg (z.trans z'.symm)).elim
        · exact absurd (q.symm.trans (hab.trans q')) (by decide)
        · exact absurd (q.symm.trans (hab.trans q')) (by decide)
        · have:=same_str (W:=W) (n:=n+5) (hs:=true) M1 (I.nJ h1 (by simp)) (I.nJ h2 (by simp))
          rw [decide_eq_false fun z=>hfg (congrArg Prod.snd z)] at this
          rw [show da=(2,da.2) from Prod.ext q rfl,show db=(2,db.2) from Prod.ext q' rfl]
          exact this
  · exact z8 hab
theorem pU {Hm:List Cell} (M:Mem c σ Y Hm) (hα:∀ x y,α x=α y->x=y) (S:Sol B s) (I:Imp α Y H0 B H) (L:Lv α B s t u R) {a b:Cell} (ra:Cr α Y H0 B a t) (rb:Cr α Y H0 B b u) (hW:2100<W) (hB:B.length<=10) {W':Nat} {x1 x2 x6 x7:Option V}
    (kont:∀ B' s' H' J' x6 x7,R=some (B',s')->Imp α Y H0 B' H'->Ends (jF W n W' (fru c σ.length x1 x2 x6 x7) (σu c σ H' sp Mt Sv J')) Q) (stop:R=none->∀ fr σ',Kp [c.hp] σ σ'->Q (.ret (.bool false)) fr σ'):
    Ends (jF W n (W'+1) (fru c σ.length x1 x2 x6 x7) (σu c σ H sp Mt (Sv++[pv (a,b)]) J)) Q:=by
  obtain ⟨⟨k,te,k',ue,r,r',l,hdt⟩,d1,d2,z1,z2⟩:=L
  refine E22 (ra.der hα I r) fun da k1 ha1 ha2 ha=>?_
  refine E22 (rb.der hα I r') fun db k2 hb1 hb2 hb=>?_
  have hk:=r.ch S
  have hk':=r'.ch S
  refine yy M ha1 hb1 (by lia) (by lia) ?_
  have M1:Mem c (σu c σ H sp Mt Sv J) Y H:=(M.aY H).app _
  have ne:te≠ue->gQ .eq (cv da) (cv db) (σu c σ H sp Mt Sv J)=some false:=fun h=>cC.trans (congrArg some (decide_eq_false fun z=>h (jM hα _ _ (ha.fn (z▸hb)))))
  cases l with
  |eq h=>
    obtain rfl:=ha.leaf hb (by rw [pb];exact h)
    exact aj (aw (ai rfl rfl (cC.trans (by rw [decide_eq_true rfl]))) (AW rfl (kont _ _ _ _ _ _ rfl I)))
  |@bl x _ hne lt=>
    refine E01 (aJ.var ha) fun z0 h0=>?_
    subst z0
    refine aa (aN (ai rfl rfl (ne (Ne.symm hne)))) (aj (aw (aV (ab rfl) eX) (aj ?_)))
    by_cases hv:knd ue=.t_v
    · cases ue with
      |v y=>
        refine E01 (aJ.var hb) fun z0 h1=>?_
        subst z0
        have hxy:x≠y:=fun z=>hne (congrArg T.v z.symm)
        have l1:=lt y rfl
        have e1:=qm (W:=W) (n:=n+4) (hs:=true) M1 (p:=α x) (q:=α y) (Nat.lt_of_lt_of_le (List.getElem?_eq_some_iff.mp h0).1 I.len) (Nat.lt_of_lt_of_le (List.getElem?_eq_some_iff.mp h1).1 I.len) (by exact Nat.ne_of_gt (by assumption))
        rw [if_neg (by lia),AQ M] at e1
        refine aw (aV (ab rfl) eX) (aa (aS (e_m rfl M1.st rfl (ae rfl (ab rfl)) e1)) (ao (ao (ao ?_))))
        have o:occ x (sub s (.v y))=false:=by
          rw [show sub s (.v y)=.v y from S.so0 y (r'.fin y rfl)]
          exact decide_eq_false hxy
        exact kont _ _ _ _ _ _ (by unfold bd;rw [o];rfl) (I.add hα (r.fin x rfl) h0 (fun z=>hxy (hα _ _ (congrArg Prod.snd z).symm)) hb)
      |_=>cases hv
    · refine bw (aV (ab rfl) (eX.trans (by rw [isv hv hb]))) (yv M hα S I (x:=x) (i:=6) (j:=7) hb hne (r.fin x rfl) h0 (by rw [← r'.nY S];exact z2) hW hB rfl rfl rfl rfl (fun B' s' H' J' h1 h2=>ao (ao (kont _ _ _ _ _ _ h1 h2))) fun h1=>stop h1)
  |@br x _ hk0=>
    refine E01 (aJ.var hb) fun z0 h0=>?_
    subst z0
    have hne:te≠.v x:=fun z=>hk0 (congrArg knd z)
    refine aa (aN (ai rfl rfl (ne hne))) (aj (bw (aV (ab rfl) (eX.trans (by rw [isv hk0 ha]))) (aj (aw (aV (ab rfl) eX) ?_))))
    exact yv M hα S I (x:=x) (i:=7) (j:=6) ha hne (r'.fin x rfl) h0 (by rw [← r.nY S];exact z1) hW hB rfl rfl rfl rfl (fun B' s' H' J' h1 h2=>ao (ao (kont _ _ _ _ _ _ h1 h2))) fun h1=>stop h1
  |cl hk1 hk2 hne hs=>
    refine aa (aN (ai rfl rfl (ne hne))) (aj (bw (aV (ab rfl) (eX.trans (by rw [isv hk1 ha]))) (aj (bw (aV (ab rfl) (eX.trans (by rw [isv hk2 hb]))) (aj (bw (σ1:=σu c σ H sp Mt Sv J) ?_ (aA (aB rfl) (stop rfl _ _ Ce))))))))
    have ic:=eJ (W:=W) (n:=n+5) (hs:=true) (σ:=σu c σ H sp Mt Sv J) (s:=.ref c.st) (a:=da)
    by_cases hc:(decide (da.1=2)||decide (da.1=3))=true
    · rw [hc] at ic
      exact dk (e_m rfl M1.st rfl (ab rfl) ic) (aV (ae rfl (ae rfl (ab rfl))) (z7 M1 I ha hb hk1 hk2 hs (by simpa using hc)))
    · rw [Bool.not_eq_true] at hc
      rw [hc] at ic
      exact dD (e_m rfl M1.st rfl (ab rfl) ic)
end
section
variable {C:aD} {hs:Bool} {fr:Fr} {c:Cfg} {σ σ0 σ1 σ2:St} {Y:Sym} {H:List Cell} {W n:Nat} {l:St}
theorem tQ {cl:Cl ()} {args:ME} {xs:List V} (hp:cl≠.perr) (h2:ev C hs args fr σ=some (.tup xs,σ1)) (hc:C (gS cl) (.ref σ1.length::xs) (σ1++[.inst cl []])=some (.ok .none,σ2)):ev C hs (.call (.glob (.cls cl)) args) fr σ=some (.ref σ1.length,σ2):=by
  refine mh rfl h2 ?_
  cases cl with
  |perr=>exact (hp rfl).elim
  |_=>exact aI (σ:=σ2) (x:=.none) (by rw [hc];rfl) rfl
theorem mJ {o o':O}:(σ++o::l).set σ.length o'=σ++o'::l:=(cq (k:=0) (l:=o::l)).trans rfl
theorem bb {o:O}:(σ++o::l)[σ.length]?=some o:=aE (k:=0)
theorem tg {C:Bool->aD} {e:ME} {m:Nm} {v:V} {cl:Cl ()} {as:List (Nm×V)} {k:Nat} {i:Nat} (h:ev (C hs) hs e fr σ0=some (v,σ)) (hl:fr.locs[i]?.join=some (.ref k)) (ho:σ[k]?=some (.inst cl as)) (hm:(cS cl m).isNone=true) (ha:as.length<40) (hσ:σ.set k (.inst cl (fN as m v))=σ2):
    evS C W hs (.setattr (.loc i) m e) fr σ0=some (.nxt,fr,σ2):=by
  subst hσ
  refine vO h (dF hl) ?_
  exact ay ho (iZ (by rw [hm,decide_eq_true ha];rfl) rfl)
theorem vc (M:Mem c σ Y H):af W (n+1) hs .jf [.ref σ.length,.ref c.st] (σ++[.inst .pairset []])=some (.ok .none,σ++[.inst .pairset [(.gv,.int ((H.length+1:Nat):Int)),(.jG,.ref (σ.length+1))],.set []]):=by
  have M1:=M.app [.inst .pairset []]
  have e1:ev (af W n hs) hs (.bin .add (.call (.glob (.bi .len)) (.cons (.attr (.loc 1) .aX) .nil)) (.int 1)) ⟨[some (.ref σ.length),some (.ref c.st)],[]⟩ (σ++[.inst .pairset []])=some (.int ((H.length+1:Nat):Int),σ++[.inst .pairset []]):=
    bJ (bF (ab (aH rfl M1.st rfl)) (bD M1.hp)) rfl (by rw [List.length_map];rfl)
  refine fM rfl rfl (aa (tg e1 rfl bb rfl (by decide) mJ) (aa (tg (cl:=.pairset) (rR (l:=[.inst .pairset [(.gv,.int ((H.length+1:Nat):Int))]]) (σ:=σ)) rfl (bb (l:=[.set []])) rfl (by simp) (mJ (l:=[.set []]))) (ao ⟨rfl,rfl⟩)))
theorem d8 {k:Nat} (h:k<=1000000):small (k:Int)=true:=by unfold small;simp;lia
theorem Bb {k m sp:Nat} {a b:Cell} (h:σ[k]?=some (.inst .pairset [(.gv,.int sp),(.jG,.ref m)])) (hm:σ[m]?=some (.set [])) (ha:a.2<=1000000) (hsp:sp<=1000000):∃ z,af W (n+1) hs .kB [.ref k,cv a,cv b] σ=some (.ok (.bool true),σ.set m (.set z)):=by
  refine ⟨[(a.2 * sp+b.2:Int)],b6 rfl rfl (aa (av (v:=.int (a.2 * sp+b.2)) (bJ (bJ (v:=.int (a.2 * sp)) (ah rfl rfl rfl) (aH rfl h rfl) ?_) (ah rfl rfl rfl) rfl)) (aa (aN (ai (v:=false) rfl (aH rfl h rfl) (i6 hm))) (aa (aS (cE (aH rfl h rfl) hm rfl (fun _=>nofun) (ab rfl) (uc hm (by decide)))) (aA (aB rfl) ⟨rfl,rfl⟩))))⟩
  exact kZ rfl (d8 ha) (d8 hsp)
end
section
variable {c:Cfg} {σ:St} {Y:Sym} {H:List Cell} {W n:Nat} {hs:Bool} {l:St}
theorem oS (M:Mem c σ Y H) {a b:Cell} {f w k:Nat} {as bs':List Cell} {S:List V} (hc:eB Y H a f w) (hw:as.length=w) (hw':bs'.length=w) (ha:f7 H (bs a) as) (hb:f7 H (bs b) bs') (hl:l[k]?=some (.list S)) (hS:S.length+w<=100000):
    af W (n+3) hs .mA [.ref c.st,cv a,cv b,.ref (σ.length+k)] (σ++l)=some (.ok .none,σ++l.set k (.list (S++((as.zip bs').map pv).reverse))):=by
  have M0:=M.app l
  refine fM rfl rfl (aa (av (e_m rfl M0.st rfl (ab rfl) iW)) (aa (av (e_m rfl M0.st rfl (ab rfl) iW)) ?_))
  refine aj (dy (bF (ae (bJ (e_m rfl M0.st rfl (ab rfl) (ll M0 hc)) rfl rfl) (ae (fF rfl) (ab (fF rfl)))) (rC (Cg hS))) rfl ?_)
  refine cw (fun i fr σ'=>σ'=σ++l.set k (.list (S++((as.zip bs').map pv).reverse.take i))/\∃ x,fr=⟨[some (.ref c.st),some (cv a),some (cv b),some (.ref (σ.length+k)),some (.int (bs a)),some (.int (bs b)),x],[]⟩) (fun _ _ _ _=>rfl) ?_ ?_ _ 0 _ _ (by rw [Nat.zero_add]) ⟨?_,_,rfl⟩
  · rintro i x fr σ' hx ⟨rfl,y,rfl⟩
    refine E01 (sh hx) fun z0 hi=>?_
    subst z0
    have M':=M.app (l.set k (.list (S++((as.zip bs').map pv).reverse.take i)))
    obtain ⟨x,hx⟩:∃ x,as[w - 1 - i]?=some x:=⟨_,List.getElem?_eq_getElem (by rw [hw];exact fD hi)⟩
    obtain ⟨y,hy⟩:∃ y,bs'[w - 1 - i]?=some y:=⟨_,List.getElem?_eq_getElem (by rw [hw'];exact fD hi)⟩
    have hz:(as.zip bs')[w - 1 - i]?=some (x,y):=List.getElem?_zip_eq_some.mpr ⟨hx,hy⟩
    have hlz:((as.zip bs').map pv).length=w:=by rw [List.length_map,List.length_zip,hw,hw',Nat.min_self]
    have hxr:((as.zip bs').map pv).reverse[i]?=some (pv (x,y)):=by rw [List.getElem?_reverse (by rw [hlz];exact hi),hlz,List.getElem?_map,hz];rfl
    have g:(σ++l.set k (.list (S++((as.zip bs').map pv).reverse.take i)))[σ.length+k]?=some (.list (S++((as.zip bs').map pv).reverse.take i)):=aE.trans (bc hl)
    refine aa (aS (cE rfl g rfl (fun _=>nofun) (ab (au (xs:=[cv x,cv y]) (ae (bQ (aH rfl M'.st rfl) (bJ rfl rfl (v:=.int ((bs a+(w - 1 - i):Nat):Int)) rfl) M'.hp (cx.trans (congrArg _ ((ha _ (by rw [hw];exact fD hi)).trans hx)))) (ab (bQ (aH rfl M'.st rfl) (bJ rfl rfl (v:=.int ((bs b+(w - 1 - i):Nat):Int)) rfl) M'.hp (cx.trans (congrArg _ ((hb _ (by rw [hw'];exact fD hi)).trans hy)))))) rfl)) (bp g (by rw [List.length_append,List.length_take];exact fits_of (xV hS hi))))) (ao ⟨.inl rfl,?_,_,rfl⟩)
    rw [cq,List.set_set,bM hxr,← List.append_assoc];rfl
  · rintro fr σ' ⟨rfl,x,rfl⟩
    rw [jb,List.take_of_length_le (by rw [List.length_reverse,List.length_map,List.length_zip,hw,hw',Nat.min_self];exact Nat.le_refl _)]
    exact ao ⟨rfl,rfl⟩
  · show σ++l=σ++l.set k (.list (S++[]))
    rw [List.append_nil]
    obtain ⟨h,e⟩:=List.getElem?_eq_some_iff.mp hl
    rw [← e,List.set_getElem_self]
end
section
variable {α:Nat->Nat} {c:Cfg} {σ σ1:St} {Y:Sym} {H H0 Hm:List Cell} {W n p sp:Nat} {B:Bd} {s:Nat->T} {t u e:T} {J:St} {d a b:Cell} {Q:Fl->Fr->St->Prop} {R:Option (Bd×(Nat->T))} {Mt:List Int} {Sv:List V}
theorem Cr.mono {B1:Bd} (h:Cr α Y H0 B a t) (hB:∀ x u,assoc B x=some u->assoc B1 x=some u):Cr α Y H0 B1 a t:=h.imp_right fun ⟨x,u,h1,h2,h3⟩=>⟨x,u,h1,hB x u h2,h3⟩
theorem Lv.ext {B1:Bd} {s1:Nat->T} (L:Lv α B s t u (some (B1,s1))):∀ x u,assoc B x=some u->assoc B1 x=some u:=by
  obtain ⟨⟨k,te,k',ue,r,r',l,hdt⟩,_⟩:=L
  generalize hR:some (B1,s1)=R at l
  cases l with
  |eq h=>obtain ⟨rfl,rfl⟩:=in2 hR;exact fun x u h=>h
  |bl hne lt=>refine E02 (ig hR.symm) fun o z1 z2=>?_;subst z1;subst z2;exact fun x u h=>by rw [bO,h];rfl
  |br hk=>refine E02 (ig hR.symm) fun o z1 z2=>?_;subst z1;subst z2;exact fun x u h=>by rw [bO,h];rfl
  |cl=>cases hR
theorem Imp.cells (hα:∀ x y,α x=α y->x=y) (I:Imp α Y H0 B H):∀ {l:TL} {p:Nat},cA 1 Y H0 p (cW α l)->∃ as:List Cell,as.length=aU l/\f7 H p as/\∀ (i:Nat) (x:Cell) (t:T),as[i]?=some x->(toL l)[i]?=some t->Cr α Y H0 B x t
  |.nil,p,_=>⟨[],rfl,fun j hj=>absurd hj (Nat.not_lt_zero _),fun i x t h=>nomatch h⟩
  |.cons t r,p,h=>by
    refine E33 h.1 fun k x0 d0 ha hd hk ht=>E12 (Imp.cells hα I h.2) fun as e1 e2 e3=>?_
    refine E11 (Cr.at hα I ha hd hk ht) fun a' h1 h2=>?_
    refine ⟨a'::as,congrArg (·+1) e1,fun j hj=>?_,fun i x t' h3 h4=>?_⟩
    · cases j with
      |zero=>exact h1
      |succ j=>rw [Nat.add_succ,← Nat.succ_add];exact e2 j (by simpa using hj)
    · cases i with
      |zero=>obtain rfl:=Option.some.inj h3;obtain rfl:=Option.some.inj h4;exact h2
      |succ i=>exact e3 i x t' h3 h4
theorem yx (M:Mem c σ Y Hm) (hα:∀ x y,α x=α y->x=y) (I:Imp α Y H0 B H) {f:Nat} {l l':TL} (ra:Rep 1 Y H0 a (ren α (.s f l))) (rb:Rep 1 Y H0 b (ren α (.s f l'))) (hne:l≠l') (hW:2100<W) (hw:aU l=aU l') (hl:aU l<=1000) (hl0:0<aU l) (hH:H.length<=900000) (hsp:sp<=1000000) {W':Nat} {x1 x2 x6 x7:Option V}
    (kont:∀ (as bs':List Cell) x6 x7 z,as.length=aU l->bs'.length=aU l->(∀ (i:Nat) (x:Cell) (t:T),as[i]?=some x->(toL l)[i]?=some t->Cr α Y H0 B x t)->(∀ (i:Nat) (x:Cell) (t:T),bs'[i]?=some x->(toL l')[i]?=some t->Cr α Y H0 B x t)->
      Ends (jF W n W' (fru c σ.length x1 x2 x6 x7) (σu c σ H sp z ((as.zip bs').map pv).reverse J)) Q):
    Ends (jF W n (W'+1) (fru c σ.length x1 x2 x6 x7) (σu c σ H sp [] [pv (a,b)] J)) Q:=by
  refine E22 ra fun da k1 ha1 ha2 ha=>?_
  refine E22 rb fun db k2 hb1 hb2 hb=>?_
  have ne:gQ .eq (cv da) (cv db) (σu c σ H sp [] [] J)=some false:=cC.trans (congrArg some (decide_eq_false fun z=>hne (T.s.inj (jM hα _ _ (ha.fn (z▸hb)))).2))
  have va:=isv (t:=.s f l) (show Tx.t_s≠.t_v by decide) ha
  have vb:=isv (t:=.s f l') (show Tx.t_s≠.t_v by decide) hb
  have ta:=ha.tag (show Tx.t_s≠.t_v by decide)
  have tb:=hb.tag (show Tx.t_s≠.t_v by decide)
  refine yy (S:=[]) M (I.pre ha1 (.done ta.1 ta.2)) (I.pre hb1 (.done tb.1 tb.2)) (by lia) (by lia) ?_
  have M1:Mem c (σu c σ H sp [] [] J) Y H:=(M.aY H).app _
  refine aa (aN (ai rfl rfl ne)) (aj (bw (aV (ab rfl) (eX.trans (by rw [va]))) (aj (bw (aV (ab rfl) (eX.trans (by rw [vb]))) ?_))))
  refine E12 ha.cmp fun wa ca la lwa=>?_
  refine E12 hb.cmp fun wb cb lb lwb=>?_
  have ca':=I.oV ca
  refine E12 (I.cells hα la) fun as a1 a2 a3=>?_
  refine E12 (I.cells hα lb) fun bs' b1 b2 b3=>?_
  rw [eN] at lwa lwb
  have ic:af W (n+6) true .dz [.ref c.st,cv da] (σu c σ H sp [] [] J)=some (.ok (.bool true),σu c σ H sp [] [] J):=by
    have:=eJ (W:=W) (n:=n+5) (hs:=true) (σ:=σu c σ H sp [] [] J) (s:=.ref c.st) (a:=da)
    rw [show (decide (da.1=2)||decide (da.1=3))=true by rcases ca.tag with h | h<;>simp [h]] at this
    exact this
  have ss:af W (n+6) true .dZ [.ref c.st,cv da,cv db] (σu c σ H sp [] [] J)=some (.ok (.bool true),σu c σ H sp [] [] J):=by
    cases ca with
    |lis p=>cases cb with
      |lis q=>exact xW
      |str _ _ h0=>exact (h0 rfl).elim
    |str h1 _ h0=>cases cb with
      |lis q=>exact (h0 rfl).elim
      |str h2 _ _=>
        have:=same_str (W:=W) (n:=n+5) (hs:=true) M1 (I.nJ h1 (by simp)) (I.nJ h2 (by simp))
        rw [decide_eq_true rfl] at this
        exact this
  have hda:da.2<=1000000:=by
    have h1:∃ x,H[bs da+0]?=some x:=⟨as[0]'(by lia),(a2 0 (by lia)).trans (List.getElem?_eq_getElem _)⟩
    refine E10 h1 fun x h1=>?_
    have h2:=(List.getElem?_eq_some_iff.mp h1).1
    have h3:da.2<=bs da:=by unfold bs;split<;>omega
    lia
  refine E10 (Bb (W:=W) (n:=n+5) (hs:=true) (a:=da) (b:=db) (sp:=sp) (σ:=σu c σ H sp [] [] J) (k:=σ.length+0) (m:=σ.length+1) (kP (k:=0)) (kP (k:=1)) hda hsp) fun z ez=>?_
  rw [show (σu c σ H sp [] [] J).set (σ.length+1) (.set z)=σu c σ H sp z [] J from AR (k:=1)] at ez
  have ep:=oS (W:=W) (n:=n+3) (hs:=true) (M.aY H) (S:=[]) (k:=2) (l:=.inst .pairset [(.gv,.int sp),(.jG,.ref (σ.length+1))]::.set z::.list []::J) ca' (a1.trans lwa) (b1.trans (hw.symm.trans lwa)) a2 b2 rfl (by show 0+wa<=_;lia)
  rw [mB] at ep
  refine aj (aw (dk (e_m rfl M1.st rfl (ab rfl) ic) (aV (ae rfl (ae rfl (ab rfl))) ss)) (aj (aw (e_m rfl (kP (k:=0)) rfl (ae rfl (ab rfl)) ez) (aa (aS (aV (ae rfl (ae rfl (ae rfl (ab rfl)))) ep)) (ao (ao (ao (ao (ao ?_)))))))))
  exact kont as bs' _ _ z a1 (b1.trans hw.symm) a3 b3
end
section
variable {α:Nat->Nat} {c:Cfg} {σ σ1:St} {Y:Sym} {H H0 Hm:List Cell} {W n p sp:Nat} {B:Bd} {s:Nat->T} {t u e:T} {J:St} {d a b:Cell} {Q:Fl->Fr->St->Prop} {R:Option (Bd×(Nat->T))} {Mt:List Int} {Sv:List V}
theorem yu {β:Type} {l:List β} (h:l.length=2):∃ x y,l=[x,y]:=by
  match l,h with
  |[x,y],_=>exact ⟨x,y,rfl⟩
noncomputable def UQ (α:Nat->Nat) (Y:Sym) (H0:List Cell) (c:Cfg) (σ:St) (R:Option (Bd×(Nat->T))) (σ':St):Prop:=Kp [c.hp] σ σ'/\∀ B' s',R=some (B',s')->∃ H',Imp α Y H0 B' H'/\Mem c σ' Y H'
noncomputable def UE (α:Nat->Nat) (Y:Sym) (H0:List Cell) (c:Cfg) (σ:St) (R:Option (Bd×(Nat->T))):Fl->Fr->St->Prop:=fun fl fr σ'=>((fl=.nxt/\R.isSome=true)\/fl=.ret (.bool R.isSome))/\UQ α Y H0 c σ R σ'
theorem yw (M:Mem c σ Y Hm) {B':Bd} {s':Nat->T} (I:Imp α Y H0 B' H) (hR:R=some (B',s')) {W':Nat} {x1 x2 x6 x7:Option V}:Ends (jF W n (W'+1) (fru c σ.length x1 x2 x6 x7) (σu c σ H sp Mt [] J)) (UE α Y H0 c σ R):=by
  refine f5 (x:=.bool false) (ai (bF (ab rfl) (bD (kP (k:=2)))) rfl (congrArg some (decide_eq_false (by simp)))) (.of rfl ⟨.inl ⟨rfl,by rw [hR];rfl⟩,Ce,fun B2 s2 h=>?_⟩)
  rw [hR] at h;cases h
  exact ⟨H,I,(M.aY H).app _⟩
theorem tc (hR:R=none) {fr:Fr} {σ':St} (K:Kp [c.hp] σ σ'):UE α Y H0 c σ R (.ret (.bool false)) fr σ':=⟨.inr (by rw [hR];rfl),K,fun B s h=>by exact ns hR h⟩
theorem tD (M:Mem c σ Y H) (hα:∀ x y,α x=α y->x=y) (S:Sol B s) (I:Imp α Y H0 B H) (P:Pr α B s t u R) (ra:Rep 1 Y H0 a (ren α t)) (rb:Rep 1 Y H0 b (ren α u)) (hW:2200<W) (hB:B.length<=8) (hH:H.length<=900000):
    ∃ σ',af W (n+7) true .unify [.ref c.st,cv a,cv b,.bool true] σ=some (.ok (.bool R.isSome),σ')/\UQ α Y H0 c σ R σ':=by
  have:=dB (W:=W) (n:=n+6) (hs:=true) (f:=.unify) (args:=[.ref c.st,cv a,cv b,.bool true]) (σ:=σ) (b:=ie) (P:=fun v σ'=>v=.bool R.isSome/\UQ α Y H0 c σ R σ') rfl rfl ?_
  · refine E22 this fun v σ' e z3 q=>?_
    subst z3
    exact ⟨σ',e,q⟩
  obtain ⟨W,rfl⟩:∃ m,W=m+4:=⟨W - 4,by lia⟩
  refine aa (av (tQ (by simp) (ab rfl) (vc (n:=n+5) M))) ?_
  refine aa (av (j7 (σ:=σ) (l:=[.inst .pairset [(.gv,.int ((H.length+1:Nat):Int)),(.jG,.ref (σ.length+1))],.set []]) (ab (au (ae rfl (ab rfl)) rfl)) rfl)) ?_
  have e0:σ++([.inst .pairset [(.gv,.int ((H.length+1:Nat):Int)),(.jG,.ref (σ.length+1))],.set []]++[.list [pv (a,b)]])=σu c σ H (H.length+1) [] ([]++[pv (a,b)]) []:=by unfold σu;rw [iv M];rfl
  have fin:Ends (jF (W+4) n (W+4) (fru c σ.length (some (cv a)) (some (cv b)) none none) (σu c σ H (H.length+1) [] ([]++[pv (a,b)]) [])) (UE α Y H0 c σ R):=by
    cases P with
    |leaf L=>exact pU M hα S I L (.inl ra) (.inl rb) (by (refine Nat.lt_of_le_of_lt ?_ (by assumption);decide)) (by (refine Nat.le_trans (by assumption) ?_;decide)) (fun B' s' H' J' x6 x7 h1 h2=>yw M h2 h1) fun h1 fr σ' K=>tc h1 K
    |@one f t u _ hne hd L=>
      refine yx M hα I ra rb (fun z=>hne (TL.cons.inj z).1) (by (refine Nat.lt_of_le_of_lt ?_ (by assumption);decide)) rfl (show 1<=1000 by decide) (Nat.succ_pos _) hH (by (refine Nat.lt_of_le_of_lt (by assumption) ?_;decide)) fun as bs' x6 x7 z e1 e2 h1 h2=>?_
      obtain ⟨x,rfl⟩:∃ x,as=[x]:=List.length_eq_one_iff.mp e1
      obtain ⟨y,rfl⟩:∃ x,bs'=[x]:=List.length_eq_one_iff.mp e2
      exact pU (Sv:=[]) M hα S I L (h1 0 x t rfl rfl) (h2 0 y u rfl rfl) (by (refine Nat.lt_of_le_of_lt ?_ (by assumption);decide)) (by (refine Nat.le_trans (by assumption) ?_;decide)) (fun B' s' H' J' x6 x7 h1 h2=>yw M h2 h1) fun h1 fr σ' K=>tc h1 K
    |@two f t u t' u' B1 s1 _ hne hd hd' L L'=>
      refine yx M hα I ra rb (fun z=>hne (TL.cons.inj z).1) (by (refine Nat.lt_of_le_of_lt ?_ (by assumption);decide)) rfl (show 2<=1000 by decide) (Nat.succ_pos _) hH (by (refine Nat.lt_of_le_of_lt (by assumption) ?_;decide)) fun as bs' x6 x7 z e1 e2 h1 h2=>?_
      obtain ⟨x,x',rfl⟩:∃ x x',as=[x,x']:=yu e1
      obtain ⟨y,y',rfl⟩:∃ x x',bs'=[x,x']:=yu e2
      refine E01 (L.sol S) fun S1 hl=>?_
      refine pU (Sv:=[pv (x',y')]) M hα S I L (h1 0 x t rfl rfl) (h2 0 y u rfl rfl) (by (refine Nat.lt_of_le_of_lt ?_ (by assumption);decide)) (by (refine Nat.le_trans (by assumption) ?_;decide)) (fun B' s' H' J' x6 x7 h3 h4=>?_) fun h1=>nomatch h1
      obtain ⟨rfl,rfl⟩:=in2 h3
      exact pU (Sv:=[]) M hα S1 h4 L' ((h1 1 x' t' rfl rfl).mono L.ext) ((h2 1 y' u' rfl rfl).mono L.ext) (by (refine Nat.lt_of_le_of_lt ?_ (by assumption);decide)) (by lia) (fun B' s' H' J' x6 x7 h1 h2=>yw M h2 h1) fun h1 fr σ' K=>tc h1 K
  rw [← e0] at fin
  refine aj (fin.mono fun fl fr σ' q=>?_)
  obtain ⟨q,q2⟩:=q
  rcases q with ⟨rfl,q⟩ | rfl
  · exact aA (aB rfl) ⟨by rw [q],q2⟩
  · exact ⟨rfl,q2⟩
end
section
variable {κ:Nat} {c:Cfg} {σ:St} {Y:Sym} {H:List Cell} {W n a:Nat} {F:List Nat} {x:Cell} {t:T}
theorem wA (M:Mem c σ Y H) (ht:σ[a]?=some (.dI (tb F))) (hr:Rep κ Y H x t) (hz:sz t<=1500) (hF:F.length<=1500) (hW:2 * sz t+κ+2<W):
    ∃ J,af W (n+4) true .eR [.ref c.st,cv x,.ref a] σ=some (.ok (tv (ren (idx (vfs t F)) t)),eO σ a (tb (vfs t F))++J):=by
  refine E22 hr fun d k hd hk hrd=>?_
  refine E11 hrd.der fun k' hk' hdd=>?_
  have:=dB (W:=W) (n:=n+3) (hs:=true) (f:=.eR) (args:=[.ref c.st,cv x,.ref a]) (σ:=σ) (b:=bG) (P:=fun v σ'=>v=tv (ren (idx (vfs t F)) t)/\∃ J,σ'=eO σ a (tb (vfs t F))++J) rfl rfl ?_
  · obtain ⟨v,σ',e,rfl,J,rfl⟩:=this
    exact ⟨J,e⟩
  have M2:=M.app [.dI [],.list []]
  refine aa (av (v:=.ref σ.length) (σ1:=σ++[.dI []]) rfl) (aa (av (j7 (l:=[.dI []]) rfl rfl)) (aa (av (j7 (l:=[.dI [],.list []]) (ab (au (xs:=[.int 0,cv d]) (ae rfl (ab (e_m rfl M2.st rfl (ab rfl) (wt (n:=n+1) M2 hd hk hrd (by lia))))) rfl)) rfl)) ?_))
  have e0:σ++([.dI [],.list []]++[.list [.tup [.int 0,cv d]]])=σt σ a F [] [] ([]++[vis d]) []:=by unfold σt;rw [nV ht];rfl
  rw [e0]
  refine aj (AP (n:=n) (W:=W) M ht (by lia) t (F:=F) (K:=[]) (R:=[]) (S:=[]) (J:=[]) hdd hk' hrd (fun q v hq=>nomatch hq) (by simp;lia) (by lia) (by simp;lia) (by simp;(refine Nat.le_trans (by assumption) ?_;decide)) 1 (fun W' fr K' J' hB hf hM hlen=>?_) W (frt c a σ.length (some (cv x)) none none none none none none none) (by lia) (.mk ..))
  obtain ⟨W',rfl⟩:∃ m,W'=m+1:=⟨W' - 1,by lia⟩
  obtain ⟨x1,x6,x7,x8,x9,x10,x11,x12⟩:=hf
  refine f5 (x:=.bool false) (ai (bF (ab rfl) (bD (a7 (k:=2)))) rfl (congrArg some (decide_eq_false (by simp)))) (.of rfl ?_)
  exact aA (aB (bQ rfl rfl (a7 (k:=1)) rfl)) ⟨rfl,_,rfl⟩
end
noncomputable def lc:Nat->List Nat->List Cell
  |_,[]=>[]
  |q,p::r=>(0,p)::(3,q+2)::lc (q+2) r
noncomputable def tlc (q:Nat):List Nat->Cell
  |[]=>(4,0)
  |_::_=>(3,q)
noncomputable def lcE:Nat->List Nat->List Cell
  |_,[]=>[]
  |q,p::r=>(0,p)::tlc (q+2) r::lcE (q+2) r
theorem rY:∀ (r:List Nat) (q:Nat),(lc q r).length=2 * r.length
  |[],_=>rfl
  |p::r,q=>by show (lc (q+2) r).length+1+1=2 * (r.length+1);rw [rY r];lia
theorem rX:∀ (r:List Nat) (q:Nat),r≠[]->(lc q r).set (2 * r.length - 1) (4,0)=lcE q r
  |[],_,h=>(h rfl).elim
  |[p],q,_=>rfl
  |p::p2::r,q,_=>by
    have:=rX (p2::r) (q+2) (by simp)
    show ((0,p)::(3,q+2)::lc (q+2) (p2::r)).set (2 * ((p2::r).length+1) - 1) (4,0)=(0,p)::(3,q+2)::lcE (q+2) (p2::r)
    rw [← this,show 2 * ((p2::r).length+1) - 1=(2 * (p2::r).length - 1)+1+1 by simp;lia]
    rfl
theorem zE {r:List Nat} {q:Nat} (h:r≠[]):(lcE q r).length=2 * r.length:=by rw [← rX r q h,List.length_set,rY]
section
variable {c:Cfg} {σ σ0:St} {Y:Sym} {H:List Cell} {W n a:Nat} {Q:Fl->Fr->St->Prop} {l:St}
theorem xo:∀ (r:List Nat) (P:List Cell),r≠[]->(∀ p∈r,P[p]?=some (0,p))->aJ 1 Y (P++lcE P.length r) (3,P.length) (cX (r.map .v) (.a 0))
  |[],_,h,_=>(h rfl).elim
  |p::r,P,_,hp=>by
    have lt:=(List.getElem?_eq_some_iff.mp (hp p List.mem_cons_self)).1
    have g0:(P++lcE P.length (p::r))[P.length]?=some (0,p):=by rw [List.getElem?_append_right (Nat.le_refl _),Nat.sub_self];rfl
    have gp:(P++lcE P.length (p::r))[p]?=some (0,p):=by rw [List.getElem?_append_left lt];exact hp p List.mem_cons_self
    have h1:(P++lcE P.length (p::r))[P.length+1]?=some (tlc (P.length+2) r):=by rw [List.getElem?_append_right (Nat.le_add_right _ _),Nat.add_sub_cancel_left];rfl
    refine .s (w:=2) (.lis _) (.cons g0 (.self gp) (Nat.zero_le _) (.v gp) ?_) rfl
    cases r with
    |nil=>exact .cons h1 (.done (show 4≠0 by decide) (show 4≠1 by decide)) (Nat.zero_le _) (.a 0) (.nil _)
    |cons p2 r=>
      have ih:=xo (p2::r) (P++[(0,p),(3,P.length+2)]) (by simp) fun q m=>by
        have:=hp q (List.mem_cons_of_mem _ m)
        rw [List.getElem?_append_left (List.getElem?_eq_some_iff.mp this).1];exact this
      rw [List.append_assoc,List.length_append] at ih
      exact .cons h1 (.done (show 3≠0 by decide) (show 3≠1 by decide)) (Nat.zero_le _) ih (.nil _)
theorem xT {q k:Nat}:refs q (2 * (k+1))=(0,q)::(0,q+1)::refs (q+2) (2 * k):=by
  unfold refs
  rw [show 2 * (k+1)=2 * k+1+1 from rfl,List.range_succ_eq_map,List.map_cons,List.map_map,List.range_succ_eq_map,List.map_cons,List.map_map]
  refine congrArg (fun z=>_::_::z) (List.map_congr_left fun i _=>?_)
  show (0,q+(i+1+1))=(0,q+2+i)
  rw [Nat.add_assoc q 2,Nat.add_comm 2]
theorem pF {α:Type} {P R:List α} {x y:α} {i:Nat} (h:i=P.length):(P++x::R).set i y=P++y::R:=by
  subst h
  rw [List.set_append_right _ _ (Nat.le_refl _),Nat.sub_self];rfl
theorem tw (M:Mem c σ Y H) {it:V} {all:List V} {x2 x3 x4 x5 x6:Option V} {l:St} (hit:∀ H',itemsOf it (aY c σ H'++l)=some all):∀ (r:List Nat) (P:List Cell) (pre:List V) {x8:Option V},all=pre++r.map rf->P.length+2 * r.length<=100000->
    (∀ x8,Q .nxt ⟨[some (.ref c.st),x2,x3,x4,x5,x6,some (.int H.length),some (.int ((P.length+2 * r.length:Nat):Int)),x8],[]⟩ (aY c σ (P++lc P.length r)++l))->
    Ends (ft (fun v fr σ=>evS (af W n) W true (.cons (.setitem (.attr (.loc 0) .aX) (.loc 7) (.loc 8)) (.cons (.setitem (.attr (.loc 0) .aX) (.bin .add (.loc 7) (.int 1)) (.tuple (.cons (.glob (.int 3)) (.cons (.bin .add (.loc 7) (.int 2)) .nil)))) (.cons (.aug 7 .add (.int 2)) .nil))) (fr.put 8 v) σ) it (r.map rf) pre.length
      ⟨[some (.ref c.st),x2,x3,x4,x5,x6,some (.int H.length),some (.int (P.length:Nat)),x8],[]⟩ (aY c σ (P++refs P.length (2 * r.length))++l)) Q
  |[],P,pre,x8,ha,hl,k=>kJ (hit _) (by rw [ha];simp) (k x8)
  |p::r,P,pre,x8,ha,hl,k=>by
    have M0:=fun H'=>(M.aY H').app l
    simp only [List.length_cons] at hl k
    refine dg (hit _) (x:=rf p) (by rw [ha];simp) ?_
    rw [List.length_cons,xT]
    have s1:=dh (x:=rf p) (M0 (P++(0,P.length)::(0,P.length+1)::refs (P.length+2) (2 * r.length))).hp (Int.natCast_nonneg P.length) (by rw [List.length_map,List.length_append];simp)
    rw [Int.toNat_natCast,show rf p=cv (0,p) from rfl,← List.map_set,pF rfl] at s1
    have e1:(aY c σ (P++(0,P.length)::(0,P.length+1)::refs (P.length+2) (2 * r.length))++l).set c.hp (.list ((P++(0,p)::(0,P.length+1)::refs (P.length+2) (2 * r.length)).map cv))=aY c σ (P++(0,p)::(0,P.length+1)::refs (P.length+2) (2 * r.length))++l:=(fA (M.aY _)).trans (congrArg (·++l) fX)
    rw [e1] at s1
    have s2:=dh (x:=cv (3,P.length+2)) (M0 (P++(0,p)::(0,P.length+1)::refs (P.length+2) (2 * r.length))).hp (Int.natCast_nonneg (P.length+1)) (by rw [List.length_map,List.length_append];simp)
    rw [Int.toNat_natCast,← List.map_set,show P++(0,p)::(0,P.length+1)::refs (P.length+2) (2 * r.length)=(P++[(0,p)])++(0,P.length+1)::refs (P.length+2) (2 * r.length) by simp,pF (by simp)] at s2
    have e2:∀ A B:List Cell,(aY c σ A++l).set c.hp (.list (B.map cv))=aY c σ B++l:=fun A B=>(fA (M.aY _)).trans (congrArg (·++l) fX)
    rw [e2,show (P++[(0,p)])++(0,P.length+1)::refs (P.length+2) (2 * r.length)=P++(0,p)::(0,P.length+1)::refs (P.length+2) (2 * r.length) by simp,show (P++[(0,p)])++(3,P.length+2)::refs (P.length+2) (2 * r.length)=(P++[(0,p),(3,P.length+2)])++refs (P.length+2) (2 * r.length) by simp] at s2
    refine aa (aM rfl (aH rfl (M0 _).st rfl) rfl s1) (aa (aM (au (xs:=[.int 3,.int ((P.length+2:Nat):Int)]) (ae rfl (ab (bJ rfl rfl rfl))) rfl) (aH rfl (M0 _).st rfl) (bJ (v:=.int ((P.length+1:Nat):Int)) rfl rfl rfl) s2) (aa (oi rfl rfl) (ao ?_)))
    have hlen:(P++[(0,p),(3,P.length+2)]).length=P.length+2:=by simp
    have ih:=tw M hit r (P++[(0,p),(3,P.length+2)]) (pre++[rf p]) (x8:=some (rf p)) (x2:=x2) (x3:=x3) (x4:=x4) (x5:=x5) (x6:=x6) (by rw [ha];simp) (by simp;lia) fun x8=>?_
    · rw [hlen,List.length_append] at ih;exact ih
    · have:=k x8
      rw [List.append_assoc,hlen]
      rw [show P.length+2 * (r.length+1)=P.length+2+2 * r.length by lia] at this
      exact this
theorem iy {l:List Cell} {α:Nat->Nat} (hα:∀ x y,α x=α y->x=y) {x:Cell} {t:T} (hl:l.length<=100000) (h:Rep 1 Y H x (ren α t)):Rep 1 Y (H++l) x (ren α t):=by
  have:=jN (B:=[]) hα Sol.nil (H:=H++l) ⟨by rw [List.length_append];exact Nat.le_add_right _ _,by rw [List.length_append];lia,fun i c h _=>by rw [List.getElem?_append_left (List.getElem?_eq_some_iff.mp h).1];exact h,fun x u h=>nomatch h⟩ h
  rw [d9] at this
  exact this
theorem za (M:Mem c σ Y H) {F:List Nat} (hf:σ[a]?=some (.list (F.map rf))) (hp:∀ p∈F,H[p]?=some (0,p)) (hl:H.length+2 * F.length<=100000) (hW:2<W):
    ∃ x ex J,af W (n+4) true .bK [.ref c.st,.ref a] σ=some (.ok (cv x),aY c σ (H++ex)++J)/\ex.length<=2 * F.length/\Rep 1 Y (H++ex) x (cX (F.map .v) (.a 0)):=by
  have:=dB (W:=W) (n:=n+3) (hs:=true) (f:=.bK) (args:=[.ref c.st,.ref a]) (σ:=σ) (b:=fo) (P:=fun v σ'=>∃ x ex J,v=cv x/\σ'=aY c σ (H++ex)++J/\ex.length<=2 * F.length/\Rep 1 Y (H++ex) x (cX (F.map .v) (.a 0))) rfl rfl ?_
  · obtain ⟨v,σ',e,x,ex,J,rfl,rfl,q⟩:=this
    exact ⟨x,ex,J,e,q⟩
  refine aj (aw (ai (v:=true) rfl rfl rfl) (aa (av (v:=cv (4,0)) (au (ae rfl (ab rfl)) rfl)) (ao (aa (av (b7 rfl rfl)) ?_))))
  have h0:∀ i:Nat,(σ++[.list ((F.take i).map rf)])[a]?=some (.list (F.map rf)):=fun i=>aq hf
  refine aj (dy (xs:=F.map rf) rfl (by show (match (σ++[.list []])[a]? with | some (.list xs)=>some xs | _=>none)=_;rw [aq hf]) ?_)
  refine cw (fun i fr σ'=>σ'=σ++[.list ((F.take i).map rf)]/\∃ x5,fr=⟨[some (.ref c.st),some (.ref a),some .none,some (cv (4,0)),some (.ref σ.length),x5,none,none,none],[]⟩) (fun i fr σ' h=>by rw [h.1];show (match (σ++[.list _])[a]? with | some (.list xs)=>some xs | _=>none)=_;rw [aq hf]) ?_ ?_ _ 0 _ _ (by rw [Nat.zero_add]) ⟨rfl,_,rfl⟩
  · rintro i y fr σ' hy ⟨rfl,x5,rfl⟩
    rw [List.getElem?_map] at hy
    refine E11 (Option.map_eq_some_iff.mp hy) fun p hpF z2=>?_
    subst z2
    have M1:=M.app [.list ((F.take i).map rf)]
    have g:(σ++[O.list ((F.take i).map rf)])[σ.length]?=some (.list ((F.take i).map rf)):=bb
    refine aa (aS (cE rfl g rfl (fun _=>nofun) (ab (e_m rfl M1.st rfl (ab rfl) (gJ (n:=n+1) M1 (.self (hp p (List.mem_of_getElem? hpF))) (by simp) (by (refine Nat.lt_of_le_of_lt ?_ (by assumption);decide))))) (bp g (by rw [List.length_map,List.length_take];exact fits_of (by lia))))) (ao ⟨.inl rfl,?_,_,rfl⟩)
    rw [mJ,bM hpF,List.map_append];rfl
  rintro fr σ' ⟨rfl,x5,rfl⟩
  rw [List.length_map,List.take_of_length_le (Nat.le_refl _)]
  have M1:=M.app [.list (F.map rf)]
  have g:(σ++[O.list (F.map rf)])[σ.length]?=some (.list (F.map rf)):=bb
  cases F with
  |nil=>exact aj (aw (ai (v:=true) (bF (ab rfl) (bD g)) rfl rfl) (aA (aB rfl) ⟨(4,0),[],[.list []],rfl,by rw [List.append_nil,iv M];rfl,Nat.le_refl _,by rw [List.append_nil];exact ⟨_,0,.done (by simp) (by simp),Nat.zero_le _,.a 0⟩⟩))
  |cons p r=>
    have hlen:((p::r).map rf).length=r.length+1:=by rw [List.length_map];rfl
    refine aa (aN (ai (v:=false) (bF (ab rfl) (bD g)) rfl (by rw [hlen];exact congrArg some (decide_eq_false (by lia))))) ?_
    refine aa (av (e_m rfl M1.st rfl (ab (bJ (v:=.int ((2 * (p::r).length:Nat):Int)) rfl (bF (ab rfl) (bD g)) ?_)) (jY (n:=n+2) M1 hl))) (aa (av rfl) (aj ?_))
    · have:small (((p::r).map rf).length:Int)=true:=d8 (by rw [hlen];simp at hl;lia)
      exact kZ (by rw [hlen];rfl) (d8 (k:=2) (by decide)) this
    have st:∀ H',(aY c σ H'++[O.list ((p::r).map rf)])=aY c (σ++[.list ((p::r).map rf)]) H':=fun H'=>(fA M).symm
    have hit:∀ H',itemsOf (.ref σ.length) (aY c σ H'++[O.list ((p::r).map rf)])=some ((p::r).map rf):=fun H'=>by
      show (match (aY c σ H'++[O.list ((p::r).map rf)])[σ.length]? with | some (.list xs)=>some xs | _=>none)=_
      rw [show σ.length=σ.length+0 from rfl,kP];rfl
    rw [← st]
    refine dy rfl (hit _) (tw (n:=n+3) (W:=W) M hit (p::r) H [] (x2:=some (.ref a)) (x3:=some .none) (x4:=some (cv (4,0))) (x5:=some (.ref σ.length)) (x6:=x5) rfl hl fun x8=>?_)
    have M2:=(M.aY (H++lc H.length (p::r))).app [.list ((p::r).map rf)]
    have s1:=dh (x:=cv (4,0)) (i:=((H.length+(2 * (p::r).length - 1):Nat):Int)) M2.hp (Int.natCast_nonneg _) (by rw [List.length_map,List.length_append,rY,Int.toNat_natCast];simp;exact Nat.le_refl _)
    rw [Int.toNat_natCast,← List.map_set,List.set_append_right _ _ (Nat.le_add_right _ _),Nat.add_sub_cancel_left,rX _ _ (by simp),show ∀ x,(aY c σ (H++lc H.length (p::r))++[O.list ((p::r).map rf)]).set c.hp (.list (List.map cv x))=aY c σ x++[.list ((p::r).map rf)] from fun x=>(fA (M.aY _)).trans (congrArg (·++_) fX)] at s1
    refine aa (aM rfl (aH rfl M2.st rfl) (bJ rfl rfl (v:=.int ((H.length+(2 * (p::r).length - 1):Nat):Int)) ?_) s1) (aA (aB (au (ae rfl (ab rfl)) rfl)) ⟨(3,H.length),_,_,rfl,rfl,by rw [zE (by simp)];exact Nat.le_refl _,Rep.ofD (xo _ _ (by simp) hp)⟩)
    show some (V.int (((H.length+2 * (p::r).length:Nat):Int) - 1))=_
    congr 2
    simp only [List.length_cons]
    lia
end
structure iD (c:Cfg) (m ax:Nat) (as:List (Nm×V)) (xs:List Cell) (σ:St):Prop where
  mi:σ[m]?=some (.inst .areas as)
  ls:cQ as .b8=some (.ref c.st)
  lx:cQ as .n_x=some (.ref ax)
  lo:cQ as .gY=some (.bool true)
  ly:cQ as .aW=some (.ref c.sy)
  xl:σ[ax]?=some (.list (xs.map cv))
section
variable {κ:Nat} {α:Nat->Nat} {c:Cfg} {σ σ1 σ':St} {Y:Sym} {H:List Cell} {W n m ax b:Nat} {as:List (Nm×V)} {xs:List Cell} {t:T} {d x:Cell} {Q:Fl->Fr->St->Prop} {K:List Nat}
theorem iD.kp {A:List Nat} (h:iD c m ax as xs σ) (k:Kp A σ σ') (h1:m∉A) (h2:ax∉A):iD c m ax as xs σ':=⟨k _ _ h.mi h1,h.ls,h.lx,h.lo,h.ly,k _ _ h.xl h2⟩
theorem oR (M:Mem c σ Y H) (N:iD c m ax as xs σ) {i k:Nat} (hx:xs[i]?=some x) (hd:Der H x d k) (h1:d.1≠1) (hW:k<W):af W (n+3) true .nj [.ref m,.int i] σ=some (.ok (cv d),σ):=
  b6 rfl rfl (aA (aB (e_m (aH rfl N.mi N.ls) M.st rfl (ab (bQ (aH rfl N.mi N.lx) rfl N.xl (cx.trans (congrArg _ hx)))) (gJ M hd h1 hW))) ⟨rfl,rfl⟩)
theorem qp (N:iD c m ax as xs σ) {a b:Cell} {v:Bool} (h:af W n true .unify [.ref c.st,cv a,cv b,.bool true] σ=some (.ok (.bool v),σ')):af W (n+1) true .kx [.ref m,cv a,cv b] σ=some (.ok (.bool v),σ'):=
  b6 rfl rfl (aA (aB (aV (ae (aH rfl N.mi N.ls) (ae rfl (ae rfl (ab (aH rfl N.mi N.lo))))) h)) ⟨rfl,rfl⟩)
theorem aO {l:Nat} {ys:List V} (h:σ[l]?=some (.list ys)):itemsOf (.ref l) σ=some ys:=by
  show (match σ[l]? with | some (O.list xs)=>some xs | _=>none)=_
  rw [h]
noncomputable def eM:T->Bool
  |.s f _=>decide (f=11)
  |_=>false
theorem lh (M:Mem c σ Y H) {hs:Bool} (h:aJ κ Y H d t):af W (n+2) hs .mq [.ref c.st,cv d] σ=some (.ok (.bool (eM t)),σ):=by
  have ic:=eJ (W:=W) (n:=n) (hs:=hs) (σ:=σ) (s:=.ref c.st) (a:=d)
  refine b6 rfl rfl (aA (aB ?_) ⟨rfl,rfl⟩)
  have leaf:∀ {a p:Nat},d=(a,p)->a≠2->a≠3->ev (af W (n+1) hs) hs (.and (.mcall (.loc 0) .bj (.cons (.loc 1) .nil)) (.cmp .eq (.mcall (.loc 0) .eY (.cons (.loc 1) .nil)) (.int 11))) ⟨[some (.ref c.st),some (cv d)],[]⟩ σ=some (.bool false,σ):=fun e h2 h3=>by
    subst e
    rw [decide_eq_false h2,decide_eq_false h3] at ic
    exact dD (e_m rfl M.st rfl (ab rfl) ic)
  cases t with
  |v=>exact leaf h.1 (by decide) (by decide)
  |a=>exact leaf h (by decide) (by decide)
  |i=>exact leaf h (by decide) (by decide)
  |s f l=>
    have h:=h.1
    rw [show (decide (d.1=2)||decide (d.1=3))=true by rcases h.tag with h | h<;>simp [h]] at ic
    refine dk (e_m rfl M.st rfl (ab rfl) ic) (ai (e_m rfl M.st rfl (ab rfl) (js M h)) rfl ?_)
    show some (decide ((f:Int)=((11:Nat):Int)))=some (decide (f=11))
    congr 1
    rw [Bool.eq_iff_iff,decide_eq_true_eq,decide_eq_true_eq,Int.natCast_inj]
theorem ip:eM (ren α t)=eM t:=by cases t<;>rfl
noncomputable def om (kvs:List (Int×V)) (K:List Nat):Prop:=kvs.length<=K.length/\∀ p,(aZ kvs (nI p)).isSome=decide (p∈K)
theorem om.put {kvs:List (Int×V)} (h:om kvs K) (p:Nat):om (dput kvs (nI p) (.bool true)) (K++[p]):=by
  refine ⟨by have:=jw (k:=nI p) (x:=V.bool true) (kvs:=kvs);rw [List.length_append];exact Nat.le_trans this (Nat.succ_le_succ h.1),fun q=>?_⟩
  rw [gL]
  by_cases e:p=q
  · subst e
    rw [if_pos rfl];simp
  · rw [if_neg fun z=>e (gn _ _ z),h.2 q]
    have:q≠p:=Ne.symm e
    simp [this]
theorem Bx {kvs:List (Int×V)} {l:Nat} {F:List Nat} {x0 x1 x2 x4 x5 x6:Option V} (hk:om kvs K) (hl:K.length+F.length<=90000) (hb:σ[b]?=some (.dI kvs)) (hF:σ[l]?=some (.list (F.map rf)))
    (k:∀ kvs' σ' x5,om kvs' (K++F)->σ'[b]?=some (.dI kvs')->Kp [b] σ σ'->Q .nxt ⟨[x0,x1,x2,some (.ref b),x4,x5,x6],[]⟩ σ'):
    Ends (ft (fun v fr σ=>evS (af W n) W true (.cons (.setitem (.loc 3) (.sub (.loc 5) (.int 1)) (.bool true)) .nil) (fr.put 5 v) σ) (.ref l) (F.map rf) 0 ⟨[x0,x1,x2,some (.ref b),x4,x5,x6],[]⟩ σ) Q:=by
  have hit:∀ {σ'},Kp [b] σ σ'->itemsOf (.ref l) σ'=some (F.map rf):=fun K=>aO (K _ _ hF (by simpa using aQ hF hb (by simp)))
  refine cw (fun i fr σ'=>(∃ kvs',om kvs' (K++F.take i)/\σ'[b]?=some (.dI kvs'))/\Kp [b] σ σ'/\∃ x5,fr=⟨[x0,x1,x2,some (.ref b),x4,x5,x6],[]⟩) (fun _ _ _ h=>hit h.2.1) ?_ ?_ _ 0 _ _ (Nat.zero_add _) ⟨⟨kvs,by rw [List.take_zero,List.append_nil];exact hk,hb⟩,Kp.refl,_,rfl⟩
  · rintro i y fr σ' hy ⟨⟨kvs',h1,h2⟩,h3,x5,rfl⟩
    rw [List.getElem?_map] at hy
    refine E11 (Option.map_eq_some_iff.mp hy) fun p hp z2=>?_
    subst z2
    have h1':=h1.1
    rw [List.length_append,List.length_take] at h1'
    refine aa (aM rfl rfl (ah rfl rfl rfl) (pE h2 (fits_of (by lia)))) (ao ⟨.inl rfl,⟨_,?_,bc h2⟩,h3.trans (Kp.set (.head _)),_,rfl⟩)
    rw [bM hp,← List.append_assoc]
    exact h1.put p
  · rintro fr σ' ⟨⟨kvs',h1,h2⟩,h3,x5,rfl⟩
    rw [List.length_map,List.take_of_length_le (Nat.le_refl _)] at h1
    exact k _ _ _ h1 h2 h3
end
noncomputable def wh (fs:List T) (G:T):T:=fs.foldr (fun f g=>.s 11 (.cons f (.cons g .nil))) G
noncomputable def kkn (α:Nat->Nat) (fs:List T) (K:List Nat):List Nat:=fs.foldl (fun K f=>K++vfs (ren α f) []) K
section
variable {κ:Nat} {α:Nat->Nat} {c:Cfg} {σ σ1 σ':St} {Y:Sym} {H:List Cell} {W n m ax b:Nat} {as:List (Nm×V)} {xs:List Cell} {t G:T} {x:Cell} {Q:Fl->Fr->St->Prop} {x0 x2 x6:Option V}
theorem qO (hG:eM G=false) (hW:2100<W):∀ (fs:List T) {d:Cell} {K:List Nat} {kvs:List (Int×V)} {σ:St} {x5:Option V} {W':Nat},Mem c σ Y H->aJ 1 Y H d (ren α (wh fs G))->om kvs K->σ[b]?=some (.dI kvs)->(∀ f∈fs,sz f<=2000)->K.length+2000 * fs.length<=80000->fs.length<W'->
    (∀ d' kvs' σ2 x5,aJ 1 Y H d' (ren α G)->om kvs' (kkn α fs K)->σ2[b]?=some (.dI kvs')->Kp [b] σ σ2->Q .nxt ⟨[x0,some (.ref c.st),x2,some (.ref b),some (cv d'),x5,x6],[]⟩ σ2)->
    Ends (cz (ev (af W (n+4) true) true (wC (cI bz 5))) (evS (af W (n+4)) W true (wB (cI bz 5))) W' ⟨[x0,some (.ref c.st),x2,some (.ref b),some (cv d),x5,x6],[]⟩ σ) Q
  |_,_,_,_,_,_,0,_,_,_,_,_,_,h,_=>absurd h (Nat.not_lt_zero _)
  |[],d,K,kvs,σ,x5,W'+1,M,hd,hk,hb,hz,hl,hw,k=>by
    have e:=lh (W:=W) (n:=n+2) (hs:=true) M hd
    rw [ip,show eM (wh [] G)=false from hG] at e
    exact f5 (x:=.bool false) (aV (ae rfl (ab rfl)) e) (.of rfl (k d kvs σ x5 hd hk hb Kp.refl))
  |f::fs,d,K,kvs,σ,x5,W'+1,M,hd,hk,hb,hz,hl,hw,k=>by
    have e:=lh (W:=W) (n:=n+2) (hs:=true) M hd
    rw [ip,show eM (wh (f::fs) G)=true from rfl] at e
    have hsf:=hz f List.mem_cons_self
    simp only [List.length_cons] at hl hw
    refine E12 (aJ.cmp hd) fun _ _ hl1 _=>E33 hl1.1 fun k1 c1 d1 h1 hd1 hk1 ht1=>E33 hl1.2.1 fun k2 c2 d2 h2 hd2 hk2 ht2=>?_
    refine E10 (kH (W:=W) (n:=n) (hs:=true) M ⟨d1,k1,hd1,hk1,ht1⟩ (by rw [ew];(refine Nat.le_trans (by assumption) ?_;decide)) (by rw [ew];lia)) fun j ev1=>?_
    have hvl:=dd (ren α f) []
    rw [ew] at hvl
    refine hZ (σ1:=σ) (aV (ae rfl (ab rfl)) e) (aj (dy (aV (ae rfl (ab (e_m rfl M.st rfl (ae rfl (ab rfl)) (Av (n:=n+2) (i:=0) M h1)))) ev1) (aO bb) ?_))
    refine Bx (F:=vfs (ren α f) []) hk (by simp at hvl;lia) (aq hb) bb fun kvs' σ2 x5 hk2 hb2 hK=>?_
    have M2:Mem c σ2 Y H:=(M.app _).kp hK fun i hi=>by
      obtain rfl:=List.mem_singleton.mp hi
      have hn:∀ {j o},σ[j]?=some o->o≠.dI kvs->i≠j:=fun h ho z=>by subst z;rw [hb] at h;exact ho (Option.some.inj h).symm
      simp only [List.mem_cons,List.not_mem_nil,or_false,not_or]
      exact ⟨⟨hn M.sy (by simp),hn M.tx (by simp),hn M.an (by simp),hn M.fu (by simp),hn M.fn (by simp)⟩,hn M.st (by simp),hn M.hp (by simp),hn M.sp (by simp)⟩
    refine aa (av (e_m rfl M2.st rfl (ab (e_m rfl M2.st rfl (ae rfl (ab rfl)) (Av (n:=n+2) (i:=1) M2 h2))) (fE (n:=n+3) M2 hd2 (by lia)))) (ao ?_)
    exact qO hG hW fs M2 ht2 hk2 hb2 (fun g hg=>hz g (List.mem_cons_of_mem _ hg)) (by rw [List.length_append];simp at hvl;lia) (by lia) fun d' kvs' σ3 x5 h3 h4 h5 h6=>k d' kvs' σ3 x5 h3 h4 h5 ((Kp.app.trans hK).trans h6)
theorem xk {p:Nat}:∀ {fs:List T} {K:List Nat},p∈kkn α fs K↔p∈K\/∃ f∈fs,occ p (ren α f)=true
  |[],K=>⟨.inl,fun h=>h.elim id fun ⟨_,h,_⟩=>nomatch h⟩
  |f::fs,K=>by
    show p∈kkn α fs (K++vfs (ren α f) [])↔_
    rw [xk,List.mem_append,b9]
    simp [or_assoc]
theorem oa {p:Nat}:∀ {fs:List T} {K:List Nat},p∈fs.foldl (fun F t=>vfs t F) K↔p∈K\/∃ f∈fs,occ p f=true
  |[],K=>⟨.inl,fun h=>h.elim id fun ⟨_,h,_⟩=>nomatch h⟩
  |f::fs,K=>by
    show p∈fs.foldl _ (vfs f K)↔_
    rw [oa,b9]
    simp [or_assoc]
mutual
theorem pW (hα:∀ x y,α x=α y->x=y):∀ (t:T) (F:List Nat),vfs (ren α t) (F.map α)=(vfs t F).map α
  |.v x,F=>by
    show (if α x∈F.map α then F.map α else F.map α++[α x])=(if x∈F then F else F++[x]).map α
    have:α x∈F.map α↔x∈F:=⟨fun h=>by refine E11 (List.mem_map.mp h) fun y h1 h2=>?_;exact hα _ _ h2▸h1,fun h=>List.mem_map_of_mem h⟩
    by_cases h:x∈F
    · rw [if_pos h,if_pos (this.mpr h)]
    · rw [if_neg h,if_neg (mt this.mp h),List.map_append];rfl
  |.a _,F=>rfl
  |.i _,F=>rfl
  |.s _ l,F=>q8 hα l F
theorem q8 (hα:∀ x y,α x=α y->x=y):∀ (l:TL) (F:List Nat),dQ (cW α l) (F.map α)=(dQ l F).map α
  |.nil,F=>rfl
  |.cons t r,F=>by
    show dQ (cW α r) (vfs (ren α t) (F.map α))=(dQ r (vfs t F)).map α
    rw [pW hα t,q8 hα r]
end
noncomputable def fnd (fs:List T) (G:T):List Nat:=(vfs G []).filter fun x=>!decide (x∈fs.foldl (fun F t=>vfs t F) [])
theorem zy (hα:∀ x y,α x=α y->x=y) (fs:List T):(fnd fs G).map α=(vfs (ren α G) []).filter fun p=>!decide (p∈kkn α fs []):=by
  have e:=pW hα G []
  rw [show ([]:List Nat).map α=[] from rfl] at e
  rw [e,List.filter_map]
  unfold fnd
  congr 1
  refine List.filter_congr fun x _=>?_
  show (!decide _)=!decide _
  congr 1
  rw [Bool.eq_iff_iff,decide_eq_true_eq,decide_eq_true_eq,xk,oa]
  refine or_congr (by simp) (exists_congr fun f=>and_congr_right fun _=>?_)
  rw [jJ hα]
theorem BR {kvs:List (Int×V)} {K F:List Nat} {l fl:Nat} {x1 x4 x5:Option V} (hk:om kvs K) (hl:F.length<=90000) (hb:σ[b]?=some (.dI kvs)) (hF:σ[l]?=some (.list (F.map rf))) (hne:l≠fl) (hf:σ[fl]?=some (.list []))
    (k:∀ σ' x5,σ'[fl]?=some (.list ((F.filter fun p=>!decide (p∈K)).map rf))->Kp [fl] σ σ'->Q .nxt ⟨[x0,x1,x2,some (.ref b),x4,x5,some (.ref fl)],[]⟩ σ'):
    Ends (ft (fun v fr σ=>evS (af W n) W true (.cons (.ite (.cmp .notin (.sub (.loc 5) (.int 1)) (.loc 3)) (.cons (.expr (.mcall (.loc 6) .aT (.cons (.loc 5) .nil))) .nil) .nil) .nil) (fr.put 5 v) σ) (.ref l) (F.map rf) 0 ⟨[x0,x1,x2,some (.ref b),x4,x5,some (.ref fl)],[]⟩ σ) Q:=by
  have hbf:b≠fl:=aQ hb hf (by simp)
  refine cw (fun i fr σ'=>σ'[fl]?=some (.list (((F.take i).filter fun p=>!decide (p∈K)).map rf))/\Kp [fl] σ σ'/\∃ x5,fr=⟨[x0,x1,x2,some (.ref b),x4,x5,some (.ref fl)],[]⟩) (fun _ _ _ h=>aO (h.2.1 _ _ hF (by simpa using hne))) ?_ ?_ _ 0 _ _ (Nat.zero_add _) ⟨hf,Kp.refl,_,rfl⟩
  · rintro i y fr σ' hy ⟨h1,h2,x5,rfl⟩
    rw [List.getElem?_map] at hy
    refine E11 (Option.map_eq_some_iff.mp hy) fun p hp z2=>?_
    subst z2
    have g:(aZ kvs ((p:Nat):Int)).isSome=decide (p∈K):=hk.2 p
    have hb':=h2 _ _ hb (by simpa using hbf)
    have c1:∀ {fr},fr.locs[5]?.join=some (rf p)->fr.locs[3]?.join=some (.ref b)->ev (af W n true) true (.cmp .notin (.sub (.loc 5) (.int 1)) (.loc 3)) fr σ'=some (.bool (!decide (p∈K)),σ'):=fun h5 h3=>ai (ah (dF h5) rfl rfl) (dF h3) ((bP (fG hb')).trans (by rw [g]))
    by_cases hm:p∈K
    · refine aa (aN ((c1 rfl rfl).trans (by rw [decide_eq_true hm];rfl))) (ao ⟨.inl rfl,?_,h2,_,rfl⟩)
      rw [bM hp,List.filter_append,show [p].filter (fun p=>!decide (p∈K))=[] by simp [hm],List.append_nil];exact h1
    · have hlen:((F.take i).filter fun p=>!decide (p∈K)).length<=F.length:=Nat.le_trans (List.length_filter_le _ _) (by rw [List.length_take];lia)
      refine aj (aw ((c1 rfl rfl).trans (by rw [decide_eq_false hm];rfl)) (aa (aS (cE rfl h1 rfl (fun _=>nofun) (ab rfl) (bp h1 (by rw [List.length_map];exact fits_of (by lia))))) (ao (ao ⟨.inl rfl,?_,h2.trans (Kp.set (.head _)),_,rfl⟩))))
      rw [bM hp,List.filter_append,show [p].filter (fun p=>!decide (p∈K))=[p] by simp [hm],List.map_append]
      exact bc h1
  · rintro fr σ' ⟨h1,h2,x5,rfl⟩
    rw [List.length_map,List.take_of_length_le (Nat.le_refl _)] at h1
    exact k _ _ h1 h2
end
mutual
theorem aJ.un {κ:Nat} {Y:Sym} {H:List Cell} {p:Nat}:∀ {t:T} {d:Cell},aJ κ Y H d t->occ p t=true->H[p]?=some (0,p)
  |.v q,d,h,o=>(of_decide_eq_true o:p=q)▸h.2
  |.a _,_,_,o=>nomatch o
  |.i _,_,_,o=>nomatch o
  |.s _ l,d,h,o=>cA.un h.2 o
theorem cA.un {κ:Nat} {Y:Sym} {H:List Cell} {p:Nat}:∀ {l:TL} {q:Nat},cA κ Y H q l->cJ p l=true->H[p]?=some (0,p)
  |.nil,_,_,o=>nomatch o
  |.cons t r,q,h,o=>E33 h.1 fun _ _ _ _ _ _ ht=>((Bool.or_eq_true _ _).mp o).elim (aJ.un ht) (cA.un h.2)
end
theorem qW {α:Nat->Nat}:∀ (F:List Nat),ren α (cX (F.map .v) (.a 0))=cX ((F.map α).map .v) (.a 0)
  |[]=>rfl
  |x::F=>by
    show T.s 0 (.cons (.v (α x)) (.cons (ren α (cX (F.map .v) (.a 0))) .nil))=_
    rw [qW F];rfl
section
variable {α:Nat->Nat} {c:Cfg} {σ:St} {Y:Sym} {H:List Cell} {W n m ax:Nat} {as:List (Nm×V)} {v0 p1 p2 p3:Cell} {G s1 s2:T} {fs:List T} {R R1:Option (Bd×(Nat->T))}
theorem Pr.sol {B B1:Bd} {s t1:Nat->T} {t u:T} (S:Sol B s) (P:Pr α B s t u (some (B1,t1))):Sol B1 t1:=by
  cases P with
  |leaf L=>exact (L.sol S).1
  |one _ _ L=>exact (L.sol S).1
  |two _ _ _ L L'=>exact (L'.sol (L.sol S).1).1
theorem Imp.nil:Imp α Y H [] H:=⟨Nat.le_refl _,Nat.le_add_right _ _,fun _ _ h _=>h,fun _ _ h=>nomatch h⟩
set_option maxHeartbeats 2000000 in
theorem Be (M:Mem c σ Y H) (N:iD c m ax as [v0,p1,p2,p3] σ) (hx:ax≠c.hp) (hα:∀ x y,α x=α y->x=y) (hG:eM G=false) (hfs:fs≠[]) (r1:Rep 1 Y H p1 (ren α (wh fs G))) (r2:Rep 1 Y H p2 (ren α s1)) (r3:Rep 1 Y H p3 (ren α s2))
    (zf:∀ f∈fs,sz f<=2000) (lf:fs.length<=10) (zG:sz G<=2000) (hW:2300<W) (hH:H.length<=80000)
    (P1:Pr α [] .v s1 (cX ((fnd fs G).map .v) (.a 0)) R1) (P2:(R1=none/\R=none)\/∃ B1 t1,R1=some (B1,t1)/\B1.length<=4/\(∀ x,s2=.v x->assoc B1 x=none)/\Pr α B1 t1 s2 G R):
    ∃ σ' ex,af W (n+9) true .bt [.ref m] σ=some (.ok (.bool R.isSome),σ')/\Kp [c.hp] σ σ'/\∀ B' s',R=some (B',s')->∃ H',(Imp α Y (H++ex) B' H'/\ex.length<=100000)/\Mem c σ' Y H':=by
  have:=dB (W:=W) (n:=n+8) (hs:=true) (f:=.bt) (args:=[.ref m]) (σ:=σ) (b:=bz) (P:=fun v σ'=>v=.bool R.isSome/\Kp [c.hp] σ σ'/\∃ ex,∀ B' s',R=some (B',s')->∃ H',(Imp α Y (H++ex) B' H'/\ex.length<=100000)/\Mem c σ' Y H') rfl rfl ?_
  · obtain ⟨v,σ',e,rfl,q1,ex,q2⟩:=this
    exact ⟨σ',ex,e,q1,q2⟩
  refine E22 r1 fun d1 k1 hd1 hk1 ht1=>?_
  refine E22 r2 fun d2 k2 hd2 hk2 ht2=>?_
  have hmx:m≠c.hp:=aQ N.mi M.hp (by simp)
  have kp:∀ {σ':St} {x},Kp [c.hp] σ σ'->x≠c.hp->x∉[c.hp]:=fun _ h=>by simpa using h
  refine aa (av (aH rfl N.mi N.ls)) (aa (av (e_m rfl N.mi rfl (ab rfl) (oR (n:=n+5) (i:=1) M N rfl hd1 ht1.vw (by lia)))) ?_)
  have ec:=lh (W:=W) (n:=n+6) (hs:=true) M ht1
  rw [ip,show eM (wh fs G)=true by cases fs with | nil=>exact (hfs rfl).elim | cons f fs=>rfl] at ec
  refine aa (aN (eK (b:=true) (aV (ae rfl (ab rfl)) ec))) (aa (av (v:=.ref σ.length) (σ1:=σ++[.dI []]) rfl) (aa (av rfl) (aj ?_)))
  refine qO (n:=n+4) (b:=σ.length) (α:=α) hG (by (refine Nat.lt_of_le_of_lt ?_ (by assumption);decide)) fs (K:=[]) (kvs:=[]) (M.app _) ht1 ⟨Nat.le_refl _,fun p=>rfl⟩ bb zf (by simp;lia) (by lia) fun d' kvs' σ2 x5 hd' hk' hb' hK=>?_
  have K2:Kp [] σ σ2:=fun i o h _=>hK i o (aq h) (by have:=aC h;simp;exact Nat.ne_of_lt (by assumption))
  have M2:=M.kp K2 fun i h=>nomatch h
  have M3:=M2.app [.list []]
  refine E10 (kH (W:=W) (n:=n+4) (hs:=true) M3 (Rep.ofD hd') (by rw [ew];(refine Nat.le_trans (by assumption) ?_;decide)) (by rw [ew];lia)) fun j ev1=>?_
  have hvl:=dd (ren α G) []
  rw [ew] at hvl
  refine aa (av (b7 rfl rfl)) (aj (dy (aV (ae rfl (ab rfl)) ev1) (aO bb) ?_))
  refine BR (F:=vfs (ren α G) []) (fl:=σ2.length) hk' (by simp at hvl;lia) (aq (aq hb')) bb (by rw [List.length_append];simp) (aq bb) fun σ4 x5 hf4 hK4=>?_
  rw [← zy hα fs] at hf4
  have K4:Kp [] σ σ4:=fun i o h _=>hK4 i o (aq (aq (K2 i o h (by simp)))) (by have:=aC (K2 i o h (by simp));simp;exact Nat.ne_of_lt (by assumption))
  have M4:=M.kp K4 fun i h=>nomatch h
  have N4:=N.kp K4 (by simp) (by simp)
  refine E32 (za (n:=n+4) (W:=W) M4 hf4 (fun p hp=>by
    refine E11 (List.mem_map.mp hp) fun x hx z2=>?_
    subst z2
    have:=((b9 G []).mp (List.mem_filter.mp hx).1).elim (fun h=>nomatch h) id
    exact hd'.un (by rw [jJ hα];exact this)) (by have:=List.length_filter_le (fun x=>!decide (x∈fs.foldl (fun F t=>vfs t F) [])) (vfs G []);have:=dd G [];rw [List.length_map];unfold fnd;simp at this;lia) (by (refine Nat.lt_of_le_of_lt ?_ (by assumption);decide))) fun bx ex J eb hbl rb=>?_
  rw [← qW] at rb
  have M5:Mem c (aY c σ4 (H++ex)++J) Y (H++ex):=(M4.aY _).app J
  have K5:Kp [c.hp] σ (aY c σ4 (H++ex)++J):=((K4.mono fun _ h=>nomatch h).trans (Kp.set (.head _))).trans Kp.app
  have N5:=N.kp K5 (kp K5 hmx) (kp K5 hx)
  have hfl:=List.length_filter_le (fun x=>!decide (x∈fs.foldl (fun F t=>vfs t F) [])) (vfs G [])
  have hex:ex.length<=10000:=by
    have:=dd G []
    rw [List.length_map] at hbl
    unfold fnd at hbl
    simp at this
    lia
  have hHx:(H++ex).length<=100000:=by rw [List.length_append];lia
  have hex:ex.length<=100000:=by (refine Nat.le_trans (by assumption) ?_;decide)
  refine E12 (tD (n:=n) (W:=W) M5 hα Sol.nil Imp.nil P1 (iy hα hex (Rep.ofD ht2)) rb (by (refine Nat.lt_of_le_of_lt ?_ (by assumption);decide)) (by decide) (by (refine Nat.le_trans (by assumption) ?_;decide))) fun σ6 e6 K6 q6=>?_
  have K6':=K5.trans K6
  have N6:=N.kp K6' (kp K6' hmx) (kp K6' hx)
  have eu:ev (af W (n+8) true) true (.mcall (.loc 0) .lC (.cons (.mcall (.loc 0) .kM (.cons (.int 2) .nil)) (.cons (.mcall (.loc 1) .gr (.cons (.loc 6) .nil)) .nil))) ⟨[some (.ref m),some (.ref c.st),some (cv d1),some (.ref σ.length),some (cv d'),x5,some (.ref σ2.length)],[]⟩ σ4=some (.bool R1.isSome,σ6):=
    e_m rfl N4.mi rfl (ae (e_m rfl N4.mi rfl (ab rfl) (oR (n:=n+5) (i:=2) M4 N4 rfl hd2 ht2.vw (by lia))) (ab (e_m rfl M4.st rfl (ab rfl) eb))) (qp N5 e6)
  rcases P2 with ⟨rfl,rfl⟩ | ⟨B1,t1,rfl,hB1,hs2,P2⟩
  · exact aj (aw (eK (b:=false) eu) (aA (aB rfl) ⟨rfl,K6',ex,fun _ _ h=>nomatch h⟩))
  · refine E11 (q6 _ _ rfl) fun H' I' M'=>?_
    have hS:=P1.sol Sol.nil
    refine E22 (iy hα hex r3) fun d3 k3 hd3 hk3 ht3=>?_
    refine E11 (I'.tail hα (.stop hs2) ht3) fun d3' hd4 ht4=>?_
    have hl2:H'.length<=900000:=by have:=I'.top;lia
    refine E12 (tD (n:=n) (W:=W) M' hα hS I' P2 (Rep.ofD ht4) (iy hα hex (Rep.ofD hd')) (by (refine Nat.lt_of_le_of_lt ?_ (by assumption);decide)) (by (refine Nat.le_trans (by assumption) ?_;decide)) hl2) fun σ7 e7 K7 q7=>?_
    have n3:d3'.1≠1:=ht4.vw
    refine aa (aN (eK (b:=true) eu)) (aA (aB (e_m rfl N6.mi rfl (ae (e_m rfl N6.mi rfl (ab rfl) (oR (n:=n+5) (i:=3) M' N6 rfl (I'.pre hd3 hd4) n3 (by lia))) (ab rfl)) (qp N6 e7))) ⟨rfl,K6'.trans K7,ex,fun B s h=>let ⟨H2,a,b⟩:=q7 B s h;⟨H2,⟨a,hex⟩,b⟩⟩)
end
section
variable {C:Bool->aD} {hs:Bool} {fr:Fr} {α:Nat->Nat} {c:Cfg} {σ σ1:St} {Y:Sym} {H:List Cell} {W n m ax:Nat} {as:List (Nm×V)} {v0 p1 p2 p3:Cell} {G t:T}
theorem x_raise {e:ME} {k:Nat} {x:V} (h:ev (C true) true e fr σ=some (.ref k,σ1)) (ho:σ1[k]?=some (.exc x true)):evS C W true (.raise e) fr σ=some (.err (.ref k),fr,σ1.set k (.exc x false)):=by
  refine aI h ?_
  show onE σ1[k]? _=_
  rw [ho];rfl
theorem AX {s r:MS} {v:V} {Q:Fl->Fr->St->Prop} {fr1:Fr} (h:evS C W hs s fr σ=some (.err v,fr1,σ1)) (q:Q (.err v) fr1 σ1):Ends (evS C W hs (.cons s r) fr σ) Q:=cc h (.of rfl q)
theorem Aw {f:Fn} {args:List V} {b:MS} {x:V} {σ':St} (hb:(fe f).body=b) (hl:decide ((cU (fe f).params.length (fe f).dfl args).length=(fe f).params.length)=true)
    (h:Ends (evS (af W n) W hs b (frameOf (fe f) args) σ) fun fl _ σ1=>fl=.err x/\σ1=σ'):af W (n+1) hs f args σ=some (.error x,σ'):=by
  subst hb
  refine E32 h fun _ fr1 _ e z4 z5=>?_
  subst z4
  subst z5
  show gd _ _=_
  rw [hl]
  exact ay e rfl
theorem qG:jx hs .isinstance [tv t,.ty .str] σ=some (.bool false,σ):=by cases t<;>rfl
theorem SMem.lt {A:List Nat} (M:SMem c σ Y) (hA:A ⊆ [c.tx,c.an,c.fu,c.fn]):σ.length∉A:=fun h=>by
  have h1:=aC M.tx;have h2:=aC M.an;have h3:=aC M.fu;have h4:=aC M.fn
  have:=hA h
  simp only [List.mem_cons,List.not_mem_nil,or_false] at this
  lia
noncomputable def fJ (Y:Sym):Sym:=iE (bC Y .ak) .aL 2
noncomputable def Am (Y:Sym) (t:T):T:=.s (fno (bC Y .ak) .aL 2) (.cons (.a (ix (bC Y .ak).ts .ak)) (.cons t .nil))
noncomputable def fK (Y:Sym) (t:T):T:=.s 16 (.cons (Am Y t) (.cons (.a 25) .nil))
theorem wo (M:SMem c σ Y) (hd:c.tx≠c.fu) (hl:Y.ts.length<800000) (hf:Y.fs.length<800000):∃ σ',af W (n+3) hs .nD [.ref c.sy,.str .aL,.tup [.str .ak,tv t]] σ=some (.ok (tv (Am Y t)),σ')/\SMem c σ' (fJ Y)/\Kp [c.tx,c.an,c.fu,c.fn] σ σ':=by
  refine E12 (oO (W:=W) (n:=n+1) (hs:=hs) (M.app [.list []]) hd .ak (by (refine Nat.le_trans (by assumption) ?_;decide))) fun σ1 e1 M1 K1=>?_
  have g0:(σ++[O.list []])[σ.length]?=some (.list []):=bb
  have nin:σ.length∉[c.tx,c.an]:=M.lt (by simp)
  have g1:=K1 _ _ g0 nin
  have e2:=bp (x:=.tup [.str .t_a,.int (ix (bC Y .ak).ts .ak)]) g1 rfl
  have g2:=bc (x:=.list [.tup [.str .t_a,.int (ix (bC Y .ak).ts .ak)]]) g1
  have e3:=bp (x:=tv t) g2 rfl
  have g3:=bc (x:=.list [.tup [.str .t_a,.int (ix (bC Y .ak).ts .ak)],tv t]) g2
  have ns:∀ i∈[σ.length],i∉[c.sy,c.tx,c.an,c.fu,c.fn]:=fun i hi=>by
    rw [List.mem_singleton.mp hi]
    have h1:=aC M.tx;have h2:=aC M.an;have h3:=aC M.fu;have h4:=aC M.fn;have h5:=aC M.sy
    simp only [List.mem_cons,List.not_mem_nil,or_false]
    lia
  have M3:SMem c ((σ1.set σ.length (.list [.tup [.str .t_a,.int (ix (bC Y .ak).ts .ak)]])).set σ.length (.list [.tup [.str .t_a,.int (ix (bC Y .ak).ts .ak)],tv t])) (bC Y .ak):=(M1.kp (Kp.set (.head _)) ns).kp (Kp.set (.head _)) ns
  refine E12 (rG (W:=W) (n:=n) (hs:=hs) M3 hd .aL 2 (by have:=(eD (Y:=Y) (t:=.ak)).1;lia) (by rw [eD.2];(refine Nat.le_trans (by assumption) ?_;decide))) fun σ4 e4 M4 K4=>?_
  have g4:=K4 _ _ g3 (M.lt (fun _ h=>h))
  refine ⟨σ4,b6 rfl rfl (aa (av (b7 rfl rfl)) (aj (dy rfl rfl (dg rfl (x:=.str .ak) rfl ?_)))),M4,fun i o hi hA=>K4 _ _ ?_ hA⟩
  · refine aa (aS (cE rfl g0 rfl (fun _=>nofun) (ab (mj (bF (ae rfl (ab rfl)) rfl) (au (ae rfl (ab (e_m rfl (M.app _).sy rfl (ab rfl) e1))) rfl))) e2)) (ao ?_)
    refine dg rfl (x:=tv t) rfl ?_
    refine aa (aS (cE rfl g2 rfl (fun _=>nofun) (ab (j6 (bF (ae rfl (ab rfl)) qG) rfl)) e3)) (ao ?_)
    refine kJ rfl (Nat.le_refl 2) ?_
    exact aA (aB (au (ae rfl (ae (e_m rfl M3.sy rfl (ae rfl (ab (bF (ab rfl) (bD g3)))) e4) (ab (bF (ab rfl) (jr g4 rfl))))) rfl)) ⟨rfl,rfl⟩
  · have hne:σ.length≠i:=fun z=>by have:=aC hi;lia
    exact (aF hne).trans ((aF hne).trans (K1 i o (aq hi) fun h=>hA (List.mem_append_left [c.fu,c.fn] h)))
theorem rH (M:Mem c σ Y H) (N:iD c m ax as [v0,p1,p2,p3] σ) (hG:eM G=false) (r1:Rep 1 Y H p1 (ren α G)) (zG:sz G<=1500) (hW:4000<W) (hl:Y.ts.length<800000) (hf:Y.fs.length<800000):
    ∃ σ' e,af W (n+6) true .bt [.ref m] σ=some (.error (.ref e),σ')/\σ'[e]?=some (.exc (tv (fK Y (ren (idx (vfs (ren α G) [])) (ren α G)))) false)/\Kp [c.tx,c.an,c.fu,c.fn] σ σ':=by
  refine E22 r1 fun d1 k1 hd1 hk1 ht1=>?_
  have hd:c.tx≠c.fu:=by have:=M.dj;simp at this;exact this.1.1
  refine E10 (wA (n:=n) (W:=W) (a:=σ.length) (F:=[]) (M.app [.dI []]) bb (Rep.ofD ht1) (by rw [ew];assumption) (by simp) (by rw [ew];lia)) fun J et=>?_
  have hbig:∃ r,ren (idx (vfs (ren α G) [])) (ren α G)=r:=⟨_,rfl⟩
  refine E10 hbig fun r hr=>?_
  rw [hr] at et ⊢
  have K1:Kp [] σ (eO (σ++[.dI []]) σ.length (tb (vfs (ren α G) []))++J):=fun i o h _=>aq ((aF (by have:=aC h;exact Nat.ne_of_gt (by assumption))).trans (aq h))
  have M1:=M.kp K1 fun i h=>nomatch h
  refine E12 (wo (W:=W) (n:=n+1) (hs:=true) (t:=r) M1.toSMem hd hl hf) fun σ2 ef M2 K2=>?_
  have ese:af W (n+4) true .jQ [tv (Am Y (r))] σ2=some (.ok (.ref σ2.length),σ2++[.exc (tv (fK Y (r))) true]):=
    b6 rfl rfl (aA (aB (mh rfl (ab (au (ae rfl (ae rfl (ab (au (ae rfl (ab (au (ae rfl (ab rfl)) rfl))) rfl)))) rfl)) rfl)) ⟨rfl,rfl⟩)
  have ete:af W (n+5) true .mP [.ref c.sy,.str .ak,tv (r)] (eO (σ++[.dI []]) σ.length (tb (vfs (ren α G) []))++J)=some (.ok (.ref σ2.length),σ2++[.exc (tv (fK Y (r))) true]):=
    b6 rfl rfl (aA (aB (aV (ab (aV (ae rfl (ae rfl (ab (au (ae rfl (ab rfl)) rfl)))) ef)) ese)) ⟨rfl,rfl⟩)
  have ea:ev (af W (n+4) true) true (.cons (.loc 1) (.cons (.dict0 .I) .nil)) ⟨[some (.ref m),some (cv d1)],[]⟩ σ=some (.tup [cv d1,.ref σ.length],σ++[.dI []]):=ae (x:=cv d1) (xs:=[.ref σ.length]) (σ1:=σ) (σ2:=σ++[.dI []]) rfl (ae (x:=.ref σ.length) (xs:=[]) (σ1:=σ++[.dI []]) (σ2:=σ++[.dI []]) rfl rfl)
  have etk:af W (n+5) true .lI [.ref m,cv d1] σ=some (.ok (tv (r)),eO (σ++[.dI []]) σ.length (tb (vfs (ren α G) []))++J):=
    b6 rfl rfl (aA (aB (e_m (aH rfl N.mi N.ls) M.st rfl ea et)) ⟨rfl,rfl⟩)
  have ec:=lh (W:=W) (n:=n+3) (hs:=true) M ht1
  rw [ip,hG] at ec
  have hb:(σ2++[O.exc (tv (fK Y (r))) true])[σ2.length]?=some (.exc (tv (fK Y (r))) true):=bb
  have run:Ends (evS (af W (n+5)) W true bz (frameOf (fe .bt) [.ref m]) σ) fun fl _ σ'=>fl=.err (.ref σ2.length)/\σ'=(σ2++[O.exc (tv (fK Y (r))) true]).set σ2.length (.exc (tv (fK Y (r))) false):=by
    refine aa (av (aH rfl N.mi N.ls)) (aa (av (e_m rfl N.mi rfl (ab rfl) (oR (n:=n+2) (i:=1) M N rfl hd1 ht1.vw (by lia)))) (aj ?_))
    refine aw (eK (b:=false) (aV (ae rfl (ab rfl)) ec)) (AX (x_raise (aV (ae (aH rfl N.mi N.ly) (ae rfl (ab (e_m rfl N.mi rfl (ab rfl) etk)))) ete) hb) ⟨rfl,rfl⟩)
  refine ⟨_,σ2.length,Aw rfl rfl run,bc hb,fun i o h hA=>?_⟩
  have h1:=K2 i o (K1 i o h (by simp)) hA
  exact (aF (by have:=aC h1;exact Nat.ne_of_gt (by assumption))).trans (aq h1)
end
section
variable {C:Bool->aD} {hs:Bool} {fr:Fr} {σ σ0:St} {W n sy:Nat} {l l':St}
theorem fh {e:ME} {m:Nm} {v:V} {cl:Cl ()} {as:List (Nm×V)} {k:Nat} {i:Nat} (h:ev (C hs) hs e fr σ0=some (v,σ++l)) (hl:fr.locs[i]?.join=some (.ref (σ.length+k))) (ho:l[k]?=some (.inst cl as)) (hm:(cS cl m).isNone=true) (ha:decide (as.length<40)=true) (hσ:l.set k (.inst cl (fN as m v))=l'):
    evS C W hs (.setattr (.loc i) m e) fr σ0=some (.nxt,fr,σ++l'):=
  tg h hl (aE.trans ho) hm (of_decide_eq_true ha) (cq.trans (by rw [hσ]))
noncomputable def a5 (sy L:Nat):List (Nm×V):=[(.aW,.ref sy),(.r7,.ref L),(.a8,.int 100000),(.gY,.bool true),(.i8,.int 4096)]
noncomputable def stI (sy L:Nat):List (Nm×V):=[(.aW,.ref sy),(.a8,.int 100000),(.aX,.ref (L+3)),(.gw,.ref (L+4)),(.jH,.ref (L+5)),(.zP,.int 0),(.zO,.int 0)]
noncomputable def fC:V:=.tup [.int 5,.int 0]
noncomputable def vR (sy L:Nat):List (Nm×V):=[(.aW,.ref sy),(.r7,.ref L),(.a8,.int 100000),(.gY,.bool true),(.i8,.int 4096),(.b8,.ref (L+2)),(.n_x,.ref (L+6)),(.n_p,.int 0),(.C1,.int 0),(.n_e,.int (-1)),(.n_b,.int (-1)),(.C0,.int (-1)),(.xB,.str .yl),(.n_s,.int 0),(.ug,fC),(.ui,.ref (L+7)),(.xA,.ref (L+8)),(.fU,.bool false)]
theorem wO {xs:List V} {args:ME} {C:aD} (h:ev C hs args fr σ0=some (.tup xs,σ++l)) (hf:fits xs.length=true) {k:Nat} (hk:l.length=k):ev C hs (.list args) fr σ0=some (.ref (σ.length+k),σ++(l++[.list xs])):=by subst hk;exact j7 h hf
theorem zb:af W (n+1) hs .fk [.ref (σ.length+2),.ref sy,.int 100000] (σ++[.list [],.inst .areas (a5 sy σ.length),.inst .store []])=some (.ok .none,σ++[.list [],.inst .areas (a5 sy σ.length),.inst .store (stI sy σ.length),.list [],.list [],.list []]):=by
  refine fM rfl rfl ?_
  refine aa (fh (k:=2) (cl:=.store) (as:=[]) (l:=[.list [],.inst .areas (a5 sy σ.length),.inst .store []]) rfl rfl rfl rfl rfl rfl) ?_
  refine aa (fh (k:=2) (cl:=.store) (l:=[.list [],.inst .areas (a5 sy σ.length),.inst .store [(.aW,.ref sy)]]) rfl rfl rfl rfl rfl rfl) ?_
  refine aa (fh (k:=2) (cl:=.store) (as:=[(.aW,.ref sy),(.a8,.int 100000)]) (wO (k:=3) (l:=[.list [],.inst .areas (a5 sy σ.length),.inst .store [(.aW,.ref sy),(.a8,.int 100000)]]) rfl rfl rfl) rfl rfl rfl rfl rfl) ?_
  refine aa (fh (k:=2) (cl:=.store) (as:=[(.aW,.ref sy),(.a8,.int 100000),(.aX,.ref (σ.length+3))]) (wO (k:=4) (l:=[.list [],.inst .areas (a5 sy σ.length),.inst .store [(.aW,.ref sy),(.a8,.int 100000),(.aX,.ref (σ.length+3))],.list []]) rfl rfl rfl) rfl rfl rfl rfl rfl) ?_
  refine aa (fh (k:=2) (cl:=.store) (as:=[(.aW,.ref sy),(.a8,.int 100000),(.aX,.ref (σ.length+3)),(.gw,.ref (σ.length+4))]) (wO (k:=5) (l:=[.list [],.inst .areas (a5 sy σ.length),.inst .store [(.aW,.ref sy),(.a8,.int 100000),(.aX,.ref (σ.length+3)),(.gw,.ref (σ.length+4))],.list [],.list []]) rfl rfl rfl) rfl rfl rfl rfl rfl) ?_
  refine aa (fh (k:=2) (cl:=.store) rfl rfl rfl rfl rfl rfl) (aa (fh (k:=2) (cl:=.store) rfl rfl rfl rfl rfl rfl) (ao ⟨rfl,rfl⟩))
noncomputable def lR (sy L k:Nat) (x:St):St:=.list []::.inst .areas ((vR sy L).take k)::.inst .store (stI sy L)::.list []::.list []::.list []::x
theorem x_r {e:ME} {m:Nm} {v:V} {k:Nat} {x:St} {fr:Fr} (h:ev (C hs) hs e fr σ0=some (v,σ++lR sy σ.length k x)) (hl:fr.locs[0]?.join=some (.ref (σ.length+1))) (hm:(cS .areas m).isNone=true) (ha:decide (((vR sy σ.length).take k).length<40)=true) (hσ:fN ((vR sy σ.length).take k) m v=(vR sy σ.length).take (k+1)):
    evS C W hs (.setattr (.loc 0) m e) fr σ0=some (.nxt,fr,σ++lR sy σ.length (k+1) x):=fh (k:=1) (cl:=.areas) h hl rfl hm ha (by rw [hσ];rfl)
theorem zc:af W (n+2) hs .kq [.ref (σ.length+1)] (σ++[.list [],.inst .areas (a5 sy σ.length)])=some (.ok .none,σ++lR sy σ.length 18 [.list [fC],.list [],.dI []]):=by
  have g:(σ++[O.list [],.inst .areas (a5 sy σ.length)])[σ.length+1]?=some (.inst .areas (a5 sy σ.length)):=aE
  have e0:(σ++[O.list [],.inst .areas (a5 sy σ.length)]).length=σ.length+2:=List.length_append
  have ec:=tQ (C:=af W (n+1) hs) (hs:=hs) (fr:=⟨[some (.ref (σ.length+1))],[]⟩) (cl:=.store) (args:=.cons (.attr (.loc 0) .aW) (.cons (.attr (.loc 0) .a8) .nil)) (by simp) (ae (aH rfl g rfl) (ab (aH rfl g rfl))) (σ2:=σ++lR sy σ.length 5 []) (by rw [e0,List.append_assoc];exact zb)
  rw [e0] at ec
  refine fM rfl rfl ?_
  refine aa (x_r ec rfl rfl rfl rfl) ?_
  refine aa (x_r (x:=[.list [fC]]) (wO (k:=6) (l:=lR sy σ.length 6 []) (ab rfl) rfl rfl) rfl rfl rfl rfl) ?_
  refine aa (x_r rfl rfl rfl rfl rfl) (aa (x_r rfl rfl rfl rfl rfl) (aa (x_r (fF rfl) rfl rfl rfl rfl) (aa (x_r (fF rfl) rfl rfl rfl rfl) (aa (x_r (fF rfl) rfl rfl rfl rfl) (aa (x_r rfl rfl rfl rfl rfl) (aa (x_r rfl rfl rfl rfl rfl) (aa (x_r rfl rfl rfl rfl rfl) ?_)))))))
  refine aa (x_r (x:=[.list [fC],.list []]) (wO (k:=7) (l:=lR sy σ.length 15 [.list [fC]]) rfl rfl rfl) rfl rfl rfl rfl) ?_
  refine aa (x_r (x:=[.list [fC],.list [],.dI []]) (v:=.ref (σ.length+8)) ?_ rfl rfl rfl rfl) (aa (x_r rfl rfl rfl rfl rfl) (ao ⟨rfl,rfl⟩))
  exact o5 (l:=lR sy σ.length 16 [.list [fC],.list []])
theorem y9:af W (n+3) hs .de [.ref (σ.length+1),.ref sy,.ref σ.length] (σ++[.list [],.inst .areas []])=some (.ok .none,σ++lR sy σ.length 18 [.list [fC],.list [],.dI []]):=by
  have st:∀ {e:ME} {m:Nm} {v:V} {k:Nat} {fr:Fr},fr.locs[0]?.join=some (.ref (σ.length+1))->ev (af W (n+2) hs) hs e fr (σ++[.list [],.inst .areas ((a5 sy σ.length).take k)])=some (v,σ++[.list [],.inst .areas ((a5 sy σ.length).take k)])->(cS .areas m).isNone=true->decide (((a5 sy σ.length).take k).length<40)=true->fN ((a5 sy σ.length).take k) m v=(a5 sy σ.length).take (k+1)->
      evS (af W (n+2)) W hs (.setattr (.loc 0) m e) fr (σ++[.list [],.inst .areas ((a5 sy σ.length).take k)])=some (.nxt,fr,σ++[.list [],.inst .areas ((a5 sy σ.length).take (k+1))]):=fun {e m v k fr} h0 h hm ha hp=>
    fh (k:=1) (cl:=.areas) (l:=[.list [],.inst .areas ((a5 sy σ.length).take k)]) h h0 rfl hm ha (by rw [hp];rfl)
  have g:(σ++[O.list [],.inst .areas (a5 sy σ.length)])[σ.length+1]?=some (.inst .areas (a5 sy σ.length)):=aE
  refine fM rfl rfl ?_
  refine aa (st (k:=0) rfl rfl rfl rfl rfl) (aa (st (k:=1) rfl rfl rfl rfl rfl) (aa (st (k:=2) rfl rfl rfl rfl rfl) (aa (st (k:=3) rfl rfl rfl rfl rfl) (aa (st (k:=4) rfl rfl rfl rfl rfl) (aa (aS (e_m rfl g rfl rfl zc)) (ao ⟨rfl,rfl⟩))))))
noncomputable def cfg (sy tx an fu fn L:Nat):Cfg:=⟨sy,tx,an,fu,fn,L+2,L+3,L+4,L+5⟩
theorem AG {Y:Sym} {c:Cfg} (M:SMem c σ Y) (hd:c.tx≠c.fu):Mem (cfg c.sy c.tx c.an c.fu c.fn σ.length) (σ++lR c.sy σ.length 18 [.list [fC],.list [],.dI []]) Y []/\
    iD (cfg c.sy c.tx c.an c.fu c.fn σ.length) (σ.length+1) (σ.length+6) (vR c.sy σ.length) [(5,0)] (σ++lR c.sy σ.length 18 [.list [fC],.list [],.dI []]):=by
  have h1:=aC M.tx
  have h2:=aC M.fu
  refine ⟨⟨⟨aq M.sy,aq M.tx,aq M.an,aq M.fu,aq M.fn⟩,aE (k:=2),aE (k:=3),aE (k:=4),?_⟩,⟨aE (k:=1),rfl,rfl,rfl,rfl,aE (k:=6)⟩⟩
  simp only [cfg,List.nodup_cons,List.mem_cons,List.not_mem_nil,or_false,not_or,not_false_eq_true,and_true,List.nodup_nil]
  lia
theorem rI {c:Cfg} {m ax:Nat} {as:List (Nm×V)} {xs:List Cell} {p:Cell} (N:iD c m ax as xs σ) (hW:2<W) (hl:xs.length<100):af W (n+1) hs .ku [.ref m,.int xs.length,cv p] σ=some (.ok .none,σ.set ax (.list ((xs++[p]).map cv))):=by
  obtain ⟨W,rfl⟩:∃ k,W=k+2:=⟨W - 2,by lia⟩
  have hne:ax≠m:=aQ N.xl N.mi (by simp)
  have g1:(σ.set ax (.list (xs.map cv++[fC])))[m]?=some (.inst .areas as):=(aF hne).trans N.mi
  have g2:(σ.set ax (.list (xs.map cv++[fC])))[ax]?=some (.list (xs.map cv++[fC])):=bc N.xl
  refine fM rfl rfl (aj (hZ (ai (bF (ab (aH rfl N.mi N.lx)) (bD N.xl)) rfl (congrArg some (decide_eq_true (by rw [List.length_map];lia)))) ?_))
  refine aa (aS (cE (aH rfl N.mi N.lx) N.xl rfl (fun _=>nofun) (ab rfl) (bp N.xl (fits_of (by rw [List.length_map];(refine Nat.le_trans (by assumption) ?_;decide)))))) (ao ?_)
  refine f5 (x:=.bool false) (ai (bF (ab (aH rfl g1 N.lx)) (bD g2)) rfl (congrArg some (decide_eq_false (by rw [List.length_append,List.length_map];show ¬ ((xs.length+1:Nat):Int)<=xs.length;lia)))) (.of rfl ?_)
  refine aa (aM rfl (aH rfl g1 N.lx) rfl (dh g2 (Int.natCast_nonneg _) (by rw [List.length_append,List.length_map];simp))) (ao ⟨rfl,?_⟩)
  rw [List.set_set,Int.toNat_natCast,pF (by rw [List.length_map]),List.map_append];rfl
end
section
variable {C:aD} {hs:Bool} {fr:Fr} {σ σ0 σ1 σ2:St} {W n:Nat} {c:Cfg} {Y:Sym}
theorem ij {body:V->St->Option (Option V×St)} {it y x z:V} {d i:Nat} {r xs acc:List V} {Q:Option St->Prop} (hit:itemsOf it σ=some xs) (hx:xs[i]?=some x) (h:body x σ=some (some z,σ1)) (hd:σ1[d]?=some (.list acc)) (hl:acc.length<1000000) (k:Q (cj body it d r (i+1) (σ1.set d (.list (acc++[z]))))):Q (cj body it d (y::r) i σ):=by
  have e:cj body it d (y::r) i σ=cj body it d r (i+1) (σ1.set d (.list (acc++[z]))):=by
    show bh (itemsOf it σ) _=_
    rw [hit]
    show bh xs[i]? _=_
    rw [hx]
    show bh (body x σ) _=_
    rw [h]
    show bnd (gE .append d [z] σ1) _=_
    rw [bp hd (fits_of hl)];rfl
  rw [e];exact k
theorem rJ {body:V->St->Option (Option V×St)} {it:V} {d i:Nat} {xs:List V} (hit:itemsOf it σ=some xs) (hi:xs.length<=i):cj body it d [] i σ=some σ:=by
  show bh (itemsOf it σ) _=_
  rw [hit]
  show gd (decide (xs.length<=i)) _=_
  rw [decide_eq_true hi];rfl
structure Pt (c:Cfg) (Y:Sym) (ta d:Nat) (σ0:St) (H:List Cell) (tab:Tab) (acc:List Cell) (σ:St):Prop where
  m:Mem c σ Y H
  t:σ[ta]?=some (.dI (dm rf tab))
  l:σ[d]?=some (.list (acc.map cv))
  k:Kp [c.hp] σ0 σ
theorem mC {Hb H:List Cell} {tab:Tab} {acc:List Cell} {ta d m ax:Nat} {as:List (Nm×V)} {xs:List Cell} {t:T} (M0:Mem c σ0 Y Hb) (N:iD c m ax as xs σ0) (hm:m≠c.hp) (P:Pt c Y ta d σ0 H tab acc σ) (h0:σ0.length<=d) (h1:σ0.length<=ta) (hne:ta≠d) (hY:Y.fs[0]?=some (1,2)) (tb:lO H tab) (wf:Wf Y t) (rm:H.length+tab.length+6 * sz t+10<=90000) (hW:sz t+2<W):
    ∃ x H' tab' σ1,ev (af W (n+4) true) true (.mcall (.attr (.cell 0) .b8) .dU (.cons (.loc 0) (.cons (.cell 1) .nil))) ⟨[some (tv t)],[some (.ref m),some (.ref ta)]⟩ σ=some (cv x,σ1)/\σ1[d]?=some (.list (acc.map cv))/\PS Y H tab x t H' tab' []/\H'.length+tab'.length<=H.length+tab.length+6 * sz t+10/\
      Pt c Y ta d σ0 H' tab' (acc++[x]) (σ1.set d (.list (acc.map cv++[cv x]))):=by
  refine E42 (Cy (n:=n) P.m hY P.t tb wf rm hW) fun x H' tab' J e ps hl=>?_
  have g1:=aC M0.sy;have g2:=aC M0.tx;have g3:=aC M0.an;have g4:=aC M0.fu;have g5:=aC M0.fn;have g6:=aC M0.st;have g7:=aC M0.hp;have g8:=aC M0.sp
  have hd:(σq c ta σ H' tab' J)[d]?=some (.list (acc.map cv)):=aq ((aF (by lia)).trans ((aF hne).trans P.l))
  refine ⟨x,H',tab',_,e_m (aH rfl (P.k _ _ N.mi (by simpa using hm)) N.ls) P.m.st rfl (ae rfl (ab rfl)) e,hd,ps,hl,(qR P.m P.t).kp (Kp.set (A:=[d]) (.head _)) fun i hi=>?_,(aF (Ne.symm hne)).trans (uz P.m P.t),(bc hd).trans (by rw [List.map_append];rfl),fun i o hi hA=>?_⟩
  · rw [List.mem_singleton.mp hi]
    simp only [List.mem_cons,List.not_mem_nil,or_false]
    lia
  · have:=aC hi
    have hA':c.hp≠i:=fun z=>hA (by rw [z];exact .head _)
    exact (aF (by lia)).trans (aq ((aF hA').trans ((aF (by lia)).trans (P.k i o hi hA))))
theorem vd {m ax pl:Nat} {as:List (Nm×V)} {p0 p1 p2 p3:Cell} (N:iD c m ax as [p0] σ) (hW:2<W) (hl:σ[pl]?=some (.list ([p1,p2,p3].map cv))) (hne:ax≠pl):af W (n+2) hs .eT [.ref m,.ref pl] σ=some (.ok .none,σ.set ax (.list ([p0,p1,p2,p3].map cv))):=by
  have hm:ax≠m:=aQ N.xl N.mi (by simp)
  have up:∀ ys,iD c m ax as ys (σ.set ax (.list (ys.map cv))):=fun ys=>⟨(aF hm).trans N.mi,N.ls,N.lx,N.lo,N.ly,bc N.xl⟩
  have lp:∀ o,(σ.set ax o)[pl]?=some (.list ([p1,p2,p3].map cv)):=fun o=>(aF hne).trans hl
  have e1:=rI (W:=W) (n:=n) (hs:=hs) (p:=p1) N hW (by simp)
  have e2:=rI (W:=W) (n:=n) (hs:=hs) (p:=p2) (up [p0,p1]) hW (by simp)
  have e3:=rI (W:=W) (n:=n) (hs:=hs) (p:=p3) (up [p0,p1,p2]) hW (by simp)
  rw [List.set_set] at e2 e3
  refine fM rfl rfl (aa (av rfl) (aj (dy rfl (aO hl) (dg (aO hl) (x:=cv p1) rfl ?_))))
  refine aa (oi rfl rfl) (aa (aS (e_m rfl N.mi rfl (ae rfl (ab rfl)) e1)) (ao (dg (aO (lp _)) (x:=cv p2) rfl ?_)))
  refine aa (oi rfl rfl) (aa (aS (e_m rfl (up [p0,p1]).mi rfl (ae rfl (ab rfl)) e2)) (ao (dg (aO (lp _)) (x:=cv p3) rfl ?_)))
  refine aa (oi rfl rfl) (aa (aS (e_m rfl (up [p0,p1,p2]).mi rfl (ae rfl (ab rfl)) e3)) (ao (kJ (aO (lp _)) (Nat.le_refl 3) (ao ⟨rfl,rfl⟩))))
end
section
variable {C:aD} {hs:Bool} {fr:Fr} {σ:St} {W n:Nat} {c:Cfg} {Y:Sym} {Q:Fl->Fr->St->Prop}
noncomputable def al (tab:Tab) (x:Nat):Nat:=(assoc tab x).getD (1000000+x)
theorem jj {tab:Tab} {x p:Nat} (h:assoc tab x=some p):al tab x=p:=by unfold al;rw [h];rfl
theorem A0 {H:List Cell} {tab:Tab} (tb:lO H tab) (hl:H.length<=90000) (x y:Nat) (h:al tab x=al tab y):x=y:=by
  have lt:∀ z p,assoc tab z=some p->p<1000000:=fun z p e=>by have:=(List.getElem?_eq_some_iff.mp (tb.un z p e)).1;lia
  unfold al at h
  cases hx:assoc tab x with
  |some p=>
    cases hy:assoc tab y with
    |some q=>
      rw [hx,hy] at h
      have h:p=q:=h
      exact tb.inj x y p hx (h▸hy)
    |none=>
      rw [hx,hy] at h
      have h:p=1000000+y:=h
      have:=lt x p hx;lia
  |none=>
    cases hy:assoc tab y with
    |some q=>
      rw [hx,hy] at h
      have h:1000000+x=q:=h
      have:=lt y q hy;lia
    |none=>
      rw [hx,hy] at h
      have h:1000000+x=1000000+y:=h
      lia
structure Ready (c:Cfg) (Y:Sym) (m ax:Nat) (as:List (Nm×V)) (pl:Nat) (t1 t2 t3:T) (v0 p1 p2 p3:Cell) (H:List Cell) (α:Nat->Nat) (σ:St):Prop where
  me:Mem c σ Y H
  ma:iD c m ax as [v0,p1,p2,p3] σ
  li:σ[pl]?=some (.list ([p1,p2,p3].map cv))
  pn:pl≠c.hp
  inj:∀ x y,α x=α y->x=y
  r1:Rep 1 Y H p1 (ren α t1)
  r2:Rep 1 Y H p2 (ren α t2)
  r3:Rep 1 Y H p3 (ren α t3)
  hl:H.length<=80000
  ord:∀ x y,occ y t1=true->occ x t1=false->(occ x t2=true\/occ x t3=true)->α y<α x
noncomputable def cu:Nat->MS->MS
  |0,b=>b
  |k+1,.cons _ r=>cu k r
  |_,b=>b
theorem qa {m ax sl:Nat} {as:List (Nm×V)} {v0:Cell} {pr du:V} {t1 t2 t3:T} (M0:Mem c σ Y []) (N:iD c m ax as [v0] σ) (hxs:ax∉[c.tx,c.fu,c.hp,c.sp]) (hs1:σ[sl]?=some (.list ([t1,t2,t3].map tv))) (hsl:sl≠c.hp) (hY:Y.fs[0]?=some (1,2)) (w1:Wf Y t1) (w2:Wf Y t2) (w3:Wf Y t3) (z1:sz t1<=2000) (z2:sz t2<=2000) (z3:sz t3<=2000) (hW:2200<W)
    (k:∀ σ' pl p1 p2 p3 H α,Ready c Y m ax as pl t1 t2 t3 v0 p1 p2 p3 H α σ'->Kp [c.hp,ax] σ σ'->Ends (evS (af W (n+4)) W true (cu 3 cM) ⟨[some pr,some (.ref sl),some du,some (.ref pl),none,none,none,none,none,none,none,none],[some (.ref m),some (.ref σ.length)]⟩ σ') Q):
    Ends (evS (af W (n+4)) W true cM ⟨[some pr,some (.ref sl),some du,none,none,none,none,none,none,none,none,none],[some (.ref m),none]⟩ σ) Q:=by
  have hx:ax≠c.hp:=fun z=>hxs (by rw [z];simp)
  have hm:m≠c.hp:=aQ N.mi M0.hp (by simp)
  have P0:Pt c Y σ.length (σ.length+1) σ [] [] [] (σ++[.dI [],.list []]):=⟨M0.app _,aE (k:=0),aE (k:=1),Kp.app⟩
  refine E44 (mC (n:=n) (W:=W) M0 N hm P0 (by exact Nat.le_add_right _ _) (by exact Nat.le_refl _) (by lia) hY ⟨fun _ _ h=>(nomatch h),fun _ _ _ h=>nomatch h⟩ w1 (by simp;lia) (by lia)) fun x1 H1 tab1 σ1 e1 d1 ps1 l1 P1=>?_
  simp only [List.length_nil] at l1
  refine E44 (mC (n:=n) (W:=W) M0 N hm P1 (by exact Nat.le_add_right _ _) (by exact Nat.le_refl _) (by lia) hY ps1.tb w2 (by lia) (by lia)) fun x2 H2 tab2 σ2 e2 d2 ps2 l2 P2=>?_
  refine E44 (mC (n:=n) (W:=W) M0 N hm P2 (by exact Nat.le_add_right _ _) (by exact Nat.le_refl _) (by lia) hY ps2.tb w3 (by lia) (by lia)) fun x3 H3 tab3 σ3 e3 d3 ps3 l3 P3=>?_
  have itm:∀ {σ':St},Kp [c.hp] σ σ'->itemsOf (.ref sl) σ'=some ([t1,t2,t3].map tv):=fun K=>aO (K _ _ hs1 (by simpa using hsl))
  have ec:ev (af W (n+4) true) true (.comp (.loc 1) (.mcall (.attr (.cell 0) .b8) .dU (.cons (.loc 0) (.cons (.cell 1) .nil)))) ⟨[some pr,some (.ref sl),some du,none,none,none,none,none,none,none,none,none],[some (.ref m),some (.ref σ.length)]⟩ (σ++[.dI []])=some (.ref (σ.length+1),σ3.set (σ.length+1) (.list ([x1,x2].map cv++[cv x3]))):=by
    have e0:(σ++[O.dI []]).length=σ.length+1:=List.length_append
    have eb:∀ {v:V} {z:V} {σa σb:St},ev (af W (n+4) true) true (.mcall (.attr (.cell 0) .b8) .dU (.cons (.loc 0) (.cons (.cell 1) .nil))) ⟨[some v],[some (.ref m),some (.ref σ.length)]⟩ σa=some (z,σb)->(bnd (ev (af W (n+4) true) true (.mcall (.attr (.cell 0) .b8) .dU (.cons (.loc 0) (.cons (.cell 1) .nil))) ⟨[some v],[some (.ref m),some (.ref σ.length)]⟩ σa) fun y σ=>some (some y,σ))=some (some z,σb):=fun h=>by rw [h];rfl
    refine aI (x:=.ref sl) rfl (ay (x:=[t1,t2,t3].map tv) (itm Kp.app) ?_)
    rw [e0,List.append_assoc]
    refine ay (x:=σ3.set (σ.length+1) (.list ([x1,x2].map cv++[cv x3]))) ?_ rfl
    refine ij (Q:=(·=some _)) (itm P0.k) rfl (eb e1) d1 (by simp) ?_
    refine ij (Q:=(·=some _)) (itm P1.k) rfl (eb e2) d2 (by simp) ?_
    refine ij (Q:=(·=some _)) (itm P2.k) rfl (eb e3) d3 (by simp) ?_
    exact rJ (itm P3.k) (Nat.le_refl 3)
  have N3:=N.kp P3.k (by simpa using hm) (by simpa using hx)
  have hax:=aC N.xl
  have es:=vd (W:=W) (n:=n+2) (hs:=true) N3 (by (refine Nat.lt_of_le_of_lt ?_ (by assumption);decide)) P3.l (by lia)
  have old1:∀ (i:Nat) (c:Cell),H1[i]?=some c->H3[i]?=some c:=fun i c h=>ps3.bo i c (ps2.bo i c h)
  have hl3:H3.length<=80000:=by simp at l1;lia
  have e13:∀ y p,assoc tab1 y=some p->assoc tab3 y=some p:=fun y p h=>ps3.ol y p (ps2.ol y p h)
  have hmx:m≠ax:=fun z=>by have:=N.mi;rw [z,N.xl] at this;cases this
  have ea:evS (af W (n+4)) W true (.asgC 1 (.dict0 .I)) ⟨[some pr,some (.ref sl),some du,none,none,none,none,none,none,none,none,none],[some (.ref m),none]⟩ σ=some (.nxt,⟨[some pr,some (.ref sl),some du,none,none,none,none,none,none,none,none,none],[some (.ref m),some (.ref σ.length)]⟩,σ++[.dI []]):=rfl
  refine aa ea (aa (iC ec) (aa (aS (e_m rfl N3.mi rfl (ab rfl) es)) ?_))
  refine k _ (σ.length+1) x1 x2 x3 H3 (al tab3) ⟨P3.m.kp (Kp.set (A:=[ax]) (.head _)) fun i hi=>?_,⟨(aF (Ne.symm hmx)).trans N3.mi,N3.ls,N3.lx,N3.lo,N3.ly,bc N3.xl⟩,(aF (by lia)).trans P3.l,by have:=aC M0.hp;lia,A0 ps3.tb (by (refine Nat.le_trans (by assumption) ?_;decide)),?_,?_,?_,hl3,fun x y o1 o2 o3=>?_⟩ ((P3.k.mono fun i h=>?_).trans (Kp.set (.tail _ (.head _))))
  · obtain rfl:=List.mem_singleton.mp hi
    have k1:=aQ N.xl M0.sy (by simp);have k2:=aQ N.xl M0.an (by simp);have k3:=aQ N.xl M0.fn (by simp);have k4:=aQ N.xl M0.st (by simp)
    simp only [List.mem_cons,List.not_mem_nil,or_false,not_or] at hxs ⊢
    exact ⟨⟨k1,hxs.1,k2,hxs.2.1,k3⟩,k4,hxs.2.2⟩
  · exact ps1.cl H3 (al tab3) (fun i c h _=>old1 i c h) (fun y p h=>jj (e13 y p h)) fun b h=>nomatch h
  · exact ps2.cl H3 (al tab3) (fun i c h _=>ps3.bo i c h) (fun y p h=>jj (ps3.ol y p h)) fun b h=>nomatch h
  · exact ps3.cl H3 (al tab3) (fun i c h _=>h) (fun y p h=>jj h) fun b h=>nomatch h
  · have n1:assoc tab1 x=none:=by
      cases h:assoc tab1 x with
      |none=>rfl
      |some p=>
        rcases ps1.ky x p h with h2 | h2
        · exact no h2
        · rw [o2] at h2;cases h2
    obtain ⟨p,hp⟩:∃ p,assoc tab1 y=some p:=by
      cases h:assoc tab1 y with
      |some p=>exact ⟨p,rfl⟩
      |none=>refine E11 (ps1.cv y o1 h) fun _ h2 _=>?_;cases h2
    have hp1:=(List.getElem?_eq_some_iff.mp (ps1.tb.un y p hp)).1
    rw [jj (e13 y p hp)]
    cases hq:assoc tab3 x with
    |none=>unfold al;rw [hq];show p<1000000+x;have:=(List.getElem?_eq_some_iff.mp (old1 _ _ (ps1.tb.un y p hp))).1;lia
    |some q=>
      rw [jj hq]
      rcases ps3.nw x q hq with h2 | h2
      · rcases ps2.nw x q h2 with h3 | h3
        · exact ns n1 h3
        · exact Nat.lt_of_lt_of_le (by assumption) (by assumption)
      · have:=(List.getElem?_eq_some_iff.mp (ps2.bo _ _ (ps1.tb.un y p hp))).1;exact Nat.lt_of_lt_of_le (by assumption) (by assumption)
  · rw [List.mem_singleton.mp h];exact .head _
end
mutual
theorem pC {f g:Nat->Nat}:∀ (t:T),ren f (ren g t)=ren (fun x=>f (g x)) t
  |.v _=>rfl
  |.a _=>rfl
  |.i _=>rfl
  |.s h l=>congrArg (T.s h) (nQ l)
theorem nQ {f g:Nat->Nat}:∀ (l:TL),cW f (cW g l)=cW (fun x=>f (g x)) l
  |.nil=>rfl
  |.cons t r=>by
    show TL.cons _ _=TL.cons _ _
    rw [pC t,nQ r]
end
mutual
theorem Bn {f:Nat->Nat}:∀ (t:T),dp (ren f t)=dp t
  |.v _=>rfl
  |.a _=>rfl
  |.i _=>rfl
  |.s _ l=>congrArg (·+1) (tN l)
theorem tN {f:Nat->Nat}:∀ (l:TL),dpL (cW f l)=dpL l
  |.nil=>rfl
  |.cons t r=>by
    show max (dp (ren f t)) (dpL (cW f r))=max (dp t) (dpL r)
    rw [Bn t,tN r]
end
theorem tW {F:List Nat} {x y:Nat} (hx:x∈F) (hy:y∈F) (h:idx F x=idx F y):x=y:=by
  have h1:=List.getElem_idxOf (List.idxOf_lt_length_of_mem hx)
  have h2:=List.getElem_idxOf (List.idxOf_lt_length_of_mem hy)
  unfold idx at h
  rw [← h1,← h2]
  congr 1
section
variable {C:Bool->aD} {hs:Bool} {fr fr1 fr2:Fr} {σ σ1 σ2:St} {W n:Nat} {c:Cfg} {Y Ya:Sym} {Q:Fl->Fr->St->Prop}
theorem Cm {b hd:MS} {i:Nat} {v r:V} (h:evS C W true b fr σ=some (.err v,fr1,σ1)) (k:evS C W false hd (fr1.put i v) σ1=some (.ret r,fr2,σ2)):evS C W true (.try b i hd) fr σ=some (.ret r,fr2,σ2):=ay h (ay k rfl)
theorem Dr {b hd:MS} {i:Nat} (h:evS C W true b fr σ=some (.nxt,fr1,σ1)):evS C W true (.try b i hd) fr σ=some (.nxt,fr1,σ1):=ay h rfl
theorem wV {f e args:ME} {g:Fn} {xs:List V} {C:aD} {r:Option (Except V V×St)} (h:ev C hs f fr σ=some (.fn g,σ)) (h2:ev C hs args fr σ=some (.tup xs,σ1)) (hr:C g xs σ1=r):evX C hs (.call f args) fr σ=r:=aI h (aI h2 hr)
theorem Ck {e:ME} {x:V} (h:evX (C hs) hs e fr σ=some (.error x,σ1)):evS C W hs (.ret e) fr σ=some (.err x,fr,σ1):=by
  show oN _ _ _=_
  rw [h];rfl
theorem Cj {e:ME} {i:Nat} {x:V} (h:evX (C hs) hs e fr σ=some (.error x,σ1)):evS C W hs (.asg i e) fr σ=some (.err x,fr,σ1):=by
  show oN _ _ _=_
  rw [h];rfl
theorem Bp {C:aD} {o:ME} {k:Nat} {x:V} {p:Bool} (h:ev C hs o fr σ=some (.ref k,σ)) (ho:σ[k]?=some (.exc x p)):ev C hs (.attr o .ck) fr σ=some (x,σ):=by
  refine aI h ?_
  exact ay (show bh σ[k]? (v8 .ck)=some x from ay ho (show (if Nm.ck=.ck then some x else none)=_ from if_pos rfl)) rfl
theorem rp {m ax sl:Nat} {as:List (Nm×V)} {v0:Cell} {G t2 t3:T} (M0:Mem c σ Y []) (N:iD c m ax as [v0] σ) (hxs:ax∉[c.tx,c.fu,c.hp,c.sp]) (hs1:σ[sl]?=some (.list ([G,t2,t3].map tv))) (hsl:sl≠c.hp) (hY:Y.fs[0]?=some (1,2)) (w1:Wf Y G) (w2:Wf Y t2) (w3:Wf Y t3) (z1:sz G<=1500) (z2:sz t2<=2000) (z3:sz t3<=2000) (hW:4000<W)
    (hG:eM G=false) (hdp:dp G<=9) (hYY:∀ t,fK Y t=fK Ya t) (hl:Y.ts.length<800000) (hf:Y.fs.length<800000):
    ∃ σ',af W (n+13) true .dR [.ref m,.fn .bL,.ref sl,.tup [.str .dO,tv (fK Ya G)]] σ=some (.ok (.bool true),σ'):=by
  have:=dB (W:=W) (n:=n+12) (hs:=true) (f:=.dR) (args:=[.ref m,.fn .bL,.ref sl,.tup [.str .dO,tv (fK Ya G)]]) (σ:=σ) (b:=cM) (P:=fun v _=>v=.bool true) rfl rfl ?_
  · refine E21 this fun v σ' e z3=>?_
    subst z3
    exact ⟨σ',e⟩
  refine qa (n:=n+8) M0 N hxs hs1 hsl hY w1 w2 w3 (by (refine Nat.le_trans (by assumption) ?_;decide)) z2 z3 (by (refine Nat.lt_of_le_of_lt ?_ (by assumption);decide)) fun σ' pl p1 p2 p3 H α R K=>?_
  refine E22 (rH (n:=n+5) (W:=W) R.me R.ma hG R.r1 z1 hW hl hf) fun σ1 e ep eb K1=>?_
  have ef:af W (n+12) true .bL [.ref m] σ'=some (.error (.ref e),σ1):=Aw rfl rfl (AX (Ck (wV (f:=.glob (.fn .bt)) (e:=.nil) rfl (ab rfl) ep)) ⟨rfl,rfl⟩)
  have eq1:fK Y (ren (idx (vfs (ren α G) [])) (ren α G))=ren (fun x=>idx (vfs (ren α G) []) (α x)) (fK Ya G):=by rw [hYY,pC];rfl
  rw [eq1] at eb
  have occG:∀ x,occ x (fK Ya G)=true->occ x G=true:=fun x o=>by
    have o:((false||(occ x G||false))||(false||false))=true:=o
    simpa only [Bool.false_or,Bool.or_false] using o
  have mem:∀ x,occ x G=true->α x∈vfs (ren α G) []:=fun x o=>(b9 _ _).mpr (.inr (by rw [jJ R.inj];exact o))
  refine E11 (tC (W:=W) (hs:=false) (a1:=σ1.length) (a2:=σ1.length+1) (g:=fun x=>idx (vfs (ren α G) []) (α x)) (D:=fun x=>occ x G=true) (fun x y hx hy h=>R.inj x y (tW (mem x hx) (mem y hy) h)) (by lia) (n+11) (fK Ya G) [] (σ1++[.dI [],.dI []]) (by show max (max 0 (max (dp G) 0)+1) (max 0 0)+1<=n+11;lia) (fun x h=>nomatch h) occG (by show 0+(1+(sz G+0)+1+(1+0)+1)<900000;lia) ⟨aE (k:=0),aE (k:=1)⟩) fun σ2 em _=>?_
  have er:evS (af W (n+12)) W true (cI cM 3) ⟨[some (.fn .bL),some (.ref sl),some (.tup [.str .dO,tv (fK Ya G)]),some (.ref pl),none,none,none,none,none,none,none,none],[some (.ref m),some (.ref σ.length)]⟩ σ'=some (.ret (.bool true),⟨[some (.fn .bL),some (.ref sl),some (.tup [.str .dO,tv (fK Ya G)]),some (.ref pl),none,some (.ref e),none,none,none,none,none,none],[some (.ref m),some (.ref σ.length)]⟩,σ2):=by
    refine Cm (ay (Cj (wV (f:=.loc 0) (e:=.nil) rfl (ab rfl) ef)) rfl) (ay (aB (hs:=false) (dk (ai (v:=true) (ah rfl rfl rfl) rfl rfl) (aV (ae (ah rfl rfl rfl) (ae (Bp rfl eb) ?_)) em))) rfl)
    exact ae (x:=.ref σ1.length) (σ1:=σ1++[.dI []]) rfl (o5 (l:=[.dI []]) |> fun h=>ab ((congrArg _ rfl).trans h))
  exact aA er rfl
end
section
variable {C:aD} {hs:Bool} {σ σ1 σ':St} {W n:Nat} {c:Cfg} {Y:Sym} {H:List Cell} {m ba sa a1 a2 sl pl:Nat} {as:List (Nm×V)} {B:Bd} {s:Nat->T} {α g:Nat->Nat} {ts:List T} {ps:List Cell} {L:List Nat} {D:Nat->Prop}
structure Lt (c:Cfg) (Y:Sym) (H:List Cell) (m ba sa a1 a2 sl pl:Nat) (as:List (Nm×V)) (B:Bd) (α g:Nat->Nat) (ts:List T) (ps:List Cell) (L:List Nat) (σ:St):Prop where
  me:Mem c σ Y H
  mi:σ[m]?=some (.inst .areas as)
  bo:σ[ba]?=some (.dI (dm tv B))
  se:σ[sa]?=some (.dI (tb (L.map α)))
  tb:TB g a1 a2 L σ
  si:σ[sl]?=some (.list (ts.map tv))
  pi:σ[pl]?=some (.list (ps.map cv))
theorem yD (hα:∀ x y,α x=α y->x=y) (t:T):vfs (ren α t) (L.map α)=(vfs t L).map α:=pW hα t L
theorem turn (T0:Lt c Y H m ba sa a1 a2 sl pl as B α g ts ps L σ) (lst:cQ as .b8=some (.ref c.st)) (S:Sol B s) (hα:∀ x y,α x=α y->x=y) (hg:p5 D g) (h1:ba∉[sa]) (h2:ba∉[a1,a2]) (h3:sa∉[a1,a2]) (h4:a1≠a2)
    {i:Nat} {t:T} {p:Cell} {κ:Nat} {fr:Fr} (ht:ts[i]?=some t) (hp:ps[i]?=some p) (hr:Rep κ Y H p (ren α (sub s t))) (hd:dp (sub s t)<=20) (hz:sz (sub s t)<=1500) (hL:L.length<=1500) (hLD:∀ x∈L,D x) (htD:∀ x,occ x (sub s t)=true->D x) (hW:4000+κ<W) (hB:B.length<W)
    (gg:∀ x,x∈vfs (sub s t) L->g x=idx ((vfs (sub s t) L).map α) (α x))
    (f1:fr.locs[1]?.join=some (.ref sl)) (f3:fr.locs[3]?.join=some (.ref pl)) (f6:fr.locs[6]?.join=some (.ref ba)) (f8:fr.locs[8]?.join=some (.ref sa)) (f9:fr.locs[9]?.join=some (.ref a1)) (f10:fr.locs[10]?.join=some (.ref a2)) (f11:fr.locs[11]?.join=some (.int i)) (fc:fr.cells[0]?.join=some (.ref m)):
    ∃ σ',ev (af W (n+22) true) true (.call (.glob (.fn .bR)) (.cons (.call (.glob (.fn .cV)) (.cons (.sub (.loc 1) (.loc 11)) (.cons (.loc 6) .nil))) (.cons (.mcall (.attr (.cell 0) .b8) .fI (.cons (.sub (.loc 3) (.loc 11)) (.cons (.loc 8) .nil))) (.cons (.loc 9) (.cons (.loc 10) .nil))))) fr σ=some (.bool true,σ')/\
      Lt c Y H m ba sa a1 a2 sl pl as B α g ts ps (vfs (sub s t) L) σ':=by
  refine E10 (oP (hs:=true) (σ:=σ) (a:=ba) S hB (n+20) t [] (by lia) (by (refine Nat.lt_of_le_of_lt (by assumption) ?_;decide)) T0.bo) fun j e1=>?_
  rw [List.append_nil,List.nil_append] at e1
  have se1:(σ++j)[sa]?=some (.dI (tb (L.map α))):=aq T0.se
  refine E10 (wA (n:=n+18) (W:=W) (T0.me.app j) se1 hr (by rw [ew];exact hz) (by rw [List.length_map];exact hL) (by rw [ew];lia)) fun J e2=>?_
  rw [yD hα] at e2
  have K2:Kp [sa] σ (eO (σ++j) sa (tb ((vfs (sub s t) L).map α))++J):=(Kp.app.trans (Kp.set (.head _))).trans Kp.app
  have eq1:ren (idx ((vfs (sub s t) L).map α)) (ren α (sub s t))=ren g (sub s t):=by
    rw [pC]
    exact iw _ fun x o=>(gg x ((b9 _ _).mpr (.inr o))).symm
  rw [eq1] at e2
  have T2:=T0.tb.kp K2 (by simp only [List.mem_singleton];intro z;exact h3 (by rw [z];exact .head _)) (by simp only [List.mem_singleton];intro z;exact h3 (by rw [z];exact .tail _ (.head _)))
  refine E12 (tC (W:=W) (hs:=true) hg h4 (n+21) (sub s t) L _ (by lia) hLD htD (by lia) T2) fun σ3 e3 K3 T3=>?_
  have K:Kp [sa,a1,a2] σ σ3:=(K2.mono fun i h=>by rw [List.mem_singleton.mp h];exact .head _).trans (K3.mono fun i h=>.tail _ h)
  have ne:∀ {x:Nat} {o:O},σ[x]?=some o->(∀ d,o≠.dI d)->x∉[sa,a1,a2]:=fun hx ho hm=>by
    simp only [List.mem_cons,List.not_mem_nil,or_false] at hm
    rcases hm with rfl | rfl | rfl
    · rw [T0.se] at hx;exact ho _ (Option.some.inj hx).symm
    · rw [T0.tb.t] at hx;exact ho _ (Option.some.inj hx).symm
    · rw [T0.tb.b] at hx;exact ho _ (Option.some.inj hx).symm
  have nes:∀ i∈[sa,a1,a2],i∉[c.sy,c.tx,c.an,c.fu,c.fn]/\i∉[c.st,c.hp,c.sp]:=fun i hi=>by
    have M:=T0.me
    have q:∀ {x:Nat} {o:O},σ[x]?=some o->(∀ d,o≠.dI d)->i≠x:=fun hx ho z=>ne hx ho (z▸hi)
    simp only [List.mem_cons,List.not_mem_nil,or_false,not_or]
    exact ⟨⟨q M.sy nofun,q M.tx nofun,q M.an nofun,q M.fu nofun,q M.fn nofun⟩,q M.st nofun,q M.hp nofun,q M.sp nofun⟩
  have s3:σ3[sa]?=some (.dI (tb ((vfs (sub s t) L).map α))):=K3 _ _ (aq (mI se1)) h3
  refine ⟨σ3,aV (ae (aV (ae (bQ (dF f1) (dF f11) T0.si (dH.trans (by rw [List.getElem?_map,ht];rfl))) (ab (dF f6))) e1) (ae (e_m (aH (show ja _ _=_ by rw [fc];rfl) (aq T0.mi) lst) (T0.me.app j).st rfl (ae (bQ (dF f3) (dF f11) (aq T0.pi) (cx.trans (by rw [hp];rfl))) (ab (dF f8))) e2) (ae (dF f9) (ab (dF f10))))) e3,
    T0.me.kp K nes,K _ _ T0.mi (ne T0.mi nofun),K _ _ T0.bo fun h=>?_,s3,T3,K _ _ T0.si (ne T0.si nofun),K _ _ T0.pi (ne T0.pi nofun)⟩
  rcases List.mem_cons.mp h with rfl | h
  · exact h1 (.head _)
  · exact h2 h
end
section
variable {C:Bool->aD} {hs:Bool} {fr fr1 fr2:Fr} {σ σ1 σ2:St} {W n:Nat} {c:Cfg} {Y Ya:Sym} {Q:Fl->Fr->St->Prop}
theorem yI {e:ME} {t told:Bool} {r:MS} {σ1:St} (h:ev (C hs) hs e fr σ=some (.bool t,σ1)) (h4:fr.locs[4]?.join=some (.bool told)) (k1:t=true->Ends (evS C W hs r fr σ1) Q) (k2:t=false->Q (.ret (.bool (!told))) fr σ1):Ends (evS C W hs (.cons (.ite (.not e) (.cons (.ret (.not (.loc 4))) .nil) .nil) r) fr σ) Q:=by
  cases t with
  |true=>exact aa (aN (eK h)) (k1 rfl)
  |false=>exact aj (aw (eK h) (aA (aB (eK (dF h4))) (k2 rfl)))
noncomputable def Comes (fs:List T) (G t2 t3:T) (α:Nat->Nat):Prop:=∃ R1 R,Pr α [] .v t2 (cX ((fnd fs G).map .v) (.a 0)) R1/\((R1=none/\R=none)\/∃ B1 s1,R1=some (B1,s1)/\B1.length<=4/\(∀ x,t3=.v x->assoc B1 x=none)/\Pr α B1 s1 t3 G R)/\
  ∀ B s,R=some (B,s)->B.length<=8/\∀ t∈[wh fs G,t2,t3],dp (sub s t)<=20/\sz (sub s t)<=700
theorem uQ {m ax sl dl:Nat} {as:List (Nm×V)} {v0:Cell} {G t2 t3:T} {fs:List T} (M0:Mem c σ Y []) (N:iD c m ax as [v0] σ) (hxs:ax∉[c.tx,c.fu,c.hp,c.sp]) (hs1:σ[sl]?=some (.list ([wh fs G,t2,t3].map tv))) (hsl:sl∉[c.hp,ax]) (hs2:σ[dl]?=some (.list [.tup [tv t2,tv (cX ((fnd fs G).map .v) (.a 0))],.tup [tv t3,tv G]])) (hdl:dl∉[c.hp,ax])
    (hY:Y.fs[0]?=some (1,2)) (w1:Wf Y (wh fs G)) (w2:Wf Y t2) (w3:Wf Y t3) (z1:sz (wh fs G)<=1500) (z2:sz t2<=1500) (z3:sz t3<=1500) (hW:5000<W) (hG:eM G=false) (hfs:fs≠[]) (zf:∀ f∈fs,sz f<=2000) (lf:fs.length<=10) (zG:sz G<=2000)
    (hP:∀ α:Nat->Nat,(∀ x y,occ y (wh fs G)=true->occ x (wh fs G)=false->(occ x t2=true\/occ x t3=true)->α y<α x)->Comes fs G t2 t3 α):
    ∃ σ',af W (n+30) true .dR [.ref m,.fn .bL,.ref sl,.tup [.str .iz,.ref dl]] σ=some (.ok (.bool true),σ'):=by
  have:=dB (W:=W) (n:=n+29) (hs:=true) (f:=.dR) (args:=[.ref m,.fn .bL,.ref sl,.tup [.str .iz,.ref dl]]) (σ:=σ) (b:=cM) (P:=fun v _=>v=.bool true) rfl rfl ?_
  · refine E21 this fun v σ' e z3=>?_
    subst z3
    exact ⟨σ',e⟩
  have nin:∀ {x:Nat} {l:List Nat},x∉l->∀ {y},y∈l->x≠y:=fun h y hy z=>h (z▸hy)
  refine qa (n:=n+25) M0 N hxs hs1 (nin hsl (.head _)) hY w1 w2 w3 (by (refine Nat.le_trans (by assumption) ?_;decide)) (by (refine Nat.le_trans (by assumption) ?_;decide)) (by (refine Nat.le_trans (by assumption) ?_;decide)) (by (refine Nat.lt_of_le_of_lt ?_ (by assumption);decide)) fun σ' pl p1 p2 p3 H α Rd K=>?_
  refine E22 (hP α Rd.ord) fun R1 R P1 P2 hR=>?_
  refine E22 (Be (n:=n+19) (W:=W) Rd.me Rd.ma (nin hxs (.tail _ (.tail _ (.head _)))) Rd.inj hG hfs Rd.r1 Rd.r2 Rd.r3 zf lf zG (by (refine Nat.lt_of_le_of_lt ?_ (by assumption);decide)) Rd.hl P1 P2) fun σ1 ex ep K1 q1=>?_
  have ef:af W (n+29) true .bL [.ref m] σ'=some (.ok (.bool R.isSome),σ1):=b6 rfl rfl (aA (aB (aV (ab rfl) ep)) ⟨rfl,rfl⟩)
  have hd1:(σ1++[O.dI []])[dl]?=some (.list [.tup [tv t2,tv (cX ((fnd fs G).map .v) (.a 0))],.tup [tv t3,tv G]]):=aq (K1 _ _ (K _ _ hs2 hdl) (by simpa using nin hdl (.head _)))
  refine aa (Dr (ay (av (mh rfl (ab rfl) ef)) rfl)) (aa (aN (ai (v:=false) (ah rfl rfl rfl) rfl rfl)) (aa (av (v:=.ref σ1.length) (σ1:=σ1++[.dI []]) rfl) (aj (dy (ah rfl rfl rfl) (aO hd1) ?_))))
  refine E12 (wy (n:=n+4) (hs:=true) (W:=W) (a:=σ1.length) (σ:=σ1++[.dI []]) Sol.nil (by show 0+1<W;(refine Nat.lt_of_le_of_lt ?_ (by assumption);decide)) bb (by decide) P1) fun σ2 m1 K2 b2=>?_
  have ndl:dl∉[σ1.length]:=by
    have:=aC (K1 _ _ (K _ _ hs2 hdl) (by simpa using nin hdl (.head _)))
    simp only [List.mem_singleton];exact Nat.ne_of_lt (by assumption)
  have hd2:=K2 _ _ hd1 ndl
  refine dg (aO hd1) rfl (yI (aV (ae (ah rfl rfl rfl) (ae (ah rfl rfl rfl) (ab rfl))) m1) rfl (fun h1=>?_) fun h1=>?_)
  rotate_left
  · rcases P2 with ⟨_,rfl⟩ | ⟨B1,s1,rfl,_⟩
    · rfl
    · exact nof h1.symm
  rcases P2 with ⟨rfl,_⟩ | ⟨B1,s1,rfl,hB1,he3,P2⟩
  · exact nof h1
  refine ao ?_
  have S1:=P1.sol Sol.nil
  refine E12 (wy (n:=n+4) (hs:=true) (W:=W) S1 (by lia) (b2 _ _ rfl) (by lia) P2) fun σ3 m2 K3 b3=>?_
  have hd3:=K3 _ _ hd2 ndl
  refine dg (aO hd2) rfl (yI (aV (ae (ah rfl rfl rfl) (ae (ah rfl rfl rfl) (ab rfl))) m2) rfl (fun h2=>?_) fun h2=>by rw [h2];rfl)
  refine E10 (Option.isSome_iff_exists.mp h2) fun y0 z1=>?_
  obtain ⟨B,s⟩:=y0
  subst z1
  refine E11 (q1 B s rfl) fun H' I M1=>?_
  have S:=P2.sol S1
  refine E01 (hR B s rfl) fun hB hts=>?_
  have t1:=hts _ (.head _)
  have t2':=hts _ (.tail _ (.head _))
  have t3':=hts _ (.tail _ (.tail _ (.head _)))
  refine ao (kJ (aO hd3) (Nat.le_refl 2) (aa (aN (eK (b:=true) rfl)) ?_))
  have hex:=I.2
  have I:=I.1
  have r1:=jN Rd.inj S I (iy Rd.inj hex Rd.r1)
  have r2:=jN Rd.inj S I (iy Rd.inj hex Rd.r2)
  have r3:=jN Rd.inj S I (iy Rd.inj hex Rd.r3)
  have K13:∀ {x o},σ1[x]?=some o->(σ3++[O.dI [],.dI [],.dI []])[x]?=some o:=fun {x o} h=>by
    have hx:x∉[σ1.length]:=by have:=aC h;simp only [List.mem_singleton];exact Nat.ne_of_lt (by assumption)
    exact aq (K3 _ _ (K2 _ _ (aq h) hx) hx)
  have Kp13:Kp [] σ1 (σ3++[O.dI [],.dI [],.dI []]):=fun i o h _=>K13 h
  obtain ⟨L1,hL1⟩:∃ l,vfs (sub s (wh fs G)) []=l:=⟨_,rfl⟩
  obtain ⟨L2,hL2⟩:∃ l,vfs (sub s t2) L1=l:=⟨_,rfl⟩
  obtain ⟨L3,hL3⟩:∃ l,vfs (sub s t3) L2=l:=⟨_,rfl⟩
  have l1:=dd (sub s (wh fs G)) []
  have l2:=dd (sub s t2) L1
  rw [hL1] at l1
  rw [hL2] at l2
  simp only [List.length_nil] at l1
  refine E10 (lH (sub s t2) L1) fun g2 eg2=>?_
  refine E10 (lH (sub s t3) L2) fun g3 eg3=>?_
  rw [hL2] at eg2
  rw [hL3] at eg3
  have m23:∀ x∈L2,x∈L3:=fun x h=>by rw [eg3];exact List.mem_append_left _ h
  have m12:∀ x∈L1,x∈L2:=fun x h=>by rw [eg2];exact List.mem_append_left _ h
  have hg:p5 (·∈L3) (fun x=>idx (L3.map α) (α x)):=fun x y hx hy h=>Rd.inj x y (tW (List.mem_map_of_mem hx) (List.mem_map_of_mem hy) h)
  have gg3:∀ x,x∈L2->idx (L3.map α) (α x)=idx (L2.map α) (α x):=fun x h=>by rw [eg3,List.map_append,lu (List.mem_map_of_mem h)]
  have gg2:∀ x,x∈L1->idx (L3.map α) (α x)=idx (L1.map α) (α x):=fun x h=>by rw [gg3 x (m12 x h),eg2,List.map_append,lu (List.mem_map_of_mem h)]
  have hba:=aC (b3 _ _ rfl)
  have T0:Lt c Y H' m σ1.length σ3.length (σ3.length+1) (σ3.length+2) sl pl as B α (fun x=>idx (L3.map α) (α x)) [wh fs G,t2,t3] [p1,p2,p3] [] (σ3++[O.dI [],.dI [],.dI []]):=
    ⟨M1.kp Kp13 (fun i h=>nomatch h),K13 (K1 _ _ Rd.ma.mi (by simpa using aQ Rd.ma.mi Rd.me.hp (by simp))),aq (b3 _ _ rfl),aE (k:=0),⟨aE (k:=1),aE (k:=2)⟩,K13 (K1 _ _ (K _ _ hs1 hsl) (by simpa using nin hsl (.head _))),K13 (K1 _ _ Rd.li (by simpa using Rd.pn))⟩
  have n1:σ1.length∉[σ3.length]:=by simp only [List.mem_singleton];exact Nat.ne_of_lt (by assumption)
  have n2:σ1.length∉[σ3.length+1,σ3.length+2]:=by simp;lia
  have n3:σ3.length∉[σ3.length+1,σ3.length+2]:=by simp
  have n4:σ3.length+1≠σ3.length+2:=by lia
  refine aa (av (v:=.ref σ3.length) (σ1:=σ3++[.dI []]) rfl) (aa (av (o5 (l:=[.dI []]))) (aa (av (o5 (l:=[.dI [],.dI []]))) (aj (dy (x:=.rng 0 (3:Nat) 1) (xs:=fZ 0 (3:Nat) 1) (bF (ab (bF (v:=.int (3:Nat)) (ab rfl) (bD T0.si))) (nu (k:=3) (by exact Nat.le_add_left _ _))) rfl ?_))))
  have no:∀ x,x∈([]:List Nat)->x∈L3:=fun x h=>nomatch h
  have oc1:∀ x,occ x (sub s (wh fs G))=true->x∈L3:=fun x o=>m23 x (m12 x (hL1▸(b9 _ _).mpr (.inr o)))
  have oc2:∀ x,occ x (sub s t2)=true->x∈L3:=fun x o=>m23 x (hL2▸(b9 _ _).mpr (.inr o))
  have oc3:∀ x,occ x (sub s t3)=true->x∈L3:=fun x o=>hL3▸(b9 _ _).mpr (.inr o)
  refine E11 (turn (n:=n+7) (W:=W) (i:=0) (fr:=⟨[some (.fn .bL),some (.ref sl),some (.tup [.str .iz,.ref dl]),some (.ref pl),some (.bool true),none,some (.ref σ1.length),some (.tup [tv t3,tv G]),some (.ref σ3.length),some (.ref (σ3.length+1)),some (.ref (σ3.length+2)),some (.int (0:Nat))],[some (.ref m),some (.ref σ.length)]⟩) T0 Rd.ma.ls S Rd.inj hg n1 n2 n3 n4 rfl rfl r1 t1.1 (by lia) (by simp) no oc1 (by lia) (by lia) (fun x h=>by rw [hL1] at h ⊢;exact gg2 x h) rfl rfl rfl rfl rfl rfl rfl rfl) fun σ5 v1 T1=>?_
  rw [hL1] at T1
  refine E11 (turn (n:=n+7) (W:=W) (i:=1) (fr:=⟨[some (.fn .bL),some (.ref sl),some (.tup [.str .iz,.ref dl]),some (.ref pl),some (.bool true),none,some (.ref σ1.length),some (.tup [tv t3,tv G]),some (.ref σ3.length),some (.ref (σ3.length+1)),some (.ref (σ3.length+2)),some (.int (1:Nat))],[some (.ref m),some (.ref σ.length)]⟩) T1 Rd.ma.ls S Rd.inj hg n1 n2 n3 n4 rfl rfl r2 t2'.1 (by lia) (by lia) (fun x h=>m23 x (m12 x h)) oc2 (by lia) (by lia) (fun x h=>by rw [hL2] at h ⊢;exact gg3 x h) rfl rfl rfl rfl rfl rfl rfl rfl) fun σ6 v2 T2=>?_
  rw [hL2] at T2
  refine E11 (turn (n:=n+7) (W:=W) (i:=2) (fr:=⟨[some (.fn .bL),some (.ref sl),some (.tup [.str .iz,.ref dl]),some (.ref pl),some (.bool true),none,some (.ref σ1.length),some (.tup [tv t3,tv G]),some (.ref σ3.length),some (.ref (σ3.length+1)),some (.ref (σ3.length+2)),some (.int (2:Nat))],[some (.ref m),some (.ref σ.length)]⟩) T2 Rd.ma.ls S Rd.inj hg n1 n2 n3 n4 rfl rfl r3 t3'.1 (by lia) (by lia) (fun x h=>m23 x h) oc3 (by lia) (by lia) (fun x h=>by rw [hL3]) rfl rfl rfl rfl rfl rfl rfl rfl) fun σ7 v3 T3=>?_
  exact dg rfl (x:=.int 0) rfl (oj v1 (fun _=>ao (dg rfl (x:=.int 1) rfl (oj v2 (fun _=>ao (dg rfl (x:=.int 2) rfl (oj v3 (fun _=>ao (kJ rfl (Nat.le_refl 3) (aA (aB rfl) rfl))) nofun))) nofun))) nofun)
end
theorem vL (t:T):∀ {F:List Nat},F.Nodup->(vfs t F).Nodup:=
  t.rec (motive_1:=fun t=>∀ {F:List Nat},F.Nodup->(vfs t F).Nodup) (motive_2:=fun l=>∀ {F:List Nat},F.Nodup->(dQ l F).Nodup)
    (fun p F h=>by
      by_cases hp:p∈F
      · rw [show vfs (.v p) F=F from if_pos hp];exact h
      · rw [show vfs (.v p) F=F++[p] from if_neg hp]
        exact List.nodup_append.mpr ⟨h,List.nodup_cons.mpr ⟨nofun,.nil⟩,fun a ha b hb=>by rw [List.mem_singleton.mp hb];exact fun z=>hp (z▸ha)⟩)
    (fun _ _ h=>h) (fun _ _ h=>h) (fun _ _ h=>h) (fun h=>h) fun _ _ h1 h2 _ h=>h2 (h1 h)
theorem mv:∀ (N:Nat) {l:List Nat},l.Nodup->(∀ x∈l,x<N)->l.length<=N
  |0,l,_,h=>by
    cases l with
    |nil=>exact Nat.le_refl _
    |cons x r=>exact absurd (h x List.mem_cons_self) (Nat.not_lt_zero _)
  |N+1,l,hn,h=>by
    by_cases hN:N∈l
    · have:=mv N (hn.erase N) fun x hx=>by
        refine E01 (hn.mem_erase_iff.mp hx) fun h1 h2=>?_
        have:=h x h2;lia
      rw [List.length_erase_of_mem hN] at this
      lia
    · have:=mv N hn fun x hx=>by
        have h1:=h x hx
        have:x≠N:=fun z=>hN (z▸hx)
        lia
      lia
theorem zK {a b c d k:Nat} (h1:a<=c+k) (h2:b<=d+k):max a b<=max c d+k:=
  Nat.max_le.mpr ⟨Nat.le_trans h1 (Nat.add_le_add_right (Nat.le_max_left _ _) _),Nat.le_trans h2 (Nat.add_le_add_right (Nat.le_max_right _ _) _)⟩
mutual
theorem mc {s:Nat->T} {k:Nat} (h:∀ y,dp (s y)<=k):∀ (t:T),dp (sub s t)<=dp t+k
  |.v y=>by show dp (s y)<=0+k;have:=h y;lia
  |.a _=>Nat.zero_le _
  |.i _=>Nat.zero_le _
  |.s f l=>by show dpL (bZ s l)+1<=dpL l+1+k;have:=tO h l;lia
theorem tO {s:Nat->T} {k:Nat} (h:∀ y,dp (s y)<=k):∀ (l:TL),dpL (bZ s l)<=dpL l+k
  |.nil=>Nat.zero_le _
  |.cons t r=>by
    have h1:=mc h t
    have h2:=tO h r
    exact zK h1 h2
end
mutual
theorem mN {s:Nat->T} {k:Nat} (h:∀ y,sz (s y)<=k) (hk:1<=k):∀ (t:T),sz (sub s t)<=sz t * k
  |.v y=>by show sz (s y)<=1 * k;have:=h y;lia
  |.a _=>by show 1<=1 * k;lia
  |.i _=>by show 1<=1 * k;lia
  |.s f l=>by
    have:=uF h hk l
    show szL (bZ s l)+1<=(szL l+1) * k
    rw [Nat.add_mul];lia
theorem uF {s:Nat->T} {k:Nat} (h:∀ y,sz (s y)<=k) (hk:1<=k):∀ (l:TL),szL (bZ s l)<=szL l * k
  |.nil=>Nat.zero_le _
  |.cons t r=>by
    have h1:=mN h hk t
    have h2:=uF h hk r
    show sz (sub s t)+szL (bZ s r)<=(sz t+szL r) * k
    rw [Nat.add_mul];lia
end
theorem fg {s:Nat->T} {x:Nat} {w:T} (t:T):sub (upd s x w) t=sub (one x w) (sub s t):=(sub_sub t).symm
theorem hJ {x:Nat} {w:T}:sub (one x w) (.v x)=w:=if_pos rfl
theorem sj:∀ (F:List Nat),dp (cX (F.map .v) (.a 0))=F.length
  |[]=>rfl
  |x::F=>by
    show max 0 (max (dp (cX (F.map .v) (.a 0))) 0)+1=F.length+1
    rw [sj F];lia
theorem su:∀ (F:List Nat),sz (cX (F.map .v) (.a 0))=2 * F.length+1
  |[]=>rfl
  |x::F=>by
    show 1+(sz (cX (F.map .v) (.a 0))+0)+1=2 * (F.length+1)+1
    rw [su F];lia
theorem lD {x:Nat}:∀ {F:List Nat},occ x (cX (F.map .v) (.a 0))=true↔x∈F
  |[]=>⟨nofun,nofun⟩
  |y::F=>by
    show (decide (x=y)||(occ x (cX (F.map .v) (.a 0))||false))=true↔_
    rw [Bool.or_false,Bool.or_eq_true,decide_eq_true_eq,lD,List.mem_cons]
theorem sq {F:List Nat} {x:Nat}:cX (F.map .v) (.a 0)≠.v x:=by cases F<;>exact nofun
theorem ia {x:Nat} {G:T}:∀ {fs:List T},occ x G=true->occ x (wh fs G)=true
  |[],h=>h
  |f::fs,h=>by
    show (occ x f||(occ x (wh fs G)||false))=true
    rw [ia h];simp
theorem qj {B:Bd} {s:Nat->T} {x:Nat} {e:T} (h:occ x (sub s e)=false):bd B s x e=some (B++[(x,e)],upd s x (sub s e)):=by unfold bd;rw [h];rfl
theorem wc {B:Bd} {s:Nat->T} {x:Nat} {e:T} (h:occ x (sub s e)=true):bd B s x e=none:=by unfold bd;rw [h];rfl
section
variable {α:Nat->Nat} {fs:List T} {G t2 u2 e1:T} {ff x1:Nat}
theorem gC {x:Nat}:occ x (.v x)=true:=decide_eq_true rfl
theorem jL {s:Nat->T} {x:Nat} {w t:T} (h:occ x (sub s t)=false):sub (upd s x w) t=sub s t:=by rw [fg,sub_one h]
theorem cZ {x:Nat} {w t:T} (h:occ x t=false):sub (upd .v x w) t=t:=by rw [fg,d9,sub_one h]
theorem cH {t:T} {x k:Nat} (h:∀ x,occ x t=true->x<=k) (hx:k<x):occ x t=false:=by
  cases o:occ x t with
  |false=>rfl
  |true=>have:=h x o;lia
theorem bI {B:Bd} {t:T} (h:∀ x,t=.v x->assoc B x=none):cT B 0 t t:=.stop h
theorem as1 {x y:Nat} {e:T} (h:x≠y):assoc ([(x,e)]:Bd) y=none:=if_neg h
noncomputable def Second (α:Nat->Nat) (fs:List T) (G t2 t3:T) (B1:Bd) (s1:Nat->T):Prop:=∃ R,(∀ x,t3=.v x->assoc B1 x=none)/\Pr α B1 s1 t3 G R/\∀ B s,R=some (B,s)->B.length<=8/\∀ t∈[wh fs G,t2,t3],dp (sub s t)<=20/\sz (sub s t)<=700
theorem yO {P:T->Prop} {a b c:T} (h1:P a) (h2:P b) (h3:P c):∀ t∈[a,b,c],P t:=fun t h=>by
  simp only [List.mem_cons,List.not_mem_nil,or_false] at h
  rcases h with rfl | rfl | rfl<;>assumption
theorem z9 (hx:x1=7\/x1=9) (hu2:sub (upd .v x1 e1) t2=u2) (vu2:∀ x,occ x u2=true->x<=6) (du2:dp u2<=8) (zu2:sz u2<=20)
    (hv:∀ x,occ x (wh fs G)=true->x<=6) (dG:dp G<=8) (dW:dp (wh fs G)<=12) (zG:sz G<=300) (zW:sz (wh fs G)<=340)
    (ord:∀ y,occ y (wh fs G)=true->α y<α 8):Second α fs G t2 (.v 8) [(x1,e1)] (upd .v x1 e1):=by
  have vG:∀ x,occ x G=true->x<=6:=fun x o=>hv x (ia o)
  have sG:sub (upd .v x1 e1) G=G:=cZ (cH vG (by lia))
  have sW:sub (upd .v x1 e1) (wh fs G)=wh fs G:=cZ (cH hv (by lia))
  have s8:sub (upd .v x1 e1) (.v 8)=.v 8:=cZ (decide_eq_false (by lia))
  have nb:bd [(x1,e1)] (upd .v x1 e1) 8 G=some ([(x1,e1)]++[(8,G)],upd (upd .v x1 e1) 8 G):=by
    rw [qj (by rw [sG];exact cH vG (by exact Nat.le_add_left _ _)),sG]
  have hne:G≠.v 8:=fun z=>by have:=vG 8 (by rw [z];exact gC);lia
  refine ⟨_,fun x h=>by cases h;exact as1 (by lia),.leaf ⟨⟨0,.v 8,0,G,bI fun x h=>by cases h;exact as1 (by lia),bI fun x h=>as1 ?_,.bl hne fun y h=>ord y (ia (by rw [h];exact gC)),Nat.zero_le _⟩,by rw [s8];exact Nat.zero_le _,by rw [sG];(refine Nat.le_trans (by assumption) ?_;decide),by rw [s8];show 1<=2000;exact Nat.succ_pos _,by rw [sG];(refine Nat.le_trans (by assumption) ?_;decide)⟩,fun B s h=>?_⟩
  · have:=vG x (by rw [h];exact gC);lia
  · rw [nb] at h;cases h
    refine ⟨by simp,yO ?_ ?_ ?_⟩
    · rw [jL (by rw [sW];exact cH hv (by exact Nat.le_add_left _ _)),sW];lia
    · rw [jL (by rw [hu2];exact cH vu2 (by exact Nat.le_add_left _ _)),hu2];lia
    · rw [fg,s8,hJ];lia
theorem xq {l:TL} (h:aU l=1):∃ t,l=.cons t .nil:=by
  cases l with
  |nil=>cases h
  |cons t r=>cases r with
    |nil=>exact ⟨t,rfl⟩
    |cons u r=>exact (Nat.succ_ne_zero _ (Nat.succ.inj h)).elim
theorem AI {P:T->Prop} {w:Nat} {e:T} (h1:P e) (h2:∀ y,P (.v y)) (y:Nat):P (one w e y):=by
  by_cases h:y=w
  · rw [show one w e y=e from if_pos h];exact h1
  · rw [show one w e y=.v y from if_neg h];exact h2 y
theorem xX (hu2:sub (upd .v 7 e1) t2=u2) (vu2:∀ x,occ x u2=true->x<=6) (du2:dp u2<=8) (zu2:sz u2<=20)
    (hv:∀ x,occ x (wh fs G)=true->x<=6) (dG:dp G<=8) (dW:dp (wh fs G)<=12) (zG:sz G<=300) (zW:sz (wh fs G)<=340) (hGf:∀ l,G=.s ff l->aU l=1)
    (ord:∀ y,occ y (wh fs G)=true->α y<α 9):Second α fs G t2 (.s ff (.cons (.v 9) .nil)) [(7,e1)] (upd .v 7 e1):=by
  have vG:∀ x,occ x G=true->x<=6:=fun x o=>hv x (ia o)
  have sG:sub (upd .v 7 e1) G=G:=cZ (cH vG (by exact Nat.le_refl _))
  have sW:sub (upd .v 7 e1) (wh fs G)=wh fs G:=cZ (cH hv (by exact Nat.le_refl _))
  have s3:sub (upd .v 7 e1) (.s ff (.cons (.v 9) .nil))=.s ff (.cons (.v 9) .nil):=cZ rfl
  have s9:sub (upd .v 7 e1) (.v 9)=.v 9:=cZ rfl
  have st3:cT [(7,e1)] 0 (.s ff (.cons (.v 9) .nil)) (.s ff (.cons (.v 9) .nil)):=bI fun x h=>nomatch h
  have dps:dp (.s ff (.cons (.v 9) .nil))=1:=rfl
  have szs:sz (.s ff (.cons (.v 9) .nil))=2:=rfl
  have stG:cT [(7,e1)] 0 G G:=bI fun x h=>as1 (by have:=vG x (by rw [h];exact gC);lia)
  by_cases hk:knd G=.t_v
  · obtain ⟨w,rfl⟩:∃ w,G=.v w:=by
      cases G with
      |v w=>exact ⟨w,rfl⟩
      |_=>cases hk
    have hw:=vG w gC
    have o:occ w (T.s ff (.cons (.v 9) .nil))=false:=by show (decide (w=9)||false)=false;rw [decide_eq_false (by lia)];rfl
    have nb:=qj (B:=[(7,e1)]) (s:=upd .v 7 e1) (x:=w) (e:=.s ff (.cons (.v 9) .nil)) (by rw [s3];exact o)
    rw [s3] at nb
    refine ⟨_,fun x h=>(nomatch h),.leaf ⟨⟨0,_,0,_,st3,stG,.br nofun,by rw [dps];exact Nat.succ_pos _⟩,by rw [s3,dps];exact Nat.succ_pos _,by rw [sG];exact Nat.zero_le _,by rw [s3,szs];exact Nat.le_add_left _ _,by rw [sG];exact Nat.succ_pos _⟩,fun B s h=>?_⟩
    rw [nb] at h;cases h
    have h1:∀ y,dp (one w (.s ff (.cons (.v 9) .nil)) y)<=1:=fun y=>AI (e:=.s ff (.cons (.v 9) .nil)) (P:=fun t=>dp t<=1) (Nat.le_refl 1) (fun _=>Nat.zero_le _) y
    have h2:∀ y,sz (one w (.s ff (.cons (.v 9) .nil)) y)<=2:=fun y=>AI (e:=.s ff (.cons (.v 9) .nil)) (P:=fun t=>sz t<=2) (Nat.le_refl 2) (fun _=>Nat.le_succ 1) y
    refine ⟨by simp,yO ?_ ?_ ?_⟩
    · rw [fg,sW]
      have:=mc h1 (wh fs (.v w));have:=mN h2 (by exact Nat.succ_pos _) (wh fs (.v w));lia
    · rw [fg,hu2]
      have:=mc h1 u2;have:=mN h2 (by exact Nat.succ_pos _) u2;lia
    · rw [jL (by rw [s3];exact o),s3,dps,szs];decide
  · by_cases hs:∃ l,G=.s ff l
    · refine E10 hs fun l z1=>?_
      subst z1
      refine E10 (xq (hGf l rfl)) fun t z1=>?_
      subst z1
      have oG:∀ x,occ x t=true->occ x (T.s ff (.cons t .nil))=true:=fun x o=>by show (occ x t||false)=true;rw [o];rfl
      have vt:∀ x,occ x t=true->x<=6:=fun x o=>vG x (oG x o)
      have hne:t≠.v 9:=fun z=>by have:=vt 9 (by rw [z];exact gC);lia
      have sT:sub (upd .v 7 e1) t=t:=cZ (cH vt (by exact Nat.le_refl _))
      have dt:dp t<=8:=by have:max (dp t) 0+1<=8:=dG;lia
      have zt:sz t<=300:=by have:sz t+0+1<=300:=zG;exact Nat.le_of_lt (by assumption)
      have nb:bd [(7,e1)] (upd .v 7 e1) 9 t=some ([(7,e1)]++[(9,t)],upd (upd .v 7 e1) 9 t):=by rw [qj (by rw [sT];exact cH vt (by exact Nat.le_add_left _ _)),sT]
      refine ⟨_,fun x h=>(nomatch h),.one (Ne.symm hne) (Nat.zero_le _) ⟨⟨0,.v 9,0,t,bI fun x h=>by cases h;exact as1 (by decide),bI fun x h=>as1 (by have:=vt x (by rw [h];exact gC);lia),.bl hne fun y h=>ord y (ia (oG y (by rw [h];exact gC))),Nat.zero_le _⟩,by rw [s9];exact Nat.zero_le _,by rw [sT];(refine Nat.le_trans (by assumption) ?_;decide),by rw [s9];show 1<=2000;exact Nat.succ_pos _,by rw [sT];(refine Nat.le_trans (by assumption) ?_;decide)⟩,fun B s h=>?_⟩
      rw [nb] at h;cases h
      refine ⟨by simp,yO ?_ ?_ ?_⟩
      · rw [jL (by rw [sW];exact cH hv (by exact Nat.le_add_left _ _)),sW];lia
      · rw [jL (by rw [hu2];exact cH vu2 (by exact Nat.le_add_left _ _)),hu2];lia
      · rw [fg,s3,show sub (one 9 t) (.s ff (.cons (.v 9) .nil))=.s ff (.cons (sub (one 9 t) (.v 9)) .nil) from rfl,hJ];lia
    · exact ⟨_,fun x h=>(nomatch h),.leaf ⟨⟨0,_,0,_,st3,stG,.cl nofun hk (fun z=>hs ⟨_,z.symm⟩) (fun _ h z=>by
        cases G with
        |s g l=>exact hs ⟨l,by rw [show ff=g from z]⟩
        |_=>cases h),by rw [dps];exact Nat.succ_pos _⟩,by rw [s3,dps];exact Nat.succ_pos _,by rw [sG];(refine Nat.le_trans (by assumption) ?_;decide),by rw [s3,szs];exact Nat.le_add_left _ _,by rw [sG];(refine Nat.le_trans (by assumption) ?_;decide)⟩,fun B s h=>nomatch h⟩
end
section
variable {α:Nat->Nat} {fs:List T} {G t2 t3 u2 e1:T} {ff x1 w:Nat}
theorem xY (hu2:sub (upd .v 9 (.v w)) t2=u2) (du2:dp u2<=8) (zu2:sz u2<=20) (hw:occ w G=true)
    (hv:∀ x,occ x (wh fs G)=true->x<=6) (dG:dp G<=8) (dW:dp (wh fs G)<=12) (zG:sz G<=300) (zW:sz (wh fs G)<=340) (hGf:∀ l,G=.s ff l->aU l=1):
    Second α fs G t2 (.s ff (.cons (.v 9) .nil)) [(9,.v w)] (upd .v 9 (.v w)):=by
  have vG:∀ x,occ x G=true->x<=6:=fun x o=>hv x (ia o)
  have w6:=vG w hw
  have sG:sub (upd .v 9 (.v w)) G=G:=cZ (cH vG (by exact Nat.le_add_left _ _))
  have sW:sub (upd .v 9 (.v w)) (wh fs G)=wh fs G:=cZ (cH hv (by exact Nat.le_add_left _ _))
  have s9:sub (upd .v 9 (.v w)) (.v 9)=.v w:=by rw [fg,d9,hJ]
  have s3:sub (upd .v 9 (.v w)) (.s ff (.cons (.v 9) .nil))=.s ff (.cons (.v w) .nil):=by
    show T.s ff (.cons (sub (upd .v 9 (.v w)) (.v 9)) .nil)=_
    rw [s9]
  have st3:cT [(9,.v w)] 0 (.s ff (.cons (.v 9) .nil)) (.s ff (.cons (.v 9) .nil)):=bI fun x h=>nomatch h
  have stG:cT [(9,.v w)] 0 G G:=bI fun x h=>as1 (by have:=vG x (by rw [h];exact gC);lia)
  have st9:cT [(9,.v w)] 1 (.v 9) (.v w):=.go (if_pos rfl) (bI fun x h=>by cases h;exact as1 (by lia))
  have dps:∀ y,dp (.s ff (.cons (.v y) .nil))=1:=fun _=>rfl
  have szs:∀ y,sz (.s ff (.cons (.v y) .nil))=2:=fun _=>rfl
  by_cases hk:knd G=.t_v
  · obtain ⟨w',rfl⟩:∃ w,G=.v w:=by
      cases G with
      |v w=>exact ⟨w,rfl⟩
      |_=>cases hk
    obtain rfl:w=w':=of_decide_eq_true hw
    have nb:=wc (B:=[(9,.v w)]) (s:=upd .v 9 (.v w)) (x:=w) (e:=.s ff (.cons (.v 9) .nil)) (by rw [s3];show (decide (w=w)||false)=true;rw [decide_eq_true rfl];rfl)
    exact ⟨_,fun x h=>(nomatch h),.leaf ⟨⟨0,_,0,_,st3,stG,.br nofun,by rw [dps];exact Nat.succ_pos _⟩,by rw [s3,dps];exact Nat.succ_pos _,by rw [sG];exact Nat.zero_le _,by rw [s3,szs];exact Nat.le_add_left _ _,by rw [sG];exact Nat.succ_pos _⟩,fun B s h=>by exact ns nb h⟩
  · by_cases hs:∃ l,G=.s ff l
    · refine E10 hs fun l z1=>?_
      subst z1
      refine E10 (xq (hGf l rfl)) fun t z1=>?_
      subst z1
      have oG:∀ x,occ x t=true->occ x (T.s ff (.cons t .nil))=true:=fun x o=>by show (occ x t||false)=true;rw [o];rfl
      have ht:occ w t=true:=by have:(occ w t||false)=true:=hw;rw [Bool.or_false] at this;exact this
      have vt:∀ x,occ x t=true->x<=6:=fun x o=>vG x (oG x o)
      have hne:t≠.v 9:=fun z=>by have:=vt 9 (by rw [z];exact gC);lia
      have sT:sub (upd .v 9 (.v w)) t=t:=cZ (cH vt (by exact Nat.le_add_left _ _))
      have dt:dp t<=8:=by have:max (dp t) 0+1<=8:=dG;lia
      have zt:sz t<=300:=by have:sz t+0+1<=300:=zG;exact Nat.le_of_lt (by assumption)
      by_cases hkt:knd t=.t_v
      · obtain ⟨u,rfl⟩:∃ w,t=.v w:=by
          cases t with
          |v w=>exact ⟨w,rfl⟩
          |_=>cases hkt
        obtain rfl:w=u:=of_decide_eq_true ht
        refine ⟨_,fun x h=>(nomatch h),.one (Ne.symm hne) (Nat.zero_le _) ⟨⟨1,.v w,0,.v w,st9,bI fun x h=>by cases h;exact as1 (by lia),.eq nofun,Nat.zero_le _⟩,by rw [s9];exact Nat.zero_le _,by rw [sT];exact Nat.zero_le _,by rw [s9];show 1<=2000;exact Nat.succ_pos _,by rw [sT];exact Nat.succ_pos _⟩,fun B s h=>?_⟩
        obtain ⟨rfl,rfl⟩:=in2 h
        refine ⟨by simp,yO ?_ ?_ ?_⟩
        · rw [sW];lia
        · rw [hu2];lia
        · rw [s3,dps,szs];decide
      · have nb:=wc (B:=[(9,.v w)]) (s:=upd .v 9 (.v w)) (x:=w) (e:=t) (by rw [sT];exact ht)
        exact ⟨_,fun x h=>(nomatch h),.one (Ne.symm hne) (Nat.zero_le _) ⟨⟨1,.v w,0,t,st9,bI fun x h=>(hkt (by rw [h];rfl)).elim,.bl (fun z=>hkt (by rw [z];rfl)) (fun y h=>(hkt (by rw [h];rfl)).elim),Nat.zero_le _⟩,by rw [s9];exact Nat.zero_le _,by rw [sT];(refine Nat.le_trans (by assumption) ?_;decide),by rw [s9];show 1<=2000;exact Nat.succ_pos _,by rw [sT];(refine Nat.le_trans (by assumption) ?_;decide)⟩,fun B s h=>by exact ns nb h⟩
    · exact ⟨_,fun x h=>(nomatch h),.leaf ⟨⟨0,_,0,_,st3,stG,.cl nofun hk (fun z=>hs ⟨_,z.symm⟩) (fun _ h z=>by
        cases G with
        |s g l=>exact hs ⟨l,by rw [show ff=g from z]⟩
        |_=>cases h),by rw [dps];exact Nat.succ_pos _⟩,by rw [s3,dps];exact Nat.succ_pos _,by rw [sG];(refine Nat.le_trans (by assumption) ?_;decide),by rw [s3,szs];exact Nat.le_add_left _ _,by rw [sG];(refine Nat.le_trans (by assumption) ?_;decide)⟩,fun B s h=>nomatch h⟩
noncomputable def xU:T:=.s 0 (.cons (.v 9) (.cons (.a 0) .nil))
theorem comes (h2:t2=.v 7\/t2=xU) (h3:t3=.v 8\/t3=.s ff (.cons (.v 9) .nil))
    (hv:∀ x,occ x (wh fs G)=true->x<=6) (dG:dp G<=8) (dW:dp (wh fs G)<=12) (zG:sz G<=300) (zW:sz (wh fs G)<=340) (hGf:∀ l,G=.s ff l->aU l=1)
    (ord:∀ x y,occ y (wh fs G)=true->occ x (wh fs G)=false->(occ x t2=true\/occ x t3=true)->α y<α x):Comes fs G t2 t3 α:=by
  have vG:∀ x,occ x G=true->x<=6:=fun x o=>hv x (ia o)
  have hF:∀ x∈fnd fs G,occ x G=true:=fun x h=>((b9 G []).mp (List.mem_filter.mp h).1).elim (fun h=>nomatch h) id
  have hFl:(fnd fs G).length<=7:=mv 7 ((vL G List.nodup_nil).filter _) fun x h=>by have:=vG x (hF x h);exact Nat.lt_succ_of_le (by assumption)
  have ord':∀ x,6<x->(occ x t2=true\/occ x t3=true)->∀ y,occ y (wh fs G)=true->α y<α x:=fun x hx h y o=>ord x y o (cH hv hx) h
  have fin:∀ {R1:Option (Bd×(Nat->T))} {B1:Bd} {s1:Nat->T},R1=some (B1,s1)->B1.length<=4->Pr α [] .v t2 (cX ((fnd fs G).map .v) (.a 0)) R1->Second α fs G t2 t3 B1 s1->Comes fs G t2 t3 α:=fun h1 h2 h3 ⟨R,h4,h5,h6⟩=>⟨_,R,h3,.inr ⟨_,_,h1,h2,h4,h5⟩,h6⟩
  have sec:∀ {x1:Nat} {e1:T} {u2:T},(x1=7\/x1=9)->(x1=9->∃ w,e1=.v w/\occ w G=true)->sub (upd .v x1 e1) t2=u2->(∀ x,occ x u2=true->x<=6)->dp u2<=8->sz u2<=20->Second α fs G t2 t3 [(x1,e1)] (upd .v x1 e1):=fun {x1 e1 u2} hx h9 hu vu du zu=>by
    rcases h3 with rfl | rfl
    · exact z9 hx hu vu du zu hv dG dW zG zW (ord' 8 (by exact Nat.le_add_left _ _) (.inr gC))
    · rcases hx with rfl | rfl
      · exact xX hu vu du zu hv dG dW zG zW hGf (ord' 9 (by exact Nat.le_add_left _ _) (.inr rfl))
      · refine E11 (h9 rfl) fun w z1 hw=>?_
        subst z1
        exact xY hu du zu hw hv dG dW zG zW hGf
  have rdp:=sj (fnd fs G)
  have rsz:=su (fnd fs G)
  rcases h2 with rfl | rfl
  · have o7:occ 7 (cX ((fnd fs G).map .v) (.a 0))=false:=cH (fun x o=>vG x (hF x (lD.mp o))) (by exact Nat.le_refl _)
    have nb:bd [] .v 7 (cX ((fnd fs G).map .v) (.a 0))=some ([(7,cX ((fnd fs G).map .v) (.a 0))],upd .v 7 (cX ((fnd fs G).map .v) (.a 0))):=by rw [qj (by rw [d9];exact o7),d9];rfl
    refine fin nb (by simp) (.leaf ⟨⟨0,_,0,_,bI fun _ _=>rfl,bI fun _ _=>rfl,.bl sq (fun y h=>(sq h).elim),Nat.zero_le _⟩,Nat.zero_le _,by rw [d9];lia,by decide,by rw [d9];lia⟩) (sec (u2:=cX ((fnd fs G).map .v) (.a 0)) (.inl rfl) (fun h=>nomatch h) (by rw [fg,d9,hJ]) (fun x o=>vG x (hF x (lD.mp o))) (by lia) (by lia))
  · cases hFF:fnd fs G with
    |nil=>
      exact ⟨none,none,by rw [hFF];exact .leaf ⟨⟨0,_,0,_,bI fun _ _=>rfl,bI fun _ _=>rfl,.cl nofun nofun nofun (fun _ h=>nomatch h),by decide⟩,by decide,by decide,by decide,by decide⟩,.inl ⟨rfl,rfl⟩,fun _ _ h=>nomatch h⟩
    |cons w F=>
      have ow:=hF w (by rw [hFF];exact .head _)
      have hw:=vG w ow
      have nb:bd [] .v 9 (.v w)=some ([(9,.v w)],upd .v 9 (.v w)):=qj (decide_eq_false (by lia))
      have L:Lv α [] .v (.v 9) (.v w) (some ([(9,.v w)],upd .v 9 (.v w))):=by
        rw [← nb]
        exact ⟨⟨0,_,0,_,bI fun _ _=>rfl,bI fun _ _=>rfl,.bl (fun z=>by cases z;lia) (fun y h=>by cases h;exact ord' 9 (by exact Nat.le_add_left _ _) (.inl rfl) w (ia ow)),Nat.zero_le _⟩,Nat.zero_le _,Nat.zero_le _,by show 1<=2000;exact Nat.succ_pos _,by show 1<=2000;exact Nat.succ_pos _⟩
      have a0:sub (upd .v 9 (.v w)) (.a 0)=.a 0:=rfl
      have ne9:T.v 9≠.v w:=fun z=>by cases z;lia
      rw [hFF,List.length_cons] at hFl
      have rdp':=sj F
      have rsz':=su F
      have sr:sub (upd .v 9 (.v w)) (cX (F.map .v) (.a 0))=cX (F.map .v) (.a 0):=cZ (cH (fun x o=>vG x (hF x (by rw [hFF];exact .tail _ (lD.mp o)))) (by exact Nat.le_add_left _ _))
      have stR:cT [(9,.v w)] 0 (cX (F.map .v) (.a 0)) (cX (F.map .v) (.a 0)):=bI fun x h=>(sq h).elim
      have stA:cT [(9,.v w)] 0 (.a 0) (.a 0):=bI fun x h=>nomatch h
      have P:∀ {R},Lf α [(9,.v w)] (upd .v 9 (.v w)) (.a 0) (cX (F.map .v) (.a 0)) R->Pr α [] .v xU (cX ((fnd fs G).map .v) (.a 0)) R:=fun l=>by
        rw [hFF]
        exact .two ne9 (Nat.zero_le _) (Nat.zero_le _) L ⟨⟨0,_,0,_,stA,stR,l,Nat.zero_le _⟩,Nat.zero_le _,Nat.le_trans (Nat.le_of_eq (congrArg dp sr)) (by lia),by show 1<=2000;exact Nat.succ_pos _,Nat.le_trans (Nat.le_of_eq (congrArg sz sr)) (by lia)⟩
      cases F with
      |nil=>
        refine fin rfl (by simp) (P (.eq nofun)) (sec (u2:=.s 0 (.cons (.v w) (.cons (.a 0) .nil))) (.inr rfl) (fun _=>⟨w,rfl,ow⟩) ?_ (fun x o=>?_) ?_ ?_)
        · show T.s 0 (.cons (sub (upd .v 9 (.v w)) (.v 9)) (.cons (.a 0) .nil))=_
          rw [fg,d9,hJ]
        · have o:(decide (x=w)||(false||false))=true:=o
          simp at o
          lia
        · show max 0 (max 0 0)+1<=8;exact Nat.succ_pos _
        · show 1+(1+0)+1<=20;exact Nat.le_add_left _ _
      |cons w2 F=>exact ⟨none,none,P (.cl nofun nofun nofun fun h=>nomatch h),.inl ⟨rfl,rfl⟩,fun _ _ h=>nomatch h⟩
end
structure gG (ha ca:Nat) (cs:List Int) (i:Nat) (z s:Int) (g:Nat) (σ:St):Prop where
  h:σ[ha]?=some (.list [.ref ca,.int i,.int z,.int s,.int g])
  c:σ[ca]?=some (.list (cs.map V.int))
  i:i<=cs.length
  z:0<=z
  s:0<=s/\s<2147483647
noncomputable def Hand (ha ca:Nat) (cs:List Int) (g:Nat) (σ:St):Prop:=∃ i z s,gG ha ca cs i z s g σ
section
variable {C:aD} {hs:Bool} {fr:Fr} {σ σ1 σ':St} {W n ha ca:Nat} {cs:List Int} {i:Nat} {z s:Int} {g:Nat} {A:List Nat}
theorem gG.ne (h:gG ha ca cs i z s g σ):ha≠ca:=fun e=>by
  have h1:=h.h
  rw [e,h.c] at h1
  have h2:=O.list.inj (Option.some.inj h1)
  cases cs with
  |nil=>cases h2
  |cons x r=>cases (List.cons.inj h2).1
theorem gG.set {i':Nat} {z' s':Int} {g':Nat} (h:gG ha ca cs i z s g σ) (hi:i'<=cs.length) (hz:0<=z') (hs:0<=s'/\s'<2147483647):gG ha ca cs i' z' s' g' (σ.set ha (.list [.ref ca,.int i',.int z',.int s',.int g'])):=⟨bc h.h,(aF h.ne).trans h.c,hi,hz,hs⟩
theorem Hand.kp (h:Hand ha ca cs g σ) (K:Kp A σ σ') (h1:ha∉A) (h2:ca∉A):Hand ha ca cs g σ':=let ⟨i,z,s,q⟩:=h;⟨i,z,s,K _ _ q.h h1,K _ _ q.c h2,q.i,q.z,q.s⟩
theorem dE {e:ME} {k:Nat} {v:V} (he:ev C hs e fr σ=some (.ref ha,σ)) (h:gG ha ca cs i z s g σ) (hv:[V.ref ca,.int i,.int z,.int s,.int g][k]?=some v):ev C hs (.sub e (.int k)) fr σ=some (v,σ):=bQ he rfl h.h (dH.trans hv)
theorem gO {a:Int} {k:Nat} (hk:0<k):∃ d:Nat,a % (k:Int)=d/\d<k:=by
  have h1:=Int.emod_nonneg a (b:=(k:Int)) (by lia)
  have h2:=Int.emod_lt_of_pos a (b:=(k:Int)) (by lia)
  exact ⟨(a % (k:Int)).toNat,by lia,by lia⟩
theorem tn {a:Int} {k:Nat} (hk:0<k):gP .mod (.int a) (.int (k:Int))=some (.int (a % (k:Int))):=iZ (decide_eq_true (by lia)) rfl
theorem Au {a:Int} {k:Nat} (hk:0<k) (h:k<=1000):gP .fdiv (.int a) (.int (k:Int))=some (.int (a / (k:Int))):=iZ (by rw [decide_eq_true (show (0:Int)<k by lia),decide_eq_true (show (k:Int)<=1000 by lia)];rfl) rfl
theorem qP {C:Bool->aD} {k:Nat} {x2 x3:Option V} (h:gG ha ca cs i z s g σ) (hk:0<k) (hl:k<=1000):∃ d σ',d<k/\Hand ha ca cs g σ'/\Kp [ha] σ σ'/\
    Ends (evS C W hs (.cons (.asg 3 (.bin .mod (.sub (.loc 0) (.int 2)) (.loc 1))) (.cons (.setitem (.loc 0) (.int 2) (.bin .fdiv (.sub (.loc 0) (.int 2)) (.loc 1))) (.cons (.ret (.loc 3)) .nil))) ⟨[some (.ref ha),some (.int k),x2,x3],[]⟩ σ) fun fl _ σ1=>fl=.ret (.int (d:Nat))/\σ1=σ':=by
  refine E11 (gO (a:=z) hk) fun d e hd=>?_
  refine ⟨d,_,hd,⟨i,z / (k:Int),s,h.set h.i (Int.ediv_nonneg h.z (by lia)) h.s⟩,Kp.set (.head _),aa (av (bJ (dE (k:=2) rfl h rfl) rfl ((tn hk).trans (by rw [e])))) (aa (aM (bJ (dE (k:=2) rfl h rfl) rfl (Au hk hl)) rfl rfl (dh h.h (by decide) (by simp))) (aA (aB rfl) ⟨rfl,rfl⟩))⟩
theorem Bc (h:Hand ha ca cs g σ) {k:Nat} (hk:0<k) (hl:k<=1000):∃ d σ',af W (n+1) hs .bg [.ref ha,.int k] σ=some (.ok (.int (d:Nat)),σ')/\d<k/\Hand ha ca cs g σ'/\Kp [ha] σ σ':=by
  refine E30 h fun i z s h=>?_
  by_cases hz:z=0
  · have c1:ev (af W n hs) hs (.cmp .eq (.sub (.loc 0) (.int 2)) (.int 0)) ⟨[some (.ref ha),some (.int k),none,none],[]⟩ σ=some (.bool true,σ):=ai (dE (k:=2) rfl h rfl) rfl (congrArg some (decide_eq_true hz))
    have len:ev (af W n hs) hs (.call (.glob (.bi .len)) (.cons (.sub (.loc 0) (.int 0)) .nil)) ⟨[some (.ref ha),some (.int k),none,none],[]⟩ σ=some (.int (cs.length:Nat),σ):=bF (ab (dE (k:=0) rfl h rfl)) ((bD h.c).trans (by rw [List.length_map]))
    by_cases hi:i=cs.length
    · have hm:small s=true:=by have:=h.s;unfold small;simp;lia
      refine E11 (gO (a:=s * 48271) (k:=2147483647) (by decide)) fun m em hm2=>?_
      have h1:=h.set (i':=i) (z':=z) (s':=(m:Int)) (g':=g) h.i h.z ⟨by lia,by lia⟩
      refine E11 (gO (a:=(m:Int) / ((7:Nat):Int)) hk) fun d ed hd=>?_
      refine ⟨d,_,b6 rfl rfl (aj (aw c1 (aj (aw (ai (dE (k:=1) rfl h rfl) len (congrArg some (bX hi))) (aa (aM (v:=.int m) (bJ (bJ (v:=.int (s * 48271)) (dE (k:=3) rfl h rfl) rfl ?_) rfl ((tn (k:=2147483647) (by decide)).trans (by rw [em]))) rfl rfl (dh h.h (by decide) (by simp))) (aA (aB (bJ (bJ (dE (k:=3) rfl h1 rfl) rfl (Au (k:=7) (by decide) (by decide))) rfl ((tn hk).trans (by rw [ed])))) ⟨rfl,rfl⟩)))))),hd,⟨_,_,_,h1⟩,Kp.set (.head _)⟩
      exact kZ rfl hm (d8 (k:=48271) (by decide))
    · have hlt:i<cs.length:=by have:=h.i;lia
      obtain ⟨x,hx⟩:∃ x,cs[i]?=some x:=⟨_,List.getElem?_eq_getElem hlt⟩
      have h1:=h.set (i':=i+1) (z':=z) (s':=s) (g':=g) hlt h.z h.s
      have h2:=h1.set (i':=i+1) (z':=if 0<=x then x else -x) (s':=s) (g':=g) hlt (by split<;>omega) h.s
      refine E23 (qP (C:=af W n) (W:=W) (hs:=hs) (x2:=some (.int x)) (x3:=none) h2 hk hl) fun d σ' hd hh K e=>?_
      refine ⟨d,σ',b6 rfl rfl (aj (aw c1 (aa (aN (ai (dE (k:=1) rfl h rfl) len (congrArg some (bE hi)))) (aa (av (bQ (dE (k:=0) rfl h rfl) (dE (k:=1) rfl h rfl) h.c (dH.trans (by rw [List.getElem?_map,hx];rfl)))) (aa (aM (bJ (v:=.int ((i+1:Nat):Int)) (dE (k:=1) rfl h rfl) rfl rfl) rfl rfl (dh h.h (by decide) (by simp))) (aa (aM (v:=.int (if 0<=x then x else -x)) ?_ rfl rfl (dh h1.h (by decide) (by simp))) (ao e))))))),hd,hh,((Kp.set (.head _)).trans (Kp.set (.head _))).trans K⟩
      by_cases hx0:0<=x
      · rw [if_pos hx0]
        exact mj (ai rfl rfl (congrArg some (decide_eq_true hx0))) rfl
      · rw [if_neg hx0]
        exact j6 (ai rfl rfl (congrArg some (decide_eq_false hx0))) (fF rfl)
  · refine E23 (qP (C:=af W n) (W:=W) (hs:=hs) (x2:=none) (x3:=none) h hk hl) fun d σ' hd hh K e=>?_
    exact ⟨d,σ',b6 rfl rfl (aa (aN (ai (dE (k:=2) rfl h rfl) rfl (congrArg some (decide_eq_false hz)))) e),hd,hh,K⟩
end
noncomputable def szb:Nat->Nat
  |0=>1
  |d+1=>1+3 * szb d
structure Good (Y:Sym) (k:Nat) (t:T):Prop where
  w:Wf Y t
  d:dp t<=k
  z:sz t<=szb k
  v:∀ x,occ x t=true->x<=3
  c:eM t=false
  p:∀ f l,t=.s f l->0<aU l
structure TS (c:Cfg) (ha ca:Nat) (cs:List Int) (Y:Sym) (g:Nat) (σ:St):Prop where
  m:SMem c σ Y
  h:Hand ha ca cs g σ
noncomputable def wr (c:Cfg) (ha:Nat):List Nat:=[ha,c.tx,c.an,c.fu,c.fn]
structure Apart (c:Cfg) (ha ca:Nat):Prop where
  d:c.tx≠c.fu
  h1:ha∉[c.sy,c.tx,c.an,c.fu,c.fn]
  h2:ca∉[c.tx,c.an,c.fu,c.fn]
noncomputable def Y0:Sym:=⟨[.n9,.yj,.mO,.lF,.sV,.ym,.pQ,.pM,.AN,.sX,.pJ,.yk,.pO,.pP,.yi,.yh,.sY,.sR,.pN,.fO,.Ca,.pK,.dO,.uG,.iQ,.qZ,.yn,.pL,.pR],
  [(1,2),(7,2),(9,2),(10,2),(11,1),(12,2),(12,1),(13,1),(14,2),(2,1),(20,2),(21,2),(3,1),(3,2),(4,2),(6,2),(22,2),(26,1),(27,3),(28,1),(15,0),(16,0),(17,0),(18,0),(19,1),(19,2),(19,3),(19,4),(19,5),(19,6),(19,7),(19,8)]⟩
section
variable {C:aD} {hs:Bool} {fr:Fr} {σ σ1 σ':St} {W n ha ca:Nat} {cs:List Int} {c:Cfg} {Y Y':Sym} {g:Nat}
theorem Bw {α:Type} [DecidableEq α] {l r:List α} {a:α} (h:a∈l):ix (l++r) a=ix l a:=by unfold ix;rw [List.idxOf_append,if_pos h]
theorem CK {α:Type} [DecidableEq α] {l r:List α} {a:α} (h:a∉l):l.length<=ix (l++r) a:=by unfold ix;rw [List.idxOf_append,if_neg h];exact Nat.le_add_left _ _
theorem w0 {k:Nat} (h0:Yle Y0 Y):fno Y .t_f k≠11/\fno Y .t_f k≠0:=by
  have hle:Yle Y0 (iE Y .t_f k):=h0.trans eV
  have hge:29<=ix (bC Y .t_f).ts .t_f:=by
    refine E01 (h0.trans (jh (Y:=Y) (t:=.t_f))) fun y0 _=>?_
    obtain ⟨r,e⟩:=y0
    rw [e]
    exact CK (l:=Y0.ts) (by decide)
  have no:∀ i q,Y0.fs[i]?=some q->q.1<29->fno Y .t_f k≠i:=fun i q hq hl z=>by
    have h1:=hle.fs hq
    have h2:=gh (Y:=Y) (t:=.t_f) (k:=k)
    rw [z,h1] at h2
    have:=congrArg Prod.fst (Option.some.inj h2)
    simp only at this
    lia
  exact ⟨no 11 (21,2) rfl (by decide),no 0 (1,2) rfl (by decide)⟩
theorem Good.mono {d:Nat} {t:T} (h:Good Y d t) (hY:Yle Y Y'):Good Y' d t:=⟨Wf.mono hY t h.w,h.d,h.z,h.v,h.c,h.p⟩
theorem TS.kp {A:List Nat} (T:TS c ha ca cs Y g σ) (K:Kp A σ σ') (h1:∀ i∈A,i∉[c.sy,c.tx,c.an,c.fu,c.fn]) (h2:ha∉A) (h3:ca∉A):TS c ha ca cs Y g σ':=⟨T.m.kp K h1,T.h.kp K h2 h3⟩
theorem pI (d:Nat):1<=szb d:=by cases d with | zero=>exact Nat.le_refl _ | succ d=>exact Nat.le_add_right 1 _
theorem eS (P:Apart c ha ca) (T:TS c ha ca cs Y g σ) {k:Nat} (hk:0<k) (hl:k<=1000):∃ d σ',af W (n+1) hs .bg [.ref ha,.int k] σ=some (.ok (.int (d:Nat)),σ')/\d<k/\TS c ha ca cs Y g σ'/\Kp [ha] σ σ':=by
  refine E23 (Bc (W:=W) (n:=n) (hs:=hs) T.h hk hl) fun d σ' e hd hh K=>?_
  exact ⟨d,σ',e,hd,⟨T.m.kp K fun i hi=>by rw [List.mem_singleton.mp hi];exact P.h1,hh⟩,K⟩
theorem dJ {σ σ':St} (K:Kp [ha] σ σ'):Kp (wr c ha) σ σ':=K.mono fun i h=>by rw [List.mem_singleton.mp h];exact .head _
theorem sU {d:Nat} {t:T} (hd:dp t=0) (hz:sz t=1) (hw:Wf Y t) (hv:∀ x,occ x t=true->x<=3) (hc:eM t=false):Good Y d t:=⟨hw,by lia,by have:=pI d;lia,hv,hc,fun f l e=>by rw [e] at hd;exact absurd hd (Nat.succ_ne_zero _)⟩
theorem B9 (P:Apart c ha ca) (T:TS c ha ca cs Y g σ) (t:Tx) (hl:Y.ts.length<900000):∃ σ',af W (n+1) hs .gc [.ref c.sy,.str t] σ=some (.ok (.int (ix (bC Y t).ts t)),σ')/\TS c ha ca cs (bC Y t) g σ'/\Kp (wr c ha) σ σ':=by
  refine E12 (oO (W:=W) (n:=n) (hs:=hs) T.m P.d t hl) fun σ' e M K=>?_
  have h1:=P.h1
  have h2:=P.h2
  simp only [List.mem_cons,List.not_mem_nil,or_false,not_or] at h1 h2
  refine ⟨σ',e,⟨M,T.h.kp K (by simp only [List.mem_cons,List.not_mem_nil,or_false,not_or];exact ⟨h1.2.1,h1.2.2.1⟩) (by simp only [List.mem_cons,List.not_mem_nil,or_false,not_or];exact ⟨h2.1,h2.2.1⟩)⟩,K.mono fun i h=>?_⟩
  rcases List.mem_cons.mp h with rfl | h
  · exact .tail _ (.head _)
  · rw [List.mem_singleton.mp h];exact .tail _ (.tail _ (.head _))
theorem sS (P:Apart c ha ca) (T:TS c ha ca cs Y g σ) (t:Tx) (k:Nat) (hl:Y.ts.length<900000) (hf:Y.fs.length<900000):∃ σ',af W (n+2) hs .gf [.ref c.sy,.str t,.int k] σ=some (.ok (.int (fno Y t k)),σ')/\TS c ha ca cs (iE Y t k) g σ'/\Kp (wr c ha) σ σ':=by
  refine E12 (rG (W:=W) (n:=n) (hs:=hs) T.m P.d t k hl hf) fun σ' e M K=>?_
  exact ⟨σ',e,⟨M,T.h.kp K (fun h=>P.h1 (.tail _ h)) P.h2⟩,K.mono fun i h=>.tail _ h⟩
theorem gM {i:Nat} {v:V} (h:fr.cells[i]?.join=some v):ev C hs (.cell i) fr σ=some (v,σ):=by
  show ja _ _=_
  rw [h];rfl
inductive TQ (c:Cfg) (ha ca:Nat) (cs:List Int) (Y:Sym) (σ:St) (d:Nat) (v:V) (σ':St):Prop
  |mk (t:T) (Y':Sym) (g':Nat) (e:v=tv t) (g:Good Y' d t) (T:TS c ha ca cs Y' g' σ') (y:Yle Y Y') (l:Y'.ts.length<=Y.ts.length+szb d) (f:Y'.fs.length<=Y.fs.length+szb d) (k:Kp (wr c ha) σ σ')
noncomputable def iT:MS->MS
  |.ite _ a _=>a
  |_=>.nil
theorem qq (P:Apart c ha ca) (T:TS c ha ca cs Y g σ) {d:Nat} (hl:Y.ts.length<800000) {x0:Option V} {Q:Fl->Fr->St->Prop} {σb:St} (Kb:Kp (wr c ha) σb σ)
    (k:∀ v fr' σ',TQ c ha ca cs Y σb d v σ'->Q (.ret v) fr' σ'):
    Ends (evS (af W (n+2)) W true (iT (cI iU 1)) ⟨[x0,none,none],[some (.ref ha),some (.ref c.sy),some (.int d)]⟩ σ) Q:=by
  have hsz:=pI d
  refine E23 (eS (W:=W) (n:=n+1) (hs:=true) P T (k:=6) (by decide) (by decide)) fun k1 σ1 e1 hk1 T1 K1=>?_
  refine aa (av (aV (ae rfl (ab rfl)) e1)) ?_
  by_cases h4:k1<4
  · refine E23 (eS (W:=W) (n:=n+1) (hs:=true) P T1 (k:=4) (by decide) (by decide)) fun m σ2 e2 hm T2 K2=>?_
    refine aj (aw (ai rfl rfl (congrArg some (decide_eq_true (by lia)))) (aA (aB (au (ae rfl (ab (aV (ae rfl (ab rfl)) e2))) rfl)) (k _ _ _ ⟨.v m,Y,g,rfl,?_,T2,.refl,by exact Nat.le_add_right _ _,by exact Nat.le_add_right _ _,(Kb.trans (dJ K1)).trans (dJ K2)⟩)))
    exact sU rfl rfl trivial (fun x o=>by obtain rfl:x=m:=of_decide_eq_true o;lia) rfl
  refine aa (aN (ai rfl rfl (congrArg some (decide_eq_false (by lia))))) ?_
  by_cases h5:k1=4
  · refine E23 (eS (W:=W) (n:=n+1) (hs:=true) P T1 (k:=3) (by decide) (by decide)) fun m σ2 e2 hm T2 K2=>?_
    refine aA (aB (mj (ai rfl rfl (congrArg some (bX (b:=4) h5))) (au (ae rfl (ab (aV (ae rfl (ab rfl)) e2))) rfl))) (k _ _ _ ⟨.i m,Y,g,rfl,?_,T2,.refl,by exact Nat.le_add_right _ _,by exact Nat.le_add_right _ _,(Kb.trans (dJ K1)).trans (dJ K2)⟩)
    exact sU rfl rfl trivial (fun x o=>nomatch o) rfl
  · have T1':=T1.kp (A:=[]) (Kp.app (l:=[.list [.str .n9,.str .t_f]])) (fun i h=>nomatch h) (fun h=>nomatch h) (fun h=>nomatch h)
    refine E23 (eS (W:=W) (n:=n+1) (hs:=true) P T1' (k:=2) (by decide) (by decide)) fun m σ2 e2 hm T2 K2=>?_
    have hne:σ1.length∉[ha]:=by refine E30 T1.h fun i z s q=>?_;have:=aC q.h;simp only [List.mem_singleton];exact Nat.ne_of_gt (by assumption)
    have g2:=K2 _ _ (bb (l:=[])) hne
    obtain ⟨t,ht⟩:∃ t:Tx,jz [.str .n9,.str .t_f] (m:Int)=some (.str t):=by
      rw [dH]
      have:m=0\/m=1:=by lia
      rcases this with rfl | rfl
      · exact ⟨.n9,rfl⟩
      · exact ⟨.t_f,rfl⟩
    refine E12 (B9 (W:=W) (n:=n+1) (hs:=true) P T2 t (by (refine Nat.le_trans (by assumption) ?_;decide))) fun σ3 e3 T3 K3=>?_
    have hal:=eD (Y:=Y) (t:=t)
    refine aA (aB (j6 (ai rfl rfl (congrArg some (bE (b:=4) h5))) (au (ae rfl (ab (e_m (gM rfl) T1.m.sy rfl (ab (bQ (b7 (ae rfl (ab rfl)) rfl) (aV (ae rfl (ab rfl)) e2) g2 ht)) e3))) rfl))) (k _ _ _ ⟨.a (ix (bC Y t).ts t),_,g,rfl,?_,T3,jh,by lia,by rw [hal.2];exact Nat.le_add_right _ _,((Kb.trans (dJ K1)).trans (Kp.app.trans (dJ K2))).trans K3⟩)
    exact sU rfl rfl trivial (fun x o=>nomatch o) rfl
theorem gx:∀ l:List T,toL (ofL l)=l
  |[]=>rfl
  |t::r=>congrArg (t::·) (gx r)
theorem rk:∀ {l:List T},(∀ t∈l,Wf Y t)->WfL Y (ofL l)
  |[],_=>trivial
  |t::r,h=>⟨h t (.head _),rk fun u m=>h u (.tail _ m)⟩
theorem rN {d:Nat}:∀ {l:List T},(∀ t∈l,dp t<=d)->dpL (ofL l)<=d
  |[],_=>Nat.zero_le _
  |t::r,h=>Nat.max_le.mpr ⟨h t (.head _),rN fun u m=>h u (.tail _ m)⟩
theorem ye {k:Nat}:∀ {l:List T},(∀ t∈l,sz t<=k)->szL (ofL l)<=l.length * k
  |[],_=>Nat.zero_le _
  |t::r,h=>by
    have h1:=h t (.head _)
    have h2:=ye (l:=r) fun u m=>h u (.tail _ m)
    show sz t+szL (ofL r)<=(r.length+1) * k
    rw [Nat.add_mul];lia
end
section
variable {σ σ1 σ':St} {W n ha ca:Nat} {cs:List Int} {c:Cfg} {Y Y':Sym} {g:Nat}
theorem Dq (T:TS c ha ca cs Y g σ):∀ i∈wr c ha,i<σ.length:=fun i h=>by
  refine E30 T.h fun _ _ _ q=>?_
  have h1:=aC q.h;have h2:=aC T.m.tx;have h3:=aC T.m.an;have h4:=aC T.m.fu;have h5:=aC T.m.fn
  simp only [wr,List.mem_cons,List.not_mem_nil,or_false] at h
  lia
theorem Ak (P:Apart c ha ca) (T:TS c ha ca cs Y g σ) (h0:Yle Y0 Y) (hl:Y.ts.length<800000) (hf:Y.fs.length<800000) {ar:Nat} (dv:V):∃ f Y2 σ2,ev (af W (n+2) true) true (.ife (.and (.cmp .eq (.loc 0) (.int 2)) (.cmp .eq (.call (.glob (.fn .bg)) (.cons (.cell 0) (.cons (.int 2) .nil))) (.int 0))) (.glob (.int 0)) (.mcall (.cell 1) .gu (.cons (.str .t_f) (.cons (.loc 0) .nil)))) ⟨[some (.int ar),none,none],[some (.ref ha),some (.ref c.sy),some dv]⟩ σ=some (.int (f:Nat),σ2)/\
    TS c ha ca cs Y2 g σ2/\Yle Y Y2/\(∃ a,Y2.fs[f]?=some (a,ar))/\f≠11/\Y2.ts.length<=Y.ts.length+1/\Y2.fs.length<=Y.fs.length+1/\Kp (wr c ha) σ σ2:=by
  have func:∀ {σ1:St},TS c ha ca cs Y g σ1->∃ σ2,ev (af W (n+2) true) true (.mcall (.cell 1) .gu (.cons (.str .t_f) (.cons (.loc 0) .nil))) ⟨[some (.int ar),none,none],[some (.ref ha),some (.ref c.sy),some dv]⟩ σ1=some (.int (fno Y .t_f ar),σ2)/\TS c ha ca cs (iE Y .t_f ar) g σ2/\Kp (wr c ha) σ1 σ2:=fun T1=>by
    refine E12 (sS (W:=W) (n:=n) (hs:=true) P T1 .t_f ar (by (refine Nat.le_trans (by assumption) ?_;decide)) (by (refine Nat.le_trans (by assumption) ?_;decide))) fun σ2 e2 T2 K2=>?_
    exact ⟨σ2,e_m (gM rfl) T1.m.sy rfl (ae rfl (ab rfl)) e2,T2,K2⟩
  have hadd:=ji (Y:=Y) (t:=.t_f) (k:=ar)
  by_cases h2:ar=2
  · refine E23 (eS (W:=W) (n:=n+1) (hs:=true) P T (k:=2) (by decide) (by decide)) fun d σ1 e1 _ T1 K1=>?_
    have c1:ev (af W (n+2) true) true (.cmp .eq (.loc 0) (.int 2)) ⟨[some (.int ar),none,none],[some (.ref ha),some (.ref c.sy),some dv]⟩ σ=some (.bool true,σ):=ai rfl rfl (congrArg some (bX (b:=2) h2))
    have c2:∀ {b},decide ((d:Int)=((0:Nat):Int))=b->ev (af W (n+2) true) true (.cmp .eq (.call (.glob (.fn .bg)) (.cons (.cell 0) (.cons (.int 2) .nil))) (.int 0)) ⟨[some (.int ar),none,none],[some (.ref ha),some (.ref c.sy),some dv]⟩ σ=some (.bool b,σ1):=fun h=>ai (aV (ae rfl (ab rfl)) e1) rfl (congrArg some h)
    by_cases hd:d=0
    · refine ⟨0,Y,σ1,mj (dk c1 (c2 (bX hd))) rfl,T1,.refl,⟨1,h2▸h0.fs rfl⟩,by decide,Nat.le_succ _,Nat.le_succ _,dJ K1⟩
    · refine E12 (func T1) fun σ2 e2 T2 K2=>?_
      exact ⟨_,_,σ2,j6 (dk c1 (c2 (bE hd))) e2,T2,eV,⟨_,gh⟩,(w0 h0).1,hadd.1,hadd.2,(dJ K1).trans K2⟩
  · refine E12 (func T) fun σ2 e2 T2 K2=>?_
    exact ⟨_,_,σ2,j6 (dD (ai rfl rfl (congrArg some (bE (b:=2) h2)))) e2,T2,eV,⟨_,gh⟩,(w0 h0).1,hadd.1,hadd.2,K2⟩
inductive TJ (c:Cfg) (ha ca:Nat) (cs:List Int) (d:Nat) (Y:Sym) (σ:St) (acc:List V) (σ':St):Prop
  |mk (l:List T) (Y':Sym) (g':Nat) (e:acc=l.map tv) (n:l.length<=3) (g:∀ t∈l,Good Y' d t) (T:TS c ha ca cs Y' g' σ') (y:Yle Y Y') (h:Y'.ts.length<=Y.ts.length+l.length * szb d) (f:Y'.fs.length<=Y.fs.length+l.length * szb d) (k:Kp (wr c ha) σ σ') (s:σ'[σ.length]?=some (.list acc))
noncomputable def rj (c:Cfg) (ha ca:Nat) (cs:List Int) (W n:Nat) (d:Nat):Prop:=∀ (Y:Sym) (g:Nat) (σ:St),TS c ha ca cs Y g σ->Yle Y0 Y->Y.ts.length+szb d<=700000->Y.fs.length+szb d<=700000->∃ v σ',af W (n+d+3) true .fv [.ref ha,.ref c.sy,.int d] σ=some (.ok v,σ')/\TQ c ha ca cs Y σ d v σ'
theorem qr (P:Apart c ha ca) (d:Nat) (ih:∀ m,d=m+1->rj c ha ca cs W n m):rj c ha ca cs W n d:=fun Y g σ T h0 hl hf=>by
  refine dB (W:=W) (n:=n+d+2) (hs:=true) (f:=.fv) (args:=[.ref ha,.ref c.sy,.int d]) (σ:=σ) (b:=iU) (P:=TQ c ha ca cs Y σ d) rfl rfl ?_
  have hsz:=pI d
  refine E23 (eS (W:=W) (n:=n+d+1) (hs:=true) P T (k:=4) (by decide) (by decide)) fun ar σ1 e1 har T1 K1=>?_
  refine E30 T1.h fun i z s q=>?_
  refine aa (av (aV (ae rfl (ab rfl)) e1)) ?_
  have or:∀ {b},(decide ((ar:Int)=((0:Nat):Int))||(decide ((d:Int)=((0:Nat):Int))||decide ((g:Int)=((0:Nat):Int))))=b->ev (af W (n+d+2) true) true (.or3 (.cmp .eq (.loc 0) (.int 0)) (.cmp .eq (.cell 2) (.int 0)) (.cmp .eq (.sub (.cell 0) (.int 4)) (.int 0))) ⟨[some (.int ar),none,none],[some (.ref ha),some (.ref c.sy),some (.int d)]⟩ σ1=some (.bool b,σ1):=fun h=>h▸wQ (ai rfl rfl rfl) (ai rfl rfl rfl) (ai (dE (k:=4) rfl q rfl) rfl rfl)
  by_cases hor:ar=0\/d=0\/g=0
  · exact aj (aw (or (by rcases hor with h | h | h<;>simp [h])) (qq (n:=n+d) P T1 (by lia) (dJ K1) fun v fr' σ' h=>h))
  have hor':¬ ar=0/\¬ d=0/\¬ g=0:=⟨fun h=>hor (.inl h),fun h=>hor (.inr (.inl h)),fun h=>hor (.inr (.inr h))⟩
  obtain ⟨d,rfl⟩:∃ m,d=m+1:=⟨d - 1,by lia⟩
  obtain ⟨g,rfl⟩:∃ m,g=m+1:=⟨g - 1,by lia⟩
  have hszd:szb (d+1)=1+3 * szb d:=rfl
  have q2:=q.set (i':=i) (z':=z) (s':=s) (g':=g) q.i q.z q.s
  have nin:∀ i∈[ha],i∉[c.sy,c.tx,c.an,c.fu,c.fn]:=fun i hi=>by rw [List.mem_singleton.mp hi];exact P.h1
  have T2:TS c ha ca cs Y g (σ1.set ha (.list [.ref ca,.int i,.int z,.int s,.int g])):=⟨T1.m.kp (Kp.set (A:=[ha]) (.head _)) nin,_,_,_,q2⟩
  refine E37 (Ak (W:=W) (n:=n+d+1) P T2 h0 (by lia) (by lia) (ar:=ar) (.int ((d+1:Nat):Int))) fun f Y2 σ2 e2 T3 hY ha2 hf11 l1 l2 K2=>?_
  have K02:Kp (wr c ha) σ σ2:=((dJ K1).trans (Kp.set (.head _))).trans K2
  refine aa (aN (or (by rw [bE (b:=0) hor'.1,bE (b:=0) (a:=d+1) (by lia),bE (b:=0) (a:=g+1) (by lia)];rfl))) ?_
  refine aa (aM (bJ (v:=.int (g:Nat)) (dE (k:=4) rfl q rfl) rfl (k9 (by lia))) rfl rfl (dh q.h (by decide) (by simp))) (aa (av e2) ?_)
  have wlt:=Dq T3
  have nd:σ2.length∉wr c ha:=fun h=>Nat.lt_irrefl _ (wlt _ h)
  have T3':=T3.kp (A:=[]) (Kp.app (l:=[.list []])) (fun i h=>nomatch h) (fun h=>nomatch h) (fun h=>nomatch h)
  refine E22 (ik (body:=fun v σ=>bnd (ev (af W (n+d+1+2) true) true (.call (.glob (.fn .fv)) (.cons (.cell 0) (.cons (.cell 1) (.cons (.bin .sub (.cell 2) (.int 1)) .nil)))) ⟨[some v],[some (.ref ha),some (.ref c.sy),some (.int ((d+1:Nat):Int))]⟩ σ) fun y σ=>some (some y,σ)) (it:=.rng 0 ar 1) (d:=σ2.length) (xs:=fZ 0 ar 1)
    (TJ c ha ca cs d Y2 σ2) (fun _ _ _=>rfl) (by rw [dY];(refine Nat.le_trans (by assumption) ?_;decide))
    (fun acc x σ' hx J=>by
      obtain ⟨l,Y',g',ha',hl3,hg,T',hY',l3,l4,K',hd'⟩:=J
      subst ha'
      obtain ⟨rfl,hx2⟩:=pD hx
      rw [List.length_map] at hx2
      have hmul:l.length * szb d<=2 * szb d:=Nat.mul_le_mul_right _ (by lia)
      refine E21 (ih d rfl Y' g' σ' T' ((h0.trans hY).trans hY') (by lia) (by lia)) fun v σ'' ev1 q=>?_
      obtain ⟨t,Y5,g5,rfl,hgt,T5,hY5,l5,l6,K5⟩:=q
      have hd5:=K5 _ _ hd' nd
      have nS:∀ i∈[σ2.length],i∉[c.sy,c.tx,c.an,c.fu,c.fn]:=fun i hi=>by
        rw [List.mem_singleton.mp hi]
        have:=aC T3.m.sy
        intro h
        rcases List.mem_cons.mp h with h | h
        · lia
        · exact nd (.tail _ h)
      have nca:ca∉[σ2.length]:=by obtain ⟨_,_,_,q3⟩:=T3.h;have:=aC q3.c;simp only [List.mem_singleton];exact Nat.ne_of_lt (by assumption)
      have nha:ha∉[σ2.length]:=by have:=wlt ha (.head _);simp only [List.mem_singleton];exact Nat.ne_of_lt (by assumption)
      refine ⟨tv t,σ'',aI (aV (ae rfl (ae rfl (ab (bJ (v:=.int (d:Nat)) rfl rfl (k9 (by lia)))))) ev1) rfl,hd5,l++[t],Y5,g5,by rw [List.map_append];rfl,by rw [List.length_append];show _+1<=3;lia,fun u hu=>?_,T5.kp (Kp.set (A:=[σ2.length]) (.head _)) nS nha nca,hY'.trans hY5,by rw [List.length_append,Nat.add_mul];show _<=_+(_+1 * szb d);lia,by rw [List.length_append,Nat.add_mul];show _<=_+(_+1 * szb d);lia,fun i o hi hA=>?_,bc hd5⟩
      · rcases List.mem_append.mp hu with h | h
        · exact (hg u h).mono hY5
        · rw [List.mem_singleton.mp h];exact hgt
      · have:=aC hi
        exact (aF (by exact Nat.ne_of_gt (by assumption))).trans (K5 i o (K' i o hi hA) hA)) (fZ 0 ar 1) [] (σ2++[.list []]) (Nat.zero_add _) ⟨[],Y2,g,rfl,Nat.zero_le _,fun t h=>(nomatch h),T3',.refl,by simp,by simp,Kp.app,bb⟩) fun ys σ3 e3 hy J=>?_
  obtain ⟨l,Y4,g4,rfl,hl2,hgood,T4,hY4,l3,l4,K4,hd4⟩:=J
  rw [List.length_map,dY] at hy
  have et:tv (.s f (ofL l))=.tup [.str .t_s,.int f,.tup (l.map tv)]:=by
    show V.tup [.str .t_s,.int f,.tup (tvl (ofL l))]=_
    rw [fa,gx]
  have hlen:aU (ofL l)=ar:=by rw [← bB,gx];exact hy
  have hmul:l.length * szb d<=3 * szb d:=Nat.mul_le_mul_right _ (by assumption)
  have hs3:=ye (l:=l) (k:=szb d) fun t h=>(hgood t h).z
  have ec:ev (af W (n+(d+1)+2) true) true (.comp (.call (.glob (.bi .range)) (.cons (.loc 0) .nil)) (.call (.glob (.fn .fv)) (.cons (.cell 0) (.cons (.cell 1) (.cons (.bin .sub (.cell 2) (.int 1)) .nil))))) ⟨[some (.int ar),none,some (.int f)],[some (.ref ha),some (.ref c.sy),some (.int ((d+1:Nat):Int))]⟩ σ2=some (.ref σ2.length,σ3):=by
    rw [show n+(d+1)+2=n+d+1+2 by lia]
    exact aI (bF (ab rfl) (nu (by lia))) (ay (x:=fZ 0 ar 1) rfl (ay e3 rfl))
  refine aA (aB (au (ae rfl (ae rfl (ab (bF (ab ec) (jr hd4 (fits_of (by rw [List.length_map];(refine Nat.lt_of_le_of_lt (by assumption) ?_;decide)))))))) rfl)) ⟨.s f (ofL l),Y4,g4,et.symm,⟨⟨?_,by lia,rk fun t h=>(hgood t h).w⟩,Nat.succ_le_succ (rN fun t h=>(hgood t h).d),by show szL (ofL l)+1<=_;lia,fun x o=>?_,decide_eq_false hf11,fun f' l' e=>by cases e;lia⟩,T4,hY.trans hY4,by lia,by lia,K02.trans K4⟩
  · rw [hlen]
    exact ha2.imp fun a h=>hY4.fs h
  · obtain ⟨t,ht,ot⟩:=fx.mp (show cJ x (ofL l)=true from o)
    rw [gx] at ht
    exact (hgood t ht).v x ot
theorem wD (P:Apart c ha ca) (d:Nat):rj c ha ca cs W n d:=by
  induction d with
  |zero=>exact qr P _ fun m e=>absurd e.symm (Nat.succ_ne_zero m)
  |succ d ih=>exact qr P _ fun m e=>Nat.succ.inj e▸ih
end
section
variable {C:aD} {hs:Bool} {fr:Fr} {σ σ0 σ1 σ2:St} {W n a:Nat} {c:Cfg} {Y:Sym} {t:T}
theorem zl {it elt:ME} {x:V} {xs:List V} {σf:St} (hi:ev C hs it fr σ=some (x,σ1)) (hx:itemsOf x σ1=some xs) (h:cj (fun v σ=>bnd (ev C hs elt ⟨[some v],fr.cells⟩ σ) fun y σ=>some (some y,σ)) x σ1.length xs 0 (σ1++[.list []])=some σf):ev C hs (.comp it elt) fr σ=some (.ref σ1.length,σf):=aI hi (ay hx (ay h rfl))
theorem wx (M:SMem c σ Y) (hd:c.tx≠c.fu) (hl:Y.ts.length<800000) (hf:Y.fs.length<800000) (hp:σ[a]?=some (.list [.str .ak,tv t])) (ha:a∉[c.tx,c.an,c.fu,c.fn]):∃ σ',af W (n+3) true .nK [.ref c.sy,.str .aL,.ref a] σ=some (.ok (.tup [.str .dO,tv (fK Y t)]),σ')/\SMem c σ' (fJ Y)/\Kp [c.tx,c.an,c.fu,c.fn] σ σ':=by
  refine E12 (oO (W:=W) (n:=n+1) (hs:=true) (M.app [.list []]) hd .ak (by (refine Nat.le_trans (by assumption) ?_;decide))) fun σ1 e1 M1 K1=>?_
  have nin:σ.length∉[c.tx,c.an]:=M.lt (by simp)
  have g1:=K1 _ _ (bb (o:=.list [])) nin
  have ns:∀ i∈[σ.length],i∉[c.sy,c.tx,c.an,c.fu,c.fn]:=fun i hi=>by
    rw [List.mem_singleton.mp hi]
    have h1:=aC M.tx;have h2:=aC M.an;have h3:=aC M.fu;have h4:=aC M.fn;have h5:=aC M.sy
    simp only [List.mem_cons,List.not_mem_nil,or_false]
    lia
  have g2:=bc (x:=.list [.tup [.str .t_a,.int (ix (bC Y .ak).ts .ak)]]) g1
  have g3:=bc (x:=.list [.tup [.str .t_a,.int (ix (bC Y .ak).ts .ak)],tv t]) g2
  have M3:SMem c ((σ1.set σ.length (.list [.tup [.str .t_a,.int (ix (bC Y .ak).ts .ak)]])).set σ.length (.list [.tup [.str .t_a,.int (ix (bC Y .ak).ts .ak)],tv t])) (bC Y .ak):=(M1.kp (Kp.set (.head _)) ns).kp (Kp.set (.head _)) ns
  refine E12 (rG (W:=W) (n:=n) (hs:=true) M3 hd .aL 2 (by have:=(eD (Y:=Y) (t:=.ak)).1;lia) (by rw [eD.2];(refine Nat.le_trans (by assumption) ?_;decide))) fun σ4 e4 M4 K4=>?_
  have g4:=K4 _ _ g3 (M.lt (fun _ h=>h))
  have hne:σ.length≠a:=fun z=>by have:=aC hp;lia
  have p1:σ1[a]?=some (.list [.str .ak,tv t]):=K1 _ _ (aq hp) fun h=>ha (List.mem_append_left [c.fu,c.fn] h)
  have p2:(σ1.set σ.length (.list [.tup [.str .t_a,.int (ix (bC Y .ak).ts .ak)]]))[a]?=some (.list [.str .ak,tv t]):=(aF hne).trans p1
  have ec:ev (af W (n+2) true) true (.comp (.loc 1) (.ife (.call (.glob (.bi .isinstance)) (.cons (.loc 0) (.cons (.glob (.ty .str)) .nil))) (.tuple (.cons (.str .t_a) (.cons (.mcall (.cell 0) .gV (.cons (.loc 0) .nil)) .nil))) (.loc 0))) ⟨[some (.str .aL),some (.ref a),none,none],[some (.ref c.sy)]⟩ σ=some (.ref σ.length,(σ1.set σ.length (.list [.tup [.str .t_a,.int (ix (bC Y .ak).ts .ak)]])).set σ.length (.list [.tup [.str .t_a,.int (ix (bC Y .ak).ts .ak)],tv t])):=by
    refine zl rfl (aO hp) ?_
    refine ij (Q:=(·=some _)) (aO (aq hp)) rfl (aI (mj (bF (ae rfl (ab rfl)) rfl) (au (ae rfl (ab (e_m (gM rfl) (M.app [.list []]).sy rfl (ab rfl) e1))) rfl)) rfl) g1 (by simp) ?_
    refine ij (Q:=(·=some _)) (aO p2) rfl (aI (j6 (bF (ae rfl (ab rfl)) qG) rfl) rfl) g2 (by simp) ?_
    exact rJ (aO ((aF hne).trans p2)) (Nat.le_refl 2)
  have gl:(σ4++[O.list []])[σ.length]?=some (.list [.tup [.str .t_a,.int (ix (bC Y .ak).ts .ak)],tv t]):=aq g4
  have eqc:gQ .eq (.ref σ.length) (.ref σ4.length) (σ4++[.list []])=some false:=qC gl (qC bb rfl)
  refine ⟨σ4++[.list []],b6 rfl rfl (aa (iC ec) (aa (av (au (ae rfl (ae (e_m (gM rfl) M3.sy rfl (ae rfl (ab (bF (ab rfl) (bD g3)))) e4) (ab (bF (ab rfl) (jr g4 rfl))))) rfl)) (aa (aN (ai rfl (b7 rfl rfl) eqc)) (aA (aB (au (ae rfl (ab (au (ae rfl (ae rfl (ab (au (ae rfl (ab (au (ae rfl (ab rfl)) rfl))) rfl)))) rfl))) rfl)) ⟨rfl,rfl⟩)))),M4.app _,fun i o hi hA=>aq (K4 _ _ ?_ hA)⟩
  have hne:σ.length≠i:=fun z=>by have:=aC hi;lia
  exact (aF hne).trans ((aF hne).trans (K1 i o (aq hi) fun h=>hA (List.mem_append_left [c.fu,c.fn] h)))
end
noncomputable def c0:Cfg:=⟨2,3,4,5,6,0,0,0,0⟩
theorem Ah (W n:Nat) (o0 o1:O):af W (n+6) true .jg [.ref 2] [o0,o1,.inst .symbols []]=some (.ok .none,[o0,o1,.inst .symbols (syA c0),.list (Y0.ts.map .str),.dS (kY Y0.ts),.list (Y0.fs.map cv),.dP (kX Y0.fs)]):=by kernel_rfl
noncomputable def frL (x4 x5 x6 x7 x8 x9 x10 x11 x12 y0 y1:Option V):Fr:=⟨[none,some (.ref 0),some (.ref 1),some (.ref 2),x4,x5,x6,x7,x8,x9,x10,x11,x12],[y0,y1]⟩
noncomputable def σA (cs:List Int):St:=[.list (cs.map .int),.list [.ref 0,.int 0,.int 0,.int ((cs.sum % 100003) * 7),.int 4],.inst .symbols (syA c0),.list (Y0.ts.map .str),.dS (kY Y0.ts),.list (Y0.fs.map cv),.dP (kX Y0.fs)]
section
variable {cs cs':List Int} {W n:Nat} {Q:Fl->Fr->St->Prop} {σ σ1:St} {Y:Sym} {g:Nat}
theorem xd:∀ l:List Int,intsOf (l.map .int)=some l
  |[]=>rfl
  |x::l=>by
    show (intsOf (l.map .int)).map (x::·)=_
    rw [xd l];rfl
theorem dA:Apart c0 1 0:=⟨by decide,by decide,by decide⟩
noncomputable def fr0:Fr:=⟨[none,some (.ref 0),none,none,none,none,none,none,none,none,none,none,none],[none,none]⟩
theorem CM (k:Ends (evS (af W (n+7)) W true (cu 3 cB) (frL none none none none none none none none none none none) (σA cs)) Q):Ends (evS (af W (n+7)) W true (cu 1 cB) fr0 [.list (cs.map .int)]) Q:=by
  have hm:=gO (a:=cs.sum) (k:=100003) (by decide)
  refine E11 hm fun d ed hd=>?_
  have esum:jx true .sum [.ref 0] [.list (cs.map .int)]=some (.int cs.sum,[.list (cs.map .int)]):=by
    exact ay (xd _) rfl
  have emul:gP .mul (.int (cs.sum % 100003)) (.int 7)=some (.int (cs.sum % 100003 * 7)):=by
    exact kZ rfl (by rw [show cs.sum % 100003=(d:Int) from ed];exact d8 (by lia)) (d8 (k:=7) (by decide))
  refine aa (av (b7 (ae rfl (ae rfl (ae rfl (ae (bJ (bJ (bF (ab rfl) esum) rfl (tn (k:=100003) (by decide))) rfl emul) (ab rfl))))) rfl)) (aa (av (tQ (cl:=.symbols) (by simp) rfl (Ah W (n+1) _ _))) k)
theorem DH:TS c0 1 0 cs Y0 4 (σA cs):=by
  refine E11 (gO (a:=cs.sum) (k:=100003) (by decide)) fun d ed hd=>?_
  refine ⟨⟨rfl,rfl,rfl,rfl,rfl⟩,0,0,cs.sum % 100003 * 7,rfl,rfl,Nat.zero_le _,Int.le_refl _,?_⟩
  rw [show cs.sum % 100003=(d:Int) from ed]
  lia
structure LS (cs:List Int) (fl:Nat) (l:List T) (Y:Sym) (g k:Nat) (σ:St):Prop where
  t:TS c0 1 0 cs Y g σ
  y:Yle Y0 Y
  l1:Y.ts.length<=100+k
  l2:Y.fs.length<=100+k
  f:σ[fl]?=some (.list (l.map tv))
  h:7<=fl
theorem LS.nwr {cs:List Int} {fl:Nat} {l:List T} {k:Nat} (h:LS cs fl l Y g k σ):fl∉wr c0 1:=fun m=>by
  have h8:=h.h
  have m:fl∈[1,3,4,5,6]:=m
  simp only [List.mem_cons,List.not_mem_nil,or_false] at m
  lia
theorem TS.Df (T:TS c0 1 0 cs Y g σ) (g':Nat) {C:Bool->aD} {fr:Fr} {v:V} (h2:fr.locs[2]?.join=some (.ref 1)) (hv:v=.int g') {e:ME} (he:ev (C true) true e fr σ=some (v,σ)):∃ σ',evS C W true (.setitem (.loc 2) (.int 4) e) fr σ=some (.nxt,fr,σ')/\TS c0 1 0 cs Y g' σ'/\Kp (wr c0 1) σ σ':=by
  subst hv
  refine E30 T.h fun i z s q=>?_
  refine ⟨_,aM he (dF h2) rfl (dh q.h (by decide) (by simp)),⟨T.m.kp (Kp.set (A:=[1]) (.head _)) fun i hi=>by rw [List.mem_singleton.mp hi];exact dA.h1,_,_,_,q.set (g':=g') q.i q.z q.s⟩,Kp.set (.head _)⟩
theorem CN (hn:6<=n) {cs':List Int} (T:TS c0 1 0 cs' Y0 4 σ) (k:∀ σ' cnt fl l Y g x6,l.length=cnt->cnt<4->(∀ t∈l,Good Y 2 t)->LS cs' fl l Y g 100 σ'->Ends (evS (af W (n+7)) W true (cu 6 cB) (frL (some (.int (cnt:Nat))) (some (.ref fl)) x6 none none none none none none none none) σ') Q):
    Ends (evS (af W (n+7)) W true (cu 3 cB) (frL none none none none none none none none none none none) σ) Q:=by
  refine E23 (eS (W:=W) (n:=n+6) (hs:=true) dA T (k:=4) (by decide) (by decide)) fun cnt σ1 e1 hc T1 K1=>?_
  refine aa (av (aV (ae rfl (ab rfl)) e1)) (aa (av (b7 rfl rfl)) (aj (dy (bF (ab rfl) (nu (by lia))) rfl ?_)))
  have h8:6<σ1.length:=aC T1.m.fn
  have T1':=T1.kp (A:=[]) (Kp.app (l:=[.list []])) (fun i h=>nomatch h) (fun h=>nomatch h) (fun h=>nomatch h)
  refine cw (fun i fr σ'=>∃ l Y g x6,l.length=i/\(∀ t∈l,Good Y 2 t)/\LS cs' σ1.length l Y g (13 * i) σ'/\fr=frL (some (.int (cnt:Nat))) (some (.ref σ1.length)) x6 none none none none none none none none) (fun _ _ _ _=>rfl) ?_ ?_ _ 0 _ _ (Nat.zero_add _) ⟨[],Y0,4,none,rfl,fun t h=>(nomatch h),⟨T1',.refl,by decide,by decide,bb,h8⟩,rfl⟩
  · rintro i x fr σ' hx ⟨l,Y,g,x6,hl,hg,S,rfl⟩
    refine E01 (pD hx) fun z0 hi=>?_
    subst z0
    refine E12 (S.t.Df (W:=W) (C:=af W (n+7)) (fr:=frL (some (.int (cnt:Nat))) (some (.ref σ1.length)) (some (.int i)) none none none none none none none none) 2 rfl rfl (e:=.int 2) rfl) fun σ2 e2 T2 K2=>?_
    have z2:szb 2=13:=rfl
    have b1:=S.l1
    have b2:=S.l2
    refine E21 (wD (W:=W) (n:=n+2) dA 2 Y 2 σ2 T2 S.y (by lia) (by lia)) fun v σ3 e3 q=>?_
    obtain ⟨t,Y',g',rfl,hgt,T3,hY,l1,l2,K3⟩:=q
    have f3:=K3 _ _ (K2 _ _ S.f S.nwr) S.nwr
    refine aa e2 (aa (aS (cE rfl (K2 _ _ S.f S.nwr) rfl (fun _=>nofun) (ab (aV (ae rfl (ae rfl (ab rfl))) e3)) (bp f3 (fits_of (by rw [List.length_map];lia))))) (ao ⟨.inl rfl,l++[t],Y',g',_,by rw [List.length_append,hl];rfl,fun u hu=>?_,⟨T3.kp (Kp.set (A:=[σ1.length]) (.head _)) (fun i hi=>?_) (by simp only [List.mem_singleton];lia) (by simp only [List.mem_singleton];lia),S.y.trans hY,by lia,by lia,(bc f3).trans (by rw [List.map_append];rfl),h8⟩,rfl⟩))
    · rcases List.mem_append.mp hu with h | h
      · exact (hg u h).mono hY
      · rw [List.mem_singleton.mp h];exact hgt
    · rw [List.mem_singleton.mp hi]
      show σ1.length∉[2,3,4,5,6]
      simp only [List.mem_cons,List.not_mem_nil,or_false]
      lia
  · rintro fr σ' ⟨l,Y,g,x6,hl,hg,S,rfl⟩
    rw [dY] at hl S
    exact k σ' cnt _ l Y g x6 hl hc hg ⟨S.t,S.y,by have:=S.l1;lia,by have:=S.l2;lia,S.f,S.h⟩
end
section
variable {cs:List Int} {W n:Nat} {Q:Fl->Fr->St->Prop} {σ σ1:St} {Y Y':Sym} {g:Nat} {x4 x5 x6:Option V} {fl:Nat} {l:List T}
structure GG (Y:Sym) (t:T):Prop where
  w:Wf Y t
  d:dp t<=4
  z:sz t<=50
  v:∀ x,occ x t=true->x<=5
  c:eM t=false
theorem LS.step {k k':Nat} (S:LS cs fl l Y g k σ) {g':Nat} {Y':Sym} {σ':St} (T:TS c0 1 0 cs Y' g' σ') (hY:Yle Y Y') (h1:Y'.ts.length<=100+k') (h2:Y'.fs.length<=100+k') (K:Kp (wr c0 1) σ σ'):LS cs fl l Y' g' k' σ':=⟨T,S.y.trans hY,h1,h2,K _ _ S.f S.nwr,S.h⟩
noncomputable def oU:T:=.s 11 (.cons (.v 1) (.cons (.v 5) .nil))
theorem wF {f:Nat} {l:TL} (h0:Yle Y0 Y) (h:Good Y 3 (.s f l)):GG Y (.s f (ofL ((toL l).dropLast++[oU]))):=by
  have hp:=h.p f l rfl
  have hm:∀ t∈(toL l).dropLast++[oU],t∈toL l\/t=oU:=fun t ht=>(List.mem_append.mp ht).imp (fun z=>(List.dropLast_sublist _).subset z) fun z=>List.mem_singleton.mp z
  have hlen:aU (ofL ((toL l).dropLast++[oU]))=aU l:=by
    rw [← bB,gx,List.length_append,List.length_dropLast,bB]
    show aU l - 1+1=aU l
    lia
  have wl:∀ t∈toL l,Wf Y t:=by
    have:∀ {l:TL},WfL Y l->∀ t∈toL l,Wf Y t:=fun {l}=>by
      induction l using TL.rec (motive_1:=fun _=>True) with
      |nil=>exact fun _ t h=>nomatch h
      |cons u r _ ih=>exact fun w t h=>(List.mem_cons.mp h).elim (fun z=>z▸w.1) (ih w.2 t)
      |_=>trivial
    exact this h.w.2.2
  have z3:szb 3=40:=rfl
  have hl3:=h.w.2.1
  have hd:dpL l+1<=3:=h.d
  have hz:szL l+1<=szb 3:=h.z
  refine ⟨⟨by rw [hlen];exact h.w.1,by rw [hlen];exact hl3,rk fun t ht=>?_⟩,Nat.succ_le_succ (rN (d:=3) fun t ht=>?_),?_,fun x o=>?_,h.c⟩
  · rcases hm t ht with h1 | rfl
    · exact wl t h1
    · exact ⟨⟨21,h0.fs rfl⟩,by show 2<=3;exact Nat.le_add_left _ _,trivial,trivial,trivial⟩
  · rcases hm t ht with h1 | rfl
    · have:=j5 h1;lia
    · show max 0 (max 0 0)+1<=3;exact Nat.succ_pos _
  · have e:∀ a b:List T,szL (ofL (a++b))=szL (ofL a)+szL (ofL b):=fun a b=>by
      induction a with
      |nil=>exact (Nat.zero_add _).symm
      |cons t r ih=>show sz t+szL (ofL (r++b))=sz t+szL (ofL r)+_;rw [ih];lia
    have e2:szL (ofL (toL l).dropLast)<=szL l:=by
      have ofl:∀ l:TL,szL (ofL (toL l))=szL l:=fun l=>by
        induction l using TL.rec (motive_1:=fun _=>True) with
        |nil=>rfl
        |cons u r _ ih=>show sz u+szL (ofL (toL r))=sz u+szL r;rw [ih]
        |_=>trivial
      have hne:toL l≠[]:=fun z=>by have:=bB l;rw [z] at this;simp at this;lia
      have:=e (toL l).dropLast [(toL l).getLast hne]
      rw [List.dropLast_concat_getLast,ofl] at this
      lia
    show szL (ofL ((toL l).dropLast++[oU]))+1<=50
    rw [e]
    have:szL (ofL [oU])=3:=rfl
    lia
  · refine E11 (fx.mp (show cJ x _=true from o)) fun t ht ot=>?_
    rw [gx] at ht
    rcases hm t ht with h1 | rfl
    · have:=h.v x (fx.mpr ⟨t,h1,ot⟩);(refine Nat.le_trans (by assumption) ?_;decide)
    · have ot:(decide (x=1)||(decide (x=5)||false))=true:=ot
      simp at ot
      lia
theorem By (hn:7<=n) {k0:Nat} (hk0:k0<=1000) (S:LS cs fl l Y g k0 σ) (hl:∀ t∈l,Good Y 2 t) (k:∀ σ' Y' g' G,(∀ t∈l,Good Y' 2 t)->GG Y' G->LS cs fl l Y' g' (k0+40) σ'->Ends (evS (af W (n+7)) W true (cu 9 cB) (frL x4 x5 x6 (some (tv G)) none none none none none none none) σ') Q):
    Ends (evS (af W (n+7)) W true (cu 6 cB) (frL x4 x5 x6 none none none none none none none none) σ) Q:=by
  refine E12 (S.t.Df (W:=W) (C:=af W (n+7)) (fr:=frL x4 x5 x6 none none none none none none none none) 4 rfl rfl (e:=.int 4) rfl) fun σ1 e1 T1 K1=>?_
  have z3:szb 3=40:=rfl
  have b1:=S.l1
  have b2:=S.l2
  refine E21 (wD (W:=W) (n:=n+1) dA 3 Y 4 σ1 T1 S.y (by lia) (by lia)) fun v σ2 e2 q=>?_
  obtain ⟨t,Y',g',rfl,hgt,T2,hY,l1,l2,K2⟩:=q
  refine aa e1 (aa (av (aV (ae rfl (ae rfl (ab rfl))) e2)) ?_)
  have hl':∀ t∈l,Good Y' 2 t:=fun t h=>(hl t h).mono hY
  have keep:GG Y' t:=⟨hgt.w,by have:=hgt.d;(refine Nat.le_trans (by assumption) ?_;decide),by have:=hgt.z;(refine Nat.le_trans (by assumption) ?_;decide),fun x o=>by have:=hgt.v x o;(refine Nat.le_trans (by assumption) ?_;decide),hgt.c⟩
  by_cases hs:knd t=.t_s
  · obtain ⟨f,q,rfl⟩:∃ f q,t=.s f q:=by
      cases t with
      |s f q=>exact ⟨f,q,rfl⟩
      |_=>cases hs
    refine E23 (eS (W:=W) (n:=n+6) (hs:=true) dA T2 (k:=3) (by decide) (by decide)) fun d σ3 e3 _ T3 K3=>?_
    have S3:LS cs fl l Y' g' (k0+40) σ3:=S.step T3 hY (by lia) (by lia) ((K1.trans K2).trans (dJ K3))
    have cnd:∀ {b},decide ((d:Int)=((0:Nat):Int))=b->ev (af W (n+7) true) true (.and (.cmp .eq (.sub (.loc 7) (.int 0)) (.str .t_s)) (.cmp .eq (.call (.glob (.fn .bg)) (.cons (.loc 2) (.cons (.int 3) .nil))) (.int 0))) (frL x4 x5 x6 (some (tv (.s f q))) none none none none none none none) σ2=some (.bool b,σ3):=fun h=>dk (cD (t:=.s f q) rfl) (ai (aV (ae rfl (ab rfl)) e3) rfl (congrArg some h))
    by_cases hd:d=0
    · have hp:=hgt.p f q rfl
      have hq3:=hgt.w.2.1
      have esl:ev (af W (n+7) true) true (.slTo (.sub (.loc 7) (.int 2)) (.neg (.int 1))) (frL x4 x5 x6 (some (tv (.s f q))) none none none none none none none) σ3=some (.tup (tvl q).dropLast,σ3):=by
        refine aI (x:=.tup (tvl q)) (ah rfl rfl rfl) (aI (x:=.int (-1)) rfl ?_)
        show gd (decide ((-1:Int)=-1)&&decide (0<(tvl q).length)) _=_
        rw [show decide (0<(tvl q).length)=true from decide_eq_true (by rw [cO];exact hp)];rfl
      have eadd:gP .add (.tup (tvl q).dropLast) (.tup [tv oU])=some (.tup (tvl (ofL ((toL q).dropLast++[oU])))):=by
        refine iZ (fits_of (by rw [List.length_dropLast,cO];simp;lia)) (congrArg (fun x=>some (V.tup x)) ?_)
        rw [fa (ofL _),gx,List.map_append,List.map_dropLast,← fa];rfl
      refine aj (aw (cnd (bX hd)) (aa (av (v:=tv (.s f (ofL ((toL q).dropLast++[oU])))) (au (ae rfl (ae (ah rfl rfl rfl) (ab (bJ esl ?_ eadd)))) rfl)) (ao (k σ3 Y' g' _ hl' (wF (S.y.trans hY) hgt) S3))))
      exact au (ab (au (ae rfl (ae rfl (ab (au (ae (au (ae rfl (ab rfl)) rfl) (ab (au (ae rfl (ab rfl)) rfl))) rfl)))) rfl)) rfl
    · exact aa (aN (cnd (bE hd))) (k σ3 Y' g' _ hl' keep S3)
  · exact aa (aN (dD ((cD rfl).trans (by rw [decide_eq_false hs])))) (k σ2 Y' g' _ hl' keep (S.step T2 hY (by lia) (by lia) (K1.trans K2)))
end
section
variable {cs:List Int} {W n:Nat} {Q:Fl->Fr->St->Prop} {σ σ1:St} {Y Y':Sym} {g k0:Nat} {x4 x5 x6:Option V} {fl:Nat} {l:List T} {G:T}
theorem zk {d l a b:Nat} (h1:a<=d) (h2:b<=d+l):max a (max b 0)+1<=d+(l+1):=
  Nat.succ_le_succ (Nat.max_le.mpr ⟨Nat.le_trans h1 (Nat.le_add_right _ _),Nat.max_le.mpr ⟨h2,Nat.zero_le _⟩⟩)
theorem Ai {a z l w g:Nat} (h1:a<=z) (h2:w<=l * (z+1)+g):a+(w+0)+1<=(l+1) * (z+1)+g:=by
  rw [Nat.succ_mul,Nat.add_right_comm,Nat.add_right_comm (l * (z+1)),Nat.add_comm]
  exact Nat.add_le_add h2 (Nat.succ_le_succ h1)
theorem yG {d:Nat} (hG:dp G<=d):∀ {fs:List T},(∀ f∈fs,dp f<=d)->dp (wh fs G)<=d+fs.length
  |[],_=>hG
  |f::fs,h=>by
    have h1:=h f (.head _)
    have h2:=yG hG (fs:=fs) fun u m=>h u (.tail _ m)
    exact zk h1 h2
theorem yH {z:Nat}:∀ {fs:List T},(∀ f∈fs,sz f<=z)->sz (wh fs G)<=fs.length * (z+1)+sz G
  |[],_=>by show sz G<=0 * _+sz G;exact Nat.le_add_left _ _
  |f::fs,h=>by
    have h1:=h f (.head _)
    have h2:=yH (fs:=fs) fun u m=>h u (.tail _ m)
    exact Ai h1 h2
theorem AV (h0:Yle Y0 Y) (hG:Wf Y G):∀ {fs:List T},(∀ f∈fs,Wf Y f)->Wf Y (wh fs G)
  |[],_=>hG
  |f::fs,h=>⟨⟨21,h0.fs rfl⟩,by show 2<=3;exact Nat.le_add_left _ _,h f (.head _),AV h0 hG fun u m=>h u (.tail _ m),trivial⟩
theorem uP {x:Nat}:∀ {fs:List T},occ x (wh fs G)=true->occ x G=true\/∃ f∈fs,occ x f=true
  |[],h=>.inl h
  |f::fs,h=>by
    have h:(occ x f||(occ x (wh fs G)||false))=true:=h
    rw [Bool.or_false,Bool.or_eq_true] at h
    rcases h with h | h
    · exact .inr ⟨f,.head _,h⟩
    · exact (uP h).imp id fun ⟨u,m,o⟩=>⟨u,.tail _ m,o⟩
theorem pX {s:Nat->T}:∀ {fs:List T},sub s (wh fs G)=wh (fs.map (sub s)) (sub s G)
  |[]=>rfl
  |f::fs=>by
    show T.s 11 (.cons (sub s f) (.cons (sub s (wh fs G)) .nil))=_
    rw [pX];rfl
theorem CO (S:LS cs fl l Y g k0 σ) (hl:l.length<=1000) (k:∀ σ' x9,LS cs fl l Y g k0 σ'->Ends (evS (af W (n+7)) W true (cu 11 cB) (frL x4 (some (.ref fl)) x6 (some (tv G)) (some (tv (wh l G))) x9 none none none none none) σ') Q):
    Ends (evS (af W (n+7)) W true (cu 9 cB) (frL x4 (some (.ref fl)) x6 (some (tv G)) none none none none none none none) σ) Q:=by
  have it:itemsOf (.ref σ.length) (σ++[.list (l.map tv).reverse])=some (l.map tv).reverse:=aO bb
  have e0:ev (af W (n+7) true) true (.slRev (.loc 5)) (frL x4 (some (.ref fl)) x6 (some (tv G)) (some (tv G)) none none none none none none) σ=some (.ref σ.length,σ++[.list (l.map tv).reverse]):=aI rfl (by
    show onL σ[fl]? _=_
    rw [S.f]
    show gd (fits _) _=_
    rw [fits_of (by rw [List.length_map];(refine Nat.lt_of_le_of_lt (by assumption) ?_;decide))];rfl)
  have S':LS cs fl l Y g k0 (σ++[.list (l.map tv).reverse]):=⟨S.t.kp (A:=[]) Kp.app (fun i h=>nomatch h) (fun h=>nomatch h) (fun h=>nomatch h),S.y,S.l1,S.l2,aq S.f,S.h⟩
  refine aa (av rfl) (aj (dy e0 it ?_))
  refine cw (fun i fr σ'=>σ'=σ++[.list (l.map tv).reverse]/\∃ x9,fr=frL x4 (some (.ref fl)) x6 (some (tv G)) (some (tv (((l.reverse).take i).foldl (fun g f=>.s 11 (.cons f (.cons g .nil))) G))) x9 none none none none none) (fun _ _ _ h=>h.1▸it) ?_ ?_ _ 0 _ _ (Nat.zero_add _) ⟨rfl,_,rfl⟩
  · rintro i y fr σ' hy ⟨rfl,x2,rfl⟩
    rw [← List.map_reverse,List.getElem?_map] at hy
    refine E11 (Option.map_eq_some_iff.mp hy) fun u hu z2=>?_
    subst z2
    refine aa (av (au (ae rfl (ae rfl (ab (au (ae rfl (ab rfl)) rfl)))) rfl)) (ao ⟨.inl rfl,rfl,some (tv u),?_⟩)
    rw [bM hu,List.foldl_append];rfl
  · rintro fr σ' ⟨rfl,x9,rfl⟩
    rw [← List.map_reverse,List.length_map,List.take_of_length_le (Nat.le_refl _),List.foldl_reverse]
    exact k _ x9 (by rw [List.map_reverse];exact S')
structure LG (Y:Sym) (fs:List T) (G:T):Prop where
  w:Wf Y G
  wf:∀ f∈fs,Wf Y f
  d:dp G<=5
  df:∀ f∈fs,dp f<=5
  z:sz G<=150
  zf:∀ f∈fs,sz f<=39
  v:∀ x,occ x G=true->x<=6
  vf:∀ f∈fs,∀ x,occ x f=true->x<=6
  c:eM G=false
noncomputable def kn (f:Nat):T:=.s f (.cons (.v 6) (.cons (.i 1) .nil))
mutual
theorem rn {s:Nat->T} (h:∀ x,Wf Y (s x)):∀ t:T,Wf Y t->Wf Y (sub s t)
  |.v x,_=>h x
  |.a _,_=>trivial
  |.i _,_=>trivial
  |.s f l,w=>by
    have e:aU (bZ s l)=aU l:=by rw [← bB,cK,List.length_map,bB]
    exact ⟨by rw [e];exact w.1,by rw [e];exact w.2.1,tj h l w.2.2⟩
theorem tj {s:Nat->T} (h:∀ x,Wf Y (s x)):∀ l:TL,WfL Y l->WfL Y (bZ s l)
  |.nil,_=>trivial
  |.cons t r,w=>⟨rn h t w.1,tj h r w.2⟩
end
mutual
theorem pk {s:Nat->T} {x:Nat}:∀ t:T,occ x (sub s t)=true->∃ y,occ y t=true/\occ x (s y)=true
  |.v y,h=>⟨y,gC,h⟩
  |.a _,h=>nomatch h
  |.i _,h=>nomatch h
  |.s f l,h=>qM l h
theorem qM {s:Nat->T} {x:Nat}:∀ l:TL,cJ x (bZ s l)=true->∃ y,cJ y l=true/\occ x (s y)=true
  |.nil,h=>nomatch h
  |.cons t r,h=>by
    rcases (Bool.or_eq_true _ _).mp h with h | h
    · refine E11 (pk t h) fun y h1 h2=>?_
      exact ⟨y,by show (occ y t||_)=true;rw [h1];rfl,h2⟩
    · refine E11 (qM r h) fun y h1 h2=>?_
      exact ⟨y,by show (_||cJ y r)=true;rw [h1,Bool.or_true],h2⟩
end
structure Sb (Y:Sym) (B:Bd) (s:Nat->T):Prop where
  so:Sol B s
  l:B.length<=1
  w:∀ x,Wf Y (s x)
  d:∀ x,dp (s x)<=1
  z:∀ x,sz (s x)<=3
  v:∀ x y,occ x (s y)=true->x=y\/x=6
  c:∀ y,eM (s y)=false
theorem Sb.nil:Sb Y [] .v:=⟨Sol.nil,Nat.zero_le _,fun _=>trivial,fun _=>Nat.zero_le _,fun _=>by show 1<=3;exact Nat.succ_pos _,fun x y o=>.inl (of_decide_eq_true o),fun _=>rfl⟩
theorem Sb.one {k f a:Nat} (hk:k<6) (hf:Y.fs[f]?=some (a,2)) (h11:f≠11):Sb Y [(k,kn f)] (upd .v k (kn f)):=by
  have e:∀ y,upd .v k (kn f) y=if y=k then kn f else .v y:=fun _=>rfl
  have o6:∀ x,occ x (kn f)=true->x=6:=fun x o=>by
    have o:(decide (x=6)||(false||false))=true:=o
    simpa using o
  have ok:occ k (kn f)=false:=by
    cases o:occ k (kn f) with
    |false=>rfl
    |true=>have:=o6 k o;lia
  have S:=Sol.nil.add (x:=k) (e:=kn f) rfl (fun y h=>nomatch h) nofun (by rw [d9];exact ok)
  rw [d9] at S
  have all:∀ (P:T->Prop),P (kn f)->(∀ y,P (.v y))->∀ y,P (upd .v k (kn f) y):=fun P h1 h2 y=>by
    rw [e]
    by_cases hy:y=k
    · rw [if_pos hy];exact h1
    · rw [if_neg hy];exact h2 y
  refine ⟨S,Nat.le_refl _,all (Wf Y) ⟨⟨a,hf⟩,by show 2<=3;exact Nat.le_add_left _ _,trivial,trivial,trivial⟩ fun _=>trivial,all (fun t=>dp t<=1) (by show max 0 (max 0 0)+1<=1;exact Nat.le_refl _) fun _=>Nat.zero_le _,all (fun t=>sz t<=3) (by show 1+(1+0)+1<=3;exact Nat.le_refl _) fun _=>by show 1<=3;exact Nat.succ_pos _,fun x y o=>?_,all (fun t=>eM t=false) (decide_eq_false h11) fun _=>rfl⟩
  rw [e] at o
  by_cases hy:y=k
  · rw [if_pos hy] at o;exact .inr (o6 x o)
  · rw [if_neg hy] at o;exact .inl (of_decide_eq_true o)
theorem Sb.lg {B:Bd} {s:Nat->T} (H:Sb Y B s) (hG:GG Y G) (hl:∀ t∈l,Good Y 2 t):LG Y (l.map (sub s)) (sub s G):=by
  have z2:szb 2=13:=rfl
  have mp:∀ {P:T->Prop},(∀ t∈l,P (sub s t))->∀ f∈l.map (sub s),P f:=fun h f m=>by refine E11 (List.mem_map.mp m) fun t ht z2=>?_;subst z2;exact h t ht
  refine ⟨rn H.w G hG.w,mp fun t m=>rn H.w t (hl t m).w,by have:=mc H.d G;have:=hG.d;lia,mp fun t m=>by have:=mc H.d t;have:=(hl t m).d;lia,by have:=mN H.z (by exact Nat.succ_pos _) G;have:=hG.z;lia,mp fun t m=>by have:=mN H.z (by exact Nat.succ_pos _) t;have:=(hl t m).z;lia,fun x o=>?_,mp fun t m x o=>?_,?_⟩
  · refine E11 (pk G o) fun y h1 h2=>?_
    have:=hG.v y h1
    rcases H.v x y h2 with rfl | rfl<;>omega
  · refine E11 (pk t o) fun y h1 h2=>?_
    have:=(hl t m).v y h1
    rcases H.v x y h2 with rfl | rfl<;>omega
  · have hc:=hG.c
    cases G with
    |v y=>exact H.c y
    |s f l=>exact hc
    |_=>rfl
end
section
variable {cs:List Int} {W n:Nat} {Q:Fl->Fr->St->Prop} {σ σ1:St} {Y Y':Sym} {g k0:Nat} {x4 x5 x6 x9:Option V} {fl:Nat} {l:List T} {G:T}
theorem LS.app {L:St} (S:LS cs fl l Y g k0 σ):LS cs fl l Y g k0 (σ++L):=⟨S.t.kp (A:=[]) Kp.app (fun i h=>nomatch h) (fun h=>nomatch h) (fun h=>nomatch h),S.y,S.l1,S.l2,aq S.f,S.h⟩
theorem LS.new (S:LS cs fl l Y g k0 σ):σ.length∉wr c0 1/\7<=σ.length/\fl≠σ.length:=by
  have h8:6<σ.length:=aC S.t.m.fn
  have hf:=aC S.f
  refine ⟨fun m=>?_,h8,by exact Nat.ne_of_lt (by assumption)⟩
  have m:σ.length∈[1,3,4,5,6]:=m
  simp only [List.mem_cons,List.not_mem_nil,or_false] at m
  lia
theorem Bz (hn:7<=n) (hW:4<W) {B:Bd} {s:Nat->T} {bd:Nat} (S:LS cs fl l Y g k0 σ) (hb:σ[bd]?=some (.dI (dm tv B))) (H:Sb Y B s) (hG:GG Y G) (hl:∀ t∈l,Good Y 2 t) (hl4:l.length<4)
    (k:∀ σ' fl',LG Y (l.map (sub s)) (sub s G)->LS cs fl' (l.map (sub s)) Y g k0 σ'->Ends (evS (af W (n+7)) W true (cu 16 cB) (frL x4 (some (.ref fl')) x6 (some (tv (sub s G))) (some (tv (wh (l.map (sub s)) (sub s G)))) x9 none none none (some (.ref bd)) none) σ') Q):
    Ends (evS (af W (n+7)) W true (cu 13 cB) (frL x4 (some (.ref fl)) x6 (some (tv G)) (some (tv (wh l G))) x9 none none none (some (.ref bd)) none) σ) Q:=by
  have lg:=H.lg hG hl
  have hB:B.length<W:=by have:=H.l;lia
  have dw:dp (sub s (wh l G))<=9:=by
    rw [pX]
    have:=yG lg.d lg.df
    rw [List.length_map] at this;lia
  have zw:sz (sub s (wh l G))<1000000:=by
    rw [pX]
    have:=yH (G:=sub s G) lg.zf
    have h1:=lg.z
    rw [List.length_map] at this
    have:l.length * (39+1)<=4 * (39+1):=Nat.mul_le_mul_right _ (by exact Nat.le_of_lt (by assumption))
    lia
  refine E10 (oP (W:=W) (hs:=true) (σ:=σ) (a:=bd) H.so hB (n+5) (wh l G) [] (by lia) zw hb) fun j1 e1=>?_
  rw [List.append_nil,List.nil_append,pX] at e1
  refine E10 (oP (W:=W) (hs:=true) (σ:=σ++j1) (a:=bd) H.so hB (n+5) G [] (by have:=lg.d;lia) (by have:=lg.z;(refine Nat.lt_of_le_of_lt (by assumption) ?_;decide)) (aq hb)) fun j2 e2=>?_
  rw [List.append_nil,List.nil_append] at e2
  have S2:LS cs fl l Y g k0 (σ++j1++j2):=S.app.app
  have hc:=oZ (C:=af W (n+7) true) (hs:=true) (fr:=frL x4 (some (.ref fl)) x6 (some (tv (sub s G))) (some (tv (wh (l.map (sub s)) (sub s G)))) x9 none none none (some (.ref bd)) none) (σ:=σ++j1++j2) (σ0:=σ++j1++j2) (it:=.loc 5) (elt:=.call (.glob (.fn .cV)) (.cons (.loc 0) (.cons (.cell 0) .nil))) (xs:=l.map tv) (ys:=(l.map (sub s)).map tv) (j0:=[]) (xv:=.ref fl) (by rw [List.append_nil];rfl) (fun L=>aO (aq S2.f)) (by rw [List.length_map,List.length_map,List.length_map]) (by rw [List.length_map];(refine Nat.le_trans (by assumption) ?_;decide)) fun i x y L hx hy=>?_
  · refine E10 hc fun j3 e3=>?_
    rw [List.nil_append,List.length_nil,Nat.add_zero] at e3
    have nw:=S2.new
    refine aa (av (aV (ae rfl (ab rfl)) e1)) (aa (av (aV (ae rfl (ab rfl)) e2)) (aa (iC e3) (k _ _ lg ⟨S2.app.t,S.y,S.l1,S.l2,bb,nw.2.1⟩)))
  · rw [List.getElem?_map] at hx hy
    rw [List.getElem?_map] at hy
    refine E11 (Option.map_eq_some_iff.mp hx) fun u hu z2=>?_
    subst z2
    rw [hu] at hy
    obtain rfl:=Option.some.inj hy
    have hm:sub s u∈l.map (sub s):=List.mem_map_of_mem (List.mem_of_getElem? hu)
    refine E10 (oP (W:=W) (hs:=true) (σ:=σ++j1++j2) (a:=bd) H.so hB (n+5) u L (by have:=lg.df _ hm;lia) (by have:=lg.zf _ hm;(refine Nat.lt_of_le_of_lt (by assumption) ?_;decide)) (aq (aq hb))) fun j e=>?_
    exact ⟨j,aV (ae rfl (ab (gM rfl))) e⟩
theorem CP (hn:7<=n) (hW:4<W) (hk0:k0<=10000) (S:LS cs fl l Y g k0 σ) (hG:GG Y G) (hl:∀ t∈l,Good Y 2 t) (hl4:l.length<4)
    (k:∀ σ' fl' fs G Y' y0,fs.length=l.length->LG Y' fs G->LS cs fl' fs Y' g (k0+1) σ'->Ends (evS (af W (n+7)) W true (cu 16 cB) (frL x4 (some (.ref fl')) x6 (some (tv G)) (some (tv (wh fs G))) x9 none none none y0 none) σ') Q):
    Ends (evS (af W (n+7)) W true (cu 11 cB) (frL x4 (some (.ref fl)) x6 (some (tv G)) (some (tv (wh l G))) x9 none none none none none) σ) Q:=by
  have nw:=S.new
  have S1:LS cs fl l Y g k0 (σ++[.dI []]):=S.app
  refine E23 (eS (W:=W) (n:=n+6) (hs:=true) dA S1.t (k:=2) (by decide) (by decide)) fun d σ2 e2 _ T2 K2=>?_
  have hb2:=dJ K2 _ _ (bb (o:=.dI [])) nw.1
  have S2:=S1.step T2 .refl S1.l1 S1.l2 (dJ K2)
  have fin:∀ {B:Bd} {s:Nat->T} {Y':Sym} {σ':St},LS cs fl l Y' g (k0+1) σ'->Yle Y Y'->σ'[σ.length]?=some (.dI (dm tv B))->Sb Y' B s->Ends (evS (af W (n+7)) W true (cu 13 cB) (frL x4 (some (.ref fl)) x6 (some (tv G)) (some (tv (wh l G))) x9 none none none (some (.ref σ.length)) none) σ') Q:=fun S' hY hb H=>
    Bz hn hW S' hb H ⟨Wf.mono hY G hG.w,hG.d,hG.z,hG.v,hG.c⟩ (fun t m=>(hl t m).mono hY) hl4 fun σ' fl' lg S''=>k σ' fl' _ _ _ _ (List.length_map _) lg S''
  have c1:∀ {b},decide ((d:Int)=((0:Nat):Int))=b->ev (af W (n+7) true) true (.cmp .eq (.call (.glob (.fn .bg)) (.cons (.loc 2) (.cons (.int 2) .nil))) (.int 0)) (frL x4 (some (.ref fl)) x6 (some (tv G)) (some (tv (wh l G))) x9 none none none (some (.ref σ.length)) none) (σ++[.dI []])=some (.bool b,σ2):=fun h=>ai (aV (ae rfl (ab rfl)) e2) rfl (congrArg some h)
  have e0:evS (af W (n+7)) W true (.asgC 0 (.dict0 .I)) (frL x4 (some (.ref fl)) x6 (some (tv G)) (some (tv (wh l G))) x9 none none none none none) σ=some (.nxt,frL x4 (some (.ref fl)) x6 (some (tv G)) (some (tv (wh l G))) x9 none none none (some (.ref σ.length)) none,σ++[.dI []]):=rfl
  refine aa e0 ?_
  have b1:=S.l1
  have b2:=S.l2
  by_cases hd:d=0
  · refine E12 (sS (W:=W) (n:=n+5) (hs:=true) dA T2 .t_f 2 (by lia) (by lia)) fun σ3 e3 T3 K3=>?_
    refine E23 (eS (W:=W) (n:=n+6) (hs:=true) dA T3 (k:=4) (by decide) (by decide)) fun m σ4 e4 hm T4 K4=>?_
    have hb4:=dJ K4 _ _ (K3 _ _ hb2 nw.1) nw.1
    have ha:=ji (Y:=Y) (t:=.t_f) (k:=2)
    have S4:LS cs fl l (iE Y .t_f 2) g (k0+1) σ4:=S2.step T4 eV (by lia) (by lia) (K3.trans (dJ K4))
    refine aj (aw (c1 (bX hd)) (aa (aM (v:=tv (kn (fno Y .t_f 2))) (au (ae rfl (ae (e_m rfl T2.m.sy rfl (ae rfl (ab rfl)) e3) (ab (au (ae (au (ae rfl (ab rfl)) rfl) (ab (au (ae rfl (ab rfl)) rfl))) rfl)))) rfl) (gM rfl) (aV (ae rfl (ab rfl)) e4) (pE hb4 rfl)) (ao ?_)))
    have S5:LS cs fl l (iE Y .t_f 2) g (k0+1) (σ4.set σ.length (.dI (dput [] (nI m) (tv (kn (fno Y .t_f 2)))))):=⟨S4.t.kp (Kp.set (A:=[σ.length]) (.head _)) (fun i hi=>by
        rw [List.mem_singleton.mp hi]
        show σ.length∉[2,3,4,5,6]
        simp only [List.mem_cons,List.not_mem_nil,or_false]
        lia) (by simp only [List.mem_singleton];lia) (by simp only [List.mem_singleton];lia),S4.y,S4.l1,S4.l2,(aF (Ne.symm nw.2.2)).trans S4.f,S4.h⟩
    exact fin (B:=[(m,kn (fno Y .t_f 2))]) S5 eV (bc hb4) (Sb.one (by (refine Nat.le_trans (by assumption) ?_;decide)) gh (w0 S.y).1)
  · exact aa (aN (c1 (bE hd))) (fin (B:=[]) (S2.step T2 .refl (by have:=S2.l1;lia) (by have:=S2.l2;lia) Kp.refl) .refl hb2 Sb.nil)
end
section
variable {cs:List Int} {W n:Nat} {Q:Fl->Fr->St->Prop} {σ σ1:St} {Y Y':Sym} {g k0:Nat} {x4 x5 x6 x9 y0:Option V} {fl sl:Nat} {fs:List T} {G t2 t3:T} {ff:Nat}
structure LT (cs:List Int) (fl sl:Nat) (fs:List T) (G t2 t3:T) (ff:Nat) (Y:Sym) (g k:Nat) (σ:St):Prop where
  s:LS cs fl fs Y g k σ
  i:σ[sl]?=some (.list ([wh fs G,t2,t3].map tv))
  h2:t2=.v 7\/t2=xU
  h3:t3=.v 8\/t3=.s ff (.cons (.v 9) .nil)
  w2:Wf Y t2
  w3:Wf Y t3
  f:∀ a k,Y.fs[ff]?=some (a,k)->k=1
  n:7<=sl
theorem LS.set {o:O} {a:Nat} (S:LS cs fl fs Y g k0 σ) (h:7<=a) (hne:a≠fl):LS cs fl fs Y g k0 (σ.set a o):=⟨S.t.kp (Kp.set (A:=[a]) (.head _)) (fun i hi=>by
    rw [List.mem_singleton.mp hi]
    show a∉[2,3,4,5,6]
    simp only [List.mem_cons,List.not_mem_nil,or_false]
    lia) (by simp only [List.mem_singleton];lia) (by simp only [List.mem_singleton];lia),S.y,S.l1,S.l2,(aF hne).trans S.f,S.h⟩
theorem CQ (hn:7<=n) (hk0:k0<=10000) (S:LS cs fl fs Y g k0 σ) (lg:LG Y fs G)
    (k:∀ σ' sl t2 t3 ff Y',Yle Y Y'->LT cs fl sl fs G t2 t3 ff Y' g (k0+1) σ'->Ends (evS (af W (n+7)) W true (cu 19 cB) (frL x4 (some (.ref fl)) x6 (some (tv G)) (some (tv (wh fs G))) x9 (some (.ref sl)) none none y0 none) σ') Q):
    Ends (evS (af W (n+7)) W true (cu 16 cB) (frL x4 (some (.ref fl)) x6 (some (tv G)) (some (tv (wh fs G))) x9 none none none y0 none) σ) Q:=by
  have nw:=S.new
  have S1:LS cs fl fs Y g k0 (σ++[.list ([wh fs G,.v 7,.v 8].map tv)]):=S.app
  refine aa (av (b7 (ae (x:=tv (wh fs G)) rfl (ae (x:=tv (.v 7)) (au (ae rfl (ab rfl)) rfl) (ab (x:=tv (.v 8)) (au (ae rfl (ab rfl)) rfl)))) rfl)) ?_
  refine E23 (eS (W:=W) (n:=n+6) (hs:=true) dA S1.t (k:=3) (by decide) (by decide)) fun d σ2 e2 _ T2 K2=>?_
  have S2:=S1.step T2 .refl S1.l1 S1.l2 (dJ K2)
  have i2:=dJ K2 _ _ (bb (o:=.list ([wh fs G,.v 7,.v 8].map tv))) nw.1
  have c1:∀ {b} {σa σb:St} {d:Nat},af W (n+7) true .bg [.ref 1,.int (3:Nat)] σa=some (.ok (.int (d:Nat)),σb)->decide ((d:Int)=((0:Nat):Int))=b->ev (af W (n+7) true) true (.cmp .eq (.call (.glob (.fn .bg)) (.cons (.loc 2) (.cons (.int 3) .nil))) (.int 0)) (frL x4 (some (.ref fl)) x6 (some (tv G)) (some (tv (wh fs G))) x9 (some (.ref σ.length)) none none y0 none) σa=some (.bool b,σb):=fun e h=>ai (aV (ae rfl (ab rfl)) e) rfl (congrArg some h)
  have third:∀ {σ3:St} {t2:T},LS cs fl fs Y g k0 σ3->σ3[σ.length]?=some (.list ([wh fs G,t2,.v 8].map tv))->(t2=.v 7\/t2=xU)->Wf Y t2->Ends (evS (af W (n+7)) W true (cu 18 cB) (frL x4 (some (.ref fl)) x6 (some (tv G)) (some (tv (wh fs G))) x9 (some (.ref σ.length)) none none y0 none) σ3) Q:=fun {σ3 t2} S3 i3 h2 w2=>by
    refine E23 (eS (W:=W) (n:=n+6) (hs:=true) dA S3.t (k:=3) (by decide) (by decide)) fun d σ4 e4 _ T4 K4=>?_
    have S4:=S3.step T4 .refl S3.l1 S3.l2 (dJ K4)
    have i4:=dJ K4 _ _ i3 nw.1
    have b1:=S3.l1
    have b2:=S3.l2
    by_cases hd:d=0
    · refine E12 (sS (W:=W) (n:=n+5) (hs:=true) dA T4 .t_f 1 (by lia) (by lia)) fun σ5 e5 T5 K5=>?_
      have ha:=ji (Y:=Y) (t:=.t_f) (k:=1)
      have S5:LS cs fl fs (iE Y .t_f 1) g (k0+1) σ5:=S4.step T5 eV (by lia) (by lia) K5
      have i5:=K5 _ _ i4 nw.1
      refine aj (aw (c1 e4 (bX hd)) (aa (aM (v:=tv (.s (fno Y .t_f 1) (.cons (.v 9) .nil))) (au (ae rfl (ae (e_m rfl T4.m.sy rfl (ae rfl (ab rfl)) e5) (ab (au (ab (au (ae rfl (ab rfl)) rfl)) rfl)))) rfl) rfl rfl (dh (i:=((2:Nat):Int)) i5 (by decide) (by simp))) (ao ?_)))
      exact k _ σ.length t2 (.s (fno Y .t_f 1) (.cons (.v 9) .nil)) (fno Y .t_f 1) _ eV ⟨S5.set nw.2.1 (Ne.symm nw.2.2),bc i5,h2,.inr rfl,Wf.mono eV _ w2,⟨⟨_,gh⟩,by show 1<=3;exact Nat.succ_pos _,trivial,trivial⟩,fun a k h=>by rw [gh] at h;cases h;rfl,nw.2.1⟩
    · refine aa (aN (c1 e4 (bE hd))) (k _ σ.length t2 (.v 8) Y.fs.length _ .refl ⟨S4.step S4.t .refl (by have:=S4.l1;lia) (by have:=S4.l2;lia) Kp.refl,i4,h2,.inl rfl,w2,trivial,fun a k h=>?_,nw.2.1⟩)
      exact absurd (List.getElem?_eq_some_iff.mp h).1 (Nat.lt_irrefl _)
  by_cases hd:d=0
  · have S3:LS cs fl fs Y g k0 (σ2++[.list ([T.v 9].map tv)]):=S2.app
    have er:=Ax (W:=W) (n:=n+6) (hs:=true) (ts:=[.v 9]) (e:=.a 0) (σ:=σ2++[.list ([T.v 9].map tv)]) bb (by simp)
    have i3:(σ2++[O.list ([T.v 9].map tv)]++[.list ([T.v 9].map tv).reverse])[σ.length]?=some (.list ([wh fs G,.v 7,.v 8].map tv)):=aq (aq i2)
    refine aj (aw (c1 e2 (bX hd)) (aa (aM (v:=tv xU) (aV (ae (b7 (ab (au (ae rfl (ab rfl)) rfl)) rfl) (ab (au (ae rfl (ab rfl)) rfl))) er) rfl rfl (dh (i:=((1:Nat):Int)) i3 (by decide) (by simp))) (ao ?_)))
    exact third (S3.app.set nw.2.1 (Ne.symm nw.2.2)) (bc i3) (.inr rfl) ⟨⟨1,S.y.fs rfl⟩,by show 2<=3;exact Nat.le_add_left _ _,trivial,trivial,trivial⟩
  · exact aa (aN (c1 e2 (bE hd))) (third S2 i2 (.inl rfl) trivial)
theorem tP (M:SMem c0 σ Y) {fr:Fr} (h3:fr.locs[3]?.join=some (.ref 2)):ev (af W (n+3) true) true (.call (.glob (.cls .areas)) (.cons (.loc 3) (.cons (.list .nil) .nil))) fr σ=some (.ref (σ.length+1),σ++lR 2 σ.length 18 [.list [fC],.list [],.dI []]):=by
  have e0:(σ++[O.list []]).length=σ.length+1:=List.length_append
  have ec:=tQ (C:=af W (n+3) true) (hs:=true) (fr:=fr) (cl:=.areas) (args:=.cons (.loc 3) (.cons (.list .nil) .nil)) (by simp) (ae (dF h3) (ab (b7 (σ:=σ) rfl rfl))) (σ2:=σ++lR 2 σ.length 18 [.list [fC],.list [],.dI []]) (by rw [e0,List.append_assoc];exact y9)
  rw [e0] at ec
  exact ec
theorem nq {t:Tx} (h:t∈Y.ts):bC Y t=Y:=if_pos h
theorem zC {t u:Tx} (h:t∈Y.ts):ix (bC Y u).ts t=ix Y.ts t:=by
  unfold bC
  split
  · rfl
  · exact Bw h
theorem yN {q:Cell}:(jU Y q).ts=Y.ts:=by unfold jU;split<;>rfl
theorem v9 (t:T):fK (fJ Y) t=fK Y t:=by
  have ts:(fJ Y).ts=(bC (bC Y .ak) .aL).ts:=yN
  have m1:Tx.ak∈(bC Y .ak).ts:=p9
  have m2:Tx.ak∈(fJ Y).ts:=by
    rw [ts]
    refine E01 (jh (Y:=bC Y .ak) (t:=.aL)) fun y0 _=>?_
    obtain ⟨r,e⟩:=y0
    rw [e];exact List.mem_append_left _ m1
  have m3:Tx.aL∈(fJ Y).ts:=by rw [ts];exact p9
  have m4:(ix (fJ Y).ts .aL,2)∈(fJ Y).fs:=by
    rw [ts]
    exact List.mem_of_getElem? (gh (Y:=bC Y .ak) (t:=.aL) (k:=2))
  have e1:bC (fJ Y) .ak=fJ Y:=nq m2
  have e2:bC (fJ Y) .aL=fJ Y:=nq m3
  have e3:iE (fJ Y) .aL 2=fJ Y:=by
    unfold iE
    rw [e2];exact if_pos m4
  have f1:fno (bC (fJ Y) .ak) .aL 2=fno (bC Y .ak) .aL 2:=by
    rw [e1]
    unfold fno
    rw [e3,e2,ts];rfl
  have a1:ix (bC (fJ Y) .ak).ts .ak=ix (bC Y .ak).ts .ak:=by
    rw [e1,ts]
    exact zC m1
  unfold fK Am
  rw [f1,a1]
end
section
variable {cs:List Int} {W n:Nat} {Q:Fl->Fr->St->Prop} {σ σ1:St} {Y Y':Sym} {g k0:Nat} {x4 x5 x6 x9 y0:Option V} {fl sl:Nat} {fs:List T} {G t2 t3:T} {ff:Nat}
theorem LT.z (L:LT cs fl sl fs G t2 t3 ff Y g k0 σ):sz t2<=3/\sz t3<=3:=by
  constructor
  · rcases L.h2 with rfl | rfl
    · show 1<=3;exact Nat.succ_pos _
    · show 1+(1+0)+1<=3;exact Nat.le_refl _
  · rcases L.h3 with rfl | rfl
    · show 1<=3;exact Nat.succ_pos _
    · show 1+0+1<=3;exact Nat.le_add_left _ _
theorem LG.z4 (lg:LG Y fs G) (h:fs.length<4):sz (wh fs G)<=340/\dp (wh fs G)<=12:=by
  have h1:=yH (G:=G) lg.zf
  have h2:=yG lg.d lg.df
  have h3:=lg.z
  have:fs.length * (39+1)<=3 * (39+1):=Nat.mul_le_mul_right _ (by lia)
  lia
theorem BA (hW:5000<W) (hk0:k0<=10000) (L:LT cs fl sl [] G t2 t3 ff Y g k0 σ) (lg:LG Y [] G) (k:∀ fr σ',Q (.ret (.bool true)) fr σ'):
    Ends (evS (af W (n+30)) W true (cu 19 cB) (frL (some (.int (0:Nat))) (some (.ref fl)) x6 (some (tv G)) (some (tv (wh [] G))) x9 (some (.ref sl)) none none y0 none) σ) Q:=by
  have b1:=L.s.l1
  have b2:=L.s.l2
  have M:=L.s.t.m
  have h8:6<σ.length:=aC M.fn
  refine E12 (wx (W:=W) (n:=n+27) (a:=σ.length) (t:=G) (M.app [.list [.str .ak,tv G]]) dA.d (by lia) (by lia) bb (by show σ.length∉[3,4,5,6];simp only [List.mem_cons,List.not_mem_nil,or_false];lia)) fun σ2 e2 M2 K2=>?_
  have h82:6<σ2.length:=aC M2.fn
  have nsl:sl∉[c0.tx,c0.an,c0.fu,c0.fn]:=by
    have:=L.n
    show sl∉[3,4,5,6]
    simp only [List.mem_cons,List.not_mem_nil,or_false];lia
  have i2:=K2 _ _ (aq L.i) nsl
  have hsl:=aC i2
  refine E01 (AG M2 dA.d) fun Mm Nm=>?_
  have z:=L.z
  have hY:Yle Y (fJ Y):=jh.trans eV
  have l1:=ji (Y:=bC Y .ak) (t:=.aL) (k:=2)
  have l2:=eD (Y:=Y) (t:=.ak)
  have l3:=l1.2
  rw [l2.2] at l3
  refine E10 (rp (W:=W) (n:=n+17) (sl:=sl) (G:=G) (t2:=t2) (t3:=t3) (Ya:=Y) Mm Nm (by
      show σ2.length+6∉[3,5,σ2.length+3,σ2.length+4]
      simp only [List.mem_cons,List.not_mem_nil,or_false];lia) (aq i2) (by show sl≠σ2.length+3;lia) ((L.s.y.trans hY).fs rfl) (Wf.mono hY _ lg.w) (Wf.mono hY _ L.w2) (Wf.mono hY _ L.w3) (by have:=lg.z;(refine Nat.le_trans (by assumption) ?_;decide)) (by lia) (by lia) (by (refine Nat.lt_of_le_of_lt ?_ (by assumption);decide)) lg.c (by have:=lg.d;(refine Nat.le_trans (by assumption) ?_;decide)) (fun t=>v9 t) (by show (fJ Y).ts.length<_;unfold fJ;lia) (by show (fJ Y).fs.length<_;unfold fJ;lia)) fun σ3 e3=>?_
  refine aj (aw (ai (v:=true) rfl rfl rfl) (aa (av (aV (ae rfl (ae rfl (ab (b7 (ae rfl (ab rfl)) rfl)))) e2)) (aA (aB (aV (ae (tP (n:=n+27) M2 rfl) (ae rfl (ae rfl (ab rfl)))) e3)) (k _ _))))
noncomputable def vT (x:Nat):V:=tv (.v x)
theorem jZ {K:List Nat} {tk sF:Nat} {fr:Fr} {C:aD} {all:List Nat} (hc:fr.cells[1]?.join=some (.ref tk)) (hk:∀ L,(σ++L)[tk]?=some (.list (K.map iV))) (hs:∀ L,(σ++L)[sF]?=some (.list (all.map iV))) (hl:all.length<900000):∀ (r pre:List Nat) (acc:List V),all=pre++r->acc.length<=pre.length->
    cj (fun v σ=>bnd (ev C true (.cmp .notin (.loc 0) (.cell 1)) ⟨[some v],fr.cells⟩ σ) fun t σ=>onB t fun t=>sel t (bnd (ev C true (.tuple (.cons (.str .t_v) (.cons (.loc 0) .nil))) ⟨[some v],fr.cells⟩ σ) fun y σ=>some (some y,σ)) (some (none,σ))) (.ref sF) σ.length (r.map iV) pre.length (σ++[.list acc])=some (σ++[.list (acc++(r.filter fun x=>!decide (x∈K)).map vT)])
  |[],pre,acc,ha,h=>by
    rw [List.filter_nil,List.map_nil,List.map_nil,List.append_nil]
    exact rJ (aO (hs _)) (by rw [ha,List.append_nil,List.length_map];exact Nat.le_refl _)
  |x::r,pre,acc,ha,h=>by
    have hx:(all.map iV)[pre.length]?=some (iV x):=by rw [ha,List.map_append,List.getElem?_append_right (by rw [List.length_map];exact Nat.le_refl _),List.length_map,Nat.sub_self];rfl
    have hal:pre.length<=all.length:=by rw [ha,List.length_append];exact Nat.le_add_right _ _
    have hn:ev C true (.cmp .notin (.loc 0) (.cell 1)) ⟨[some (iV x)],fr.cells⟩ (σ++[.list acc])=some (.bool (!decide (x∈K)),σ++[.list acc]):=ai rfl (gM hc) (bP (in_list (hk _) (r6 K)))
    by_cases hK:x∈K
    · have ih:=jZ (C:=C) hc hk hs hl r (pre++[x]) acc (by rw [ha,List.append_assoc];rfl) (by rw [List.length_append];lia)
      rw [List.length_append] at ih
      rw [List.filter_cons_of_neg (by simp [hK])]
      refine ay (aO (hs _)) (ay hx (ay (x:=(none,σ++[.list acc])) (aI hn ?_) ih))
      rw [decide_eq_true hK];rfl
    · have ih:=jZ (C:=C) hc hk hs hl r (pre++[x]) (acc++[vT x]) (by rw [ha,List.append_assoc];rfl) (by rw [List.length_append,List.length_append];exact Nat.succ_le_succ h)
      rw [List.length_append] at ih
      rw [List.filter_cons_of_pos (by simp [hK]),show acc++(x::r.filter fun x=>!decide (x∈K)).map vT=(acc++[vT x])++(r.filter fun x=>!decide (x∈K)).map vT by simp]
      refine ij (Q:=(·=some _)) (z:=vT x) (acc:=acc) (aO (hs _)) hx (aI hn ?_) bb (by lia) (by rw [mJ];exact ih)
      rw [decide_eq_false hK];rfl
theorem BB (hW:5000<W) (hk0:k0<=10000) (hfs:fs≠[]) (hf4:fs.length<4) (L:LT cs fl sl fs G t2 t3 ff Y g k0 σ) (lg:LG Y fs G) (k:∀ fr σ',Q (.ret (.bool true)) fr σ'):
    Ends (evS (af W (n+30)) W true (cu 19 cB) (frL (some (.int (fs.length:Nat))) (some (.ref fl)) x6 (some (tv G)) (some (tv (wh fs G))) x9 (some (.ref sl)) none none y0 none) σ) Q:=by
  have hlen:0<fs.length:=List.length_pos_iff.mpr hfs
  have h8:6<σ.length:=aC L.s.t.m.fn
  have hfl:=aC L.s.f
  have hslt:=aC L.i
  have i1:(σ++[O.list []])[fl]?=some (.list (fs.map tv)):=aq L.s.f
  refine aa (aN (ai rfl rfl (congrArg some (bE (b:=0) (by exact Nat.ne_of_gt (by assumption)))))) (aa (Ci (b7 rfl rfl)) (aj (dy (x:=.ref fl) (xs:=fs.map tv) rfl (aO i1) ?_)))
  refine cw (fun i fr σ'=>σ'[σ.length]?=some (.list (((fs.take i).foldl (fun F t=>vfs t F) []).map iV))/\((fs.take i).foldl (fun F t=>vfs t F) []).length<=39 * i/\Kp [σ.length] (σ++[.list []]) σ'/\∃ x9,fr=frL (some (.int (fs.length:Nat))) (some (.ref fl)) x6 (some (tv G)) (some (tv (wh fs G))) x9 (some (.ref sl)) none none y0 (some (.ref σ.length))) (fun _ _ _ h=>aO (h.2.2.1 _ _ i1 (by simp only [List.mem_singleton];exact Nat.ne_of_lt (by assumption)))) ?_ ?_ _ 0 _ _ (Nat.zero_add _) ⟨bb,Nat.le_refl _,Kp.refl,_,rfl⟩
  · rintro i y fr σ' hy ⟨h1,h2,h3,x9,rfl⟩
    rw [List.getElem?_map] at hy
    refine E11 (Option.map_eq_some_iff.mp hy) fun u hu z2=>?_
    subst z2
    have hm:=List.mem_of_getElem? hu
    have hi:=(List.getElem?_eq_some_iff.mp hu).1
    have du:=lg.df u hm
    have zu:=lg.zf u hm
    have e:=wq (W:=W) (hs:=true) (n+29) u _ σ' (by lia) (by lia) h1
    refine aa (aS (aV (ae rfl (ab (gM rfl))) e)) (ao ⟨.inl rfl,?_,?_,h3.trans (Kp.set (.head _)),_,rfl⟩)
    · rw [bM hu,List.foldl_append];exact bc h1
    · rw [bM hu,List.foldl_append]
      have:=dd u ((fs.take i).foldl (fun F t=>vfs t F) [])
      show (vfs u _).length<=_
      lia
  rintro fr σ1 ⟨h1,h2,K1,x9,rfl⟩
  rw [List.length_map,List.take_of_length_le (Nat.le_refl _)] at h1
  have hs1:=aC h1
  have i1:=K1 _ _ (aq L.i) (by simp only [List.mem_singleton];exact Nat.ne_of_lt (by assumption))
  have M1:SMem c0 σ1 Y:=(L.s.t.m.app _).kp K1 fun i hi=>by
    rw [List.mem_singleton.mp hi]
    show σ.length∉[2,3,4,5,6]
    simp only [List.mem_cons,List.not_mem_nil,or_false];lia
  have efr:=wq (W:=W) (hs:=true) (a:=σ1.length) (n+29) G [] (σ1++[.list []]) (by have:=lg.d;lia) (by have:=lg.z;simp;(refine Nat.lt_of_le_of_lt (by assumption) ?_;decide)) bb
  rw [mJ] at efr
  have ecf:=jZ (σ:=σ1++[.list ((vfs G []).map iV)]) (C:=af W (n+30) true) (K:=fs.foldl (fun F t=>vfs t F) []) (tk:=σ.length) (sF:=σ1.length) (fr:=frL (some (.int (fs.length:Nat))) (some (.ref fl)) x6 (some (tv G)) (some (tv (wh fs G))) x9 (some (.ref sl)) none none y0 (some (.ref σ.length))) rfl (fun L=>aq (aq h1)) (fun L=>aq bb) (by have:=dd G [];have:=lg.z;simp at *;lia) (vfs G []) [] [] rfl (Nat.le_refl _)
  rw [List.nil_append] at ecf
  have l1:(σ1++[O.list ((vfs G []).map iV)]).length=σ1.length+1:=List.length_append
  have eF:((vfs G []).filter fun x=>!decide (x∈fs.foldl (fun F t=>vfs t F) [])).map vT=((fnd fs G).map T.v).map tv:=by rw [List.map_map];rfl
  rw [eF] at ecf
  have ec:ev (af W (n+30) true) true (.compIf (.call (.glob (.fn .gU)) (.cons (.loc 7) (.cons (.list .nil) .nil))) (.cmp .notin (.loc 0) (.cell 1)) (.tuple (.cons (.str .t_v) (.cons (.loc 0) .nil)))) (frL (some (.int (fs.length:Nat))) (some (.ref fl)) x6 (some (tv G)) (some (tv (wh fs G))) x9 (some (.ref sl)) none none y0 (some (.ref σ.length))) σ1=some (.ref (σ1.length+1),σ1++[.list ((vfs G []).map iV)]++[.list (((fnd fs G).map T.v).map tv)]):=by
    refine aI (aV (ae rfl (ab (b7 rfl rfl))) efr) (ay (aO bb) (ay ecf ?_))
    rw [l1]
  have g2:(σ1++[O.list ((vfs G []).map iV)]++[.list (((fnd fs G).map T.v).map tv)])[σ1.length+1]?=some (.list (((fnd fs G).map T.v).map tv)):=by rw [← l1];exact bb
  have er:=Ax (W:=W) (n:=n+29) (hs:=true) (ts:=(fnd fs G).map .v) (e:=.a 0) g2 (by
    have:=List.length_filter_le (fun x=>!decide (x∈fs.foldl (fun F t=>vfs t F) [])) (vfs G [])
    have:=dd G []
    have:=lg.z
    rw [List.length_map];unfold fnd;simp at *;lia)
  have iL:∀ X,((σ1++[O.list ((vfs G []).map iV)]++[.list (((fnd fs G).map T.v).map tv)])++X)[sl]?=some (.list ([wh fs G,t2,t3].map tv)):=fun X=>aq (aq (aq i1))
  refine aa (iC ec) ?_
  generalize hσ2:(σ1++[O.list ((vfs G []).map iV)]++[.list (((fnd fs G).map T.v).map tv)])++[.list (((fnd fs G).map T.v).map tv).reverse]=σ2 at er
  have i2:σ2[sl]?=some (.list ([wh fs G,t2,t3].map tv)):=hσ2▸iL _
  have M2:SMem c0 σ2 Y:=hσ2▸((M1.app _).app _).app _
  refine aa (av (au (ae rfl (ab (b7 (ae (au (ae (bQ rfl rfl (j:=((1:Nat):Int)) ((List.append_nil _).symm▸iL []) (v:=tv t2) (dH.trans rfl)) (ab (aV (ae rfl (ab (au (ae rfl (ab rfl)) rfl))) er))) rfl) (ab (au (ae (bQ rfl rfl (j:=((2:Nat):Int)) i2 (v:=tv t3) (dH.trans rfl)) (ab rfl)) rfl))) rfl))) rfl)) ?_
  have M3:SMem c0 (σ2++[.list [.tup [tv t2,tv (cX ((fnd fs G).map .v) (.a 0))],.tup [tv t3,tv G]]]) Y:=M2.app _
  refine E01 (AG M3 dA.d) fun Mm Nm=>?_
  have h9:(σ2++[O.list [.tup [tv t2,tv (cX ((fnd fs G).map .v) (.a 0))],.tup [tv t3,tv G]]]).length=σ2.length+1:=List.length_append
  have hsl2:=aC i2
  have z:=L.z
  have z4:=lg.z4 hf4
  have vW:∀ x,occ x (wh fs G)=true->x<=6:=fun x o=>(uP o).elim (lg.v x) fun ⟨f,m,o⟩=>lg.vf f m x o
  have w3:=M3.fn
  have h83:6<σ2.length:=aC M2.fn
  refine E10 (uQ (W:=W) (n:=n) (sl:=sl) (dl:=σ2.length) (fs:=fs) (G:=G) (t2:=t2) (t3:=t3) Mm Nm (by
      rw [h9]
      show σ2.length+1+6∉[3,5,σ2.length+1+3,σ2.length+1+4]
      simp only [List.mem_cons,List.not_mem_nil,or_false];lia) (aq (aq i2)) (by
      rw [h9]
      show sl∉[σ2.length+1+3,σ2.length+1+6]
      simp only [List.mem_cons,List.not_mem_nil,or_false];lia) (aq bb) (by
      rw [h9]
      show σ2.length∉[σ2.length+1+3,σ2.length+1+6]
      simp only [List.mem_cons,List.not_mem_nil,or_false];lia) (L.s.y.fs rfl) (AV L.s.y lg.w lg.wf) L.w2 L.w3 (by lia) (by lia) (by lia) (by assumption) lg.c hfs (fun f m=>by have:=lg.zf f m;(refine Nat.le_trans (by assumption) ?_;decide)) (by lia) (by have:=lg.z;(refine Nat.le_trans (by assumption) ?_;decide)) fun α ord=>comes L.h2 L.h3 vW (by have:=lg.d;(refine Nat.le_trans (by assumption) ?_;decide)) z4.2 (by have:=lg.z;(refine Nat.le_trans (by assumption) ?_;decide)) z4.1 (fun l e=>by
        have w:=lg.w
        rw [e] at w
        obtain ⟨a,ha⟩:=w.1
        exact L.f a _ ha) ord) fun σ3 e3=>?_
  exact aA (aB (aV (ae (tP (n:=n+27) M3 rfl) (ae rfl (ae rfl (ab rfl)))) e3)) (k _ _)
end
theorem zD {cs:List Int} {W n:Nat} (hW:5000<W):∃ fr σ',evS (af W (n+30)) W true (cu 1 cB) fr0 [.list (cs.map .int)]=some (.ret (.bool true),fr,σ'):=by
  suffices Ends (evS (af W (n+30)) W true (cu 1 cB) fr0 [.list (cs.map .int)]) fun fl _ _=>fl=.ret (.bool true) by
    refine E31 this fun _ fr σ' e z4=>?_
    subst z4
    exact ⟨fr,σ',e⟩
  refine CM (n:=n+23) (CN (n:=n+23) (by exact Nat.le_add_left _ _) DH fun σ1 cnt fl l Y g x6 hc h4 hl1 S1=>?_)
  refine By (n:=n+23) (by exact Nat.le_add_left _ _) (by exact Nat.le_add_left _ _) S1 hl1 fun σ2 Y2 g2 G hl2 gg S2=>?_
  refine CO (n:=n+23) S2 (by lia) fun σ3 x9 S3=>?_
  refine CP (n:=n+23) (by exact Nat.le_add_left _ _) (by (refine Nat.lt_of_le_of_lt ?_ (by assumption);decide)) (by exact Nat.le_add_left _ _) S3 gg hl2 (by lia) fun σ4 fl4 fs G4 Y4 y0 hf lg S4=>?_
  refine CQ (n:=n+23) (by exact Nat.le_add_left _ _) (by exact Nat.le_add_left _ _) S4 lg fun σ5 sl t2 t3 ff Y5 hY L=>?_
  have lg5:LG Y5 fs G4:=⟨Wf.mono hY _ lg.w,fun f m=>Wf.mono hY _ (lg.wf f m),lg.d,lg.df,lg.z,lg.zf,lg.v,lg.vf,lg.c⟩
  have hcf:cnt=fs.length:=by lia
  subst hcf
  cases fs with
  |nil=>exact BA (n:=n) hW (by exact Nat.le_add_left _ _) L lg5 fun _ _=>rfl
  |cons f r=>exact BB (n:=n) hW (by exact Nat.le_add_left _ _) nofun h4 L lg5 fun _ _=>rfl
section
variable {w:World} {h₁:Heap} {W n:Nat} {A:Around} {θ:List OA} {s:Shared} {σ:St}
theorem vn (B:Base w h₁) (HC:∀ hs,CS w h₁ (af W n hs) n hs) {env:Env} {a:Addr} {us:List Value} {ns:List Int} {m:Str->Option Value} (X:FX h₁ (fi w.params .law) env A) (G:Go w h₁ n true A (fi w.params .law) env ⟨List.replicate 13 none,List.replicate 2 none⟩ [] [] s)
    (hm:s.heap.Ns env.locals m) (ha:m ((fi w.params .law).locs.getD 0 "")=some (.ref a)) (hl:s.heap.IsList a us.toArray) (hr:RL [] s.heap (ns.map .int) us) (hn:ns.length<=1000) {fr':Fr} {σ':St} {v:V}
    (e:evS (af W n) W true (cu 1 cB) fr0 [.list ((ns.take 63).map .int)]=some (.ret v,fr',σ')) {Q:Flow->Shared->Prop} {E:Value->Shared->Prop} (k:SQ w h₁ n true A (fi w.params .law) env [] s (.ret v) fr' σ' Q E):
    wpAny (model pw w) A (execs (j8 (fe .law).body (fi w.params .law) (bodyOf w.params .law)) env) Q E s:=by
  refine gI (xH w.params .law) fun l1 o1 o2 l2=>wpAny_execs_cons ?_
  refine gI o1 fun m1 p1 c1 lk=>wpAny_Assign_Name ?_ (cL m1 c1 _ _ _ _ _)
  refine E01 (cN lk) fun k1 k2=>?_
  refine gI p1 fun q1 r1 q2 r2=>oy r1 fun u1 u2 u3=>Subscript_ (wpAny_Name (wpAny_loadName_local (v:=.ref a) (by rw [G.frm.sc];exact G.frm.kd) (by unfold Env.kindOf;rw [G.frm.sc];exact eq_of_beq u2) hm ?_ (wpAny_Slice (wpAny_pure ((b0 B (HC true) (.int 63)).ev G rfl r2 (show ev (af W n true) true (.int 63) ⟨List.replicate 13 none,List.replicate 2 none⟩ []=some (.int 63,[]) from rfl) fun v2 s2 θ2 t2 rv=>?_)))) (jK u3))
  · have e1:=eq_of_beq u1
    rw [List.getD_eq_getElem?_getD,e1] at ha
    exact ha
  refine E10 rv.int_inv fun tk z1=>?_
  subst z1
  refine wpAny_pure ?_
  obtain ⟨o,ho,hc,c,hd⟩:=hl
  have ho2:s2.heap.get? a=some o:=t2.ext.exact (θ:=[]) (fun ⟨_,h,_⟩=>nomatch h) ho (fun v q=>by rw [hd] at q;cases q) (fun _ _ q=>by rw [hd] at q;cases q) (fun _ _ q=>by rw [hd] at q;cases q)
  refine qY (xs:=ns.map .int) (ys:=(ns.take 63).map .int) t2.inv ⟨o,Heap.get?_push_of_some _ ho2,hc,c,hd⟩ (hr.mono t2.ext) (by rw [List.length_map];(refine Nat.le_trans (by assumption) ?_;decide)) .none (.int 63 tk) .none (by simp) (fun _=>rfl) (fun us r=>?_) (by rw [List.length_map,List.length_take];lia) fun v3 s3 θ3 t3 r3=>?_
  · rw [show (63:Int)=((63:Nat):Int) from rfl,slicePick_upto' us.toArray 63,List.map_take]
    simpa using r.take 63
  have T:=t2.trans t3
  refine dq (G.go T) X k1 k2 r3 fun s4 t4 G4=>?_
  have T4:=(T.mono bA).trans t4
  exact (Dg B HC (cu 1 cB)).exs G4 X l2 o2 e (k.after T4)
end
section
theorem xn {w:World} {s:Shared} (B:Base w s.heap) {a:Addr} {us:List Value} {ns:List Int} (hl:s.heap.IsList a us.toArray) (hr:RL [] s.heap (ns.map .int) us) (hn:ns.length<=1000):
    wpAny (model pw w) callerA (call (.ref (fc .law).addr) [.ref a]) (fun v s'=>v=.bool true/\(∀ b o,s.heap.get? b=some o->s'.heap.get? b=some o)/\s'.os=s.os/\s'.gens=s.gens) (fun _ _=>False) s:=by
  refine E20 (zD (cs:=ns.take 63) (W:=6000) (n:=0) (by exact Nat.le_add_left _ _)) fun fr' σ' e=>?_
  have I:Inv w s.heap [] [] s.heap:=⟨fun _ _ e=>e,rfl,fun _ _ _ h=>(nomatch h),fun _ h=>(nomatch h),fun _ _ _ _ h=>(nomatch h)⟩
  have hc:=rK w.params .law
  unfold chk at hc
  simp only [Bool.and_eq_true,beq_iff_eq,Bool.not_eq_true',List.isEmpty_iff,List.all_eq_true] at hc
  refine E01 hc fun y0 c15=>?_
  obtain ⟨⟨⟨⟨⟨⟨⟨⟨⟨⟨⟨⟨⟨c1,c2⟩,c3⟩,c4⟩,c5⟩,c6⟩,c7⟩,c8⟩,c9⟩,c10⟩,c11⟩,c12⟩,c13⟩,c14⟩:=y0
  have binv:=ql (θ:=[⟨a,a⟩]) (h:=s.heap) (i:=fi w.params .law) (kind:=fun x=>(fi w.params .law).scope.names.lookup x) (fun _=>rfl) (fj c11) (fj c12) (fr:=⟨List.replicate 13 none,List.replicate 2 none⟩) (m:=fun _=>none) (cm:=fun _=>none) (vals:=[.ref 0]) (us:=[.ref a]) c13 (.one (.ref (p:=⟨a,a⟩) rfl)) rfl
    (fun _ _ _ _ z=>(nO z).elim) (fun _ _ _ _ z=>(nO z).elim)
  have hb:gi w.params .law [.ref a]=(namesOf w.params .law).zip [.ref a]:=by
    unfold gi
    rw [show vh w.params .law=[] from List.eq_nil_of_length_eq_zero (wN w.params .law)]
    rfl
  rw [← hb] at binv
  refine E02 binv fun b1 _ b3=>?_
  obtain ⟨x0,hx0⟩:∃ x,(fi w.params .law).locs[0]?=some x:=⟨_,rfl⟩
  have hloc:=b1 0 x0 (.ref 0) hx0 rfl
  refine E11 hloc fun u hu ru=>?_
  refine E11 ru.bq fun p hp z2=>?_
  subst z2
  obtain rfl:=Option.some.inj hp
  refine wpAny_call (qx (n:=30) (hs:=true) (θ:=[]) (σ:=[]) (f:=.law) (fr₀:=⟨List.replicate 13 none,List.replicate 2 none⟩) B ⟨by decide,by decide,fun _=>rfl⟩ ⟨.inl rfl,[],rfl,fun _ h=>nomatch h⟩ I rfl
    (fun _ _ _ _ z=>(nO z).elim) (fun _ _ _ _ z=>(nO z).elim) b3 fun env s1 t0 X' G newW hns=>?_)
  obtain ⟨o,ho,ho2,c,hd⟩:=hl
  have ho1:s1.heap.get? a=some o:=t0.ext.exact (θ:=[]) (fun ⟨_,h,_⟩=>nomatch h) ho (fun v q=>by rw [hd] at q;cases q) (fun _ _ q=>by rw [hd] at q;cases q) (fun _ _ q=>by rw [hd] at q;cases q)
  refine vn B (wM B 30) X' G hns (by rw [List.getD_eq_getElem?_getD,hx0];exact hu) ⟨o,ho1,ho2,c,hd⟩ (hr.mono t0.ext) hn e fun u s2 θ2 t2 r2 _=>?_
  exact ⟨r2.bool_inv,t2.inv.base,t2.os.trans t0.os,t2.gens.trans t0.gens⟩
end
noncomputable def lG (st:SharedT->Thread->Option (SharedT×Thread)) (ok:Thread->Bool):Nat->SharedT->Thread->Option SharedT
  |0,_,_=>none
  |n+1,s,t=>cond (through t) (some s) (cond (ok t) ((st s t).bind fun r=>lG st ok n r.1 r.2) none)
noncomputable abbrev pS (tb:String->Option Builtin) (p:Program) (w:World) (n₀:Nat) (ann:Option Value):Nat->SharedT->Thread->Option SharedT:=lG (stepT (denote tb) p w) (stepOk n₀ ann)
theorem og {tb:String->Option Builtin} {p:Program} {w:World} {n₀:Nat} {ann:Option Value}:∀ {n:Nat} {s s':SharedT} {t:Thread},
    pS tb p w n₀ ann n s t=some s'->topRun tb p w n₀ ann n s.abs t=some s'.abs
  |0,_,_,_,h=>nomatch h
  |n+1,s,s',t,h=>by
    have h:cond (through t) (some s) (cond (stepOk n₀ ann t) ((stepT (denote tb) p w s t).bind fun r=>lG (stepT (denote tb) p w) (stepOk n₀ ann) n r.1 r.2) none)=some s':=h
    unfold topRun
    cases ht:through t with
    |true=>rw [ht] at h;cases h;rfl
    |false=>
      rw [ht] at h
      cases hk:stepOk n₀ ann t with
      |false=>rw [hk] at h;cases h
      |true=>
        rw [hk] at h
        cases hs:stepT (denote tb) p w s t with
        |none=>rw [hs] at h;cases h
        |some r=>obtain ⟨s₂,t₂⟩:=r;rw [hs] at h;rw [stepT_spec hs];exact og h
theorem pf {p q:Program} {loose:List Str} {Xt:Shared->Bool} {α:Type} {Yf:Shared->α} {Ya:World->α} {N:Nat} {g0:Bool} {t₀:Params->BT} {n₀:Nat} {life:Life} {gs₀:Array GenState} {d₀:Drawn} {k₀ m₀:Nat} {ann:Option Value}
    (open_:∀ w:World,(fencedOpening treeTable p w N).map (fun s=>(s.heap,s.gens,s.drawn,s.toks))=some (absHeap (t₀ w.params) n₀ life,gs₀,d₀,k₀))
    (size:∀ w:World,((absHeap (t₀ w.params) n₀ life).isNs mainGlobals&&gs₀.size==0,(absHeap (t₀ w.params) n₀ life).objs.size,(absHeap (t₀ w.params) n₀ life).nsMap mainGlobals "__annotations__")=(true,m₀,ann))
    (run:∀ w:World,(fun os=>(pS treeTable p w m₀ ann N ⟨t₀ w.params,n₀,life,gs₀,d₀,k₀,os⟩ (topStub p)).map fun s=>
        (staticsOk (importedModules p.main.body) (absHeap (t₀ w.params) n₀ life) s.abs.heap&&namesBound p s.abs.heap&&gensDone s.abs&&laidKept (absHeap (t₀ w.params) n₀ life) s.abs.heap,
          openSeen q loose (importedModules p.main.body) Xt g0 s.abs,Yf s.abs))=fun _=>some (true,openGood q loose,Ya w)):LeftO p q loose Xt Yf Ya N g0:=fun w=>by
  refine E11 (Option.map_eq_some_iff.mp (open_ w)) fun y0 e e'=>?_
  obtain ⟨h,gs,d,k,os⟩:=y0
  obtain ⟨rfl,rfl,rfl,rfl⟩:h=absHeap (t₀ w.params) n₀ life/\gs=gs₀/\d=d₀/\k=k₀:=by simpa using e'
  obtain ⟨z1,z2,z3⟩:_/\_/\_:=by simpa only [Prod.mk.injEq] using size w
  refine E11 (Option.map_eq_some_iff.mp (congrFun (run w) os)) fun s' r l=>?_
  obtain ⟨l1,l2,l3⟩:_/\_/\_:=by simpa only [Prod.mk.injEq] using l
  have r:=og r
  have t:topFrom treeTable p w N ⟨absHeap (t₀ w.params) n₀ life,gs,d,k,os⟩=some s'.abs:=by
    unfold topFrom
    dsimp only
    rw [z1,z2,z3]
    have r':topRun treeTable p w m₀ ann N ⟨absHeap (t₀ w.params) n₀ life,gs,d,k,os⟩ (topStub p)=some s'.abs:=r
    rw [r']
    show (match staticsOk (importedModules p.main.body) (absHeap (t₀ w.params) n₀ life) s'.abs.heap&&namesBound p s'.abs.heap&&gensDone s'.abs&&laidKept (absHeap (t₀ w.params) n₀ life) s'.abs.heap with | true=>_ | false=>_)=_
    rw [l1]
  unfold openEnds
  rw [e]
  show ((topFrom treeTable p w N ⟨absHeap (t₀ w.params) n₀ life,gs,d,k,os⟩)).map _=_
  rw [t]
  exact congrArg some (Prod.ext l2 l3)
noncomputable def Cx:List Obj->Nat->BT->BT
  |[],_,t=>t
  |o::r,i,t=>Cx r (i+1) (t.ins i o)
noncomputable def bt0 (P:Params):BT:=Cx (boot_heap P).objs.toList 0 .nil
noncomputable abbrev jD:Life:={ debug:=0,thresholds:=[2000,10,10] }
theorem boot_abs (P:Params):boot_heap P=absHeap (bt0 P) 11 jD:=by kernel_rfl
theorem DE:PySem.Challenge.rw_no0189_01.wellSaid=true:=(congrFun PySem.W.Fast.te9446332074065402090 _).trans (by kernel_rfl)
noncomputable def CL:Stmt:=pw.main.body.getD 61 default
noncomputable def qv:Program:={ pw with main:={ pw.main with body:=[CL] } }
noncomputable def pg:List Str:=(["_wall","ClausemillError","PrologError","A_NIL","A_SYSTEM","F_DOT","F_CARET","F_ERROR","fixed_atoms","fixed_functors","Symbols","system_error","formal_of","type_error","resource_error",
  "REF","SRF","STR","LIS","CON","INT","FUN","VOID","VISIT","BUILD","Cells","Store","PairSet","push_arguments","push_pairs","same_shape","is_variable","unify","unify_unify","bind_checked","occurs_in","variables",
  "pred_free_variables","is_caret","READ","EXTRA","Areas","_law_pick","_law_end","_law_inside","_law_meet","_law_full","_law_match","_law_error","_law_agrees","_law_tree","_law_row","_law_free","_law_freed"]:List String).map Str.ofString
theorem p6 (P:Params):KA=(KK P).map (·.1):=by kernel_rfl
theorem opn:∀ w:World,(fencedOpening treeTable pw w 9106).map (fun s=>(s.heap,s.gens,s.drawn,s.toks))=some (absHeap (bt0 w.params) 11 jD,Array.mk [],boot_drawn,boot_toks):=fun w=>by
  rw [← boot_abs]
  exact boot_open (by kernel_rfl) (by kernel_rfl) (fun s=>by kernel_rfl) w
theorem siz:∀ w:World,((absHeap (bt0 w.params) 11 jD).isNs mainGlobals&&(Array.mk []:Array GenState).size==0,(absHeap (bt0 w.params) 11 jD).objs.size,(absHeap (bt0 w.params) 11 jD).nsMap mainGlobals "__annotations__")=(true,11,some (.ref 6)):=fun w=>by kernel_rfl
theorem run:∀ w:World,(fun os=>(pS treeTable pw w 11 (some (.ref 6)) 9106 ⟨bt0 w.params,11,jD,Array.mk [],boot_drawn,boot_toks,os⟩ (topStub pw)).map fun s=>
        (staticsOk (importedModules pw.main.body) (absHeap (bt0 w.params) 11 jD) s.abs.heap&&namesBound pw s.abs.heap&&gensDone s.abs&&laidKept (absHeap (bt0 w.params) 11 jD) s.abs.heap,
          openSeen qv pg (importedModules pw.main.body) (fun s=>recOk [] s) true s.abs,KA.map s.abs.heap.get?))=fun _=>some (true,openGood qv pg,(KK w.params).map fun p=>some p.2):=fun w=>by
  show (fun os=>Option.map _ (lG (stepT (denote treeTable) pw w) (stepOk 11 (some (.ref 6))) 9106 _ _))=_
  rw [PySem.W.Fast.te10156331382660048174,PySem.W.Fast.te11892475500146522536,PySem.W.Fast.te14364793385576792824,PySem.W.Fast.te6613529449190102663]
  kernel_rfl
theorem left:LeftO pw qv pg (fun s=>recOk [] s) (Hook.obs (kHook KK KA p6)) (Hook.val (kHook KK KA p6)) 9106 true:=
  pf (t₀:=bt0) (n₀:=11) (life:=jD) opn siz run
theorem zY {h:Heap} {vs:List Value} {ns:List Int} (x:IntsAre vs ns):RL [] h (ns.map .int) vs:=by
  induction x with
  |nil=>exact .nil
  |cons n t _ ih=>exact .cons (.int n t) ih
theorem y3 {p:Program} {loose:List Str} {mean:ExcName->Option Value} {mg mb:Str->Option Value} {w:World} {h:Heap} (X:(KK w.params).In h) (T:Top p loose mean mg mb h):Base w h:=
  ⟨X,mb,T.b,fun b=>(T.builtins _ (by cases b<;>decide)).trans (by cases b<;>rfl),fun t=>(T.builtins _ (by cases t<;>decide)).trans (by cases t<;>rfl)⟩
theorem xm {p:Program} {loose:List Str} {mean:ExcName->Option Value} {mg mb:Str->Option Value} {w:World} {h:Heap} {a:Addr} (X:(KK w.params).In h) (T:Top p loose mean mg mb h) (e:mg "law"=some (.ref a)):a=(fc .law).addr:=by
  have:=mg_of X T.g (n:="law") (v:=.ref (fc .law).addr) (by kernel_rfl)
  rw [e] at this
  cases this;rfl
end Mine
set_option maxHeartbeats 8000000 in
theorem PySem.Challenge.cw_no0189_01_holds : PySem.Challenge.rw_no0189_01.Holds := by
  refine holds_law Mine.DE fun said'=>holds_open (q:=Mine.qv) (loose:=Mine.pg) (Xt:=fun s=>recOk [] s) (XP:=fun _ _=>True) (YP:=Hook.says (kHook Mine.KK Mine.KA Mine.p6)) Mine.left (Hook.of (kHook Mine.KK Mine.KA Mine.p6)) (Hook.keeps (kHook Mine.KK Mine.KA Mine.p6)) (fun _ _=>trivial) (fun _ _ _ _ _=>trivial) (by rfl) (by rfl) (by rfl) (fun s e=>recFacts_of e) (by rfl) said' (by decide +kernel) ⟨rfl,rfl,rfl,rfl,rfl,by decide +kernel⟩ ?hw ?hc
  case hw=>exact ⟨[.list [.int 3]],by decide +kernel,by decide +kernel⟩
  case hc=>
    intro w s₀ s₁ mg mb G Y a o pm cd doc dV kV ho hd hcd hD hmg hg args vals as hpre hlay hrd hwl hlo
    clear ho hd hcd hD
    have KX:=kIn_of Y
    have T:=G.T
    clear Y G
    obtain rfl:=Mine.xm KX T hmg
    clear hmg
    wrow_args hpre hlay hrd hwl hlo
    rename_i ns _ _ _ _ _ _ _ _ vs _ hL _ _ _ hI _ hc _
    refine wpAny_mono (Mine.xn (Mine.y3 KX T) hL (Mine.zY hI) (by omega)) (fun v s' g=>?_) fun _ _ h=>h.elim
    obtain ⟨rfl,g2,g3,g4⟩:=g
    exact GoodW.toG ⟨.inl ⟨_,.bool true,[],rfl,fun _=>rfl,.bool true,by wrow_post,fun _=>⟨List.nodup_nil,nofun⟩⟩,g2,g3,g4.trans hg⟩
