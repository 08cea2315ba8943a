import PyProof.Rows.All
import Wide.All
import OpenK.AllK
import Wide.FinOn
import PySem.Challenge.RW_xw0149_01
set_option Elab.async false

section
/- part HeadT -/
open PySem PySem.W PyProof.Rows
namespace Mine
set_option maxRecDepth 100000
set_option maxHeartbeats 8000000
noncomputable abbrev noSt : Stmt := .Pass ⟨0, 0, 0, 0⟩
noncomputable abbrev stAt (i : Nat) : Stmt := (PySem.Challenge.pw_xw0149_01.main.body.drop i).headD noSt
noncomputable def clBody : Stmt → List Stmt
  | .ClassDef _ _ _ b _ _ _ _ _ _ _ => b
  | _ => []
noncomputable abbrev meAt (i j : Nat) : Stmt := ((clBody (stAt i)).drop j).headD noSt
noncomputable abbrev fnO {st : Stmt} (qual : Str) (gl : Addr) (cl : List (Str × Addr)) (df kd dc pm : Value) (an : Option Addr) (cd ct : Value) (bu : Addr) {n : Str} {a : Arguments} {b : List Stmt} {d : List PySem.Expr} {r : Option PySem.Expr} {t : List TypeParam} {s : Scope} {o : Option Scope} {q : Str} {p : Pos}
    (_ : st = Stmt.FunctionDef n a b d r t s o q p) : FuncData := FuncData.mk n qual a (.stmts b) s gl cl df kd dc pm an cd ct bu
noncomputable def hdHeap : Params → Frag := (fun v0 => (
  (@Prod.mk _ _ (nat_lit 2) (Obj.mk Value.none (@Option.none _) (Data.dict (@List.toArray _ [(DictEntry.mk (PyData.keyHash v0 (Str.ofString "type.__subclasses__.Exception.0")) (Value.str (Str.ofString "type.__subclasses__.Exception.0") 216) (Value.int 32 0)), (DictEntry.mk (PyData.keyHash v0 (Str.ofString "type.__subclasses__.Exception.n")) (Value.str (Str.ofString "type.__subclasses__.Exception.n") 217) (Value.int 1 0))]) 2) (@List.toArray _ []))) ::
  (@Prod.mk _ _ (nat_lit 3) (Obj.mk (Value.type "dict") (@Option.none _) (Data.dict (@List.toArray _ [(DictEntry.mk (PyData.keyHash v0 (Str.ofString "__name__")) (Value.str (Str.ofString "__name__") 165) (Value.str (Str.ofString "law_xw0149_01") 499)), (DictEntry.mk (PyData.keyHash v0 (Str.ofString "__doc__")) (Value.str (Str.ofString "__doc__") 166) Value.none), (DictEntry.mk (PyData.keyHash v0 (Str.ofString "__package__")) (Value.str (Str.ofString "__package__") 167) Value.none), (DictEntry.mk (PyData.keyHash v0 (Str.ofString "__loader__")) (Value.str (Str.ofString "__loader__") 168) (Value.builtin "__main__.__loader__#opaque")), (DictEntry.mk (PyData.keyHash v0 (Str.ofString "__spec__")) (Value.str (Str.ofString "__spec__") 169) Value.none), (DictEntry.mk (PyData.keyHash v0 (Str.ofString "__annotations__")) (Value.str (Str.ofString "__annotations__") 170) (Value.ref 6)), (DictEntry.mk (PyData.keyHash v0 (Str.ofString "__builtins__")) (Value.str (Str.ofString "__builtins__") 171) (Value.ref 4)), (DictEntry.mk (PyData.keyHash v0 (Str.ofString "__file__")) (Value.str (Str.ofString "__file__") 173) (Value.str (Str.ofString "/claim/cut.py") 172)), (DictEntry.mk (PyData.keyHash v0 (Str.ofString "__cached__")) (Value.str (Str.ofString "__cached__") 174) Value.none), (DictEntry.mk (PyData.keyHash v0 (Str.ofString "LazyError")) (Value.str (Str.ofString "LazyError") 219) (Value.ref 32)), (DictEntry.mk (PyData.keyHash v0 (Str.ofString "KindError")) (Value.str (Str.ofString "KindError") 235) (Value.ref 45)), (DictEntry.mk (PyData.keyHash v0 (Str.ofString "Node")) (Value.str (Str.ofString "Node") 273) (Value.ref 71)), (DictEntry.mk (PyData.keyHash v0 (Str.ofString "TyVar")) (Value.str (Str.ofString "TyVar") 306) (Value.ref 100)), (DictEntry.mk (PyData.keyHash v0 (Str.ofString "TyCon")) (Value.str (Str.ofString "TyCon") 339) (Value.ref 127)), (DictEntry.mk (PyData.keyHash v0 (Str.ofString "TyApp")) (Value.str (Str.ofString "TyApp") 374) (Value.ref 154)), (DictEntry.mk (PyData.keyHash v0 (Str.ofString "MOST_PARTS")) (Value.str (Str.ofString "MOST_PARTS") 378) (Value.int 4000 377)), (DictEntry.mk (PyData.keyHash v0 (Str.ofString "MOST_DEEP")) (Value.str (Str.ofString "MOST_DEEP") 380) (Value.int 100 379)), (DictEntry.mk (PyData.keyHash v0 (Str.ofString "Synonym")) (Value.str (Str.ofString "Synonym") 413) (Value.ref 173)), (DictEntry.mk (PyData.keyHash v0 (Str.ofString "placed")) (Value.str (Str.ofString "placed") 421) (Value.ref 184)), (DictEntry.mk (PyData.keyHash v0 (Str.ofString "replaced_variables")) (Value.str (Str.ofString "replaced_variables") 430) (Value.ref 191)), (DictEntry.mk (PyData.keyHash v0 (Str.ofString "head_and_args")) (Value.str (Str.ofString "head_and_args") 438) (Value.ref 198)), (DictEntry.mk (PyData.keyHash v0 (Str.ofString "has_most")) (Value.str (Str.ofString "has_most") 448) (Value.ref 205)), (DictEntry.mk (PyData.keyHash v0 (Str.ofString "Expander")) (Value.str (Str.ofString "Expander") 490) (Value.ref 232)), (DictEntry.mk (PyData.keyHash v0 (Str.ofString "expanded")) (Value.str (Str.ofString "expanded") 498) (Value.ref 243)), (DictEntry.mk (PyData.keyHash v0 (Str.ofString "_law_trunk")) (Value.str (Str.ofString "_law_trunk") 509) (Value.ref 250)), (DictEntry.mk (PyData.keyHash v0 (Str.ofString "_law_pull")) (Value.str (Str.ofString "_law_pull") 518) (Value.ref 257)), (DictEntry.mk (PyData.keyHash v0 (Str.ofString "_law_one")) (Value.str (Str.ofString "_law_one") 526) (Value.ref 264)), (DictEntry.mk (PyData.keyHash v0 (Str.ofString "_law_rows")) (Value.str (Str.ofString "_law_rows") 532) (Value.ref 271)), (DictEntry.mk (PyData.keyHash v0 (Str.ofString "_law_type")) (Value.str (Str.ofString "_law_type") 538) (Value.ref 276)), (DictEntry.mk (PyData.keyHash v0 (Str.ofString "_law_node")) (Value.str (Str.ofString "_law_node") 547) (Value.ref 283)), (DictEntry.mk (PyData.keyHash v0 (Str.ofString "_law_behind")) (Value.str (Str.ofString "_law_behind") 555) (Value.ref 290)), (DictEntry.mk (PyData.keyHash v0 (Str.ofString "_law_out")) (Value.str (Str.ofString "_law_out") 561) (Value.ref 295)), (DictEntry.mk (PyData.keyHash v0 (Str.ofString "_law_seen")) (Value.str (Str.ofString "_law_seen") 568) (Value.ref 302)), (DictEntry.mk (PyData.keyHash v0 (Str.ofString "_law_is_right")) (Value.str (Str.ofString "_law_is_right") 580) (Value.ref 309)), (DictEntry.mk (PyData.keyHash v0 (Str.ofString "law")) (Value.str (Str.ofString "law") 592) (Value.ref 316))]) 35) (@List.toArray _ []))) ::
  (@Prod.mk _ _ (nat_lit 15) (Obj.mk (Value.type "tuple") (@Option.none _) (Data.seq (@List.toArray _ [(Value.type "Exception")]) 0) (@List.toArray _ []))) ::
  (@Prod.mk _ _ (nat_lit 22) (Obj.mk (Value.type "tuple") (@Option.none _) (Data.seq (@List.toArray _ [Value.none]) 0) (@List.toArray _ []))) ::
  (@Prod.mk _ _ (nat_lit 23) (Obj.mk (Value.type "tuple") (@Option.none _) (Data.seq (@List.toArray _ []) 0) (@List.toArray _ []))) ::
  (@Prod.mk _ _ (nat_lit 25) (Obj.mk (Value.type "tuple") (@Option.none _) (Data.seq (@List.toArray _ [(Value.str (Str.ofString "self") 204), (Value.str (Str.ofString "message") 205), (Value.str (Str.ofString "place") 206)]) 0) (@List.toArray _ []))) ::
  (@Prod.mk _ _ (nat_lit 26) (Obj.mk (Value.type "tuple") (@Option.none _) (Data.seq (@List.toArray _ []) 0) (@List.toArray _ []))) ::
  (@Prod.mk _ _ (nat_lit 28) (Obj.mk (Value.type "code") (@Option.none _) (Data.fields (@List.toArray _ [(Value.str (Str.ofString "__init__") 201), (Value.str (Str.ofString "LazyError.__init__") 202), (Value.str (Str.ofString "/claim/cut.py") 203), (Value.int 4 0), (Value.int 3 0), (Value.int 0 0), (Value.int 0 0), (Value.int 3 0), (Value.ref 23), (Value.bool Bool.true), (Value.int 181 0), (Value.ref 24), Value.none, (Value.ref 25), (Value.ref 26), (Value.ref 27), (Value.int 207 0), (Value.int 4 0), (Value.str (Str.ofString "/claim/cut.py") 208)])) (@List.toArray _ []))) ::
  (@Prod.mk _ _ (nat_lit 29) (Obj.mk (Value.type "function") (@Option.none _) (Data.func (fnO (st := meAt 1 0) (Str.ofString "LazyError.__init__") 3 [] (Value.ref 22) Value.none Value.none (Value.str (Str.ofString "lazycore.errors") 187) (@Option.none _) (Value.ref 28) Value.none 0 rfl)) (@List.toArray _ []))) ::
  (@Prod.mk _ _ (nat_lit 30) (Obj.mk (Value.type "tuple") (@Option.none _) (Data.seq (@List.toArray _ [(Value.str (Str.ofString "message") 210), (Value.str (Str.ofString "place") 211)]) 0) (@List.toArray _ []))) ::
  (@Prod.mk _ _ (nat_lit 31) (Obj.mk (Value.type "dict") (@Option.none _) (Data.dict (@List.toArray _ [(DictEntry.mk (PyData.keyHash v0 (Str.ofString "__module__")) (Value.str (Str.ofString "__module__") 196) (Value.str (Str.ofString "lazycore.errors") 187)), (DictEntry.mk (PyData.keyHash v0 (Str.ofString "__firstlineno__")) (Value.str (Str.ofString "__firstlineno__") 200) (Value.int 2 199)), (DictEntry.mk (PyData.keyHash v0 (Str.ofString "__init__")) (Value.str (Str.ofString "__init__") 209) (Value.ref 29)), (DictEntry.mk (PyData.keyHash v0 (Str.ofString "__static_attributes__")) (Value.str (Str.ofString "__static_attributes__") 212) (Value.ref 30)), (DictEntry.mk (PyData.keyHash v0 (Str.ofString "__weakref__")) (Value.str (Str.ofString "__weakref__") 214) (Value.ref 33)), (DictEntry.mk (PyData.keyHash v0 (Str.ofString "__doc__")) (Value.str (Str.ofString "__doc__") 215) Value.none)]) 3) (@List.toArray _ []))) ::
  (@Prod.mk _ _ (nat_lit 32) (Obj.mk (Value.type "type") (@Option.none _) (Data.cls (ClassData.mk (Str.ofString "LazyError") [(Value.type "Exception")] [(Value.ref 32), (Value.type "Exception"), (Value.type "BaseException"), (Value.type "object")] 31 (Str.ofString "LazyError") Bool.true [] [(Value.ref 45)] Bool.false (@Option.none _) Bool.false)) (@List.toArray _ [(@Option.some _ (Value.ref 15)), (@Option.none _), (@Option.some _ (Value.str (Str.ofString "LazyError") 189)), (@Option.some _ (Value.str (Str.ofString "LazyError") 197)), (@Option.some _ (Value.builtin "Exception.__new__")), (@Option.some _ (Value.bool Bool.true))]))) ::
  (@Prod.mk _ _ (nat_lit 33) (Obj.mk (Value.type "getset_descriptor") (@Option.none _) (Data.fields (@List.toArray _ [(Value.str (Str.ofString "__weakref__") 213), (Value.ref 32), (Value.builtin "ExceptionGroup.__weakref__"), Value.none])) (@List.toArray _ []))) ::
  (@Prod.mk _ _ (nat_lit 36) (Obj.mk (Value.type "tuple") (@Option.none _) (Data.seq (@List.toArray _ [(Value.ref 32)]) 0) (@List.toArray _ []))) ::
  (@Prod.mk _ _ (nat_lit 43) (Obj.mk (Value.type "tuple") (@Option.none _) (Data.seq (@List.toArray _ []) 0) (@List.toArray _ []))) ::
  (@Prod.mk _ _ (nat_lit 44) (Obj.mk (Value.type "dict") (@Option.none _) (Data.dict (@List.toArray _ [(DictEntry.mk (PyData.keyHash v0 (Str.ofString "__module__")) (Value.str (Str.ofString "__module__") 227) (Value.str (Str.ofString "lazycore.errors") 187)), (DictEntry.mk (PyData.keyHash v0 (Str.ofString "__firstlineno__")) (Value.str (Str.ofString "__firstlineno__") 231) (Value.int 8 230)), (DictEntry.mk (PyData.keyHash v0 (Str.ofString "__static_attributes__")) (Value.str (Str.ofString "__static_attributes__") 232) (Value.ref 43)), (DictEntry.mk (PyData.keyHash v0 (Str.ofString "__doc__")) (Value.str (Str.ofString "__doc__") 233) Value.none)]) 2) (@List.toArray _ []))) ::
  (@Prod.mk _ _ (nat_lit 45) (Obj.mk (Value.type "type") (@Option.none _) (Data.cls (ClassData.mk (Str.ofString "KindError") [(Value.ref 32)] [(Value.ref 45), (Value.ref 32), (Value.type "Exception"), (Value.type "BaseException"), (Value.type "object")] 44 (Str.ofString "KindError") Bool.true [] [] Bool.false (@Option.none _) Bool.false)) (@List.toArray _ [(@Option.some _ (Value.ref 36)), (@Option.none _), (@Option.some _ (Value.str (Str.ofString "KindError") 220)), (@Option.some _ (Value.str (Str.ofString "KindError") 228)), (@Option.some _ (Value.builtin "Exception.__new__")), (@Option.some _ (Value.bool Bool.true))]))) ::
  (@Prod.mk _ _ (nat_lit 55) (Obj.mk (Value.type "tuple") (@Option.none _) (Data.seq (@List.toArray _ []) 0) (@List.toArray _ []))) ::
  (@Prod.mk _ _ (nat_lit 57) (Obj.mk (Value.type "tuple") (@Option.none _) (Data.seq (@List.toArray _ [(Value.str (Str.ofString "self") 253), (Value.str (Str.ofString "place") 254)]) 0) (@List.toArray _ []))) ::
  (@Prod.mk _ _ (nat_lit 58) (Obj.mk (Value.type "tuple") (@Option.none _) (Data.seq (@List.toArray _ []) 0) (@List.toArray _ []))) ::
  (@Prod.mk _ _ (nat_lit 60) (Obj.mk (Value.type "code") (@Option.none _) (Data.fields (@List.toArray _ [(Value.str (Str.ofString "__init__") 250), (Value.str (Str.ofString "Node.__init__") 251), (Value.str (Str.ofString "/claim/cut.py") 252), (Value.int 13 0), (Value.int 2 0), (Value.int 0 0), (Value.int 0 0), (Value.int 3 0), (Value.ref 55), (Value.bool Bool.true), (Value.int 181 0), (Value.ref 56), Value.none, (Value.ref 57), (Value.ref 58), (Value.ref 59), (Value.int 255 0), (Value.int 13 0), (Value.str (Str.ofString "/claim/cut.py") 256)])) (@List.toArray _ []))) ::
  (@Prod.mk _ _ (nat_lit 61) (Obj.mk (Value.type "function") (@Option.none _) (Data.func (fnO (st := meAt 4 0) (Str.ofString "Node.__init__") 3 [] Value.none Value.none Value.none (Value.str (Str.ofString "lazycore.nodes") 236) (@Option.none _) (Value.ref 60) Value.none 0 rfl)) (@List.toArray _ []))) ::
  (@Prod.mk _ _ (nat_lit 62) (Obj.mk (Value.type "tuple") (@Option.none _) (Data.seq (@List.toArray _ []) 0) (@List.toArray _ []))) ::
  (@Prod.mk _ _ (nat_lit 64) (Obj.mk (Value.type "tuple") (@Option.none _) (Data.seq (@List.toArray _ [(Value.str (Str.ofString "self") 261)]) 0) (@List.toArray _ []))) ::
  (@Prod.mk _ _ (nat_lit 65) (Obj.mk (Value.type "tuple") (@Option.none _) (Data.seq (@List.toArray _ []) 0) (@List.toArray _ []))) ::
  (@Prod.mk _ _ (nat_lit 67) (Obj.mk (Value.type "code") (@Option.none _) (Data.fields (@List.toArray _ [(Value.str (Str.ofString "row") 258), (Value.str (Str.ofString "Node.row") 259), (Value.str (Str.ofString "/claim/cut.py") 260), (Value.int 16 0), (Value.int 1 0), (Value.int 0 0), (Value.int 0 0), (Value.int 3 0), (Value.ref 62), (Value.bool Bool.true), (Value.int 181 0), (Value.ref 63), Value.none, (Value.ref 64), (Value.ref 65), (Value.ref 66), (Value.int 262 0), (Value.int 16 0), (Value.str (Str.ofString "/claim/cut.py") 263)])) (@List.toArray _ []))) ::
  (@Prod.mk _ _ (nat_lit 68) (Obj.mk (Value.type "function") (@Option.none _) (Data.func (fnO (st := meAt 4 1) (Str.ofString "Node.row") 3 [] Value.none Value.none Value.none (Value.str (Str.ofString "lazycore.nodes") 236) (@Option.none _) (Value.ref 67) Value.none 0 rfl)) (@List.toArray _ []))) ::
  (@Prod.mk _ _ (nat_lit 69) (Obj.mk (Value.type "tuple") (@Option.none _) (Data.seq (@List.toArray _ [(Value.str (Str.ofString "place") 265)]) 0) (@List.toArray _ []))) ::
  (@Prod.mk _ _ (nat_lit 70) (Obj.mk (Value.type "dict") (@Option.none _) (Data.dict (@List.toArray _ [(DictEntry.mk (PyData.keyHash v0 (Str.ofString "__module__")) (Value.str (Str.ofString "__module__") 245) (Value.str (Str.ofString "lazycore.nodes") 236)), (DictEntry.mk (PyData.keyHash v0 (Str.ofString "__firstlineno__")) (Value.str (Str.ofString "__firstlineno__") 249) (Value.int 11 248)), (DictEntry.mk (PyData.keyHash v0 (Str.ofString "__init__")) (Value.str (Str.ofString "__init__") 257) (Value.ref 61)), (DictEntry.mk (PyData.keyHash v0 (Str.ofString "row")) (Value.str (Str.ofString "row") 264) (Value.ref 68)), (DictEntry.mk (PyData.keyHash v0 (Str.ofString "__static_attributes__")) (Value.str (Str.ofString "__static_attributes__") 266) (Value.ref 69)), (DictEntry.mk (PyData.keyHash v0 (Str.ofString "__dict__")) (Value.str (Str.ofString "__dict__") 268) (Value.ref 72)), (DictEntry.mk (PyData.keyHash v0 (Str.ofString "__weakref__")) (Value.str (Str.ofString "__weakref__") 270) (Value.ref 73)), (DictEntry.mk (PyData.keyHash v0 (Str.ofString "__doc__")) (Value.str (Str.ofString "__doc__") 271) Value.none)]) 4) (@List.toArray _ []))) ::
  (@Prod.mk _ _ (nat_lit 71) (Obj.mk (Value.type "type") (@Option.none _) (Data.cls (ClassData.mk (Str.ofString "Node") [(Value.type "object")] [(Value.ref 71), (Value.type "object")] 70 (Str.ofString "Node") Bool.true [] [(Value.ref 100), (Value.ref 127), (Value.ref 154)] Bool.false (@Option.none _) Bool.false)) (@List.toArray _ [(@Option.none _), (@Option.none _), (@Option.some _ (Value.str (Str.ofString "Node") 238)), (@Option.some _ (Value.str (Str.ofString "Node") 246)), (@Option.some _ (Value.builtin "object.__new__")), (@Option.some _ (Value.bool Bool.true))]))) ::
  (@Prod.mk _ _ (nat_lit 72) (Obj.mk (Value.type "getset_descriptor") (@Option.none _) (Data.fields (@List.toArray _ [(Value.str (Str.ofString "__dict__") 267), (Value.ref 71), (Value.builtin "function.__dict__"), (Value.builtin "function.__dict__#set")])) (@List.toArray _ []))) ::
  (@Prod.mk _ _ (nat_lit 73) (Obj.mk (Value.type "getset_descriptor") (@Option.none _) (Data.fields (@List.toArray _ [(Value.str (Str.ofString "__weakref__") 269), (Value.ref 71), (Value.builtin "ExceptionGroup.__weakref__"), Value.none])) (@List.toArray _ []))) ::
  (@Prod.mk _ _ (nat_lit 76) (Obj.mk (Value.type "tuple") (@Option.none _) (Data.seq (@List.toArray _ [(Value.ref 71)]) 0) (@List.toArray _ []))) ::
  (@Prod.mk _ _ (nat_lit 83) (Obj.mk (Value.type "tuple") (@Option.none _) (Data.seq (@List.toArray _ [Value.none]) 0) (@List.toArray _ []))) ::
  (@Prod.mk _ _ (nat_lit 84) (Obj.mk (Value.type "tuple") (@Option.none _) (Data.seq (@List.toArray _ []) 0) (@List.toArray _ []))) ::
  (@Prod.mk _ _ (nat_lit 86) (Obj.mk (Value.type "tuple") (@Option.none _) (Data.seq (@List.toArray _ [(Value.str (Str.ofString "self") 289), (Value.str (Str.ofString "name") 290), (Value.str (Str.ofString "place") 291)]) 0) (@List.toArray _ []))) ::
  (@Prod.mk _ _ (nat_lit 87) (Obj.mk (Value.type "tuple") (@Option.none _) (Data.seq (@List.toArray _ []) 0) (@List.toArray _ []))) ::
  (@Prod.mk _ _ (nat_lit 89) (Obj.mk (Value.type "code") (@Option.none _) (Data.fields (@List.toArray _ [(Value.str (Str.ofString "__init__") 286), (Value.str (Str.ofString "TyVar.__init__") 287), (Value.str (Str.ofString "/claim/cut.py") 288), (Value.int 20 0), (Value.int 3 0), (Value.int 0 0), (Value.int 0 0), (Value.int 3 0), (Value.ref 84), (Value.bool Bool.true), (Value.int 181 0), (Value.ref 85), Value.none, (Value.ref 86), (Value.ref 87), (Value.ref 88), (Value.int 292 0), (Value.int 20 0), (Value.str (Str.ofString "/claim/cut.py") 293)])) (@List.toArray _ []))) ::
  (@Prod.mk _ _ (nat_lit 90) (Obj.mk (Value.type "function") (@Option.none _) (Data.func (fnO (st := meAt 5 0) (Str.ofString "TyVar.__init__") 3 [] (Value.ref 83) Value.none Value.none (Value.str (Str.ofString "lazycore.nodes") 236) (@Option.none _) (Value.ref 89) Value.none 0 rfl)) (@List.toArray _ []))) ::
  (@Prod.mk _ _ (nat_lit 91) (Obj.mk (Value.type "tuple") (@Option.none _) (Data.seq (@List.toArray _ []) 0) (@List.toArray _ []))) ::
  (@Prod.mk _ _ (nat_lit 93) (Obj.mk (Value.type "tuple") (@Option.none _) (Data.seq (@List.toArray _ [(Value.str (Str.ofString "self") 298)]) 0) (@List.toArray _ []))) ::
  (@Prod.mk _ _ (nat_lit 94) (Obj.mk (Value.type "tuple") (@Option.none _) (Data.seq (@List.toArray _ []) 0) (@List.toArray _ []))) ::
  (@Prod.mk _ _ (nat_lit 96) (Obj.mk (Value.type "code") (@Option.none _) (Data.fields (@List.toArray _ [(Value.str (Str.ofString "row") 295), (Value.str (Str.ofString "TyVar.row") 296), (Value.str (Str.ofString "/claim/cut.py") 297), (Value.int 24 0), (Value.int 1 0), (Value.int 0 0), (Value.int 0 0), (Value.int 3 0), (Value.ref 91), (Value.bool Bool.true), (Value.int 181 0), (Value.ref 92), Value.none, (Value.ref 93), (Value.ref 94), (Value.ref 95), (Value.int 299 0), (Value.int 24 0), (Value.str (Str.ofString "/claim/cut.py") 300)])) (@List.toArray _ []))) ::
  (@Prod.mk _ _ (nat_lit 97) (Obj.mk (Value.type "function") (@Option.none _) (Data.func (fnO (st := meAt 5 1) (Str.ofString "TyVar.row") 3 [] Value.none Value.none Value.none (Value.str (Str.ofString "lazycore.nodes") 236) (@Option.none _) (Value.ref 96) Value.none 0 rfl)) (@List.toArray _ []))) ::
  (@Prod.mk _ _ (nat_lit 98) (Obj.mk (Value.type "tuple") (@Option.none _) (Data.seq (@List.toArray _ [(Value.str (Str.ofString "name") 302)]) 0) (@List.toArray _ []))) ::
  (@Prod.mk _ _ (nat_lit 99) (Obj.mk (Value.type "dict") (@Option.none _) (Data.dict (@List.toArray _ [(DictEntry.mk (PyData.keyHash v0 (Str.ofString "__module__")) (Value.str (Str.ofString "__module__") 281) (Value.str (Str.ofString "lazycore.nodes") 236)), (DictEntry.mk (PyData.keyHash v0 (Str.ofString "__firstlineno__")) (Value.str (Str.ofString "__firstlineno__") 285) (Value.int 18 284)), (DictEntry.mk (PyData.keyHash v0 (Str.ofString "__init__")) (Value.str (Str.ofString "__init__") 294) (Value.ref 90)), (DictEntry.mk (PyData.keyHash v0 (Str.ofString "row")) (Value.str (Str.ofString "row") 301) (Value.ref 97)), (DictEntry.mk (PyData.keyHash v0 (Str.ofString "__static_attributes__")) (Value.str (Str.ofString "__static_attributes__") 303) (Value.ref 98)), (DictEntry.mk (PyData.keyHash v0 (Str.ofString "__doc__")) (Value.str (Str.ofString "__doc__") 304) Value.none)]) 2) (@List.toArray _ []))) ::
  (@Prod.mk _ _ (nat_lit 100) (Obj.mk (Value.type "type") (@Option.none _) (Data.cls (ClassData.mk (Str.ofString "TyVar") [(Value.ref 71)] [(Value.ref 100), (Value.ref 71), (Value.type "object")] 99 (Str.ofString "TyVar") Bool.true [] [] Bool.false (@Option.none _) Bool.false)) (@List.toArray _ [(@Option.some _ (Value.ref 76)), (@Option.none _), (@Option.some _ (Value.str (Str.ofString "TyVar") 274)), (@Option.some _ (Value.str (Str.ofString "TyVar") 282)), (@Option.some _ (Value.builtin "object.__new__")), (@Option.some _ (Value.bool Bool.true))]))) ::
  (@Prod.mk _ _ (nat_lit 103) (Obj.mk (Value.type "tuple") (@Option.none _) (Data.seq (@List.toArray _ [(Value.ref 71)]) 0) (@List.toArray _ []))) ::
  (@Prod.mk _ _ (nat_lit 110) (Obj.mk (Value.type "tuple") (@Option.none _) (Data.seq (@List.toArray _ [Value.none]) 0) (@List.toArray _ []))) ::
  (@Prod.mk _ _ (nat_lit 111) (Obj.mk (Value.type "tuple") (@Option.none _) (Data.seq (@List.toArray _ []) 0) (@List.toArray _ []))) ::
  (@Prod.mk _ _ (nat_lit 113) (Obj.mk (Value.type "tuple") (@Option.none _) (Data.seq (@List.toArray _ [(Value.str (Str.ofString "self") 322), (Value.str (Str.ofString "name") 323), (Value.str (Str.ofString "place") 324)]) 0) (@List.toArray _ []))) ::
  (@Prod.mk _ _ (nat_lit 114) (Obj.mk (Value.type "tuple") (@Option.none _) (Data.seq (@List.toArray _ []) 0) (@List.toArray _ []))) ::
  (@Prod.mk _ _ (nat_lit 116) (Obj.mk (Value.type "code") (@Option.none _) (Data.fields (@List.toArray _ [(Value.str (Str.ofString "__init__") 319), (Value.str (Str.ofString "TyCon.__init__") 320), (Value.str (Str.ofString "/claim/cut.py") 321), (Value.int 28 0), (Value.int 3 0), (Value.int 0 0), (Value.int 0 0), (Value.int 3 0), (Value.ref 111), (Value.bool Bool.true), (Value.int 181 0), (Value.ref 112), Value.none, (Value.ref 113), (Value.ref 114), (Value.ref 115), (Value.int 325 0), (Value.int 28 0), (Value.str (Str.ofString "/claim/cut.py") 326)])) (@List.toArray _ []))) ::
  (@Prod.mk _ _ (nat_lit 117) (Obj.mk (Value.type "function") (@Option.none _) (Data.func (fnO (st := meAt 6 0) (Str.ofString "TyCon.__init__") 3 [] (Value.ref 110) Value.none Value.none (Value.str (Str.ofString "lazycore.nodes") 236) (@Option.none _) (Value.ref 116) Value.none 0 rfl)) (@List.toArray _ []))) ::
  (@Prod.mk _ _ (nat_lit 118) (Obj.mk (Value.type "tuple") (@Option.none _) (Data.seq (@List.toArray _ []) 0) (@List.toArray _ []))) ::
  (@Prod.mk _ _ (nat_lit 120) (Obj.mk (Value.type "tuple") (@Option.none _) (Data.seq (@List.toArray _ [(Value.str (Str.ofString "self") 331)]) 0) (@List.toArray _ []))) ::
  (@Prod.mk _ _ (nat_lit 121) (Obj.mk (Value.type "tuple") (@Option.none _) (Data.seq (@List.toArray _ []) 0) (@List.toArray _ []))) ::
  (@Prod.mk _ _ (nat_lit 123) (Obj.mk (Value.type "code") (@Option.none _) (Data.fields (@List.toArray _ [(Value.str (Str.ofString "row") 328), (Value.str (Str.ofString "TyCon.row") 329), (Value.str (Str.ofString "/claim/cut.py") 330), (Value.int 32 0), (Value.int 1 0), (Value.int 0 0), (Value.int 0 0), (Value.int 3 0), (Value.ref 118), (Value.bool Bool.true), (Value.int 181 0), (Value.ref 119), Value.none, (Value.ref 120), (Value.ref 121), (Value.ref 122), (Value.int 332 0), (Value.int 32 0), (Value.str (Str.ofString "/claim/cut.py") 333)])) (@List.toArray _ []))) ::
  (@Prod.mk _ _ (nat_lit 124) (Obj.mk (Value.type "function") (@Option.none _) (Data.func (fnO (st := meAt 6 1) (Str.ofString "TyCon.row") 3 [] Value.none Value.none Value.none (Value.str (Str.ofString "lazycore.nodes") 236) (@Option.none _) (Value.ref 123) Value.none 0 rfl)) (@List.toArray _ []))) ::
  (@Prod.mk _ _ (nat_lit 125) (Obj.mk (Value.type "tuple") (@Option.none _) (Data.seq (@List.toArray _ [(Value.str (Str.ofString "name") 335)]) 0) (@List.toArray _ []))) ::
  (@Prod.mk _ _ (nat_lit 126) (Obj.mk (Value.type "dict") (@Option.none _) (Data.dict (@List.toArray _ [(DictEntry.mk (PyData.keyHash v0 (Str.ofString "__module__")) (Value.str (Str.ofString "__module__") 314) (Value.str (Str.ofString "lazycore.nodes") 236)), (DictEntry.mk (PyData.keyHash v0 (Str.ofString "__firstlineno__")) (Value.str (Str.ofString "__firstlineno__") 318) (Value.int 26 317)), (DictEntry.mk (PyData.keyHash v0 (Str.ofString "__init__")) (Value.str (Str.ofString "__init__") 327) (Value.ref 117)), (DictEntry.mk (PyData.keyHash v0 (Str.ofString "row")) (Value.str (Str.ofString "row") 334) (Value.ref 124)), (DictEntry.mk (PyData.keyHash v0 (Str.ofString "__static_attributes__")) (Value.str (Str.ofString "__static_attributes__") 336) (Value.ref 125)), (DictEntry.mk (PyData.keyHash v0 (Str.ofString "__doc__")) (Value.str (Str.ofString "__doc__") 337) Value.none)]) 2) (@List.toArray _ []))) ::
  (@Prod.mk _ _ (nat_lit 127) (Obj.mk (Value.type "type") (@Option.none _) (Data.cls (ClassData.mk (Str.ofString "TyCon") [(Value.ref 71)] [(Value.ref 127), (Value.ref 71), (Value.type "object")] 126 (Str.ofString "TyCon") Bool.true [] [] Bool.false (@Option.none _) Bool.false)) (@List.toArray _ [(@Option.some _ (Value.ref 103)), (@Option.none _), (@Option.some _ (Value.str (Str.ofString "TyCon") 307)), (@Option.some _ (Value.str (Str.ofString "TyCon") 315)), (@Option.some _ (Value.builtin "object.__new__")), (@Option.some _ (Value.bool Bool.true))]))) ::
  (@Prod.mk _ _ (nat_lit 130) (Obj.mk (Value.type "tuple") (@Option.none _) (Data.seq (@List.toArray _ [(Value.ref 71)]) 0) (@List.toArray _ []))) ::
  (@Prod.mk _ _ (nat_lit 137) (Obj.mk (Value.type "tuple") (@Option.none _) (Data.seq (@List.toArray _ [Value.none]) 0) (@List.toArray _ []))) ::
  (@Prod.mk _ _ (nat_lit 138) (Obj.mk (Value.type "tuple") (@Option.none _) (Data.seq (@List.toArray _ []) 0) (@List.toArray _ []))) ::
  (@Prod.mk _ _ (nat_lit 140) (Obj.mk (Value.type "tuple") (@Option.none _) (Data.seq (@List.toArray _ [(Value.str (Str.ofString "self") 355), (Value.str (Str.ofString "fun") 356), (Value.str (Str.ofString "arg") 357), (Value.str (Str.ofString "place") 358)]) 0) (@List.toArray _ []))) ::
  (@Prod.mk _ _ (nat_lit 141) (Obj.mk (Value.type "tuple") (@Option.none _) (Data.seq (@List.toArray _ []) 0) (@List.toArray _ []))) ::
  (@Prod.mk _ _ (nat_lit 143) (Obj.mk (Value.type "code") (@Option.none _) (Data.fields (@List.toArray _ [(Value.str (Str.ofString "__init__") 352), (Value.str (Str.ofString "TyApp.__init__") 353), (Value.str (Str.ofString "/claim/cut.py") 354), (Value.int 36 0), (Value.int 4 0), (Value.int 0 0), (Value.int 0 0), (Value.int 3 0), (Value.ref 138), (Value.bool Bool.true), (Value.int 181 0), (Value.ref 139), Value.none, (Value.ref 140), (Value.ref 141), (Value.ref 142), (Value.int 359 0), (Value.int 36 0), (Value.str (Str.ofString "/claim/cut.py") 360)])) (@List.toArray _ []))) ::
  (@Prod.mk _ _ (nat_lit 144) (Obj.mk (Value.type "function") (@Option.none _) (Data.func (fnO (st := meAt 7 0) (Str.ofString "TyApp.__init__") 3 [] (Value.ref 137) Value.none Value.none (Value.str (Str.ofString "lazycore.nodes") 236) (@Option.none _) (Value.ref 143) Value.none 0 rfl)) (@List.toArray _ []))) ::
  (@Prod.mk _ _ (nat_lit 145) (Obj.mk (Value.type "tuple") (@Option.none _) (Data.seq (@List.toArray _ []) 0) (@List.toArray _ []))) ::
  (@Prod.mk _ _ (nat_lit 147) (Obj.mk (Value.type "tuple") (@Option.none _) (Data.seq (@List.toArray _ [(Value.str (Str.ofString "self") 365)]) 0) (@List.toArray _ []))) ::
  (@Prod.mk _ _ (nat_lit 148) (Obj.mk (Value.type "tuple") (@Option.none _) (Data.seq (@List.toArray _ []) 0) (@List.toArray _ []))) ::
  (@Prod.mk _ _ (nat_lit 150) (Obj.mk (Value.type "code") (@Option.none _) (Data.fields (@List.toArray _ [(Value.str (Str.ofString "row") 362), (Value.str (Str.ofString "TyApp.row") 363), (Value.str (Str.ofString "/claim/cut.py") 364), (Value.int 41 0), (Value.int 1 0), (Value.int 0 0), (Value.int 0 0), (Value.int 3 0), (Value.ref 145), (Value.bool Bool.true), (Value.int 181 0), (Value.ref 146), Value.none, (Value.ref 147), (Value.ref 148), (Value.ref 149), (Value.int 366 0), (Value.int 41 0), (Value.str (Str.ofString "/claim/cut.py") 367)])) (@List.toArray _ []))) ::
  (@Prod.mk _ _ (nat_lit 151) (Obj.mk (Value.type "function") (@Option.none _) (Data.func (fnO (st := meAt 7 1) (Str.ofString "TyApp.row") 3 [] Value.none Value.none Value.none (Value.str (Str.ofString "lazycore.nodes") 236) (@Option.none _) (Value.ref 150) Value.none 0 rfl)) (@List.toArray _ []))) ::
  (@Prod.mk _ _ (nat_lit 152) (Obj.mk (Value.type "tuple") (@Option.none _) (Data.seq (@List.toArray _ [(Value.str (Str.ofString "arg") 369), (Value.str (Str.ofString "fun") 370)]) 0) (@List.toArray _ []))) ::
  (@Prod.mk _ _ (nat_lit 153) (Obj.mk (Value.type "dict") (@Option.none _) (Data.dict (@List.toArray _ [(DictEntry.mk (PyData.keyHash v0 (Str.ofString "__module__")) (Value.str (Str.ofString "__module__") 347) (Value.str (Str.ofString "lazycore.nodes") 236)), (DictEntry.mk (PyData.keyHash v0 (Str.ofString "__firstlineno__")) (Value.str (Str.ofString "__firstlineno__") 351) (Value.int 34 350)), (DictEntry.mk (PyData.keyHash v0 (Str.ofString "__init__")) (Value.str (Str.ofString "__init__") 361) (Value.ref 144)), (DictEntry.mk (PyData.keyHash v0 (Str.ofString "row")) (Value.str (Str.ofString "row") 368) (Value.ref 151)), (DictEntry.mk (PyData.keyHash v0 (Str.ofString "__static_attributes__")) (Value.str (Str.ofString "__static_attributes__") 371) (Value.ref 152)), (DictEntry.mk (PyData.keyHash v0 (Str.ofString "__doc__")) (Value.str (Str.ofString "__doc__") 372) Value.none)]) 2) (@List.toArray _ []))) ::
  (@Prod.mk _ _ (nat_lit 154) (Obj.mk (Value.type "type") (@Option.none _) (Data.cls (ClassData.mk (Str.ofString "TyApp") [(Value.ref 71)] [(Value.ref 154), (Value.ref 71), (Value.type "object")] 153 (Str.ofString "TyApp") Bool.true [] [] Bool.false (@Option.none _) Bool.false)) (@List.toArray _ [(@Option.some _ (Value.ref 130)), (@Option.none _), (@Option.some _ (Value.str (Str.ofString "TyApp") 340)), (@Option.some _ (Value.str (Str.ofString "TyApp") 348)), (@Option.some _ (Value.builtin "object.__new__")), (@Option.some _ (Value.bool Bool.true))]))) ::
  (@Prod.mk _ _ (nat_lit 164) (Obj.mk (Value.type "tuple") (@Option.none _) (Data.seq (@List.toArray _ []) 0) (@List.toArray _ []))) ::
  (@Prod.mk _ _ (nat_lit 166) (Obj.mk (Value.type "tuple") (@Option.none _) (Data.seq (@List.toArray _ [(Value.str (Str.ofString "self") 396), (Value.str (Str.ofString "name") 397), (Value.str (Str.ofString "params") 398), (Value.str (Str.ofString "node") 399)]) 0) (@List.toArray _ []))) ::
  (@Prod.mk _ _ (nat_lit 167) (Obj.mk (Value.type "tuple") (@Option.none _) (Data.seq (@List.toArray _ []) 0) (@List.toArray _ []))) ::
  (@Prod.mk _ _ (nat_lit 169) (Obj.mk (Value.type "code") (@Option.none _) (Data.fields (@List.toArray _ [(Value.str (Str.ofString "__init__") 393), (Value.str (Str.ofString "Synonym.__init__") 394), (Value.str (Str.ofString "/claim/cut.py") 395), (Value.int 48 0), (Value.int 4 0), (Value.int 0 0), (Value.int 0 0), (Value.int 3 0), (Value.ref 164), (Value.bool Bool.true), (Value.int 181 0), (Value.ref 165), Value.none, (Value.ref 166), (Value.ref 167), (Value.ref 168), (Value.int 400 0), (Value.int 48 0), (Value.str (Str.ofString "/claim/cut.py") 401)])) (@List.toArray _ []))) ::
  (@Prod.mk _ _ (nat_lit 170) (Obj.mk (Value.type "function") (@Option.none _) (Data.func (fnO (st := meAt 11 0) (Str.ofString "Synonym.__init__") 3 [] Value.none Value.none Value.none (Value.str (Str.ofString "lazycore.synonyms") 375) (@Option.none _) (Value.ref 169) Value.none 0 rfl)) (@List.toArray _ []))) ::
  (@Prod.mk _ _ (nat_lit 171) (Obj.mk (Value.type "tuple") (@Option.none _) (Data.seq (@List.toArray _ [(Value.str (Str.ofString "name") 403), (Value.str (Str.ofString "node") 404), (Value.str (Str.ofString "params") 405)]) 0) (@List.toArray _ []))) ::
  (@Prod.mk _ _ (nat_lit 172) (Obj.mk (Value.type "dict") (@Option.none _) (Data.dict (@List.toArray _ [(DictEntry.mk (PyData.keyHash v0 (Str.ofString "__module__")) (Value.str (Str.ofString "__module__") 388) (Value.str (Str.ofString "lazycore.synonyms") 375)), (DictEntry.mk (PyData.keyHash v0 (Str.ofString "__firstlineno__")) (Value.str (Str.ofString "__firstlineno__") 392) (Value.int 46 391)), (DictEntry.mk (PyData.keyHash v0 (Str.ofString "__init__")) (Value.str (Str.ofString "__init__") 402) (Value.ref 170)), (DictEntry.mk (PyData.keyHash v0 (Str.ofString "__static_attributes__")) (Value.str (Str.ofString "__static_attributes__") 406) (Value.ref 171)), (DictEntry.mk (PyData.keyHash v0 (Str.ofString "__dict__")) (Value.str (Str.ofString "__dict__") 408) (Value.ref 174)), (DictEntry.mk (PyData.keyHash v0 (Str.ofString "__weakref__")) (Value.str (Str.ofString "__weakref__") 410) (Value.ref 175)), (DictEntry.mk (PyData.keyHash v0 (Str.ofString "__doc__")) (Value.str (Str.ofString "__doc__") 411) Value.none)]) 4) (@List.toArray _ []))) ::
  (@Prod.mk _ _ (nat_lit 173) (Obj.mk (Value.type "type") (@Option.none _) (Data.cls (ClassData.mk (Str.ofString "Synonym") [(Value.type "object")] [(Value.ref 173), (Value.type "object")] 172 (Str.ofString "Synonym") Bool.true [] [] Bool.false (@Option.none _) Bool.false)) (@List.toArray _ [(@Option.none _), (@Option.none _), (@Option.some _ (Value.str (Str.ofString "Synonym") 381)), (@Option.some _ (Value.str (Str.ofString "Synonym") 389)), (@Option.some _ (Value.builtin "object.__new__")), (@Option.some _ (Value.bool Bool.true))]))) ::
  (@Prod.mk _ _ (nat_lit 174) (Obj.mk (Value.type "getset_descriptor") (@Option.none _) (Data.fields (@List.toArray _ [(Value.str (Str.ofString "__dict__") 407), (Value.ref 173), (Value.builtin "function.__dict__"), (Value.builtin "function.__dict__#set")])) (@List.toArray _ []))) ::
  (@Prod.mk _ _ (nat_lit 175) (Obj.mk (Value.type "getset_descriptor") (@Option.none _) (Data.fields (@List.toArray _ [(Value.str (Str.ofString "__weakref__") 409), (Value.ref 173), (Value.builtin "ExceptionGroup.__weakref__"), Value.none])) (@List.toArray _ []))) ::
  (@Prod.mk _ _ (nat_lit 178) (Obj.mk (Value.type "tuple") (@Option.none _) (Data.seq (@List.toArray _ []) 0) (@List.toArray _ []))) ::
  (@Prod.mk _ _ (nat_lit 180) (Obj.mk (Value.type "tuple") (@Option.none _) (Data.seq (@List.toArray _ [(Value.str (Str.ofString "node") 417), (Value.str (Str.ofString "place") 418)]) 0) (@List.toArray _ []))) ::
  (@Prod.mk _ _ (nat_lit 181) (Obj.mk (Value.type "tuple") (@Option.none _) (Data.seq (@List.toArray _ []) 0) (@List.toArray _ []))) ::
  (@Prod.mk _ _ (nat_lit 183) (Obj.mk (Value.type "code") (@Option.none _) (Data.fields (@List.toArray _ [(Value.str (Str.ofString "placed") 414), (Value.str (Str.ofString "placed") 415), (Value.str (Str.ofString "/claim/cut.py") 416), (Value.int 52 0), (Value.int 2 0), (Value.int 0 0), (Value.int 0 0), (Value.int 3 0), (Value.ref 178), (Value.bool Bool.true), (Value.int 181 0), (Value.ref 179), Value.none, (Value.ref 180), (Value.ref 181), (Value.ref 182), (Value.int 419 0), (Value.int 52 0), (Value.str (Str.ofString "/claim/cut.py") 420)])) (@List.toArray _ []))) ::
  (@Prod.mk _ _ (nat_lit 184) (Obj.mk (Value.type "function") (@Option.none _) (Data.func (fnO (st := stAt 12) (Str.ofString "placed") 3 [] Value.none Value.none Value.none (Value.str (Str.ofString "lazycore.synonyms") 375) (@Option.none _) (Value.ref 183) Value.none 0 rfl)) (@List.toArray _ []))) ::
  (@Prod.mk _ _ (nat_lit 185) (Obj.mk (Value.type "tuple") (@Option.none _) (Data.seq (@List.toArray _ []) 0) (@List.toArray _ []))) ::
  (@Prod.mk _ _ (nat_lit 187) (Obj.mk (Value.type "tuple") (@Option.none _) (Data.seq (@List.toArray _ [(Value.str (Str.ofString "node") 425), (Value.str (Str.ofString "variables") 426), (Value.str (Str.ofString "fun") 427)]) 0) (@List.toArray _ []))) ::
  (@Prod.mk _ _ (nat_lit 188) (Obj.mk (Value.type "tuple") (@Option.none _) (Data.seq (@List.toArray _ []) 0) (@List.toArray _ []))) ::
  (@Prod.mk _ _ (nat_lit 190) (Obj.mk (Value.type "code") (@Option.none _) (Data.fields (@List.toArray _ [(Value.str (Str.ofString "replaced_variables") 422), (Value.str (Str.ofString "replaced_variables") 423), (Value.str (Str.ofString "/claim/cut.py") 424), (Value.int 55 0), (Value.int 2 0), (Value.int 0 0), (Value.int 0 0), (Value.int 3 0), (Value.ref 185), (Value.bool Bool.true), (Value.int 181 0), (Value.ref 186), Value.none, (Value.ref 187), (Value.ref 188), (Value.ref 189), (Value.int 428 0), (Value.int 55 0), (Value.str (Str.ofString "/claim/cut.py") 429)])) (@List.toArray _ []))) ::
  (@Prod.mk _ _ (nat_lit 191) (Obj.mk (Value.type "function") (@Option.none _) (Data.func (fnO (st := stAt 13) (Str.ofString "replaced_variables") 3 [] Value.none Value.none Value.none (Value.str (Str.ofString "lazycore.synonyms") 375) (@Option.none _) (Value.ref 190) Value.none 0 rfl)) (@List.toArray _ []))) ::
  (@Prod.mk _ _ (nat_lit 192) (Obj.mk (Value.type "tuple") (@Option.none _) (Data.seq (@List.toArray _ []) 0) (@List.toArray _ []))) ::
  (@Prod.mk _ _ (nat_lit 194) (Obj.mk (Value.type "tuple") (@Option.none _) (Data.seq (@List.toArray _ [(Value.str (Str.ofString "node") 434), (Value.str (Str.ofString "args") 435)]) 0) (@List.toArray _ []))) ::
  (@Prod.mk _ _ (nat_lit 195) (Obj.mk (Value.type "tuple") (@Option.none _) (Data.seq (@List.toArray _ []) 0) (@List.toArray _ []))) ::
  (@Prod.mk _ _ (nat_lit 197) (Obj.mk (Value.type "code") (@Option.none _) (Data.fields (@List.toArray _ [(Value.str (Str.ofString "head_and_args") 431), (Value.str (Str.ofString "head_and_args") 432), (Value.str (Str.ofString "/claim/cut.py") 433), (Value.int 62 0), (Value.int 1 0), (Value.int 0 0), (Value.int 0 0), (Value.int 3 0), (Value.ref 192), (Value.bool Bool.true), (Value.int 181 0), (Value.ref 193), Value.none, (Value.ref 194), (Value.ref 195), (Value.ref 196), (Value.int 436 0), (Value.int 62 0), (Value.str (Str.ofString "/claim/cut.py") 437)])) (@List.toArray _ []))) ::
  (@Prod.mk _ _ (nat_lit 198) (Obj.mk (Value.type "function") (@Option.none _) (Data.func (fnO (st := stAt 14) (Str.ofString "head_and_args") 3 [] Value.none Value.none Value.none (Value.str (Str.ofString "lazycore.synonyms") 375) (@Option.none _) (Value.ref 197) Value.none 0 rfl)) (@List.toArray _ []))) ::
  (@Prod.mk _ _ (nat_lit 199) (Obj.mk (Value.type "tuple") (@Option.none _) (Data.seq (@List.toArray _ []) 0) (@List.toArray _ []))) ::
  (@Prod.mk _ _ (nat_lit 201) (Obj.mk (Value.type "tuple") (@Option.none _) (Data.seq (@List.toArray _ [(Value.str (Str.ofString "node") 442), (Value.str (Str.ofString "many") 443), (Value.str (Str.ofString "left") 444), (Value.str (Str.ofString "here") 445)]) 0) (@List.toArray _ []))) ::
  (@Prod.mk _ _ (nat_lit 202) (Obj.mk (Value.type "tuple") (@Option.none _) (Data.seq (@List.toArray _ []) 0) (@List.toArray _ []))) ::
  (@Prod.mk _ _ (nat_lit 204) (Obj.mk (Value.type "code") (@Option.none _) (Data.fields (@List.toArray _ [(Value.str (Str.ofString "has_most") 439), (Value.str (Str.ofString "has_most") 440), (Value.str (Str.ofString "/claim/cut.py") 441), (Value.int 69 0), (Value.int 1 0), (Value.int 0 0), (Value.int 0 0), (Value.int 3 0), (Value.ref 199), (Value.bool Bool.true), (Value.int 181 0), (Value.ref 200), Value.none, (Value.ref 201), (Value.ref 202), (Value.ref 203), (Value.int 446 0), (Value.int 69 0), (Value.str (Str.ofString "/claim/cut.py") 447)])) (@List.toArray _ []))) ::
  (@Prod.mk _ _ (nat_lit 205) (Obj.mk (Value.type "function") (@Option.none _) (Data.func (fnO (st := stAt 15) (Str.ofString "has_most") 3 [] Value.none Value.none Value.none (Value.str (Str.ofString "lazycore.synonyms") 375) (@Option.none _) (Value.ref 204) Value.none 0 rfl)) (@List.toArray _ []))) ::
  (@Prod.mk _ _ (nat_lit 213) (Obj.mk (Value.type "tuple") (@Option.none _) (Data.seq (@List.toArray _ []) 0) (@List.toArray _ []))) ::
  (@Prod.mk _ _ (nat_lit 215) (Obj.mk (Value.type "tuple") (@Option.none _) (Data.seq (@List.toArray _ [(Value.str (Str.ofString "self") 464), (Value.str (Str.ofString "synonyms") 465)]) 0) (@List.toArray _ []))) ::
  (@Prod.mk _ _ (nat_lit 216) (Obj.mk (Value.type "tuple") (@Option.none _) (Data.seq (@List.toArray _ []) 0) (@List.toArray _ []))) ::
  (@Prod.mk _ _ (nat_lit 218) (Obj.mk (Value.type "code") (@Option.none _) (Data.fields (@List.toArray _ [(Value.str (Str.ofString "__init__") 461), (Value.str (Str.ofString "Expander.__init__") 462), (Value.str (Str.ofString "/claim/cut.py") 463), (Value.int 79 0), (Value.int 2 0), (Value.int 0 0), (Value.int 0 0), (Value.int 3 0), (Value.ref 213), (Value.bool Bool.true), (Value.int 181 0), (Value.ref 214), Value.none, (Value.ref 215), (Value.ref 216), (Value.ref 217), (Value.int 466 0), (Value.int 79 0), (Value.str (Str.ofString "/claim/cut.py") 467)])) (@List.toArray _ []))) ::
  (@Prod.mk _ _ (nat_lit 219) (Obj.mk (Value.type "function") (@Option.none _) (Data.func (fnO (st := meAt 16 0) (Str.ofString "Expander.__init__") 3 [] Value.none Value.none Value.none (Value.str (Str.ofString "lazycore.synonyms") 375) (@Option.none _) (Value.ref 218) Value.none 0 rfl)) (@List.toArray _ []))) ::
  (@Prod.mk _ _ (nat_lit 220) (Obj.mk (Value.type "tuple") (@Option.none _) (Data.seq (@List.toArray _ []) 0) (@List.toArray _ []))) ::
  (@Prod.mk _ _ (nat_lit 223) (Obj.mk (Value.type "code") (@Option.none _) (Data.fields (@List.toArray _ [(Value.str (Str.ofString "whole") 469), (Value.str (Str.ofString "Expander.whole") 470), (Value.str (Str.ofString "/claim/cut.py") 471), (Value.int 83 0), (Value.int 3 0), (Value.int 0 0), (Value.int 0 0), (Value.int 3 0), (Value.ref 220), (Value.bool Bool.true), (Value.int 181 0), (Value.ref 221), Value.none, Value.none, Value.none, (Value.ref 222), (Value.int 472 0), (Value.int 83 0), (Value.str (Str.ofString "/claim/cut.py") 473)])) (@List.toArray _ []))) ::
  (@Prod.mk _ _ (nat_lit 224) (Obj.mk (Value.type "function") (@Option.none _) (Data.func (fnO (st := meAt 16 1) (Str.ofString "Expander.whole") 3 [] Value.none Value.none Value.none (Value.str (Str.ofString "lazycore.synonyms") 375) (@Option.none _) (Value.ref 223) Value.none 0 rfl)) (@List.toArray _ []))) ::
  (@Prod.mk _ _ (nat_lit 225) (Obj.mk (Value.type "tuple") (@Option.none _) (Data.seq (@List.toArray _ []) 0) (@List.toArray _ []))) ::
  (@Prod.mk _ _ (nat_lit 228) (Obj.mk (Value.type "code") (@Option.none _) (Data.fields (@List.toArray _ [(Value.str (Str.ofString "step") 475), (Value.str (Str.ofString "Expander.step") 476), (Value.str (Str.ofString "/claim/cut.py") 477), (Value.int 99 0), (Value.int 4 0), (Value.int 0 0), (Value.int 0 0), (Value.int 3 0), (Value.ref 225), (Value.bool Bool.true), (Value.int 181 0), (Value.ref 226), Value.none, Value.none, Value.none, (Value.ref 227), (Value.int 478 0), (Value.int 99 0), (Value.str (Str.ofString "/claim/cut.py") 479)])) (@List.toArray _ []))) ::
  (@Prod.mk _ _ (nat_lit 229) (Obj.mk (Value.type "function") (@Option.none _) (Data.func (fnO (st := meAt 16 2) (Str.ofString "Expander.step") 3 [] Value.none Value.none Value.none (Value.str (Str.ofString "lazycore.synonyms") 375) (@Option.none _) (Value.ref 228) Value.none 0 rfl)) (@List.toArray _ []))) ::
  (@Prod.mk _ _ (nat_lit 230) (Obj.mk (Value.type "tuple") (@Option.none _) (Data.seq (@List.toArray _ [(Value.str (Str.ofString "many") 481), (Value.str (Str.ofString "synonyms") 482)]) 0) (@List.toArray _ []))) ::
  (@Prod.mk _ _ (nat_lit 231) (Obj.mk (Value.type "dict") (@Option.none _) (Data.dict (@List.toArray _ [(DictEntry.mk (PyData.keyHash v0 (Str.ofString "__module__")) (Value.str (Str.ofString "__module__") 456) (Value.str (Str.ofString "lazycore.synonyms") 375)), (DictEntry.mk (PyData.keyHash v0 (Str.ofString "__firstlineno__")) (Value.str (Str.ofString "__firstlineno__") 460) (Value.int 77 459)), (DictEntry.mk (PyData.keyHash v0 (Str.ofString "__init__")) (Value.str (Str.ofString "__init__") 468) (Value.ref 219)), (DictEntry.mk (PyData.keyHash v0 (Str.ofString "whole")) (Value.str (Str.ofString "whole") 474) (Value.ref 224)), (DictEntry.mk (PyData.keyHash v0 (Str.ofString "step")) (Value.str (Str.ofString "step") 480) (Value.ref 229)), (DictEntry.mk (PyData.keyHash v0 (Str.ofString "__static_attributes__")) (Value.str (Str.ofString "__static_attributes__") 483) (Value.ref 230)), (DictEntry.mk (PyData.keyHash v0 (Str.ofString "__dict__")) (Value.str (Str.ofString "__dict__") 485) (Value.ref 233)), (DictEntry.mk (PyData.keyHash v0 (Str.ofString "__weakref__")) (Value.str (Str.ofString "__weakref__") 487) (Value.ref 234)), (DictEntry.mk (PyData.keyHash v0 (Str.ofString "__doc__")) (Value.str (Str.ofString "__doc__") 488) Value.none)]) 4) (@List.toArray _ []))) ::
  (@Prod.mk _ _ (nat_lit 232) (Obj.mk (Value.type "type") (@Option.none _) (Data.cls (ClassData.mk (Str.ofString "Expander") [(Value.type "object")] [(Value.ref 232), (Value.type "object")] 231 (Str.ofString "Expander") Bool.true [] [] Bool.false (@Option.none _) Bool.false)) (@List.toArray _ [(@Option.none _), (@Option.none _), (@Option.some _ (Value.str (Str.ofString "Expander") 449)), (@Option.some _ (Value.str (Str.ofString "Expander") 457)), (@Option.some _ (Value.builtin "object.__new__")), (@Option.some _ (Value.bool Bool.true))]))) ::
  (@Prod.mk _ _ (nat_lit 233) (Obj.mk (Value.type "getset_descriptor") (@Option.none _) (Data.fields (@List.toArray _ [(Value.str (Str.ofString "__dict__") 484), (Value.ref 232), (Value.builtin "function.__dict__"), (Value.builtin "function.__dict__#set")])) (@List.toArray _ []))) ::
  (@Prod.mk _ _ (nat_lit 234) (Obj.mk (Value.type "getset_descriptor") (@Option.none _) (Data.fields (@List.toArray _ [(Value.str (Str.ofString "__weakref__") 486), (Value.ref 232), (Value.builtin "ExceptionGroup.__weakref__"), Value.none])) (@List.toArray _ []))) ::
  (@Prod.mk _ _ (nat_lit 237) (Obj.mk (Value.type "tuple") (@Option.none _) (Data.seq (@List.toArray _ []) 0) (@List.toArray _ []))) ::
  (@Prod.mk _ _ (nat_lit 239) (Obj.mk (Value.type "tuple") (@Option.none _) (Data.seq (@List.toArray _ [(Value.str (Str.ofString "node") 494), (Value.str (Str.ofString "synonyms") 495)]) 0) (@List.toArray _ []))) ::
  (@Prod.mk _ _ (nat_lit 240) (Obj.mk (Value.type "tuple") (@Option.none _) (Data.seq (@List.toArray _ []) 0) (@List.toArray _ []))) ::
  (@Prod.mk _ _ (nat_lit 242) (Obj.mk (Value.type "code") (@Option.none _) (Data.fields (@List.toArray _ [(Value.str (Str.ofString "expanded") 491), (Value.str (Str.ofString "expanded") 492), (Value.str (Str.ofString "/claim/cut.py") 493), (Value.int 109 0), (Value.int 2 0), (Value.int 0 0), (Value.int 0 0), (Value.int 3 0), (Value.ref 237), (Value.bool Bool.true), (Value.int 181 0), (Value.ref 238), Value.none, (Value.ref 239), (Value.ref 240), (Value.ref 241), (Value.int 496 0), (Value.int 109 0), (Value.str (Str.ofString "/claim/cut.py") 497)])) (@List.toArray _ []))) ::
  (@Prod.mk _ _ (nat_lit 243) (Obj.mk (Value.type "function") (@Option.none _) (Data.func (fnO (st := stAt 17) (Str.ofString "expanded") 3 [] Value.none Value.none Value.none (Value.str (Str.ofString "lazycore.synonyms") 375) (@Option.none _) (Value.ref 242) Value.none 0 rfl)) (@List.toArray _ []))) ::
  (@Prod.mk _ _ (nat_lit 244) (Obj.mk (Value.type "tuple") (@Option.none _) (Data.seq (@List.toArray _ []) 0) (@List.toArray _ []))) ::
  (@Prod.mk _ _ (nat_lit 246) (Obj.mk (Value.type "tuple") (@Option.none _) (Data.seq (@List.toArray _ [(Value.str (Str.ofString "script") 504), (Value.str (Str.ofString "told") 505), (Value.str (Str.ofString "size") 506)]) 0) (@List.toArray _ []))) ::
  (@Prod.mk _ _ (nat_lit 247) (Obj.mk (Value.type "tuple") (@Option.none _) (Data.seq (@List.toArray _ []) 0) (@List.toArray _ []))) ::
  (@Prod.mk _ _ (nat_lit 249) (Obj.mk (Value.type "code") (@Option.none _) (Data.fields (@List.toArray _ [(Value.str (Str.ofString "_law_trunk") 501), (Value.str (Str.ofString "_law_trunk") 502), (Value.str (Str.ofString "/claim/cut.py") 503), (Value.int 112 0), (Value.int 1 0), (Value.int 0 0), (Value.int 0 0), (Value.int 3 0), (Value.ref 244), (Value.bool Bool.true), (Value.int 181 0), (Value.ref 245), Value.none, (Value.ref 246), (Value.ref 247), (Value.ref 248), (Value.int 507 0), (Value.int 112 0), (Value.str (Str.ofString "/claim/cut.py") 508)])) (@List.toArray _ []))) ::
  (@Prod.mk _ _ (nat_lit 250) (Obj.mk (Value.type "function") (@Option.none _) (Data.func (fnO (st := stAt 19) (Str.ofString "_law_trunk") 3 [] Value.none Value.none Value.none (Value.str (Str.ofString "law_xw0149_01") 499) (@Option.none _) (Value.ref 249) Value.none 0 rfl)) (@List.toArray _ []))) ::
  (@Prod.mk _ _ (nat_lit 251) (Obj.mk (Value.type "tuple") (@Option.none _) (Data.seq (@List.toArray _ []) 0) (@List.toArray _ []))) ::
  (@Prod.mk _ _ (nat_lit 253) (Obj.mk (Value.type "tuple") (@Option.none _) (Data.seq (@List.toArray _ [(Value.str (Str.ofString "trunk") 513), (Value.str (Str.ofString "many") 514), (Value.str (Str.ofString "found") 515)]) 0) (@List.toArray _ []))) ::
  (@Prod.mk _ _ (nat_lit 254) (Obj.mk (Value.type "tuple") (@Option.none _) (Data.seq (@List.toArray _ []) 0) (@List.toArray _ []))) ::
  (@Prod.mk _ _ (nat_lit 256) (Obj.mk (Value.type "code") (@Option.none _) (Data.fields (@List.toArray _ [(Value.str (Str.ofString "_law_pull") 510), (Value.str (Str.ofString "_law_pull") 511), (Value.str (Str.ofString "/claim/cut.py") 512), (Value.int 118 0), (Value.int 2 0), (Value.int 0 0), (Value.int 0 0), (Value.int 3 0), (Value.ref 251), (Value.bool Bool.true), (Value.int 181 0), (Value.ref 252), Value.none, (Value.ref 253), (Value.ref 254), (Value.ref 255), (Value.int 516 0), (Value.int 118 0), (Value.str (Str.ofString "/claim/cut.py") 517)])) (@List.toArray _ []))) ::
  (@Prod.mk _ _ (nat_lit 257) (Obj.mk (Value.type "function") (@Option.none _) (Data.func (fnO (st := stAt 20) (Str.ofString "_law_pull") 3 [] Value.none Value.none Value.none (Value.str (Str.ofString "law_xw0149_01") 499) (@Option.none _) (Value.ref 256) Value.none 0 rfl)) (@List.toArray _ []))) ::
  (@Prod.mk _ _ (nat_lit 258) (Obj.mk (Value.type "tuple") (@Option.none _) (Data.seq (@List.toArray _ []) 0) (@List.toArray _ []))) ::
  (@Prod.mk _ _ (nat_lit 260) (Obj.mk (Value.type "tuple") (@Option.none _) (Data.seq (@List.toArray _ [(Value.str (Str.ofString "trunk") 522), (Value.str (Str.ofString "things") 523)]) 0) (@List.toArray _ []))) ::
  (@Prod.mk _ _ (nat_lit 261) (Obj.mk (Value.type "tuple") (@Option.none _) (Data.seq (@List.toArray _ []) 0) (@List.toArray _ []))) ::
  (@Prod.mk _ _ (nat_lit 263) (Obj.mk (Value.type "code") (@Option.none _) (Data.fields (@List.toArray _ [(Value.str (Str.ofString "_law_one") 519), (Value.str (Str.ofString "_law_one") 520), (Value.str (Str.ofString "/claim/cut.py") 521), (Value.int 127 0), (Value.int 2 0), (Value.int 0 0), (Value.int 0 0), (Value.int 3 0), (Value.ref 258), (Value.bool Bool.true), (Value.int 181 0), (Value.ref 259), Value.none, (Value.ref 260), (Value.ref 261), (Value.ref 262), (Value.int 524 0), (Value.int 127 0), (Value.str (Str.ofString "/claim/cut.py") 525)])) (@List.toArray _ []))) ::
  (@Prod.mk _ _ (nat_lit 264) (Obj.mk (Value.type "function") (@Option.none _) (Data.func (fnO (st := stAt 21) (Str.ofString "_law_one") 3 [] Value.none Value.none Value.none (Value.str (Str.ofString "law_xw0149_01") 499) (@Option.none _) (Value.ref 263) Value.none 0 rfl)) (@List.toArray _ []))) ::
  (@Prod.mk _ _ (nat_lit 265) (Obj.mk (Value.type "tuple") (@Option.none _) (Data.seq (@List.toArray _ []) 0) (@List.toArray _ []))) ::
  (@Prod.mk _ _ (nat_lit 267) (Obj.mk (Value.type "tuple") (@Option.none _) (Data.seq (@List.toArray _ []) 0) (@List.toArray _ []))) ::
  (@Prod.mk _ _ (nat_lit 268) (Obj.mk (Value.type "tuple") (@Option.none _) (Data.seq (@List.toArray _ []) 0) (@List.toArray _ []))) ::
  (@Prod.mk _ _ (nat_lit 270) (Obj.mk (Value.type "code") (@Option.none _) (Data.fields (@List.toArray _ [(Value.str (Str.ofString "_law_rows") 527), (Value.str (Str.ofString "_law_rows") 528), (Value.str (Str.ofString "/claim/cut.py") 529), (Value.int 129 0), (Value.int 0 0), (Value.int 0 0), (Value.int 0 0), (Value.int 3 0), (Value.ref 265), (Value.bool Bool.true), (Value.int 181 0), (Value.ref 266), Value.none, (Value.ref 267), (Value.ref 268), (Value.ref 269), (Value.int 530 0), (Value.int 129 0), (Value.str (Str.ofString "/claim/cut.py") 531)])) (@List.toArray _ []))) ::
  (@Prod.mk _ _ (nat_lit 271) (Obj.mk (Value.type "function") (@Option.none _) (Data.func (fnO (st := stAt 22) (Str.ofString "_law_rows") 3 [] Value.none Value.none Value.none (Value.str (Str.ofString "law_xw0149_01") 499) (@Option.none _) (Value.ref 270) Value.none 0 rfl)) (@List.toArray _ []))) ::
  (@Prod.mk _ _ (nat_lit 272) (Obj.mk (Value.type "tuple") (@Option.none _) (Data.seq (@List.toArray _ []) 0) (@List.toArray _ []))) ::
  (@Prod.mk _ _ (nat_lit 275) (Obj.mk (Value.type "code") (@Option.none _) (Data.fields (@List.toArray _ [(Value.str (Str.ofString "_law_type") 533), (Value.str (Str.ofString "_law_type") 534), (Value.str (Str.ofString "/claim/cut.py") 535), (Value.int 131 0), (Value.int 4 0), (Value.int 0 0), (Value.int 0 0), (Value.int 3 0), (Value.ref 272), (Value.bool Bool.true), (Value.int 181 0), (Value.ref 273), Value.none, Value.none, Value.none, (Value.ref 274), (Value.int 536 0), (Value.int 131 0), (Value.str (Str.ofString "/claim/cut.py") 537)])) (@List.toArray _ []))) ::
  (@Prod.mk _ _ (nat_lit 276) (Obj.mk (Value.type "function") (@Option.none _) (Data.func (fnO (st := stAt 23) (Str.ofString "_law_type") 3 [] Value.none Value.none Value.none (Value.str (Str.ofString "law_xw0149_01") 499) (@Option.none _) (Value.ref 275) Value.none 0 rfl)) (@List.toArray _ []))) ::
  (@Prod.mk _ _ (nat_lit 277) (Obj.mk (Value.type "tuple") (@Option.none _) (Data.seq (@List.toArray _ []) 0) (@List.toArray _ []))) ::
  (@Prod.mk _ _ (nat_lit 279) (Obj.mk (Value.type "tuple") (@Option.none _) (Data.seq (@List.toArray _ [(Value.str (Str.ofString "a_type") 542), (Value.str (Str.ofString "whole") 543), (Value.str (Str.ofString "part") 544)]) 0) (@List.toArray _ []))) ::
  (@Prod.mk _ _ (nat_lit 280) (Obj.mk (Value.type "tuple") (@Option.none _) (Data.seq (@List.toArray _ []) 0) (@List.toArray _ []))) ::
  (@Prod.mk _ _ (nat_lit 282) (Obj.mk (Value.type "code") (@Option.none _) (Data.fields (@List.toArray _ [(Value.str (Str.ofString "_law_node") 539), (Value.str (Str.ofString "_law_node") 540), (Value.str (Str.ofString "/claim/cut.py") 541), (Value.int 137 0), (Value.int 1 0), (Value.int 0 0), (Value.int 0 0), (Value.int 3 0), (Value.ref 277), (Value.bool Bool.true), (Value.int 181 0), (Value.ref 278), Value.none, (Value.ref 279), (Value.ref 280), (Value.ref 281), (Value.int 545 0), (Value.int 137 0), (Value.str (Str.ofString "/claim/cut.py") 546)])) (@List.toArray _ []))) ::
  (@Prod.mk _ _ (nat_lit 283) (Obj.mk (Value.type "function") (@Option.none _) (Data.func (fnO (st := stAt 24) (Str.ofString "_law_node") 3 [] Value.none Value.none Value.none (Value.str (Str.ofString "law_xw0149_01") 499) (@Option.none _) (Value.ref 282) Value.none 0 rfl)) (@List.toArray _ []))) ::
  (@Prod.mk _ _ (nat_lit 284) (Obj.mk (Value.type "tuple") (@Option.none _) (Data.seq (@List.toArray _ []) 0) (@List.toArray _ []))) ::
  (@Prod.mk _ _ (nat_lit 286) (Obj.mk (Value.type "tuple") (@Option.none _) (Data.seq (@List.toArray _ [(Value.str (Str.ofString "a_type") 551), (Value.str (Str.ofString "more") 552)]) 0) (@List.toArray _ []))) ::
  (@Prod.mk _ _ (nat_lit 287) (Obj.mk (Value.type "tuple") (@Option.none _) (Data.seq (@List.toArray _ []) 0) (@List.toArray _ []))) ::
  (@Prod.mk _ _ (nat_lit 289) (Obj.mk (Value.type "code") (@Option.none _) (Data.fields (@List.toArray _ [(Value.str (Str.ofString "_law_behind") 548), (Value.str (Str.ofString "_law_behind") 549), (Value.str (Str.ofString "/claim/cut.py") 550), (Value.int 144 0), (Value.int 2 0), (Value.int 0 0), (Value.int 0 0), (Value.int 3 0), (Value.ref 284), (Value.bool Bool.true), (Value.int 181 0), (Value.ref 285), Value.none, (Value.ref 286), (Value.ref 287), (Value.ref 288), (Value.int 553 0), (Value.int 144 0), (Value.str (Str.ofString "/claim/cut.py") 554)])) (@List.toArray _ []))) ::
  (@Prod.mk _ _ (nat_lit 290) (Obj.mk (Value.type "function") (@Option.none _) (Data.func (fnO (st := stAt 25) (Str.ofString "_law_behind") 3 [] Value.none Value.none Value.none (Value.str (Str.ofString "law_xw0149_01") 499) (@Option.none _) (Value.ref 289) Value.none 0 rfl)) (@List.toArray _ []))) ::
  (@Prod.mk _ _ (nat_lit 291) (Obj.mk (Value.type "tuple") (@Option.none _) (Data.seq (@List.toArray _ []) 0) (@List.toArray _ []))) ::
  (@Prod.mk _ _ (nat_lit 294) (Obj.mk (Value.type "code") (@Option.none _) (Data.fields (@List.toArray _ [(Value.str (Str.ofString "_law_out") 556), (Value.str (Str.ofString "_law_out") 557), (Value.str (Str.ofString "/claim/cut.py") 558), (Value.int 148 0), (Value.int 4 0), (Value.int 0 0), (Value.int 0 0), (Value.int 3 0), (Value.ref 291), (Value.bool Bool.true), (Value.int 181 0), (Value.ref 292), Value.none, Value.none, Value.none, (Value.ref 293), (Value.int 559 0), (Value.int 148 0), (Value.str (Str.ofString "/claim/cut.py") 560)])) (@List.toArray _ []))) ::
  (@Prod.mk _ _ (nat_lit 295) (Obj.mk (Value.type "function") (@Option.none _) (Data.func (fnO (st := stAt 26) (Str.ofString "_law_out") 3 [] Value.none Value.none Value.none (Value.str (Str.ofString "law_xw0149_01") 499) (@Option.none _) (Value.ref 294) Value.none 0 rfl)) (@List.toArray _ []))) ::
  (@Prod.mk _ _ (nat_lit 296) (Obj.mk (Value.type "tuple") (@Option.none _) (Data.seq (@List.toArray _ []) 0) (@List.toArray _ []))) ::
  (@Prod.mk _ _ (nat_lit 298) (Obj.mk (Value.type "tuple") (@Option.none _) (Data.seq (@List.toArray _ [(Value.str (Str.ofString "node") 565)]) 0) (@List.toArray _ []))) ::
  (@Prod.mk _ _ (nat_lit 299) (Obj.mk (Value.type "tuple") (@Option.none _) (Data.seq (@List.toArray _ []) 0) (@List.toArray _ []))) ::
  (@Prod.mk _ _ (nat_lit 301) (Obj.mk (Value.type "code") (@Option.none _) (Data.fields (@List.toArray _ [(Value.str (Str.ofString "_law_seen") 562), (Value.str (Str.ofString "_law_seen") 563), (Value.str (Str.ofString "/claim/cut.py") 564), (Value.int 161 0), (Value.int 1 0), (Value.int 0 0), (Value.int 0 0), (Value.int 3 0), (Value.ref 296), (Value.bool Bool.true), (Value.int 181 0), (Value.ref 297), Value.none, (Value.ref 298), (Value.ref 299), (Value.ref 300), (Value.int 566 0), (Value.int 161 0), (Value.str (Str.ofString "/claim/cut.py") 567)])) (@List.toArray _ []))) ::
  (@Prod.mk _ _ (nat_lit 302) (Obj.mk (Value.type "function") (@Option.none _) (Data.func (fnO (st := stAt 27) (Str.ofString "_law_seen") 3 [] Value.none Value.none Value.none (Value.str (Str.ofString "law_xw0149_01") 499) (@Option.none _) (Value.ref 301) Value.none 0 rfl)) (@List.toArray _ []))) ::
  (@Prod.mk _ _ (nat_lit 303) (Obj.mk (Value.type "tuple") (@Option.none _) (Data.seq (@List.toArray _ []) 0) (@List.toArray _ []))) ::
  (@Prod.mk _ _ (nat_lit 305) (Obj.mk (Value.type "tuple") (@Option.none _) (Data.seq (@List.toArray _ [(Value.str (Str.ofString "a_type") 572), (Value.str (Str.ofString "told") 573), (Value.str (Str.ofString "synonyms") 574), (Value.str (Str.ofString "name") 575), (Value.str (Str.ofString "due") 576), (Value.str (Str.ofString "seen") 577)]) 0) (@List.toArray _ []))) ::
  (@Prod.mk _ _ (nat_lit 306) (Obj.mk (Value.type "tuple") (@Option.none _) (Data.seq (@List.toArray _ []) 0) (@List.toArray _ []))) ::
  (@Prod.mk _ _ (nat_lit 308) (Obj.mk (Value.type "code") (@Option.none _) (Data.fields (@List.toArray _ [(Value.str (Str.ofString "_law_is_right") 569), (Value.str (Str.ofString "_law_is_right") 570), (Value.str (Str.ofString "/claim/cut.py") 571), (Value.int 165 0), (Value.int 2 0), (Value.int 0 0), (Value.int 0 0), (Value.int 3 0), (Value.ref 303), (Value.bool Bool.true), (Value.int 181 0), (Value.ref 304), Value.none, (Value.ref 305), (Value.ref 306), (Value.ref 307), (Value.int 578 0), (Value.int 165 0), (Value.str (Str.ofString "/claim/cut.py") 579)])) (@List.toArray _ []))) ::
  (@Prod.mk _ _ (nat_lit 309) (Obj.mk (Value.type "function") (@Option.none _) (Data.func (fnO (st := stAt 28) (Str.ofString "_law_is_right") 3 [] Value.none Value.none Value.none (Value.str (Str.ofString "law_xw0149_01") 499) (@Option.none _) (Value.ref 308) Value.none 0 rfl)) (@List.toArray _ []))) ::
  (@Prod.mk _ _ (nat_lit 310) (Obj.mk (Value.type "tuple") (@Option.none _) (Data.seq (@List.toArray _ []) 0) (@List.toArray _ []))) ::
  (@Prod.mk _ _ (nat_lit 312) (Obj.mk (Value.type "tuple") (@Option.none _) (Data.seq (@List.toArray _ [(Value.str (Str.ofString "script") 584), (Value.str (Str.ofString "told") 585), (Value.str (Str.ofString "trunk") 586), (Value.str (Str.ofString "name") 587), (Value.str (Str.ofString "params") 588), (Value.str (Str.ofString "heads") 589)]) 0) (@List.toArray _ []))) ::
  (@Prod.mk _ _ (nat_lit 313) (Obj.mk (Value.type "tuple") (@Option.none _) (Data.seq (@List.toArray _ []) 0) (@List.toArray _ []))) ::
  (@Prod.mk _ _ (nat_lit 315) (Obj.mk (Value.type "code") (@Option.none _) (Data.fields (@List.toArray _ [(Value.str (Str.ofString "law") 581), (Value.str (Str.ofString "law") 582), (Value.str (Str.ofString "/claim/cut.py") 583), (Value.int 175 0), (Value.int 1 0), (Value.int 0 0), (Value.int 0 0), (Value.int 3 0), (Value.ref 310), (Value.bool Bool.true), (Value.int 181 0), (Value.ref 311), Value.none, (Value.ref 312), (Value.ref 313), (Value.ref 314), (Value.int 590 0), (Value.int 175 0), (Value.str (Str.ofString "/claim/cut.py") 591)])) (@List.toArray _ []))) ::
  (@Prod.mk _ _ (nat_lit 316) (Obj.mk (Value.type "function") (@Option.none _) (Data.func (fnO (st := stAt 29) (Str.ofString "law") 3 [] Value.none Value.none Value.none (Value.str (Str.ofString "law_xw0149_01") 499) (@Option.none _) (Value.ref 315) Value.none 0 rfl)) (@List.toArray _ []))) :: []))
noncomputable def hdView : Program := { PySem.Challenge.rw_xw0149_01.row.prog with main := { PySem.Challenge.rw_xw0149_01.row.prog.main with body := [stAt 1, stAt 2, stAt 4, stAt 5, stAt 6, stAt 7, stAt 9, stAt 10, stAt 11, stAt 12, stAt 13, stAt 14, stAt 15, stAt 16, stAt 17, stAt 19, stAt 20, stAt 21, stAt 22, stAt 23, stAt 24, stAt 25, stAt 26, stAt 27, stAt 28, stAt 29] } }
abbrev kAs : List Addr := [2, 3, 15, 22, 23, 25, 26, 28, 29, 30, 31, 32, 33, 36, 43, 44, 45, 55, 57, 58, 60, 61, 62, 64, 65, 67, 68, 69, 70, 71, 72, 73, 76, 83, 84, 86, 87, 89, 90, 91, 93, 94, 96, 97, 98, 99, 100, 103, 110, 111, 113, 114, 116, 117, 118, 120, 121, 123, 124, 125, 126, 127, 130, 137, 138, 140, 141, 143, 144, 145, 147, 148, 150, 151, 152, 153, 154, 164, 166, 167, 169, 170, 171, 172, 173, 174, 175, 178, 180, 181, 183, 184, 185, 187, 188, 190, 191, 192, 194, 195, 197, 198, 199, 201, 202, 204, 205, 213, 215, 216, 218, 219, 220, 223, 224, 225, 228, 229, 230, 231, 232, 233, 234, 237, 239, 240, 242, 243, 244, 246, 247, 249, 250, 251, 253, 254, 256, 257, 258, 260, 261, 263, 264, 265, 267, 268, 270, 271, 272, 275, 276, 277, 279, 280, 282, 283, 284, 286, 287, 289, 290, 291, 294, 295, 296, 298, 299, 301, 302, 303, 305, 306, 308, 309, 310, 312, 313, 315, 316]
noncomputable abbrev kH : Hook := kHook hdHeap kAs (fun _ => by kernel_rfl)
abbrev kL : List Str := [Str.ofString "LazyError", Str.ofString "TyVar", Str.ofString "TyCon", Str.ofString "TyApp"]
theorem kLeft : LeftO PySem.Challenge.rw_xw0149_01.row.prog hdView kL (fun s => xlAt hdView [] s && recOk (RowW.records PySem.Challenge.rw_xw0149_01.row.toRowW) s) (Hook.obs kH) (Hook.val kH) 5276 := fun w => by
  unfold openEnds fencedOpening topFrom
  rewrite [Fast.te4187177175401517315, Fast.te5923862056798008813, Fast.te10274390034422433532, Fast.te14364793385576792824, Fast.te1435165496053646825, Fast.te14289696077712309145, Fast.te14082659384304107361, Fast.te8920871248978507458]
  kernel_rfl
end Mine
end

section
/- part Base -/
open PySem PySem.W PyProof.Rows
namespace Mine
/-- a goal as a variable: what is opened under it has small motives -/
theorem cps {G : Prop} (h : ∀ X : Prop, (G → X) → X) : G := h G id
theorem lt_pick {a b x : Nat} {R : Prop} (h : @LT.lt Nat _ x b ∧ R) (k : @LT.lt Nat _ x b ∧ R → @LT.lt Nat _ a b) : @LT.lt Nat _ a b := k h
theorem path_r {P R X : Prop} (f : R → X) : P ∧ R → X := fun h => f h.2

/-- a KindError e is on its way through the frame env: what stands of the heap -/
structure Blow (base h₀ : Heap) (L : Addr) (m : Str → Option Value) (keep : List (Addr × Obj)) (env : Env) (outer : List Env) (e : Addr) (h : Heap) : Prop where
  ns : h.Ns L m
  up : h₀.UpToSlots h
  fly : ∃ B a0 fl, base.StaysIn B ∧ (∀ b o, h₀.get? b = some o → b ∉ (env :: outer).filterMap (·.frame) → B.get? b = some o) ∧ (∀ p ∈ keep, B.get? p.1 = some p.2) ∧
    B.StaysIn h ∧ B.get? e = none ∧ h.FunFrames B (env :: outer) ∧ h.TracedAtW B e (.ref 45) a0 fl

/-- what was made lies above what stood -/
noncomputable def Fresh (old tl : List (Addr × Obj)) : Prop := ∀ q ∈ old, ∀ p ∈ tl, @LT.lt Nat _ q.1 p.1
theorem allLt_mem {a : Addr} : ∀ {l : List (Addr × Obj)}, AllLt a l → ∀ p ∈ l, @LT.lt Nat _ p.1 a
  | [], _, _, h => nomatch h
  | q :: r, x, p, h => by
    rcases List.mem_cons.mp h with rfl | h
    · exact x.1
    · exact allLt_mem x.2 p h
theorem Fresh.nil {old : List (Addr × Obj)} : Fresh old [] := fun _ _ _ h => nomatch h
theorem Fresh.cons {old tl : List (Addr × Obj)} {a : Addr} {o : Obj} (h : AllLt a old) (r : Fresh old tl) : Fresh old ((a, o) :: tl) := fun q hq p hp => by
  rcases List.mem_cons.mp hp with rfl | hp
  · exact allLt_mem h q hq
  · exact r q hq p hp
theorem Fresh.append {old tl tl' : List (Addr × Obj)} (h : Fresh old tl) (r : Fresh old tl') : Fresh old (tl ++ tl') := fun q hq p hp => by
  rcases List.mem_append.mp hp with hp | hp
  · exact h q hq p hp
  · exact r q hq p hp
theorem Fresh.sub {old old' tl : List (Addr × Obj)} (h : Fresh old tl) (hs : ∀ p ∈ old', p ∈ old) : Fresh old' tl := fun q hq p hp => h q (hs q hq) p hp
theorem Fresh.addr {old old' tl : List (Addr × Obj)} (h : Fresh old tl) (hs : ∀ p ∈ old', ∃ q ∈ old, q.1 = p.1) : Fresh old' tl := fun q hq p hp => by
  obtain ⟨q', h1, h2⟩ := hs q hq
  rw [← h2]; exact h q' h1 p hp
theorem Fresh.allLt {old tl : List (Addr × Obj)} {a : Addr} {o : Obj} (h : ∀ q ∈ old, @LT.lt Nat _ q.1 a) (r : Fresh old tl) : Fresh old ((a, o) :: tl) := fun q hq p hp => by
  rcases List.mem_cons.mp hp with rfl | hp
  · exact h q hq
  · exact r q hq p hp
theorem lt_addr {news old : List (Addr × Obj)} {a : Addr} (h : ∀ p ∈ news, @LT.lt Nat _ p.1 a) (hs : ∀ p ∈ old, ∃ q ∈ news, q.1 = p.1) : ∀ q ∈ old, @LT.lt Nat _ q.1 a := fun q hq => by
  obtain ⟨q', h1, h2⟩ := hs q hq
  rw [← h2]; exact h q' h1
theorem Fresh.above {old tl : List (Addr × Obj)} {a : Addr} {o : Obj} (h : Fresh old tl) (ha : (a, o) ∈ old) : ∀ p ∈ tl, @LT.lt Nat _ a p.1 := fun p hp => h _ ha p hp
theorem Fresh.ne {old tl : List (Addr × Obj)} {a : Addr} {o : Obj} (h : Fresh old tl) (ha : (a, o) ∈ old) : ∀ p ∈ tl, p.1 ≠ a := fun p hp => Ne.symm (Nat.ne_of_lt (h _ ha p hp))

/-- what a call of f tells, in any frame fr of the ledger: it comes back with a value, with new objects tl, and with the ledger led', that Post takes (mu: the addresses of what may turn); where Fail, a KindError may come in its place, and keep is kept -/
noncomputable def Tell (w : World) (mean : ExcName → Option Value) (mg mb : Str → Option Value) (f : Addr) (vs : List Value) (sz : Nat) (mu : List Addr) (led : List (Addr × Obj))
    (Post : Value → List (Addr × Obj) → List (Addr × Obj) → Prop) (Fail : Prop) (keep : List (Addr × Obj)) : Prop :=
  ∀ (dp un : Nat) (gd : Option (List Code)) (cn : Str) (cs : Scope) (a : Addr) (ccd : Value) (cl : List (Str × Addr)) (outer : List Env) (A₀ : Around) (base h₀ : Heap) (L : Addr) (m : Str → Option Value) (s : Shared)
    (fr : List (Addr × Obj)) (Q E : Value → Shared → Prop),
    Below A₀ base outer h₀ → Fr h₀ L s.heap m → (hdHeap w.params).In h₀ → News h₀ L s.heap (fr ++ led) → (∀ p ∈ fr, p.1 ∉ mu) →
    Top hdView (looseW hdView [Str.ofString "LazyError", Str.ofString "TyVar", Str.ofString "TyCon", Str.ofString "TyApp"]) mean mg mb h₀ →
    cs.kind = .function → dp + sz < recursionLimit → un + 8 * sz < cLine →
    (∀ r tl led' h' tk', Fr h₀ L h' m → News h₀ L h' (fr ++ (tl ++ led')) → Fresh (fr ++ led) tl → Post r tl led' → Q r { s with heap := h', toks := tk' }) →
    (Fail → ∀ e h' tk', Blow base h₀ L m (fr ++ keep) (envX cn cs L a ccd cl) outer e h' → E (.ref e) { s with heap := h', toks := tk' }) →
    wpAny (model PySem.Challenge.rw_xw0149_01.row.prog w) (ktrTop dp un gd cn cs L a ccd cl outer) (call (.ref f) vs) Q E s

theorem tell_use {w : World} {mean : ExcName → Option Value} {mg mb : Str → Option Value} {f : Addr} {vs : List Value} {sz : Nat} {mu : List Addr} {news led keep : List (Addr × Obj)} {Post : Value → List (Addr × Obj) → List (Addr × Obj) → Prop} {Fail : Prop}
    {dp un : Nat} {gd : Option (List Code)} {cn : Str} {cs : Scope} {a : Addr} {ccd : Value} {cl : List (Str × Addr)} {outer : List Env} {A₀ : Around} {base h₀ : Heap} {L : Addr} {m : Str → Option Value} {s : Shared}
    {Q E : Value → Shared → Prop} (fr : List (Addr × Obj))
    (C : Tell w mean mg mb f vs sz mu led Post Fail keep) (B : Below A₀ base outer h₀) (F : Fr h₀ L s.heap m) (X : (hdHeap w.params).In h₀) (N : News h₀ L s.heap news) (sub : ∀ p ∈ fr ++ led, p ∈ news) (hm : ∀ p ∈ fr, p.1 ∉ mu)
    (T : Top hdView (looseW hdView [Str.ofString "LazyError", Str.ofString "TyVar", Str.ofString "TyCon", Str.ofString "TyApp"]) mean mg mb h₀)
    (hk : cs.kind = .function) (hd : dp + sz < recursionLimit) (hu : un + 8 * sz < cLine)
    (ret : ∀ r tl led' h' tk', Fr h₀ L h' m → News h₀ L h' (fr ++ (tl ++ led')) → Fresh (fr ++ led) tl → Post r tl led' → Q r { s with heap := h', toks := tk' })
    (fail : Fail → ∀ e h' tk', Blow base h₀ L m (fr ++ keep) (envX cn cs L a ccd cl) outer e h' → E (.ref e) { s with heap := h', toks := tk' }) :
    wpAny (model PySem.Challenge.rw_xw0149_01.row.prog w) (ktrTop dp un gd cn cs L a ccd cl outer) (call (.ref f) vs) Q E s :=
  C _ _ _ _ _ _ _ _ _ _ _ _ _ _ _ fr _ _ B F X (fun p hp => N p (sub p hp)) hm T hk hd hu ret fail

theorem news_back {h₀ h : Heap} {L : Addr} {fr : List (Addr × Obj)} {x : Addr × Obj} (N : News h₀ L h (x :: fr)) : News h₀ L h (fr ++ ([] ++ [x])) :=
  fun p hp => N p (by simp only [List.mem_append, List.nil_append, List.mem_cons, List.not_mem_nil, or_false] at hp ⊢; exact hp.symm)
theorem news_sub {h₀ h : Heap} {L : Addr} {a b : List (Addr × Obj)} (N : News h₀ L h a) (hs : ∀ p ∈ b, p ∈ a) : News h₀ L h b := fun p hp => N p (hs p hp)

theorem mu_nil {fr : List (Addr × Obj)} : ∀ p ∈ fr, p.1 ∉ ([] : List Addr) := fun _ _ h => nomatch h
theorem mu_one {fr : List (Addr × Obj)} {a : Addr} (h : ∀ p ∈ fr, p.1 ≠ a) : ∀ p ∈ fr, p.1 ∉ [a] := fun p hp q => h p hp (List.mem_singleton.mp q)
theorem mu_ne {fr : List (Addr × Obj)} {a : Addr} (h : ∀ p ∈ fr, p.1 ∉ [a]) : ∀ p ∈ fr, p.1 ≠ a := fun p hp q => h p hp (by simp [q])

section
variable {α : Type} {x y : α} {l l' r r' : List α}
theorem sub_n : ∀ p ∈ ([] : List α), p ∈ r := fun _ h => nomatch h
theorem sub_c (h1 : x ∈ r) (h2 : ∀ p ∈ l, p ∈ r) : ∀ p ∈ x :: l, p ∈ r := fun p hp => by
  rcases List.mem_cons.mp hp with rfl | hp
  · exact h1
  · exact h2 p hp
theorem sub_a (h1 : ∀ p ∈ l, p ∈ r) (h2 : ∀ p ∈ l', p ∈ r) : ∀ p ∈ l ++ l', p ∈ r := fun p hp => (List.mem_append.mp hp).elim (h1 p) (h2 p)
theorem sub_t (h : ∀ p ∈ l, p ∈ r) : ∀ p ∈ l, p ∈ y :: r := fun p hp => List.mem_cons_of_mem _ (h p hp)
theorem sub_l (h : ∀ p ∈ l, p ∈ r) : ∀ p ∈ l, p ∈ r ++ r' := fun p hp => List.mem_append_left _ (h p hp)
theorem sub_r (h : ∀ p ∈ l, p ∈ r') : ∀ p ∈ l, p ∈ r ++ r' := fun p hp => List.mem_append_right _ (h p hp)
end

/-- a place where the walk is to halt -/
noncomputable def Halt (P : Prop) : Prop := P
theorem halt {P : Prop} (h : Halt P) : P := h
theorem unhalt {P : Prop} (h : P) : Halt P := h

end Mine
end

section
/- part Base2 -/
open PySem PySem.W PyProof.Rows
namespace Mine
theorem tell_size {w : World} {mean : ExcName → Option Value} {mg mb : Str → Option Value} {f : Addr} {vs : List Value} {sz sz' : Nat} {mu : List Addr} {led keep : List (Addr × Obj)} {Post : Value → List (Addr × Obj) → List (Addr × Obj) → Prop} {Fail : Prop}
    (C : Tell w mean mg mb f vs sz mu led Post Fail keep) (h : sz ≤ sz') : Tell w mean mg mb f vs sz' mu led Post Fail keep := by
  unfold Tell at C ⊢
  intro dp un gd cn cs a ccd cl outer A₀ base h₀ L m s fr Q E B F X N hmu T hk hd hu hret hfail
  exact C dp un gd cn cs a ccd cl outer A₀ base h₀ L m s fr Q E B F X N hmu T hk (by omega) (by omega) hret hfail

theorem m_is {m : Str → Option Value} {x : Str} {v : Value} (h : m x = some v) : m = fun y => if y = x then some v else m y := by
  funext y
  by_cases e : y = x
  · subst e; simp [h]
  · simp [e]
theorem fr_see1 {h₀ h : Heap} {L : Addr} {m : Str → Option Value} {x : Str} {a : Value} (F : Fr h₀ L h m) (e : m x = some a) : Fr h₀ L h (fun z => if z = x then some a else m z) := (m_is e) ▸ F
theorem fr_see2 {h₀ h : Heap} {L : Addr} {m : Str → Option Value} {x y : Str} {a b : Value} (F : Fr h₀ L h m) (e : m x = some a) (f : m y = some b) : Fr h₀ L h (fun z => if z = x then some a else if z = y then some b else m z) := by
  have : m = fun z => if z = x then some a else if z = y then some b else m z := by
    funext z
    by_cases g : z = x
    · subst g; simp [e]
    · by_cases g' : z = y
      · subst g'; simp [f, g]
      · simp [g, g']
  rw [this] at F; exact F
theorem fr_see3 {h₀ h : Heap} {L : Addr} {m : Str → Option Value} {x y z : Str} {a b c : Value} (F : Fr h₀ L h m) (e : m x = some a) (f : m y = some b) (k : m z = some c) : Fr h₀ L h (fun u => if u = x then some a else if u = y then some b else if u = z then some c else m u) := by
  have : m = fun u => if u = x then some a else if u = y then some b else if u = z then some c else m u := by
    funext u
    by_cases g : u = x
    · subst g; simp [e]
    · by_cases g' : u = y
      · subst g'; simp [f, g]
      · by_cases g2 : u = z
        · subst g2; simp [k, g, g']
        · simp [g, g', g2]
  rw [this] at F; exact F
section
variable {old : List (Addr × Obj)} {a b : Addr} {P : Prop}
theorem ab0 (h : AllLt a old) : ∀ q ∈ old, @LT.lt Nat _ q.1 a := allLt_mem h
theorem ab2 {big : List (Addr × Obj)} (l : ∀ q ∈ big, @LT.lt Nat _ q.1 a) (hs : ∀ p ∈ old, p ∈ big) : ∀ q ∈ old, @LT.lt Nat _ q.1 a := fun q hq => l q (hs q hq)
theorem off_of {big : List (Addr × Obj)} {o : Obj} (l : ∀ q ∈ big, @LT.lt Nat _ q.1 a) (hb : (b, o) ∈ big) : a ≠ b := fun e => Nat.lt_irrefl _ (e ▸ l _ hb)
theorem ab1 (h : P ∧ AllLt a old) : ∀ q ∈ old, @LT.lt Nat _ q.1 a := allLt_mem h.2
theorem ab_trans (h : @LT.lt Nat _ b a) (r : ∀ q ∈ old, @LT.lt Nat _ q.1 b) : ∀ q ∈ old, @LT.lt Nat _ q.1 a := fun q hq => Nat.lt_trans (r q hq) h
theorem off_c {x : Addr × Obj} {l : List (Addr × Obj)} (h : x.1 ≠ a) (r : ∀ p ∈ l, p.1 ≠ a) : ∀ p ∈ x :: l, p.1 ≠ a := List.forall_mem_cons.mpr ⟨h, r⟩
theorem off_a {l l' : List (Addr × Obj)} (h : ∀ p ∈ l, p.1 ≠ a) (r : ∀ p ∈ l', p.1 ≠ a) : ∀ p ∈ l ++ l', p.1 ≠ a := List.forall_mem_append.mpr ⟨h, r⟩
theorem off_s {l l' : List (Addr × Obj)} (h : ∀ p ∈ l, p.1 ≠ a) (hs : ∀ p ∈ l', p ∈ l) : ∀ p ∈ l', p.1 ≠ a := fun p hp => h p (hs p hp)
end
end Mine
end

section
/- part Led -/
open PySem PySem.W PyProof.Rows PySem.Calls PySem.Spec PyProof.V
namespace Mine
section
variable {prog : Program} {w : World} {A : Around} {E : Value → Shared → Prop} {s : Shared} {h₀ : Heap} {L : Addr} {m : Str → Option Value} {news : List (Addr × Obj)} {Q : Value → Shared → Prop}

theorem led_len {l : Addr} {items : Array Value} {n : Nat} (N : News h₀ L s.heap news) (hm : (l, listOf items n) ∈ news) (hfit : items.size < 100000)
    (h : Q (.int items.size (s.toks + 1)) { s with toks := s.toks + 1 + 1 }) : wpAny (model prog w) A (call (.builtin "len") [.ref l]) Q E s :=
  len_list (N.isList hm) (by omega) h

theorem led_item {value slice : PySem.Expr} {l : Addr} {items : Array Value} {n : Nat} {k : Int} {u : Tok} (N : News h₀ L s.heap news) (hm : (l, listOf items n) ∈ news)
    (h0 : 0 ≤ k) (h1 : k < items.size) (hfit : items.size < 100000) (h : ∀ x, items[k.toNat]? = some x → Q x s)
    (hs : subscripted slice false (.ref l) (.int k u) = operate [.ref l, .int k u] (getItem (.ref l) (.int k u)) := by with_unfolding_all rfl) :
    wpAny (model prog w) A (subscriptTail value slice (.ref l) (.int k u)) Q E s :=
  have hl := N.isList hm
  tail_any hl.typeIs slot_list_getitem.lookup (wpAny_getItem_list hl h0 (by omega) (x := items[k.toNat]'(by omega)) (by simp) (h _ (by simp))) hs

theorem led_addTup {t b : Addr} {vs ws : List Value} {n k : Nat} (F : Fr h₀ L s.heap m) (N : News h₀ L s.heap news) (h1 : (t, ({ cls := .type "tuple", data := .seq vs.toArray n } : Obj)) ∈ news) (h2 : (b, ({ cls := .type "tuple", data := .seq ws.toArray k } : Obj)) ∈ news)
    (e1 : vs ≠ []) (e2 : ws ≠ []) (hsz : vs.length + ws.length < 100000)
    (h : ∀ D h', Fr h₀ L h' m → News h₀ L h' ((D, ({ cls := .type "tuple", data := .seq (vs ++ ws).toArray 0 } : Obj)) :: news) → (∀ p ∈ news, p.1 < D) → Q (.ref D) { s with heap := h' }) :
    wpAny (model prog w) A (binaryOp .Add (.ref t) (.ref b)) Q E s := by
  refine P.add_tuple (N _ h1).1 (N _ h2).1 (by simpa using e1) (by simpa using e2) ?_ (by rw [sizeLine_eq]; simp; omega)
  have := h s.heap.objs.size _ (F.push _) (N.push F { cls := .type "tuple", data := .seq (vs ++ ws).toArray 0 }) fun p hp => Heap.lt_size (N p hp).1
  simpa using this
end
end Mine
end

section
/- part Led2 -/
open PySem PySem.W PyProof.Rows PySem.Calls PySem.Spec PyProof.V
namespace Mine
section
variable {prog : Program} {w : World} {A : Around} {E : Value → Shared → Prop} {s : Shared} {h₀ : Heap} {L : Addr} {m : Str → Option Value} {news : List (Addr × Obj)} {Q : Value → Shared → Prop} {a b : Addr} {k k' : Nat} {v : Value} {vs : List Value}

theorem led_ne_nil (N : News h₀ L s.heap news) (ha : (a, listOf #[] k) ∈ news) (hb : (b, listOf #[] k') ∈ news) (hu : A.units < cLine) (h : Q (.bool false) s) :
    wpAny (model prog w) A (compareOp .NotEq (.ref a) (.ref b)) Q E s :=
  PySem.SeqAt.RcNeAt.lists (e := fun _ => true) (N.isList ha) (N.isList hb) rfl hu (fun j h1 => by simp at h1) prog w E Q h
theorem led_ne_cons (N : News h₀ L s.heap news) (ha : (a, listOf (v :: vs).toArray k) ∈ news) (hb : (b, listOf #[] k') ∈ news) (hu : A.units < cLine) (h : Q (.bool true) s) :
    wpAny (model prog w) A (compareOp .NotEq (.ref a) (.ref b)) Q E s :=
  PySem.SeqAt.RcNeAt.lists_lengths (N.isList ha) (N.isList hb) (by simp) hu prog w E Q h
theorem led_ne_snoc (N : News h₀ L s.heap news) (ha : (a, listOf (vs ++ [v]).toArray k) ∈ news) (hb : (b, listOf #[] k') ∈ news) (hu : A.units < cLine) (h : Q (.bool true) s) :
    wpAny (model prog w) A (compareOp .NotEq (.ref a) (.ref b)) Q E s :=
  PySem.SeqAt.RcNeAt.lists_lengths (N.isList ha) (N.isList hb) (by simp) hu prog w E Q h
theorem led_eq_nil (N : News h₀ L s.heap news) (ha : (a, listOf #[] k) ∈ news) (hb : (b, listOf #[] k') ∈ news) (hu : A.units < cLine) (h : Q (.bool true) s) :
    wpAny (model prog w) A (compareOp .Eq (.ref a) (.ref b)) Q E s :=
  PySem.SeqAt.RcAt.lists (e := fun _ => true) (N.isList ha) (N.isList hb) rfl hu (fun j h1 => by simp at h1) prog w E Q h
theorem led_eq_cons (N : News h₀ L s.heap news) (ha : (a, listOf (v :: vs).toArray k) ∈ news) (hb : (b, listOf #[] k') ∈ news) (hu : A.units < cLine) (h : Q (.bool false) s) :
    wpAny (model prog w) A (compareOp .Eq (.ref a) (.ref b)) Q E s :=
  PySem.SeqAt.RcAt.lists_lengths (N.isList ha) (N.isList hb) (by simp) hu prog w E Q h

theorem led_pop {D : Addr} {n : Nat} {news' : List (Addr × Obj)} (F : Fr h₀ L s.heap m) (N : News h₀ L s.heap news) (U : Upd D (listOf (vs ++ [v]).toArray n) (listOf vs.toArray (n + 1)) news news') (hz : vs.length < 10000)
    (h : ∀ h', Fr h₀ L h' m → News h₀ L h' news' → Q v { s with heap := h' }) : wpAny (model prog w) A (call (.builtin "list.pop") [.ref D]) Q E s :=
  kl_pop F N (p := vs) (y := v) (kpa_last v vs) U (by rw [sizeLine_eq]; simp; omega) h

theorem led_extend2 {D b : Addr} {n n2 : Nat} {x y : Value} {news' : List (Addr × Obj)} (F : Fr h₀ L s.heap m) (N : News h₀ L s.heap news) (hb : (b, listOf #[x, y] n2) ∈ news) (U : Upd D (listOf vs.toArray n) (listOf (vs ++ [x, y]).toArray (n + 1)) news news') (hz : vs.length < 10000)
    (h : ∀ h', Fr h₀ L h' m → News h₀ L h' news' → Q .none { s with heap := h' }) : wpAny (model prog w) A (call (.builtin "list.extend") [.ref D, .ref b]) Q E s :=
  kl_extend F N (its := vs.toArray) (its2 := #[x, y]) hb rfl (by simp) U (by simp [Builtin.List.listTooLong, sizeLine_eq]; intros; omega) (by rw [sizeLine_eq]; simp; omega) (by rw [sizeLine_eq]; simp; omega) h
end
end Mine
end

section
/- part TyDef -/
open PySem PySem.W PyProof.Rows
namespace Mine

/-- a type: a name, or a type put to a type -/
inductive Ty where
  | leaf (h : Str)
  | app (f a : Ty)

/-- put to more -/
noncomputable def Ty.on : Ty → List Ty → Ty
  | b, [] => b
  | b, a :: as => (Ty.app b a).on as
theorem Ty.on_append : ∀ (as bs : List Ty) (b : Ty), b.on (as ++ bs) = (b.on as).on bs
  | [], _, _ => rfl
  | _ :: as, bs, _ => Ty.on_append as bs _
theorem Ty.on_snoc (b : Ty) (as : List Ty) (a : Ty) : b.on (as ++ [a]) = .app (b.on as) a := by rw [Ty.on_append]; rfl

noncomputable abbrev tupOf (vs : List Value) (n : Nat) : Obj := { cls := .type "tuple", data := .seq vs.toArray n }

/-- a value that is a type, written as a str or a tuple -/
inductive TyV (news : List (Addr × Obj)) : Value → Ty → Prop
  | leaf {h : Str} {k : Tok} : TyV news (.str h k) (.leaf h)
  | app {a : Addr} {h : Str} {k : Tok} {vs : List Value} {as : List Ty} {n : Nat} {t : Ty} : (a, tupOf (.str h k :: vs) n) ∈ news → as ≠ [] → vs.length = as.length →
      (∀ (i : Nat) v t, vs[i]? = some v → as[i]? = some t → TyV news v t) → t = (Ty.leaf h).on as → TyV news (.ref a) t

theorem TyV.mono {news news' : List (Addr × Obj)} (hs : ∀ p ∈ news, p ∈ news') : ∀ {v : Value} {t : Ty}, TyV news v t → TyV news' v t := by
  intro v t h
  induction h with
  | leaf => exact .leaf
  | app hm hne hl _ ht ih => exact .app (hs _ hm) hne hl ih ht

/-- values that are types, one by one -/
noncomputable def TyVs (news : List (Addr × Obj)) (vs : List Value) (ts : List Ty) : Prop := vs.length = ts.length ∧ ∀ (i : Nat) v t, vs[i]? = some v → ts[i]? = some t → TyV news v t
theorem TyVs.mono {news news' : List (Addr × Obj)} {vs : List Value} {ts : List Ty} (hs : ∀ p ∈ news, p ∈ news') (h : TyVs news vs ts) : TyVs news' vs ts :=
  ⟨h.1, fun i v t h1 h2 => (h.2 i v t h1 h2).mono hs⟩
theorem TyVs.nil {news : List (Addr × Obj)} : TyVs news [] [] := ⟨rfl, fun i v t h => by simp at h⟩
theorem TyVs.cons {news : List (Addr × Obj)} {v : Value} {t : Ty} {vs : List Value} {ts : List Ty} (h : TyV news v t) (r : TyVs news vs ts) : TyVs news (v :: vs) (t :: ts) := by
  refine ⟨by simp [r.1], fun i v' t' h1 h2 => ?_⟩
  cases i with
  | zero => simp at h1 h2; subst h1 h2; exact h
  | succ i => exact r.2 i v' t' (by simpa using h1) (by simpa using h2)
theorem TyVs.append {news : List (Addr × Obj)} {vs vs' : List Value} {ts ts' : List Ty} (h : TyVs news vs ts) (r : TyVs news vs' ts') : TyVs news (vs ++ vs') (ts ++ ts') := by
  refine ⟨by simp [h.1, r.1], fun i v t h1 h2 => ?_⟩
  by_cases hi : i < vs.length
  · rw [List.getElem?_append_left hi] at h1
    rw [List.getElem?_append_left (h.1 ▸ hi)] at h2
    exact h.2 i v t h1 h2
  · rw [List.getElem?_append_right (by omega)] at h1
    rw [List.getElem?_append_right (by have := h.1; omega)] at h2
    exact r.2 _ v t h1 (by rw [h.1]; exact h2)
theorem TyVs.snoc {news : List (Addr × Obj)} {v : Value} {t : Ty} {vs : List Value} {ts : List Ty} (h : TyV news v t) (r : TyVs news vs ts) : TyVs news (vs ++ [v]) (ts ++ [t]) := r.append (TyVs.nil.cons h)

/-- types that the draw may give -/
noncomputable def GenTy (LS HS : List Str) : Nat → Ty → Prop
  | 0, t => ∃ s ∈ LS, t = .leaf s
  | n + 1, t => (∃ s ∈ LS, t = .leaf s) ∨ ∃ h ∈ HS, ∃ as : List Ty, t = (Ty.leaf h).on as ∧ 1 ≤ as.length ∧ as.length ≤ 3 ∧ ∀ a ∈ as, GenTy LS HS n a
theorem GenTy.leaf {LS HS : List Str} {n : Nat} {s : Str} (h : s ∈ LS) : GenTy LS HS n (.leaf s) := by
  cases n with
  | zero => exact ⟨s, h, rfl⟩
  | succ n => exact .inl ⟨s, h, rfl⟩

/-- the values of a list of names -/
noncomputable def Names (vs : List Value) (ss : List Str) : Prop := 1 ≤ vs.length ∧ vs.length < 1000 ∧ ∀ v ∈ vs, ∃ s k, v = .str s k ∧ s ∈ ss

noncomputable def isVar (h : Str) : Bool := h == Str.ofString "x" || h == Str.ofString "y" || h == Str.ofString "a"

end Mine
end

section
/- part Exc -/
open PySem PySem.W PyProof.Rows PySem.Calls PySem.Spec
namespace Mine
section
variable {M : Model} {A : Around} {E : Value → Shared → Prop} {s : Shared} {base h₀ : Heap} {L e : Addr} {m : Str → Option Value} {keep : List (Addr × Obj)} {env env' : Env} {outer : List Env}

theorem Blow.upTo {h h' : Heap} {B : Heap} {a0 fl : Value} (X : Blow base h₀ L m keep env outer e h)
    (hB : base.StaysIn B) (h1 : ∀ b o, h₀.get? b = some o → b ∉ (env :: outer).filterMap (·.frame) → B.get? b = some o) (h2 : ∀ p ∈ keep, B.get? p.1 = some p.2)
    (h3 : B.StaysIn h') (h4 : B.get? e = none) (h5 : h'.FunFrames B (env :: outer)) (h6 : h'.TracedAtW B e (.ref 45) a0 fl) (u : h.UpToSlots h') : Blow base h₀ L m keep env outer e h' :=
  ⟨u.ns X.ns, X.up.trans u, B, a0, fl, hB, h1, h2, h3, h4, h5, h6⟩

theorem Blow.sub {h : Heap} {keep' : List (Addr × Obj)} (X : Blow base h₀ L m keep env outer e h) (hs : ∀ p ∈ keep', p ∈ keep) : Blow base h₀ L m keep' env outer e h := by
  obtain ⟨x1, x2, B, a0, fl, y1, y2, y3, y⟩ := X
  exact ⟨x1, x2, B, a0, fl, y1, y2, fun p hp => y3 p (hs p hp), y⟩

theorem Blow.at {h : Heap} {p : Addr × Obj} (X : Blow base h₀ L m keep env outer e h) (hp : p ∈ keep) : h.get? p.1 = some p.2 := by
  obtain ⟨_, _, B, a0, fl, _, _, y3, y4, _⟩ := X
  exact y4 _ _ (y3 p hp)

theorem blow_note {Q : Unit → Shared → Prop} (X : Blow base h₀ L m keep env outer e s.heap) (hfr : A.frames = some (env :: outer)) (hf : env.frame = some L) (he : env'.frame = some L)
    (h : ∀ h', Blow base h₀ L m keep env outer e h' → Q () { s with heap := h' }) : wpAny M A (noteFrame (.ref e) env') Q E s := by
  have X0 := X
  obtain ⟨x1, x2, B, a0, fl, y1, y2, y3, y4, y5, y6, y7⟩ := X
  by_cases hfl : fl = rawInt L
  · subst hfl
    exact wpAny_noteFrame_againW he y7 (h _ X0)
  · obtain ⟨oe, vs, T, oT, ts, heo, ⟨hcls, h0⟩, hd, h1, hnT, hTe, hT, hdT, h3⟩ := y7
    unfold noteFrame
    simp only [he]
    refine wpAny_bind (wpAny_field heo hd h1 ?_)
    rw [if_pos (show (Value.ref T != Value.none) = true from by simp)]
    refine wpAny_bind (wpAny_field hT hdT h3 ?_)
    rw [if_neg (show ¬ ((fl == rawInt L) = true) from fun q => hfl (eq_of_beq q))]
    refine wpAny_bind (wpAny_setField hT hdT (Array.getElem?_eq_some_iff.mp h3).1 ?_)
    have other : ∀ b, b ≠ T → (s.heap.update T (Obj.mapFields (·.setIfInBounds 3 Value.none))).get? b = s.heap.get? b := fun b hb => Heap.get?_update_other _ _ (Ne.symm hb)
    have noRecord : ∀ b o, s.heap.get? b = some o → (∀ vs, o.data ≠ .fields vs) → b ≠ T := fun b o hb hnf q => by
      rw [q, hT] at hb; injection hb with hb; subst hb; exact hnf ts hdT
    have hfo : (PySem.frameOf env' : Sem Value) = PySem.frameOf env := by
      unfold PySem.frameOf; rw [he, hf]
    rw [hfo]
    refine wpAny_entryW (base := B) hfr (y6.of_keeps fun b o hb hnf => ⟨o, (other b (noRecord b o hb hnf)).trans hb, rfl⟩) hf ((other e (Ne.symm hTe)).trans heo)
      (fun b o hbo => (other b fun q => by rw [q, hnT] at hbo; cases hbo).trans (y4 b o hbo)) y5 hd (Array.getElem?_eq_some_iff.mp h1).1 h0 fun h' ⟨z1, z2, z3, z4⟩ => ?_
    rw [hcls] at z3
    exact h h' (X0.upTo y1 y2 y3 z1 y5 z2 z3 fun b o hb hnf => z4 b o ((other b (noRecord b o hb hnf)).trans hb) hnf)

theorem blow_flight {fr : Option Addr} {Q : Unit → Shared → Prop} (X : Blow base h₀ L m keep env outer e s.heap)
    (h : ∀ h', Blow base h₀ L m keep env outer e h' → Q () { s with heap := h' }) : wpAny M A (setFlight (.ref e) fr) Q E s := by
  have X0 := X
  obtain ⟨x1, x2, B, a0, fl, y1, y2, y3, y4, y5, y6, y7⟩ := X
  obtain ⟨oe, vs, T, oT, ts, heo, hcls, hd, h1, hnT, hTe, hT, hdT, h3⟩ := y7
  have hsz3 : 3 < ts.size := (Array.getElem?_eq_some_iff.mp h3).1
  have other : ∀ b, b ≠ T → (s.heap.update T (Obj.mapFields (·.setIfInBounds 3 (fr.elim Value.none fun f => rawInt f)))).get? b = s.heap.get? b :=
    fun b hb => Heap.get?_update_other _ _ (Ne.symm hb)
  have noRecord : ∀ b o, s.heap.get? b = some o → (∀ vs, o.data ≠ .fields vs) → b ≠ T := fun b o hb hnf q => by
    rw [q, hT] at hb; injection hb with hb; subst hb; exact hnf ts hdT
  unfold setFlight
  refine wpAny_bind (wpAny_field heo hd h1 ?_)
  rw [if_pos (show (Value.ref T != Value.none) = true from by simp)]
  refine wpAny_setField hT hdT hsz3 (h _ (X0.upTo (a0 := a0) (fl := fr.elim Value.none fun f => rawInt f) y1 y2 y3 (fun b o hbo => (other b fun q => by rw [q, hnT] at hbo; cases hbo).trans (y4 b o hbo)) y5
    (y6.of_keeps fun b o hb hnf => ⟨o, (other b (noRecord b o hb hnf)).trans hb, rfl⟩) ?_ fun b o hb hnf => ⟨o.slots, (other b (noRecord b o hb hnf)).trans hb⟩))
  exact ⟨oe, vs, T, _, _, (other e (Ne.symm hTe)).trans heo, hcls, hd, h1, hnT, hTe, Heap.get?_update_self _ hT (Obj.isFreed_of_fields (Obj.data_mapFields hdT _)), Obj.data_mapFields hdT _, by simp [hsz3]⟩

theorem Blow.field1 {h : Heap} (X : Blow base h₀ L m keep env outer e h) : ∃ oe vs T, h.get? e = some oe ∧ oe.data = .fields vs ∧ vs[1]? = some (.ref T) := by
  obtain ⟨_, _, _, _, _, _, _, _, _, _, _, oe, vs, T, _, _, a1, _, a3, a4, _⟩ := X
  exact ⟨oe, vs, T, a1, a3, a4⟩

theorem blow_pass {α : Type} {what : String} {Q : α → Shared → Prop} (X : Blow base h₀ L m keep env outer e s.heap)
    (h : ∀ h', Blow base h₀ L m keep env outer e h' → E (.ref e) { s with heap := h' }) : wpAny M A (PySem.passOn what (.ref e) env' : Sem α) Q E s := by
  obtain ⟨oe, vs, T, a1, a2, a3⟩ := X.field1
  unfold PySem.passOn
  refine wpAny_bind (wpAny_field a1 a2 a3 ?_)
  rw [if_neg (show ¬ ((Value.ref T == Value.none) = true) from by simp)]
  exact wpAny_bind (blow_flight X fun h' X' => wpAny_throw (h h' X'))

/-- out of a frame: the caller's word -/
theorem blow_leave {g : Heap} {L' : Addr} {m' : Str → Option Value} {keep' : List (Addr × Obj)} {Q : Unit → Shared → Prop} (X : Blow base g L' m' keep' env' (env :: outer) e s.heap)
    (hfr : A.frames = some (env' :: env :: outer)) (hf : env'.frame = some L') (FG : Fr h₀ L g m) (hgL : g.get? L' = none) (hs : ∀ p ∈ keep, p ∈ keep')
    (h : ∀ h', Blow base h₀ L m keep env outer e h' → Q () { s with heap := h' }) : wpAny M A (leaving env' (.ref e)) Q E s := by
  unfold leaving
  refine wpAny_bind (blow_note X hfr hf hf fun h1 X1 => blow_flight (s := { s with heap := h1 }) X1 fun h2 X2 => h h2 ?_)
  obtain ⟨x1, x2, B, a0, fl, y1, y2, y3, y4, y5, ⟨_, _, y6⟩, y7⟩ := X2
  refine ⟨x2.ns FG.ns, (Heap.UpToSlots.of_keeps FG.keep).trans x2, B, a0, fl, y1, fun b o hb hn => y2 b o (FG.keep b o hb) fun hm => ?_, fun p hp => y3 p (hs p hp), y4, y5, y6, y7⟩
  rw [List.filterMap_cons, hf] at hm
  rcases List.mem_cons.mp hm with q | q
  · rw [← q, FG.keep b o hb] at hgL; cases hgL
  · exact hn q

/-- a fresh exception leaves the frame that raises it -/
theorem blow_raise {g h : Heap} {L' : Addr} {m' : Str → Option Value} {news : List (Addr × Obj)} {oe : Obj} {vs : Array Value} {a0 : Value} {Q : Unit → Shared → Prop}
    (K : Below A base (env :: outer) g) (F : Fr g L' h m') (N : News g L' h news) (hf : env'.frame = some L') (hk : env'.scope.kind = .function) (FG : Fr h₀ L g m)
    (hkeep : ∀ b o, h.get? b = some o → s.heap.get? b = some o) (hnew : h.get? e = none) (he : s.heap.get? e = some oe) (hc : oe.cls = .ref 45) (hd : oe.data = .fields vs) (h1 : vs[1]? = some .none) (h0 : vs[0]? = some a0)
    (hs : ∀ p ∈ keep, p ∈ news)
    (hq : ∀ h', Blow base h₀ L m keep env outer e h' → Q () { s with heap := h' }) : wpAny M (A.deeper env') (leaving env' (.ref e)) Q E s := by
  have K' := pushX K F hf hk
  have hin : ∀ v ∈ (env' :: env :: outer), ∀ b, v.frame = some b → b ∈ (env' :: env :: outer).filterMap (·.frame) := fun v hv b hb => List.mem_filterMap.mpr ⟨v, hv, hb⟩
  have stB : base.StaysIn (hideAll h ((env' :: env :: outer).filterMap (·.frame))) := fun b o q => hideAll_get _ (K'.stays b o q) fun hm => by
    rw [(K'.frames.mem hm).1] at q; cases q
  have hen : (hideAll h ((env' :: env :: outer).filterMap (·.frame))).get? e = none := by
    cases q : (hideAll h ((env' :: env :: outer).filterMap (·.frame))).get? e with
    | none => rfl
    | some o => have := of_hideAll _ q; rw [hnew] at this; cases this
  have hg0 : g.get? L' = none := by
    cases q : g.get? L' with
    | none => rfl
    | some o => exact absurd (Nat.lt_of_lt_of_le (Heap.lt_size q) F.above) (Nat.lt_irrefl _)
  refine wpAny_leaving_firstW (a0 := a0) K'.stack ((funFrames_hide K'.frames hin).of_keeps fun b o hb _ => ⟨o, hkeep b o hb, rfl⟩) hf he (fun b o hb => hkeep b o (of_hideAll _ hb)) hen hd h1 h0 fun h' hL => ?_
  obtain ⟨k1, ⟨_, _, k2⟩, k3, k4⟩ := hL
  have up : g.UpToSlots h' := ((Heap.UpToSlots.of_keeps F.keep).trans (Heap.UpToSlots.of_keeps hkeep)).trans k4
  rw [hc] at k3
  refine hq h' ⟨up.ns FG.ns, (Heap.UpToSlots.of_keeps FG.keep).trans up, _, a0, .none, stB, fun b o hb hn => ?_, fun p hp => ?_, k1, hen, k2, k3⟩
  · refine hideAll_get _ (F.keep b o (FG.keep b o hb)) fun hm => ?_
    rw [List.filterMap_cons, hf] at hm
    rcases List.mem_cons.mp hm with q | q
    · rw [← q, FG.keep b o hb] at hg0; cases hg0
    · exact hn q
  · have z := N p (hs p hp)
    refine hideAll_get _ z.1 fun hm => ?_
    rw [List.filterMap_cons, hf] at hm
    rcases List.mem_cons.mp hm with q | q
    · exact z.2.1 q
    · obtain ⟨v, hv, hfv⟩ := List.mem_filterMap.mp q
      obtain ⟨o, ho, _⟩ := (K.frames.mem (List.mem_filterMap.mpr ⟨v, hv, hfv⟩)).2
      rw [z.2.2] at ho; cases ho

/-- an object of the ledger that is no part of what is kept may turn -/
theorem Blow.turn {C : Addr} {oC : Obj} {h1 h2 : Heap} (X : Blow base h₀ L m ((C, oC) :: keep) env outer e h1) (hCL : L ≠ C) (hC₀ : h₀.get? C = none) (hCb : base.get? C = none) (hk : ∀ p ∈ keep, p.1 ≠ C) (hs : Heap.SameBut C h1 h2) :
    Blow base h₀ L m keep env outer e h2 := by
  obtain ⟨x1, x2, B, a0, fl, y1, y2, y3, y4, y5, y6, y7⟩ := X
  have hBC : B.get? C = some oC := y3 _ List.mem_cons_self
  have nC : C ∉ (env :: outer).filterMap (·.frame) := fun hm => by rw [(y6.mem hm).1] at hBC; cases hBC
  have ne : ∀ b, b ≠ C → h2.get? b = h1.get? b := fun b hb => hs.2 b hb
  have hide : ∀ b o, B.get? b = some o → b ≠ C → (B.hide C).get? b = some o := fun b o q z => (Heap.hide_ne B z).trans q
  have none' : ∀ b, B.get? b = none → (B.hide C).get? b = none := fun b q => by
    cases z : (B.hide C).get? b with
    | none => rfl
    | some o => rw [Heap.of_hide z] at q; cases q
  have frames : ∀ l : List Env, C ∉ l.filterMap (·.frame) → h1.FunFrames B l → h2.FunFrames (B.hide C) l := by
    intro l
    induction l with
    | nil => intro _ _; trivial
    | cons v r ih =>
      intro hn hfr
      obtain ⟨a1, ⟨L1, o, a2, a3, a4, a5⟩, a6⟩ := hfr
      rw [List.filterMap_cons, a2] at hn
      refine ⟨a1, ⟨L1, o, a2, none' _ a3, (ne L1 fun q => hn (by rw [← q]; exact List.mem_cons_self)).trans a4, a5⟩, ih (fun q => hn (List.mem_cons_of_mem _ q)) a6⟩
  obtain ⟨oe, vs, T, oT, ts, b1, b2, b3, b4, b5, b6, b7, b8, b9⟩ := y7
  have eC : e ≠ C := fun q => by rw [q, hBC] at y5; cases y5
  have TC : T ≠ C := fun q => by rw [q, hBC] at b5; cases b5
  refine ⟨x1.sameBut hs hCL, fun b o hb hn => ?_, B.hide C, a0, fl, fun b o q => hide b o (y1 b o q) fun z => (by rw [z, hCb] at q; cases q), fun b o q hn => hide b o (y2 b o q hn) fun z => (by rw [z, hC₀] at q; cases q),
    fun p hp => hide _ _ (y3 p (List.mem_cons_of_mem _ hp)) (hk p hp), fun b o q => (ne b fun z => (by rw [z, Heap.hide_self] at q; cases q)).trans (y4 b o (Heap.of_hide q)), none' _ y5, frames _ nC y6,
    oe, vs, T, oT, ts, (ne e eC).trans b1, b2, b3, b4, none' _ b5, b6, (ne T TC).trans b7, b8, b9⟩
  obtain ⟨sl, q⟩ := x2 b o hb hn
  exact ⟨sl, (ne b fun z => by rw [z, hC₀] at hb; cases hb).trans q⟩

theorem fr_none {h : Heap} {g : Heap} {L' : Addr} {m' : Str → Option Value} (F : Fr g L' h m') : g.get? L' = none := by
  cases q : g.get? L' with
  | none => rfl
  | some o => exact absurd (Nat.lt_of_lt_of_le (Heap.lt_size q) F.above) (Nat.lt_irrefl _)
end
end Mine
end

section
/- part Comp -/
open PySem PySem.W PyProof.Rows PySem.Calls PySem.Spec
namespace Mine
section
variable {prog : Program} {w : World} {A : Around} {E : Value → Shared → Prop} {s : Shared} {base h₀ : Heap} {L : Addr} {m : Str → Option Value} {env : Env} {outer : List Env} {keep : List (Addr × Obj)}

/-- a turn of a block came to its end -/
noncomputable def CEnd (h₀ : Heap) (L : Addr) (m : Str → Option Value) (I : Addr) (oI : Obj) (C : Addr) (oC : Obj) (D : Addr) (oD : Obj) (S : Value → List (Addr × Obj) → Prop) (s₁ : Shared) (y : Value) (s₂ : Shared) : Prop :=
  ∃ h' tk news', s₂ = { s₁ with heap := h', toks := tk } ∧ Fr h₀ L h' m ∧ News h₀ L h' ((I, oI) :: (C, oC) :: (D, oD) :: news') ∧ LCg.Off3 I C D news' ∧ S y news'

/-- a turn of a block raised -/
noncomputable def CErr (Fl : Prop) (base h₀ : Heap) (L : Addr) (m : Str → Option Value) (keep : List (Addr × Obj)) (env : Env) (outer : List Env) (C : Addr) (oC : Obj) (s₁ : Shared) (v : Value) (s₂ : Shared) : Prop :=
  Fl ∧ ∃ e h' tk, v = .ref e ∧ s₂ = { s₁ with heap := h', toks := tk } ∧ Blow base h₀ L m ((C, oC) :: keep) env outer e h'

/-- the ground of a block: its source, its state S (turns, what came, the ledger), its turns -/
noncomputable def CReady (prog : Program) (w : World) (A : Around) (Fl : Prop) (base h₀ : Heap) (L : Addr) (m : Str → Option Value) (keep : List (Addr × Obj)) (env : Env) (outer : List Env) (elt : Expr) (x : Str) (scope : Scope) (cl : List (Str × Addr))
    (n : Nat) (S : Nat → List Value → List (Addr × Obj) → Prop) (it : Value) (s₂ : Shared) : Prop :=
  ∃ I fp P St news, it = .ref I ∧ Walks prog w A I fp [I] n P St ∧ n ≤ sizeLine ∧ (∀ i h, St i h → ∃ o, h.get? I = some o) ∧
    (∀ i ys h h' o nw, St i h → h.get? I = some o → h'.get? I = some o → (∀ b o, h₀.get? b = some o → h'.get? b = some o) → News h₀ L h' nw → S i ys nw → St i h') ∧
    St 0 s₂.heap ∧ (∀ b ∈ fp, b < s₂.heap.objs.size) ∧ Fr h₀ L s₂.heap m ∧ News h₀ L s₂.heap news ∧ L ≠ I ∧ h₀.get? I = none ∧ (∀ p ∈ news, p.1 ≠ I) ∧ S 0 [] news ∧
    (∀ i ys nw v oI C oC D m₂ h tk, i < n → ys.length = i → P i v → S i ys nw → LCg.NsObj oC m₂ → m₂ x = some v → Fr h₀ L h m → News h₀ L h ((I, oI) :: (C, oC) :: (D, LCg.lst ys) :: nw) → LCg.Off3 I C D nw → (@Ne Nat I C ∧ @Ne Nat I D ∧ @Ne Nat C D) →
      wpAny (model prog w) A (eval elt (compEnvC scope cl C env)) (CEnd h₀ L m I oI C oC D (LCg.lst ys) (fun y nw' => S (i + 1) (ys ++ [y]) nw') { s₂ with heap := h, toks := tk })
        (CErr Fl base h₀ L m keep env outer C oC { s₂ with heap := h, toks := tk }) { s₂ with heap := h, toks := tk })

theorem comp_err {Fl : Prop} {use : Option (Value → Sem Unit)} {Q : Value → Shared → Prop} {acc : Value} {scope : Scope} {cl : List (Str × Addr)} {C : Addr} {oC : Obj} {mC : Str → Option Value} {s₁ s₂ : Shared} {v : Value}
    (hfr : A.frames = some (env :: outer)) (hf : env.frame = some L) (hC : LCg.NsObj oC mC) (hCL : C ≠ L) (hC₀ : h₀.get? C = none) (hCb : base.get? C = none) (hk : ∀ p ∈ keep, p.1 ≠ C)
    (hE : Fl → ∀ e h' tk, Blow base h₀ L m keep env outer e h' → E (.ref e) { s₁ with heap := h', toks := tk }) (X : CErr Fl base h₀ L m keep env outer C oC s₁ v s₂) :
    notedBy (model prog w) A (compEnvC scope cl C env) (fun e s' => compPost (model prog w) A E use Q acc C (.error e) s') v s₂ := by
  obtain ⟨hFl, e, h', tk, rfl, rfl, X⟩ := X
  refine blow_note (s := { s₁ with heap := h', toks := tk }) X hfr hf hf fun h1 X1 => ?_
  have hn : h1.Ns C mC := hC.ns (X1.at (List.mem_cons_self))
  have fin : ∃ m', h1.Ns C m' ∧ ∀ h2, Heap.SameBut C h1 h2 → ∀ cenv : Env, cenv.locals = C → wpAny (model prog w) A (PySem.passOn "comprehension.variables-let-go" (.ref e) cenv : Sem Value) (fun _ _ => False) E { s₁ with heap := h2, toks := tk } := by
    refine ⟨mC, hn, fun h2 hs cenv _ => ?_⟩
    exact blow_pass (s := { s₁ with heap := h2, toks := tk }) (X1.turn (Ne.symm hCL) hC₀ hCb hk hs) fun h3 X3 => hE hFl e h3 tk X3
  cases use <;> exact fin

theorem block {Fl : Prop} {elt iter : PySem.Expr} {x : Str} {px : Pos} {scope : Scope} {cl : List (Str × Addr)} {pos : Pos} {s₂ : Shared} {n : Nat} {S : Nat → List Value → List (Addr × Obj) → Prop} {it : Value} {use : Option (Value → Sem Unit)} {Q : Value → Shared → Prop}
    (hfr : A.frames = some (env :: outer)) (hf : env.frame = some L) (hB : base.StaysIn h₀) (hkS : ∀ i ys nw, S i ys nw → ∀ p ∈ keep, p ∈ nw)
    (hcell : ∀ y ∈ scope.names, y.2 ≠ .cell) (hkind : scope.kind = .function) (hx : scope.names.lookup x = some .local)
    (R : CReady prog w A Fl base h₀ L m keep env outer elt x scope cl n S it s₂)
    (hE : Fl → ∀ e h' tk, Blow base h₀ L m keep env outer e h' → E (.ref e) { s₂ with heap := h', toks := tk })
    (done : ∀ D C h tk m' ys nw, s₂.heap.objs.size ≤ D → Fr h₀ L h m → News h₀ L h ((D, LCg.lst ys) :: nw) → LCg.Off1 D nw → h.Ns C m' → h₀.get? C = none → h₀.get? D = none → C ≠ L → D ≠ L → C ≠ D → (∀ p ∈ nw, p.1 ≠ C) → ys.length = n → S n ys nw →
      compPost (model prog w) A E use Q (.ref D) C (.ok .next) { s₂ with heap := h, toks := tk }) :
    wpAny (model prog w) A (newList []) (fun acc s₃ => wpAny (model prog w) A (newFunctionEnv scope env.globals cl [] env.qual none .none (some env)) (fun cenv s₄ =>
      codeAny (model prog w) A (.compStart (.ListComp elt [⟨.Name x px, iter, [], 0⟩] scope pos) 0 it acc { cenv with scope := relabel scope env }) (compPost (model prog w) A E use Q acc cenv.locals) s₄) E s₃) E s₂ := by
  obtain ⟨I, fp, P, St, news, rfl, W, hsz, hIo, hSt, hst, hfp, F, N, hIL, hI₀, off, hS, turn⟩ := R
  refine wpAny_newObj_type (wpAny_newFunctionEnv hcell (by intro y hy; simp at hy) (fun h₁ hns₁ hsb₁ => ?_) hkind)
  dsimp only at hns₁ hsb₁ ⊢
  generalize hH2 : s₂.heap.push { cls := .type "list", dict := none, data := .seq ([] : List Value).toArray } = H2 at hns₁ hsb₁ ⊢
  have hC : H2.objs.size = s₂.heap.objs.size + 1 := by rw [← hH2, Heap.size_push]
  have hDC : s₂.heap.objs.size ≠ H2.objs.size := by rw [hC]; exact Nat.ne_of_lt (Nat.lt_succ_self _)
  have below : ∀ b, b < s₂.heap.objs.size → b ≠ H2.objs.size ∧ b ≠ s₂.heap.objs.size := fun b hb => ⟨by rw [hC]; exact Nat.ne_of_lt (Nat.lt_succ_of_lt hb), Nat.ne_of_lt hb⟩
  have hDf : s₂.heap.objs.size ∉ fp := fun hm => Nat.lt_irrefl _ (hfp _ hm)
  have hCf : H2.objs.size ∉ fp := fun hm => by have := hfp _ hm; rw [hC] at this; exact Nat.lt_irrefl _ (Nat.lt_of_succ_lt this)
  have hIf : I ∈ fp := W.sub I (List.mem_singleton.mpr rfl)
  have hIlt : I < s₂.heap.objs.size := hfp I hIf
  have old : ∀ b o, s₂.heap.get? b = some o → h₁.get? b = some o := fun b o e => hsb₁.extBut b o (below b (Heap.lt_size e)).1 (Heap.get?_push_of_some _ (hH2 ▸ Heap.get?_push_of_some _ e))
  have hacc : h₁.get? s₂.heap.objs.size = some (LCg.lst []) := hsb₁.extBut _ _ hDC (Heap.get?_push_of_some _ (hH2 ▸ Heap.get?_push_size _ rfl))
  have hst₁ : St 0 h₁ := W.frame _ _ _ hst fun b _ o e => old b o e
  have fresh₀ : ∀ a, s₂.heap.objs.size ≤ a → h₀.get? a = none := fun a ha => by
    cases e : h₀.get? a with
    | none => rfl
    | some o' => exact absurd (Heap.lt_size (F.keep a o' e)) (Nat.not_lt.mpr ha)
  have hD₀ : h₀.get? s₂.heap.objs.size = none := fresh₀ _ (Nat.le_refl _)
  have hC₀ : h₀.get? H2.objs.size = none := fresh₀ _ (by rw [hC]; exact Nat.le_succ _)
  have hCb : base.get? H2.objs.size = none := by
    cases e : base.get? H2.objs.size with
    | none => rfl
    | some o => have := hB _ _ e; rw [hC₀] at this; cases this
  have hLlt : L < s₂.heap.objs.size := F.ns.lt
  have hDL : s₂.heap.objs.size ≠ L := Ne.symm (below L hLlt).2
  have hCL : H2.objs.size ≠ L := Ne.symm (below L hLlt).1
  have hCI : I ≠ H2.objs.size := (below I hIlt).1
  have hDI : I ≠ s₂.heap.objs.size := (below I hIlt).2
  have off₀ : LCg.Off3 I H2.objs.size s₂.heap.objs.size news := LCg.Off3.of fun p hp => ⟨off p hp, (below _ (Heap.lt_size (N p hp).1)).1, (below _ (Heap.lt_size (N p hp).1)).2⟩
  have loop : ∀ s₃ : Shared, s₃ = { s₂ with heap := h₁, toks := s₂.toks + ([] : List (Str × Value)).length } →
      codeAny (model prog w) A (.compLoop (.ListComp elt [⟨.Name x px, iter, [], 0⟩] scope pos) 0 (.ref I) (.ref s₂.heap.objs.size) (compEnvC scope cl H2.objs.size env))
        (compPost (model prog w) A E use Q (.ref s₂.heap.objs.size) H2.objs.size) s₃ := by
    rintro s₃ rfl
    refine codeAny_compLoop_tests
      (fun k s' => ∃ h' tk i ys m' nw, s' = { s₂ with heap := h', toks := tk } ∧ i ≤ n ∧ k = n + 1 - i ∧ ys.length = i ∧ St i h' ∧ Fr h₀ L h' m ∧ h'.Ns H2.objs.size m' ∧ News h₀ L h' ((s₂.heap.objs.size, LCg.lst ys) :: nw) ∧
        LCg.Off3 I H2.objs.size s₂.heap.objs.size nw ∧ S i ys nw) ?_ (n + 1)
      ⟨h₁, _, 0, [], _, news, rfl, Nat.zero_le _, rfl, rfl, hst₁, F.keeps old, hns₁, fun p hp => ?_, off₀, hS⟩
    · rintro k s' ⟨h', tk, i, ys, m', nw, rfl, hi, rfl, hyl, hst', F', hn', N', off', hS'⟩
      have off3 := off'.mem
      by_cases hlt : i < n
      · refine W.item i _ _ _ hlt hst' fun v h₂ tk₂ hPv hst₂ hk₂ => ?_
        refine wpAny_assign_Name (wpAny_storeName_local (lookup_relabel_local hx) (hn'.at' fun o e => hk₂ _ o (by simpa using Ne.symm hCI) e) (fun h₃ hn₃ hs₃ => ?_) (by simp [compEnvC, relabel, hkind]))
        refine wpAny_tests_nil ?_
        simp only [if_true]
        have hst₃ : St (i + 1) h₃ := W.frame _ _ _ hst₂ fun b hb o e => hs₃.extBut b o (fun q => hCf (by have q' : b = H2.objs.size := q; rw [← q']; exact hb)) e
        obtain ⟨oI, heI⟩ := hIo _ _ hst₃
        obtain ⟨oC, heC, hoC⟩ := LCg.ns_obj hn₃
        have F₃ : Fr h₀ L h₃ m := (LCg.fr_but F' hk₂ hIL hI₀).change hs₃ hCL hC₀
        have N₂ : News h₀ L h₂ ((s₂.heap.objs.size, LCg.lst ys) :: nw) := LCg.news_but N' hk₂ fun p hp => by
          rcases List.mem_cons.mp hp with rfl | hp
          · exact Ne.symm hDI
          · exact (off3 p hp).1
        have N₃ : News h₀ L h₃ ((I, oI) :: (H2.objs.size, oC) :: (s₂.heap.objs.size, LCg.lst ys) :: nw) := fun p hp => by
          rcases List.mem_cons.mp hp with rfl | hp
          · exact ⟨heI, Ne.symm hIL, hI₀⟩
          · rcases List.mem_cons.mp hp with rfl | hp
            · exact ⟨heC, hCL, hC₀⟩
            · have z := N₂ p hp
              refine ⟨hs₃.extBut _ _ ?_ z.1, z.2⟩
              rcases List.mem_cons.mp hp with rfl | hp
              · exact hDC
              · exact (off3 p hp).2.1
        refine wpAny_mono (turn i ys nw v oI H2.objs.size oC s₂.heap.objs.size _ h₃ _ hlt hyl hPv hS' hoC (by simp) F₃ N₃ off' ⟨hCI, hDI, Ne.symm hDC⟩) (fun y s₄ h₄ => ?_) fun v s' X =>
          comp_err (s₁ := { s₂ with heap := h₃, toks := _ }) hfr hf hoC hCL hC₀ hCb (fun p hp => (off3 p (hkS _ _ _ hS' p hp)).2.1) (fun hFl e h' tk X' => hE hFl e h' tk X') X
        obtain ⟨h₄, tk₄, news₄, rfl, F₄, N₄, off₄, hS₄⟩ := h₄
        have zI := (N₄ (I, oI) List.mem_cons_self).1
        have zC := (N₄ (H2.objs.size, oC) (List.mem_cons_of_mem _ List.mem_cons_self)).1
        have zD := (N₄ (s₂.heap.objs.size, LCg.lst ys) (List.mem_cons_of_mem _ (List.mem_cons_of_mem _ List.mem_cons_self))).1
        have N₄' : News h₀ L h₄ news₄ := fun p hp => N₄ p (List.mem_cons_of_mem _ (List.mem_cons_of_mem _ (List.mem_cons_of_mem _ hp)))
        have hst₄ : St (i + 1) h₄ := hSt _ _ _ _ _ _ hst₃ heI zI F₄.keep N₄' hS₄
        refine append_at (hsz := by show ys.toArray.size ≤ sizeLine; rw [List.size_toArray, hyl]; exact Nat.le_trans hi hsz) zD fun h₅ hs₅ hD₅ => ?_
        have off4 := off₄.mem
        refine ⟨n + 1 - (i + 1), by omega, h₅, tk₄, i + 1, ys ++ [y], _, news₄, rfl, hlt, rfl, by rw [List.length_append, List.length_singleton, hyl], W.frame _ _ _ hst₄ fun b hb o e => hs₅.extBut b o (fun q => hDf (q ▸ hb)) e, F₄.change hs₅ hDL hD₀,
          (hoC.ns zC).sameBut hs₅ (Ne.symm hDC), fun p hp => ?_, off₄, hS₄⟩
        rcases List.mem_cons.mp hp with rfl | hp
        · exact ⟨hD₅.trans (congrArg some (LCg.lst_snoc ys y)), hDL, hD₀⟩
        · exact ⟨hs₅.extBut _ _ (off4 p hp).2.2 (N₄' p hp).1, (N₄' p hp).2⟩
      · obtain rfl : i = n := Nat.le_antisymm hi (Nat.not_lt.mp hlt)
        refine W.done _ _ _ hst' fun h₂ tk₂ hk₂ => ?_
        exact done _ _ h₂ tk₂ _ ys nw (Nat.le_refl _) (LCg.fr_but F' hk₂ hIL hI₀) (LCg.news_but N' hk₂ fun p hp => by
          rcases List.mem_cons.mp hp with rfl | hp
          · exact Ne.symm hDI
          · exact (off3 p hp).1) off'.one (hn'.at' fun o e => hk₂ _ o (by simpa using Ne.symm hCI) e) hC₀ hD₀ hCL hDL (Ne.symm hDC) (fun p hp => (off3 p hp).2.1) hyl hS'
    · rcases List.mem_cons.mp hp with rfl | hp
      · exact ⟨hacc, hDL, hD₀⟩
      · exact ⟨old _ _ (N p hp).1, (N p hp).2⟩
  exact codeAny_compStart_list (loop _ rfl) (W.self 0 _ _ _ hst₁ (loop _ rfl))

/-- a block is ready to go: its turns, what may be raised, what stands behind it -/
noncomputable def CGo (prog : Program) (w : World) (A : Around) (E : Value → Shared → Prop) (base h₀ : Heap) (L : Addr) (m : Str → Option Value) (env : Env) (outer : List Env) (elt : PySem.Expr) (x : Str) (scope : Scope) (cl : List (Str × Addr))
    (mF : Addr → Str → Option Value) (Dn : Addr → Shared → Prop) (it : Value) (s₂ : Shared) : Prop :=
  ∃ Fl keep n S, (∀ i ys nw, S i ys nw → ∀ p ∈ keep, p ∈ nw) ∧ CReady prog w A Fl base h₀ L m keep env outer elt x scope cl n S it s₂ ∧
    (Fl → ∀ e h' tk, Blow base h₀ L m keep env outer e h' → E (.ref e) { s₂ with heap := h', toks := tk }) ∧
    ∀ D h tk ys nw, s₂.heap.objs.size ≤ D → Fr h₀ L h (mF D) → News h₀ L h ((D, LCg.lst ys) :: nw) → LCg.Off1 D nw → ys.length = n → S n ys nw → Dn D { s₂ with heap := h, toks := tk }

/-- a comprehension as an expression -/
theorem comp_eval {elt iter : PySem.Expr} {x : Str} {px : Pos} {scope : Scope} {cl : List (Str × Addr)} {pos : Pos} {Q : Value → Shared → Prop}
    (_F₀ : Fr h₀ L s.heap m) (hfr : A.frames = some (env :: outer)) (hf : env.frame = some L) (hB : base.StaysIn h₀)
    (hclos : closureFor scope env = pure cl) (hcell : ∀ y ∈ scope.names, y.2 ≠ .cell) (hkind : scope.kind = .function)
    (hnames : ∀ y ∈ scope.names, y.2 = .local → scope.names.lookup y.1 = some .local) (hx : scope.names.lookup x = some .local)
    (h : wpAny (model prog w) A (eval iter env) (fun xv s₁ => wpAny (model prog w) A (pyIter xv) (CGo prog w A E base h₀ L m env outer elt x scope cl (fun _ => m) (fun D s' => Q (.ref D) s')) E s₁) E s)
    (hs : ∀ x, foldedSetIterable iter env x = pure x := by intro _; rfl) :
    wpAny (model prog w) A (eval (.ListComp elt [⟨.Name x px, iter, [], 0⟩] scope pos) env) Q E s := by
  rw [eval_ListComp]
  refine wpAny_comprehension_free (use := none) rfl hs hclos hkind hnames (wpAny_mono h (fun xv s₁ h₁ => wpAny_mono h₁ (fun it s₂ h₂ => ?_) fun _ _ e => e) fun _ _ e => e)
  obtain ⟨Fl, keep, n, S, hkS, R, hE, hQ⟩ := h₂
  refine block hfr hf hB hkS hcell hkind hx R hE fun D C h tk m' ys nw hDl F' N' o1 hn hC₀ hD₀ hCL hDL hCD offC hl hS => ?_
  refine ⟨m', hn, fun h'' hs'' => hQ D h'' tk ys nw hDl (F'.change hs'' hCL hC₀) (fun p hp => ?_) o1 hl hS⟩
  refine ⟨hs''.extBut _ _ ?_ (N' p hp).1, (N' p hp).2⟩
  rcases List.mem_cons.mp hp with rfl | hp
  · exact Ne.symm hCD
  · exact offC p hp

/-- a comprehension that a name is bound to -/
theorem comp_assign {elt iter : PySem.Expr} {x y : Str} {px py : Pos} {scope : Scope} {cl : List (Str × Addr)} {pos spos : Pos} {Q : Flow → Shared → Prop}
    (_F₀ : Fr h₀ L s.heap m) (hLe : env.locals = L) (hsw : swapsWith (.ListComp elt [⟨.Name x px, iter, [], 0⟩] scope pos) (some (.Name y py)) spos.line env = pure true)
    (hfr : A.frames = some (env :: outer)) (hf : env.frame = some L) (hB : base.StaysIn h₀)
    (hclos : closureFor scope env = pure cl) (hcell : ∀ y ∈ scope.names, y.2 ≠ .cell) (hkind : scope.kind = .function)
    (hnames : ∀ y ∈ scope.names, y.2 = .local → scope.names.lookup y.1 = some .local) (hx : scope.names.lookup x = some .local)
    (hy : env.kindOf y = some .local) (hp : (env.scope.kind == .class || (env.scope.kind == .module && env.locals != env.globals)) = false)
    (h : wpAny (model prog w) A (eval iter env) (fun xv s₁ => wpAny (model prog w) A (pyIter xv) (CGo prog w A E base h₀ L m env outer elt x scope cl (fun D z => if z = y then some (.ref D) else m z) (fun _ s' => Q .next s')) E s₁) E s)
    (hs : ∀ x, foldedSetIterable iter env x = pure x := by intro _; rfl) :
    wpAny (model prog w) A (exec (.Assign [.Name y py] (.ListComp elt [⟨.Name x px, iter, [], 0⟩] scope pos) spos) env) Q E s := by
  subst hLe
  rw [exec_Assign_Name_used _ _ _ _ hsw]
  refine wpAny_bind (wpAny_standAt (wpAny_bind ?_))
  show wpAny _ A (do let _ ← comprehension (.ListComp elt [⟨.Name x px, iter, [], 0⟩] scope pos) scope env _ (newList []) false (eval iter env) (some (assign (.Name y py) env))) _ _ s
  refine wpAny_bind (wpAny_mono (wpAny_comprehension_free (use := some (assign (.Name y py) env)) (Q := fun _ s' => Q .next s') rfl hs hclos hkind hnames
    (wpAny_mono h (fun xv s₁ h₁ => wpAny_mono h₁ (fun it s₂ h₂ => ?_) fun _ _ e => e) fun _ _ e => e)) (fun _ s' hq => wpAny_pure (wpAny_pure hq)) fun _ _ e => e)
  obtain ⟨Fl, keep, n, S, hkS, R, hE, hQ⟩ := h₂
  refine block hfr hf hB hkS hcell hkind hx R hE fun D C h' tk m' ys nw hDl F' N' o1 hn hC₀ hD₀ hCL hDL hCD offC hl hS => ?_
  show wpAny _ A (assign (.Name y py) env (.ref D)) _ _ _
  refine wpAny_assign_Name (wpAny_storeName_local hy F'.ns (fun h₂ hn₂ hs₂ => ?_) hp)
  have hL₀ : h₀.get? env.locals = none := Heap.get?_none_of_le F'.above
  have F₂ : Fr h₀ env.locals h₂ (fun z => if z = y then some (.ref D) else m z) := ⟨hn₂, fun b o e => hs₂.extBut b o (fun q => by rw [q, hL₀] at e; cases e) (F'.keep b o e), F'.above⟩
  refine ⟨m', hn.sameBut hs₂ hCL, fun h'' hs'' => hQ D h'' _ ys nw hDl (F₂.change hs'' hCL hC₀) (fun p hp => ?_) o1 hl hS⟩
  have z : h₂.get? p.1 = some p.2 := hs₂.extBut _ _ (N' p hp).2.1 (N' p hp).1
  refine ⟨hs''.extBut _ _ ?_ z, (N' p hp).2⟩
  rcases List.mem_cons.mp hp with rfl | hp
  · exact Ne.symm hCD
  · exact offC p hp
end
end Mine
end

section
/- part Src -/
open PySem PySem.W PyProof.Rows PySem.Calls PySem.Spec
namespace Mine
section
variable {prog : Program} {w : World} {A : Around} {E : Value → Shared → Prop} {s : Shared} {base h₀ : Heap} {L : Addr} {m : Str → Option Value} {env : Env} {outer : List Env} {keep news : List (Addr × Obj)}
  {elt : PySem.Expr} {x : Str} {scope : Scope} {cl : List (Str × Addr)} {S : Nat → List Value → List (Addr × Obj) → Prop} {Fl : Prop} {E' : Value → Shared → Prop} {mF : Addr → Str → Option Value} {Dn : Addr → Shared → Prop}

theorem src_list {ax : Addr} {its : Array Value} {k : Nat} (hh : A.handled = none) (F : Fr h₀ L s.heap m) (N : News h₀ L s.heap news) (hm : (ax, listOf its k) ∈ news) (hsz : its.size ≤ sizeLine)
    (hS : S 0 [] news) (hSm : ∀ i ys nw, S i ys nw → (ax, listOf its k) ∈ nw)
    (turn : ∀ i ys nw v I oI oC C D m₂ h tk, its[i]? = some v → ys.length = i → S i ys nw → LCg.NsObj oC m₂ → m₂ x = some v → Fr h₀ L h m → News h₀ L h ((I, oI) :: (C, oC) :: (D, LCg.lst ys) :: nw) → LCg.Off3 I C D nw → (@Ne Nat I C ∧ @Ne Nat I D ∧ @Ne Nat C D) →
      wpAny (model prog w) A (eval elt (compEnvC scope cl C env)) (CEnd h₀ L m I oI C oC D (LCg.lst ys) (fun y nw' => S (i + 1) (ys ++ [y]) nw') { s with heap := h, toks := tk })
        (CErr Fl base h₀ L m keep env outer C oC { s with heap := h, toks := tk }) { s with heap := h, toks := tk })
    (hkS : ∀ i ys nw, S i ys nw → ∀ p ∈ keep, p ∈ nw) (hE : Fl → ∀ e h' tk, Blow base h₀ L m keep env outer e h' → E' (.ref e) { s with heap := h', toks := tk })
    (done : ∀ D h tk ys nw, (∀ p ∈ news, @LT.lt Nat _ p.1 D) → Fr h₀ L h (mF D) → News h₀ L h ((D, LCg.lst ys) :: nw) → LCg.Off1 D nw → ys.length = its.size → S (its.size) ys nw → Dn D { s with heap := h, toks := tk }) :
    wpAny (model prog w) A (pyIter (.ref ax)) (CGo prog w A E' base h₀ L m env outer elt x scope cl mF Dn) E s := by
  have hl := N.isList hm
  have hlt : ax < s.heap.objs.size := by obtain ⟨_, e, _⟩ := hl; exact Heap.lt_size e
  refine wpAny_pyIter_list hl ⟨Fl, keep, _, S, hkS, ?_, hE, fun D h tk ys nw hD => done D h tk ys nw fun p hp => Nat.lt_of_lt_of_le (Nat.lt_trans (Heap.lt_size (N p hp).1) (by show s.heap.objs.size < (s.heap.push _).objs.size; rw [Heap.size_push]; exact Nat.lt_succ_self _)) hD⟩
  have up : ∀ b o, s.heap.get? b = some o → (s.heap.push { cls := .type "list_iterator", data := .fields #[.ref ax, .int 0 0] }).get? b = some o := fun b o e => Heap.get?_push_of_some _ e
  refine ⟨s.heap.objs.size, _, _, _, news, rfl, Walks.list hh s.heap.objs.size ax (Nat.ne_of_lt hlt) its, hsz, fun i h st => ?_, fun i ys h h' o nw st e e' k N S' => ?_, ⟨⟨_, Heap.get?_push_size _ rfl, rfl, rfl⟩, hl.push _⟩, fun b hb => ?_, F.keeps up, N.grown up,
    Nat.ne_of_lt F.ns.lt, next_is_new F, fun p hp => Nat.ne_of_lt (Heap.lt_size (N p hp).1), hS, fun i ys nw v oI C oC D m₂ h tk hi hy hP => turn i ys nw v _ oI oC C D m₂ h tk hP hy⟩
  · obtain ⟨o, e, _⟩ := st.1; exact ⟨o, e⟩
  · exact ⟨by obtain ⟨o', q, r⟩ := st.1; rw [e] at q; cases q; exact ⟨o, e', r⟩, N.isList (hSm _ _ _ S')⟩
  · show b < (s.heap.push _).objs.size
    rw [Heap.size_push]
    rcases List.mem_cons.mp hb with rfl | hb
    · exact Nat.lt_succ_self _
    · rw [List.mem_singleton.mp hb]; exact Nat.lt_succ_of_lt hlt

theorem src_tup {ax : Addr} {its : Array Value} {k : Nat} (hh : A.handled = none) (F : Fr h₀ L s.heap m) (N : News h₀ L s.heap news) (hm : (ax, ({ cls := .type "tuple", data := .seq its k } : Obj)) ∈ news) (hsz : its.size ≤ sizeLine)
    (hS : S 0 [] news) (hSm : ∀ i ys nw, S i ys nw → (ax, ({ cls := .type "tuple", data := .seq its k } : Obj)) ∈ nw)
    (turn : ∀ i ys nw v I oI oC C D m₂ h tk, its[i]? = some v → ys.length = i → S i ys nw → LCg.NsObj oC m₂ → m₂ x = some v → Fr h₀ L h m → News h₀ L h ((I, oI) :: (C, oC) :: (D, LCg.lst ys) :: nw) → LCg.Off3 I C D nw → (@Ne Nat I C ∧ @Ne Nat I D ∧ @Ne Nat C D) →
      wpAny (model prog w) A (eval elt (compEnvC scope cl C env)) (CEnd h₀ L m I oI C oC D (LCg.lst ys) (fun y nw' => S (i + 1) (ys ++ [y]) nw') { s with heap := h, toks := tk })
        (CErr Fl base h₀ L m keep env outer C oC { s with heap := h, toks := tk }) { s with heap := h, toks := tk })
    (hkS : ∀ i ys nw, S i ys nw → ∀ p ∈ keep, p ∈ nw) (hE : Fl → ∀ e h' tk, Blow base h₀ L m keep env outer e h' → E' (.ref e) { s with heap := h', toks := tk })
    (done : ∀ D h tk ys nw, (∀ p ∈ news, @LT.lt Nat _ p.1 D) → Fr h₀ L h (mF D) → News h₀ L h ((D, LCg.lst ys) :: nw) → LCg.Off1 D nw → ys.length = its.size → S (its.size) ys nw → Dn D { s with heap := h, toks := tk }) :
    wpAny (model prog w) A (pyIter (.ref ax)) (CGo prog w A E' base h₀ L m env outer elt x scope cl mF Dn) E s := by
  have hl : s.heap.IsTuple ax its := ⟨_, (N _ hm).1, rfl, _, rfl⟩
  have hlt : ax < s.heap.objs.size := by obtain ⟨_, e, _⟩ := hl; exact Heap.lt_size e
  refine wpAny_pyIter_tuple hl ⟨Fl, keep, _, S, hkS, ?_, hE, fun D h tk ys nw hD => done D h tk ys nw fun p hp => Nat.lt_of_lt_of_le (Nat.lt_trans (Heap.lt_size (N p hp).1) (by show s.heap.objs.size < (s.heap.push _).objs.size; rw [Heap.size_push]; exact Nat.lt_succ_self _)) hD⟩
  have up : ∀ b o, s.heap.get? b = some o → (s.heap.push { cls := .type "tuple_iterator", data := .fields #[.ref ax, .int 0 0] }).get? b = some o := fun b o e => Heap.get?_push_of_some _ e
  refine ⟨s.heap.objs.size, _, _, _, news, rfl, Walks.tuple hh s.heap.objs.size ax (Nat.ne_of_lt hlt) its, hsz, fun i h st => ?_, fun i ys h h' o nw st e e' k N S' => ?_, ⟨⟨_, Heap.get?_push_size _ rfl, rfl, rfl⟩, hl.at fun o e => up _ _ e⟩, fun b hb => ?_, F.keeps up, N.grown up,
    Nat.ne_of_lt F.ns.lt, next_is_new F, fun p hp => Nat.ne_of_lt (Heap.lt_size (N p hp).1), hS, fun i ys nw v oI C oC D m₂ h tk hi hy hP => turn i ys nw v _ oI oC C D m₂ h tk hP hy⟩
  · obtain ⟨o, e, _⟩ := st.1; exact ⟨o, e⟩
  · exact ⟨by obtain ⟨o', q, r⟩ := st.1; rw [e] at q; cases q; exact ⟨o, e', r⟩, ⟨_, (N _ (hSm _ _ _ S')).1, rfl, _, rfl⟩⟩
  · show b < (s.heap.push _).objs.size
    rw [Heap.size_push]
    rcases List.mem_cons.mp hb with rfl | hb
    · exact Nat.lt_succ_self _
    · rw [List.mem_singleton.mp hb]; exact Nat.lt_succ_of_lt hlt

theorem src_range {r : Addr} {a b : Int} {t u v : Tok} {n : Nat} (hh : A.handled = none) (F : Fr h₀ L s.heap m) (N : News h₀ L s.heap news) (hr : IsRange s.heap r a b 1 t u v) (hsm : Builtin.Range.small a b 1 = true)
    (hn : Builtin.Range.rangeSize a b 1 = ((n : Nat) : Int)) (hsz : n ≤ sizeLine) (hS : S 0 [] news)
    (turn : ∀ i ys nw v I oI oC C D m₂ h tk, (∃ t, v = .int (a + (i : Int)) t) → i < n → ys.length = i → S i ys nw → LCg.NsObj oC m₂ → m₂ x = some v → Fr h₀ L h m → News h₀ L h ((I, oI) :: (C, oC) :: (D, LCg.lst ys) :: nw) → LCg.Off3 I C D nw → (@Ne Nat I C ∧ @Ne Nat I D ∧ @Ne Nat C D) →
      wpAny (model prog w) A (eval elt (compEnvC scope cl C env)) (CEnd h₀ L m I oI C oC D (LCg.lst ys) (fun y nw' => S (i + 1) (ys ++ [y]) nw') { s with heap := h, toks := tk })
        (CErr Fl base h₀ L m keep env outer C oC { s with heap := h, toks := tk }) { s with heap := h, toks := tk })
    (hkS : ∀ i ys nw, S i ys nw → ∀ p ∈ keep, p ∈ nw) (hE : Fl → ∀ e h' tk, Blow base h₀ L m keep env outer e h' → E' (.ref e) { s with heap := h', toks := tk })
    (done : ∀ D h tk ys nw, (∀ p ∈ news, @LT.lt Nat _ p.1 D) → Fr h₀ L h (mF D) → News h₀ L h ((D, LCg.lst ys) :: nw) → LCg.Off1 D nw → ys.length = n → S (n) ys nw → Dn D { s with heap := h, toks := tk }) :
    wpAny (model prog w) A (pyIter (.ref r)) (CGo prog w A E' base h₀ L m env outer elt x scope cl mF Dn) E s := by
  refine wpAny_pyIter_range hr hsm ⟨Fl, keep, _, S, hkS, ?_, hE, fun D h tk ys nw hD => done D h tk ys nw fun p hp => Nat.lt_of_lt_of_le (Nat.lt_trans (Heap.lt_size (N p hp).1) (by show s.heap.objs.size < (s.heap.push _).objs.size; rw [Heap.size_push]; exact Nat.lt_succ_self _)) hD⟩
  refine ⟨s.heap.objs.size, _, _, _, news, rfl, LCg.range_walks hh a n, hsz, fun i h st => ⟨_, st⟩, fun i ys h h' o nw st e e' k N S' => ?_, (by show IsRangeIter _ _ _ _ _; rw [hn]; simpa using Heap.get?_push_size _ rfl), fun b hb => ?_,
    F.keeps fun _ _ e => Heap.get?_push_of_some _ e, N.grown fun _ _ e => Heap.get?_push_of_some _ e,
    Nat.ne_of_lt F.ns.lt, next_is_new F, fun p hp => Nat.ne_of_lt (Heap.lt_size (N p hp).1), hS, fun i ys nw v oI C oC D m₂ h tk hi hy hP => turn i ys nw v _ oI oC C D m₂ h tk hP hi hy⟩
  · have st' : h.get? s.heap.objs.size = some _ := st
    show h'.get? s.heap.objs.size = some _
    rw [e', ← e]; exact st'
  · rw [List.mem_singleton.mp hb]
    show s.heap.objs.size < (s.heap.push _).objs.size
    rw [Heap.size_push]; exact Nat.lt_succ_self _
end
end Mine
end

section
/- part Fors -/
open PySem PySem.W PyProof.Rows PySem.Calls PySem.Spec
namespace Mine
section
variable {prog : Program} {w : World} {A : Around} {E : Value → Shared → Prop} {s : Shared} {h₀ : Heap} {m : Str → Option Value} {env : Env} {news : List (Addr × Obj)} {x : Str} {body : List Stmt} {Q : Flow → Shared → Prop}

/-- a turn of a for came to its end -/
noncomputable def FEnd (h₀ : Heap) (L : Addr) (I : Addr) (oI : Obj) (J : (Str → Option Value) → List (Addr × Obj) → Prop) (s₁ : Shared) (f : Flow) (s₂ : Shared) : Prop :=
  f = .next ∧ ∃ h' tk m₂ nw, s₂ = { s₁ with heap := h', toks := tk } ∧ Fr h₀ L h' m₂ ∧ News h₀ L h' ((I, oI) :: nw) ∧ (∀ p ∈ nw, p.1 ≠ I) ∧ J m₂ nw

theorem for_at (J : Nat → (Str → Option Value) → List (Addr × Obj) → Prop) {I ax : Addr} {oX oI₀ : Obj} {n : Nat} {P : Nat → Value → Prop} {St : Nat → Heap → Prop} (W : Walks prog w A I [I, ax] [I] n P St)
    (hst : St 0 s.heap) (F : Fr h₀ env.locals s.heap m) (N : News h₀ env.locals s.heap ((I, oI₀) :: news)) (hnw : ∀ p ∈ news, p.1 ≠ I) (hax : ∀ i m₁ nw, J i m₁ nw → (ax, oX) ∈ nw) (hIo : ∀ i h, St i h → ∃ o, h.get? I = some o)
    (h0 : J 0 m news)
    (turn : ∀ i v m₁ nw oI (s₁ : Shared), i < n → P i v → J i m₁ nw → Fr h₀ env.locals s₁.heap (fun y => if y = x then some v else m₁ y) → News h₀ env.locals s₁.heap ((I, oI) :: nw) → (∀ p ∈ nw, p.1 ≠ I) →
      wpAny (model prog w) A (execs body env) (FEnd h₀ env.locals I oI (J (i + 1)) s₁) E s₁)
    (hQ : ∀ h' tk m' nw, Fr h₀ env.locals h' m' → News h₀ env.locals h' nw → J n m' nw → Q .next { s with heap := h', toks := tk }) :
    LoopAtU prog w A h₀ env x body Q E (.ref I) s := by
  have hIL : env.locals ≠ I := Ne.symm (N _ List.mem_cons_self).2.1
  have hI₀ : h₀.get? I = none := (N _ List.mem_cons_self).2.2
  have haxm : (ax, oX) ∈ news := hax _ _ _ h0
  have haxL : env.locals ≠ ax := Ne.symm (N _ (List.mem_cons_of_mem _ haxm)).2.1
  refine ⟨I, [I, ax], [I], n, P, St, m, news, J, rfl, W, by simp [hIL, haxL], fun b hb => by rw [List.mem_singleton.mp hb]; exact hI₀, fun p hp q => hnw p hp (List.mem_singleton.mp q), hst, F, fun p hp => N p (List.mem_cons_of_mem _ hp), h0, ?_, fun h' tk m' nw F' N' _ hJ => hQ h' tk m' nw F' N' hJ⟩
  intro i v m₁ nw s₁ own hi hP hJ hoff hsub hget hall hst₁ F₁ N₁
  obtain ⟨oI, heI⟩ := hIo _ _ hst₁
  have hIown : (I, oI) ∈ own := hall I (by simp) hI₀ oI heI
  refine wpAny_mono (turn i v m₁ nw oI s₁ hi hP hJ F₁ (fun p hp => ?_) fun p hp q => hoff p hp (by simp [q])) (fun f s₂ h₂ => ?_) fun _ _ e => e
  · rcases List.mem_cons.mp hp with rfl | hp
    · exact N₁ _ (List.mem_append_left _ hIown)
    · exact N₁ _ (List.mem_append_right _ hp)
  · obtain ⟨rfl, h', tk, m₂, nw', rfl, F₂, N₂, off₂, hJ₂⟩ := h₂
    refine LoopStepU.intro F₂ (fun p hp => ?_) (fun p hp q => off₂ p hp (List.mem_singleton.mp q)) hJ₂
    rcases List.mem_append.mp hp with hp | hp
    · have e1 := hget p hp
      have h2 := hsub p hp
      simp only [List.mem_cons, List.not_mem_nil, or_false] at h2
      obtain ⟨a, o⟩ := p
      rcases h2 with h2 | h2 <;> (dsimp only at h2 e1; subst h2)
      · rw [heI] at e1; cases e1
        exact N₂ _ List.mem_cons_self
      · have e3 := (N₁ _ (List.mem_append_right _ (hax _ _ _ hJ))).1
        have e4 : some o = some oX := e1.symm.trans e3
        cases e4
        exact N₂ _ (List.mem_cons_of_mem _ (hax _ _ _ hJ₂))
    · exact N₂ p (List.mem_cons_of_mem _ hp)

theorem for_list (J : Nat → (Str → Option Value) → List (Addr × Obj) → Prop) {ax : Addr} {its : Array Value} {k : Nat} (hh : A.handled = none) (F : Fr h₀ env.locals s.heap m) (N : News h₀ env.locals s.heap news) (hm : (ax, listOf its k) ∈ news)
    (hax : ∀ i m₁ nw, J i m₁ nw → (ax, listOf its k) ∈ nw) (h0 : J 0 m news)
    (turn : ∀ i v m₁ nw I oI (s₁ : Shared), its[i]? = some v → J i m₁ nw → Fr h₀ env.locals s₁.heap (fun y => if y = x then some v else m₁ y) → News h₀ env.locals s₁.heap ((I, oI) :: nw) → (∀ p ∈ nw, p.1 ≠ I) →
      wpAny (model prog w) A (execs body env) (FEnd h₀ env.locals I oI (J (i + 1)) s₁) E s₁)
    (hQ : ∀ h' tk m' nw, Fr h₀ env.locals h' m' → News h₀ env.locals h' nw → J its.size m' nw → Q .next { s with heap := h', toks := tk }) :
    wpAny (model prog w) A (pyIter (.ref ax)) (LoopAtU prog w A h₀ env x body Q E) E s := by
  have hl := N.isList hm
  have hlt : ax < s.heap.objs.size := by obtain ⟨_, e, _⟩ := hl; exact Heap.lt_size e
  refine wpAny_pyIter_list hl ?_
  have up : ∀ b o, s.heap.get? b = some o → (s.heap.push { cls := .type "list_iterator", data := .fields #[.ref ax, .int 0 0] }).get? b = some o := fun b o e => Heap.get?_push_of_some _ e
  exact for_at (s := { s with heap := s.heap.push { cls := .type "list_iterator", data := .fields #[.ref ax, .int 0 0] } }) (news := news) J (Walks.list hh s.heap.objs.size ax (Nat.ne_of_lt hlt) its) ⟨⟨_, Heap.get?_push_size _ rfl, rfl, rfl⟩, hl.push _⟩ (F.keeps up) (N.push F _)
    (fun p hp => Nat.ne_of_lt (Heap.lt_size (N p hp).1)) hax (fun i h st => by obtain ⟨o, e, _⟩ := st.1; exact ⟨o, e⟩) h0 (fun i v m₁ nw oI s₁ _ hP => turn i v m₁ nw _ oI s₁ hP) hQ

theorem for_tup (J : Nat → (Str → Option Value) → List (Addr × Obj) → Prop) {ax : Addr} {its : Array Value} {k : Nat} (hh : A.handled = none) (F : Fr h₀ env.locals s.heap m) (N : News h₀ env.locals s.heap news) (hm : (ax, ({ cls := .type "tuple", data := .seq its k } : Obj)) ∈ news)
    (hax : ∀ i m₁ nw, J i m₁ nw → (ax, ({ cls := .type "tuple", data := .seq its k } : Obj)) ∈ nw) (h0 : J 0 m news)
    (turn : ∀ i v m₁ nw I oI (s₁ : Shared), its[i]? = some v → J i m₁ nw → Fr h₀ env.locals s₁.heap (fun y => if y = x then some v else m₁ y) → News h₀ env.locals s₁.heap ((I, oI) :: nw) → (∀ p ∈ nw, p.1 ≠ I) →
      wpAny (model prog w) A (execs body env) (FEnd h₀ env.locals I oI (J (i + 1)) s₁) E s₁)
    (hQ : ∀ h' tk m' nw, Fr h₀ env.locals h' m' → News h₀ env.locals h' nw → J its.size m' nw → Q .next { s with heap := h', toks := tk }) :
    wpAny (model prog w) A (pyIter (.ref ax)) (LoopAtU prog w A h₀ env x body Q E) E s := by
  have hl : s.heap.IsTuple ax its := ⟨_, (N _ hm).1, rfl, _, rfl⟩
  have hlt : ax < s.heap.objs.size := by obtain ⟨_, e, _⟩ := hl; exact Heap.lt_size e
  refine wpAny_pyIter_tuple hl ?_
  have up : ∀ b o, s.heap.get? b = some o → (s.heap.push { cls := .type "tuple_iterator", data := .fields #[.ref ax, .int 0 0] }).get? b = some o := fun b o e => Heap.get?_push_of_some _ e
  exact for_at (s := { s with heap := s.heap.push { cls := .type "tuple_iterator", data := .fields #[.ref ax, .int 0 0] } }) (news := news) J (Walks.tuple hh s.heap.objs.size ax (Nat.ne_of_lt hlt) its) ⟨⟨_, Heap.get?_push_size _ rfl, rfl, rfl⟩, hl.at fun o e => up _ _ e⟩ (F.keeps up) (N.push F _)
    (fun p hp => Nat.ne_of_lt (Heap.lt_size (N p hp).1)) hax (fun i h st => by obtain ⟨o, e, _⟩ := st.1; exact ⟨o, e⟩) h0 (fun i v m₁ nw oI s₁ _ hP => turn i v m₁ nw _ oI s₁ hP) hQ

theorem led_tupTail {value slice : PySem.Expr} {t : Addr} {v : Value} {vs : List Value} {n : Nat} {u : Tok} {L : Addr} {Q : Value → Shared → Prop} (F : Fr h₀ L s.heap m) (N : News h₀ L s.heap news) (hm : (t, ({ cls := .type "tuple", data := .seq (v :: vs).toArray n } : Obj)) ∈ news) (hsz : vs.length < 10000)
    (h : ∀ D h', Fr h₀ L h' m → News h₀ L h' ((D, ({ cls := .type "tuple", data := .seq vs.toArray 0 } : Obj)) :: news) → (∀ p ∈ news, @LT.lt Nat _ p.1 D) → Q (.ref D) { s with heap := h' })
    (hs : subscripted slice false (.ref t) (.ref s.heap.objs.size) = operate [.ref s.heap.objs.size, .ref t] (getItem (.ref t) (.ref s.heap.objs.size)) := by with_unfolding_all rfl)
    (hg : ∀ r, letTemporaryGo value (.ref t) r = pure () := by intro _; with_unfolding_all rfl) :
    wpAny (model prog w) A (subscriptTail value slice (.ref t) (.ref s.heap.objs.size)) Q E { s with heap := s.heap.push { cls := .type "slice", data := .fields #[.int 1 u, .none, .none] } } := by
  have ht : IsTup s.heap t (v :: vs).toArray := ⟨_, (N _ hm).1, rfl, _, rfl⟩
  refine slice_tuple_from (a := 1) F N ht (Nat.le_refl _) (by simp) (fun h' F' N' => h _ h' F' ?_ fun p hp => Nat.lt_succ_of_lt (Heap.lt_size (N p hp).1)) hs hg (by rw [sizeLine_eq]; simp; omega)
  simpa using N'
end
end Mine
end

section
/- part NodeDef -/
open PySem PySem.W PyProof.Rows
namespace Mine

/-- a value that is a type, as nodes -/
inductive NodeV (w : World) (news : List (Addr × Obj)) : Value → Ty → Prop
  | var {x d : Addr} {k1 k2 k : Tok} {h : Str} : isVar h = true → (x, instObj 100 d) ∈ news →
      (d, dictOf [{ hash := PyData.keyHash w.params (Str.ofString "place"), key := .str (Str.ofString "place") k1, val := .none }, { hash := PyData.keyHash w.params (Str.ofString "name"), key := .str (Str.ofString "name") k2, val := .str h k }] 2) ∈ news → NodeV w news (.ref x) (.leaf h)
  | con {x d : Addr} {k1 k2 k : Tok} {h : Str} : isVar h = false → (x, instObj 127 d) ∈ news →
      (d, dictOf [{ hash := PyData.keyHash w.params (Str.ofString "place"), key := .str (Str.ofString "place") k1, val := .none }, { hash := PyData.keyHash w.params (Str.ofString "name"), key := .str (Str.ofString "name") k2, val := .str h k }] 2) ∈ news → NodeV w news (.ref x) (.leaf h)
  | app {x d : Addr} {k1 k2 k3 : Tok} {f a : Value} {tf ta : Ty} : (x, instObj 154 d) ∈ news →
      (d, dictOf [{ hash := PyData.keyHash w.params (Str.ofString "place"), key := .str (Str.ofString "place") k1, val := .none }, { hash := PyData.keyHash w.params (Str.ofString "fun"), key := .str (Str.ofString "fun") k2, val := f }, { hash := PyData.keyHash w.params (Str.ofString "arg"), key := .str (Str.ofString "arg") k3, val := a }] 3) ∈ news →
      NodeV w news f tf → NodeV w news a ta → NodeV w news (.ref x) (.app tf ta)

theorem NodeV.mono {w : World} {news news' : List (Addr × Obj)} (hs : ∀ p ∈ news, p ∈ news') : ∀ {v : Value} {t : Ty}, NodeV w news v t → NodeV w news' v t := by
  intro v t h
  induction h with
  | var h1 h2 h3 => exact .var h1 (hs _ h2) (hs _ h3)
  | con h1 h2 h3 => exact .con h1 (hs _ h2) (hs _ h3)
  | app h1 h2 _ _ i1 i2 => exact .app (hs _ h1) (hs _ h2) i1 i2

/-- nodes, one by one -/
noncomputable def NodeVs (w : World) (news : List (Addr × Obj)) (vs : List Value) (ts : List Ty) : Prop := vs.length = ts.length ∧ ∀ (i : Nat) v t, vs[i]? = some v → ts[i]? = some t → NodeV w news v t
section
variable {w : World}
theorem NodeVs.mono {news news' : List (Addr × Obj)} {vs : List Value} {ts : List Ty} (hs : ∀ p ∈ news, p ∈ news') (h : NodeVs w news vs ts) : NodeVs w news' vs ts :=
  ⟨h.1, fun i v t h1 h2 => (h.2 i v t h1 h2).mono hs⟩
theorem NodeVs.nil {news : List (Addr × Obj)} : NodeVs w news [] [] := ⟨rfl, fun i v t h => by simp at h⟩
theorem NodeVs.cons {news : List (Addr × Obj)} {v : Value} {t : Ty} {vs : List Value} {ts : List Ty} (h : NodeV w news v t) (r : NodeVs w news vs ts) : NodeVs w news (v :: vs) (t :: ts) := by
  refine ⟨by simp [r.1], fun i v' t' h1 h2 => ?_⟩
  cases i with
  | zero => simp at h1 h2; subst h1 h2; exact h
  | succ i => exact r.2 i v' t' (by simpa using h1) (by simpa using h2)
theorem NodeVs.append {news : List (Addr × Obj)} {vs vs' : List Value} {ts ts' : List Ty} (h : NodeVs w news vs ts) (r : NodeVs w news vs' ts') : NodeVs w news (vs ++ vs') (ts ++ ts') := by
  refine ⟨by simp [h.1, r.1], fun i v t h1 h2 => ?_⟩
  by_cases hi : i < vs.length
  · rw [List.getElem?_append_left hi] at h1
    rw [List.getElem?_append_left (h.1 ▸ hi)] at h2
    exact h.2 i v t h1 h2
  · rw [List.getElem?_append_right (by omega)] at h1
    rw [List.getElem?_append_right (by have := h.1; omega)] at h2
    exact r.2 _ v t h1 (by rw [h.1]; exact h2)
theorem NodeVs.snoc {news : List (Addr × Obj)} {v : Value} {t : Ty} {vs : List Value} {ts : List Ty} (h : NodeV w news v t) (r : NodeVs w news vs ts) : NodeVs w news (vs ++ [v]) (ts ++ [t]) := r.append (NodeVs.nil.cons h)
theorem NodeVs.drop {news : List (Addr × Obj)} {vs : List Value} {ts : List Ty} (h : NodeVs w news vs ts) (n : Nat) : NodeVs w news (vs.drop n) (ts.drop n) :=
  ⟨by simp [h.1], fun i v t h1 h2 => h.2 (n + i) v t (by simpa using h1) (by simpa using h2)⟩
theorem NodeVs.reverse {news : List (Addr × Obj)} {vs : List Value} {ts : List Ty} (h : NodeVs w news vs ts) : NodeVs w news vs.reverse ts.reverse := by
  obtain ⟨h1, h2⟩ := h
  refine ⟨by simp [h1], fun i v t e1 e2 => ?_⟩
  have l1 : i < vs.length := by
    have := (List.getElem?_eq_some_iff.mp e1).1
    simpa using this
  rw [List.getElem?_reverse l1] at e1
  rw [List.getElem?_reverse (h1 ▸ l1)] at e2
  exact h2 _ v t e1 (by rw [h1]; exact e2)
end

noncomputable def Ty.dep : Ty → Nat
  | .leaf _ => 0
  | .app f a => max f.dep (a.dep + 1)
noncomputable def Ty.size : Ty → Nat
  | .leaf _ => 1
  | .app f a => f.size + a.size + 1
theorem Ty.size_pos : ∀ t : Ty, 1 ≤ t.size
  | .leaf _ => Nat.le_refl _
  | .app _ _ => Nat.le_add_left _ _
theorem Ty.dep_on : ∀ (as : List Ty) (b : Ty), b.dep ≤ (b.on as).dep ∧ ∀ a ∈ as, a.dep + 1 ≤ (b.on as).dep
  | [], b => ⟨Nat.le_refl _, fun a h => nomatch h⟩
  | a :: as, b => by
    have h := Ty.dep_on as (.app b a)
    have e : (Ty.app b a).dep = max b.dep (a.dep + 1) := rfl
    have h1 := h.1
    rw [e] at h1
    refine ⟨Nat.le_trans (Nat.le_max_left _ _) h1, fun x hx => ?_⟩
    rcases List.mem_cons.mp hx with rfl | hx
    · exact Nat.le_trans (Nat.le_max_right _ _) h1
    · exact h.2 x hx
theorem Ty.size_on : ∀ (as : List Ty) (b : Ty), b.size + as.length ≤ (b.on as).size ∧ ∀ a ∈ as, a.size + 1 ≤ (b.on as).size
  | [], b => ⟨Nat.le_refl _, fun a h => nomatch h⟩
  | a :: as, b => by
    have h := Ty.size_on as (.app b a)
    have e : (Ty.app b a).size = b.size + a.size + 1 := rfl
    have h1 := h.1
    have := a.size_pos
    rw [e] at h1
    refine ⟨by rw [List.length_cons]; show _ ≤ ((Ty.app b a).on as).size; omega, fun x hx => ?_⟩
    rcases List.mem_cons.mp hx with rfl | hx
    · show _ ≤ ((Ty.app b x).on as).size; omega
    · exact h.2 x hx

theorem upd_norm {α : Type} {x y : Str} {m₀ : Str → Option α} {a a' : Option α} {b b' : Option α} :
    (fun z => if z = y then b' else if z = x then a' else if z = y then b else if z = x then a else m₀ z) = fun z => if z = y then b' else if z = x then a' else m₀ z := by
  funext z
  by_cases h1 : z = y
  · simp [h1]
  · by_cases h2 : z = x
    · simp [h1, h2]
    · simp [h1, h2]

section
open PySem.Calls PySem.Spec
variable {prog : Program} {w : World} {A : Around} {E : Value → Shared → Prop} {s : Shared} {h₀ : Heap} {L : Addr} {m : Str → Option Value} {news : List (Addr × Obj)} {Q : Value → Shared → Prop}
theorem led_tup0 {value slice : PySem.Expr} {t : Addr} {v : Value} {vs : List Value} {n : Nat} {u : Tok} (N : News h₀ L s.heap news) (hm : (t, tupOf (v :: vs) n) ∈ news) (hsz : vs.length < 10000)
    (h : Q v s) (hs : subscripted slice false (.ref t) (.int 0 u) = operate [.ref t, .int 0 u] (getItem (.ref t) (.int 0 u)) := by with_unfolding_all rfl) :
    wpAny (model prog w) A (subscriptTail value slice (.ref t) (.int 0 u)) Q E s :=
  have ht : IsTup s.heap t (v :: vs).toArray := ⟨_, (N _ hm).1, rfl, _, rfl⟩
  tail_any ht.typeIs slot_tuple_getitem.lookup (getItem_tuple (j := 0) ht (by decide) (by decide) (by simp [seqIndex?]) (by simp) h) hs
end
end Mine
end

section
/- part SubDef -/
open PySem PySem.W PyProof.Rows
namespace Mine
/-- what stands for the names, put in -/
noncomputable def Ty.sub (σ : Str → Option Ty) : Ty → Ty
  | .leaf h => (σ h).getD (.leaf h)
  | .app f a => .app (f.sub σ) (a.sub σ)

/-- a dict of nodes: what stands for the names -/
noncomputable def SubV (w : World) (news : List (Addr × Obj)) (d : Addr) (σ : Str → Option Ty) : Prop :=
  ∃ (o : Obj) (kvs : List (Str × Value)), (d, o) ∈ news ∧ o.IsDictOf (strKind PySem.Challenge.rw_xw0149_01.row.prog w) kvs ∧ (d == sysModules) = false ∧
    (∀ h v, valueAt kvs h = some v → ∃ t, σ h = some t ∧ NodeV w news v t) ∧ (∀ h, valueAt kvs h = none → σ h = none)
theorem SubV.mono {w : World} {news news' : List (Addr × Obj)} {d : Addr} {σ : Str → Option Ty} (hs : ∀ p ∈ news, p ∈ news') (h : SubV w news d σ) : SubV w news' d σ := by
  obtain ⟨o, kvs, h1, h2, h3, h4, h5⟩ := h
  exact ⟨o, kvs, hs _ h1, h2, h3, fun h v e => by obtain ⟨t, a, b⟩ := h4 h v e; exact ⟨t, a, b.mono hs⟩, h5⟩
end Mine
end

section
/- part Ev -/
open PySem PySem.W PyProof.Rows
namespace Mine

/-- a synonym: its params, its body's head and the body's parts -/
structure Def where
  ps : List Str
  bh : Str
  parts : List Ty

/-- no name in it is told -/
noncomputable def plain (T : Str → Option Def) : Ty → Bool
  | .leaf h => (T h).isNone
  | .app f a => plain T f && plain T a

noncomputable def zipped (ps : List Str) (ts : List Ty) : Str → Option Ty := fun h => (ps.zip ts).lookup h

/-- a head put to what it is put to, made plain -/
noncomputable def headEv (T : Str → Option Def) : Nat → (Str → Option Ty) → Str → List Ty → Option Ty
  | 0, σ, h, ms => match σ h with
    | some t => some (t.on ms)
    | none => match T h with
      | none => some ((Ty.leaf h).on ms)
      | some _ => none
  | r + 1, σ, h, ms => match σ h with
    | some t => some (t.on ms)
    | none => match T h with
      | none => some ((Ty.leaf h).on ms)
      | some d => if ms.length < d.ps.length then none else if d.parts.all (plain T) then headEv T r (zipped d.ps (ms.take d.ps.length)) d.bh (d.parts.map (Ty.sub (zipped d.ps (ms.take d.ps.length))) ++ ms.drop d.ps.length) else none

theorem headEv_some {T : Str → Option Def} {r : Nat} {σ : Str → Option Ty} {h : Str} {ms : List Ty} {t : Ty} (e : σ h = some t) : headEv T r σ h ms = some (t.on ms) := by
  cases r <;> simp [headEv, e]
theorem headEv_leaf {T : Str → Option Def} {r : Nat} {σ : Str → Option Ty} {h : Str} {ms : List Ty} (e : σ h = none) (e' : T h = none) : headEv T r σ h ms = some ((Ty.leaf h).on ms) := by
  cases r <;> simp [headEv, e, e']
theorem headEv_told {T : Str → Option Def} {r : Nat} {σ : Str → Option Ty} {h : Str} {ms : List Ty} {d : Def} (e : σ h = none) (e' : T h = some d) :
    headEv T (r + 1) σ h ms = if ms.length < d.ps.length then none else if d.parts.all (plain T) then headEv T r (zipped d.ps (ms.take d.ps.length)) d.bh (d.parts.map (Ty.sub (zipped d.ps (ms.take d.ps.length))) ++ ms.drop d.ps.length) else none := by
  simp [headEv, e, e']
theorem headEv_free {T : Str → Option Def} {r : Nat} {σ σ' : Str → Option Ty} {h : Str} {ms : List Ty} (e : σ h = none) (e' : σ' h = none) : headEv T r σ h ms = headEv T r σ' h ms := by
  cases r <;> simp [headEv, e, e']

/-- a type, made plain -/
noncomputable def tyEv (T : Str → Option Def) (r : Nat) (σ : Str → Option Ty) : Ty → List Ty → Option Ty
  | .leaf h, ms => headEv T r σ h ms
  | .app f a, ms => match tyEv T r σ a [] with
    | none => none
    | some a' => tyEv T r σ f (a' :: ms)

noncomputable def tyAll (T : Str → Option Def) (r : Nat) (σ : Str → Option Ty) : List Ty → Option (List Ty)
  | [] => some []
  | a :: as => match tyEv T r σ a [], tyAll T r σ as with
    | some a', some as' => some (a' :: as')
    | _, _ => none

theorem tyEv_on {T : Str → Option Def} {r : Nat} {σ : Str → Option Ty} : ∀ (as : List Ty) (b : Ty) (ms : List Ty), tyEv T r σ (b.on as) ms = match tyAll T r σ as with
    | none => none
    | some as' => tyEv T r σ b (as' ++ ms)
  | [], b, ms => rfl
  | a :: as, b, ms => by
    have ih := tyEv_on (T := T) (r := r) (σ := σ) as (.app b a) ms
    show tyEv T r σ ((Ty.app b a).on as) ms = _
    rw [ih]
    cases h1 : tyAll T r σ as with
    | none => cases h2 : tyEv T r σ a [] <;> simp [tyAll, h1, h2]
    | some as' =>
      cases h2 : tyEv T r σ a [] with
      | none => simp [tyAll, tyEv, h1, h2]
      | some a' => simp [tyAll, tyEv, h1, h2]

/-- how many a head is put to -/
noncomputable def Ty.wid : Ty → Nat
  | .leaf _ => 0
  | .app f _ => f.wid + 1
theorem Ty.wid_on : ∀ (as : List Ty) (b : Ty), (b.on as).wid = b.wid + as.length
  | [], _ => rfl
  | a :: as, b => by
    have := Ty.wid_on as (.app b a)
    show ((Ty.app b a).on as).wid = _
    rw [this]; simp [Ty.wid]; omega
/-- no head is put to more than three -/
noncomputable def Ty.nar : Ty → Prop
  | .leaf _ => True
  | .app f a => f.wid + 1 ≤ 3 ∧ f.nar ∧ a.nar
theorem Ty.nar_on : ∀ (as : List Ty) (b : Ty), (b.on as).nar → b.nar ∧ ∀ a ∈ as, a.nar
  | [], b, h => ⟨h, fun a h => nomatch h⟩
  | a :: as, b, h => by
    obtain ⟨h1, h2⟩ := Ty.nar_on as (.app b a) h
    exact ⟨h1.2.1, fun x hx => by rcases List.mem_cons.mp hx with rfl | hx; exact h1.2.2; exact h2 x hx⟩
theorem Ty.nar_wid : ∀ {b : Ty}, b.nar → b.wid ≤ 3
  | .leaf _, _ => Nat.zero_le _
  | .app _ _, h => h.1
/-- a thing true of all names -/
noncomputable def Ty.all (P : Str → Prop) : Ty → Prop
  | .leaf h => P h
  | .app f a => f.all P ∧ a.all P
theorem Ty.all_on {P : Str → Prop} : ∀ (as : List Ty) (b : Ty), (b.on as).all P → b.all P ∧ ∀ a ∈ as, a.all P
  | [], b, h => ⟨h, fun a h => nomatch h⟩
  | a :: as, b, h => by
    obtain ⟨h1, h2⟩ := Ty.all_on as (.app b a) h
    exact ⟨h1.1, fun x hx => by rcases List.mem_cons.mp hx with rfl | hx; exact h1.2; exact h2 x hx⟩
theorem Ty.all_mono {P P' : Str → Prop} (hp : ∀ h, P h → P' h) : ∀ {b : Ty}, b.all P → b.all P'
  | .leaf h, x => hp h x
  | .app _ _, x => ⟨Ty.all_mono hp x.1, Ty.all_mono hp x.2⟩
theorem Ty.wid_sub {σ : Str → Option Ty} {W : Nat} (hσ : ∀ h t, σ h = some t → t.wid ≤ W) : ∀ t : Ty, (t.sub σ).wid ≤ t.wid + W
  | .leaf h => by
    show ((σ h).getD (.leaf h)).wid ≤ 0 + W
    cases e : σ h with
    | none => exact Nat.zero_le _
    | some t => have := hσ h t e; show t.wid ≤ 0 + W; omega
  | .app f a => by
    have := Ty.wid_sub hσ f
    show (f.sub σ).wid + 1 ≤ f.wid + 1 + W; omega

/-- the names that are told, each of a rank under r -/
noncomputable def Under (T : Str → Option Def) (rk : Str → Nat) (r : Nat) (h : Str) : Prop := ∀ d, T h = some d → rk h < r

structure TOk (T : Str → Option Def) (rk : Str → Nat) (z : Nat) : Prop where
  var : ∀ h d, T h = some d → isVar h = false
  one : ∀ h d, T h = some d → 1 ≤ d.ps.length
  two : ∀ h d, T h = some d → d.ps.length ≤ 2
  vars : ∀ h d, T h = some d → ∀ p ∈ d.ps, isVar p = true
  parts : ∀ h d, T h = some d → d.parts.length ≤ 3
  part : ∀ h d, T h = some d → ∀ p ∈ d.parts, p.size ≤ z ∧ (plain T p = true ∨ ∃ h', p = .leaf h')
  short : ∀ h d, T h = some d → h.length < 1000
  nodup : ∀ h d, T h = some d → d.ps.Nodup
  body : ∀ h d, T h = some d → ((Ty.leaf d.bh).on d.parts).nar ∧ ((Ty.leaf d.bh).on d.parts).all (Under T rk (rk h)) ∧ ((Ty.leaf d.bh).on d.parts).dep ≤ 2

theorem zipped_mem : ∀ {ps : List Str} {ts : List Ty} {h : Str} {t : Ty}, zipped ps ts h = some t → t ∈ ts ∧ h ∈ ps
  | [], _, _, _, e => by simp [zipped] at e
  | _ :: _, [], _, _, e => by simp [zipped] at e
  | p :: ps, a :: ts, h, t, e => by
    simp only [zipped, List.zip_cons_cons, List.lookup_cons] at e
    by_cases hp : h == p
    · simp only [hp] at e
      cases e
      exact ⟨List.mem_cons_self, by rw [eq_of_beq hp]; exact List.mem_cons_self⟩
    · simp only [hp] at e
      have := zipped_mem (ps := ps) (ts := ts) e
      exact ⟨List.mem_cons_of_mem _ this.1, List.mem_cons_of_mem _ this.2⟩

theorem size_sub {σ : Str → Option Ty} {M : Nat} (hM : 1 ≤ M) (hσ : ∀ h t, σ h = some t → t.size ≤ M) : ∀ t : Ty, (t.sub σ).size ≤ t.size * M
  | .leaf h => by
    show ((σ h).getD (.leaf h)).size ≤ 1 * M
    cases e : σ h with
    | none => show 1 ≤ 1 * M; omega
    | some t => show t.size ≤ 1 * M; have := hσ h t e; omega
  | .app f a => by
    have h1 := size_sub hM hσ f
    have h2 := size_sub hM hσ a
    show (f.sub σ).size + (a.sub σ).size + 1 ≤ (f.size + a.size + 1) * M
    rw [Nat.add_mul, Nat.add_mul]; omega

theorem size_on_le {M : Nat} : ∀ (as : List Ty) (b : Ty), (∀ a ∈ as, a.size ≤ M) → (b.on as).size ≤ b.size + as.length * (M + 1)
  | [], b, _ => by simp [Ty.on]
  | a :: as, b, h => by
    have ih := size_on_le (M := M) as (.app b a) fun x hx => h x (List.mem_cons_of_mem _ hx)
    have ha := h a List.mem_cons_self
    have e : (Ty.app b a).size = b.size + a.size + 1 := rfl
    show ((Ty.app b a).on as).size ≤ _
    rw [List.length_cons, Nat.add_mul]; omega

theorem size_head {T : Str → Option Def} {rk : Str → Nat} {z : Nat} (ok : TOk T rk z) (hz : 1 ≤ z) : ∀ (r : Nat) (σ : Str → Option Ty) (h : Str) (ms : List Ty) (M K : Nat) (t : Ty), 1 ≤ M → (∀ h t, σ h = some t → t.size ≤ M) → (∀ m ∈ ms, m.size ≤ M) → ms.length ≤ K →
    headEv T r σ h ms = some t → t.size ≤ (K + 2 * r + 1) * (z ^ r * M + 1) := by
  intro r
  induction r with
  | zero =>
    intro σ h ms M K t hM hσ hms hK e
    have b : ∀ b : Ty, b.size ≤ M → (b.on ms).size ≤ (K + 2 * 0 + 1) * (z ^ 0 * M + 1) := fun b hb => by
      have h1 := size_on_le ms b hms
      have h2 : ms.length * (M + 1) ≤ K * (M + 1) := Nat.mul_le_mul_right _ hK
      rw [Nat.pow_zero, Nat.one_mul, Nat.mul_zero, Nat.add_zero, Nat.add_mul]; omega
    cases e1 : σ h with
    | some t' => rw [headEv_some e1] at e; cases e; exact b t' (hσ h t' e1)
    | none =>
      cases e2 : T h with
      | none => rw [headEv_leaf e1 e2] at e; cases e; exact b _ hM
      | some d => simp [headEv, e1, e2] at e
  | succ r ih =>
    intro σ h ms M K t hM hσ hms hK e
    have hp : 1 ≤ z ^ (r + 1) := Nat.one_le_pow _ _ hz
    have b : ∀ b : Ty, b.size ≤ M → (b.on ms).size ≤ (K + 2 * (r + 1) + 1) * (z ^ (r + 1) * M + 1) := fun b hb => by
      have h1 := size_on_le ms b hms
      have h2 : ms.length * (M + 1) ≤ K * (M + 1) := Nat.mul_le_mul_right _ hK
      have h3 : (K + 1) * (M + 1) ≤ (K + 2 * (r + 1) + 1) * (z ^ (r + 1) * M + 1) := Nat.mul_le_mul (by omega) (by have := Nat.mul_le_mul_right M hp; omega)
      rw [Nat.add_mul] at h3
      omega
    cases e1 : σ h with
    | some t' => rw [headEv_some e1] at e; cases e; exact b t' (hσ h t' e1)
    | none =>
      cases e2 : T h with
      | none => rw [headEv_leaf e1 e2] at e; cases e; exact b _ hM
      | some d =>
        rw [headEv_told e1 e2] at e
        split at e
        · cases e
        · rename_i hlt
          split at e
          · rename_i hall
            have hsz : ∀ h t, zipped d.ps (ms.take d.ps.length) h = some t → t.size ≤ M := fun h t e => hms t (List.mem_of_mem_take (zipped_mem e).1)
            have hM' : M ≤ z * M := Nat.le_mul_of_pos_left M hz
            have := ih _ _ _ (z * M) (K + 2) t (by omega) (fun h t e => Nat.le_trans (hsz h t e) hM') (fun m hm => ?_) ?_ e
            · rw [show K + 2 * (r + 1) + 1 = K + 2 + 2 * r + 1 by omega, Nat.pow_succ, Nat.mul_assoc]; exact this
            · rcases List.mem_append.mp hm with hm | hm
              · obtain ⟨p, hp', rfl⟩ := List.mem_map.mp hm
                exact Nat.le_trans (size_sub hM hsz p) (Nat.mul_le_mul_right _ (ok.part h d e2 p hp').1)
              · exact Nat.le_trans (hms m (List.mem_of_mem_drop hm)) hM'
            · have h1 := ok.parts h d e2
              have h2 := ok.one h d e2
              rw [List.length_append, List.length_map, List.length_drop]; omega
          · cases e

/-- no name of σ is told -/
noncomputable def Vars (σ : Str → Option Ty) : Prop := ∀ h, isVar h = false → σ h = none

theorem tyEv_plain {T : Str → Option Def} {r : Nat} {σ : Str → Option Ty} : ∀ (p : Ty) (ms : List Ty), plain T p = true → tyEv T r σ p ms = some ((p.sub σ).on ms)
  | .leaf h, ms, hp => by
    have e : T h = none := by simpa [plain] using hp
    show headEv T r σ h ms = some (((σ h).getD (.leaf h)).on ms)
    cases e1 : σ h with
    | none => rw [headEv_leaf e1 e]; rfl
    | some t => rw [headEv_some e1]; rfl
  | .app f a, ms, hp => by
    simp only [plain, Bool.and_eq_true] at hp
    simp only [tyEv, tyEv_plain a [] hp.2, tyEv_plain f _ hp.1]
    rfl

theorem tyEv_part {T : Str → Option Def} {rk : Str → Nat} {z : Nat} (ok : TOk T rk z) {r : Nat} {σ : Str → Option Ty} (hσ : Vars σ) {p : Ty} (h : plain T p = true ∨ ∃ h', p = .leaf h') :
    tyEv T r σ p [] = if plain T p then some (p.sub σ) else none := by
  by_cases e : plain T p = true
  · rw [if_pos e, tyEv_plain p [] e]; rfl
  · rw [if_neg e]
    rcases h with h | ⟨h', rfl⟩
    · exact (e h).elim
    · cases e2 : T h' with
      | none => simp [plain, e2] at e
      | some d =>
        have e1 := hσ h' (ok.var h' d e2)
        show headEv T r σ h' [] = none
        cases r with
        | zero => simp [headEv, e1, e2]
        | succ r => rw [headEv_told e1 e2, if_pos (show [].length < d.ps.length from ok.one h' d e2)]

theorem tyAll_parts {T : Str → Option Def} {rk : Str → Nat} {z : Nat} (ok : TOk T rk z) {r : Nat} {σ : Str → Option Ty} (hσ : Vars σ) : ∀ (ps : List Ty), (∀ p ∈ ps, plain T p = true ∨ ∃ h', p = .leaf h') →
    tyAll T r σ ps = if ps.all (plain T) then some (ps.map (Ty.sub σ)) else none
  | [], _ => rfl
  | p :: ps, h => by
    have h1 := tyEv_part ok hσ (h p List.mem_cons_self) (r := r)
    have h2 := tyAll_parts ok hσ ps (fun q hq => h q (List.mem_cons_of_mem _ hq)) (r := r)
    simp only [tyAll, h1, h2, List.all_cons]
    by_cases e1 : plain T p = true <;> by_cases e2 : ps.all (plain T) = true <;> simp [e1, e2]

theorem zipped_vars {ps : List Str} {ts : List Ty} (h : ∀ p ∈ ps, isVar p = true) : Vars (zipped ps ts) := fun x hx => by
  cases e : zipped ps ts x with
  | none => rfl
  | some t => have := h x (zipped_mem e).2; rw [hx] at this; cases this

/-- a told head: its body, evaluated -/
theorem headEv_body {T : Str → Option Def} {rk : Str → Nat} {z : Nat} (ok : TOk T rk z) {r : Nat} {σ : Str → Option Ty} {h : Str} {ms : List Ty} {d : Def} (e : σ h = none) (e' : T h = some d) (hl : ¬ ms.length < d.ps.length) :
    headEv T (r + 1) σ h ms = tyEv T r (zipped d.ps (ms.take d.ps.length)) ((Ty.leaf d.bh).on d.parts) (ms.drop d.ps.length) := by
  rw [headEv_told e e', if_neg hl, tyEv_on, tyAll_parts ok (zipped_vars (ok.vars h d e')) d.parts (fun p hp => (ok.part h d e' p hp).2)]
  by_cases e1 : d.parts.all (plain T) = true
  · simp only [e1, if_true]; rfl
  · rw [if_neg e1, if_neg e1]

theorem wid_head {T : Str → Option Def} {rk : Str → Nat} {z : Nat} (ok : TOk T rk z) : ∀ (r : Nat) (σ : Str → Option Ty) (h : Str) (ms : List Ty) (W K : Nat) (t : Ty), (∀ h t, σ h = some t → t.wid ≤ W) → (∀ m ∈ ms, m.wid ≤ W) → ms.length ≤ K →
    headEv T r σ h ms = some t → t.wid ≤ W + K + 6 * r := by
  intro r
  induction r with
  | zero =>
    intro σ h ms W K t hσ hms hK e
    cases e1 : σ h with
    | some t' => rw [headEv_some e1] at e; cases e; rw [Ty.wid_on]; have := hσ h t' e1; omega
    | none =>
      cases e2 : T h with
      | none => rw [headEv_leaf e1 e2] at e; cases e; rw [Ty.wid_on]; simp only [Ty.wid]; omega
      | some d => simp [headEv, e1, e2] at e
  | succ r ih =>
    intro σ h ms W K t hσ hms hK e
    cases e1 : σ h with
    | some t' => rw [headEv_some e1] at e; cases e; rw [Ty.wid_on]; have := hσ h t' e1; omega
    | none =>
      cases e2 : T h with
      | none => rw [headEv_leaf e1 e2] at e; cases e; rw [Ty.wid_on]; simp only [Ty.wid]; omega
      | some d =>
        rw [headEv_told e1 e2] at e
        split at e
        · cases e
        · split at e
          · have hsz : ∀ h t, zipped d.ps (ms.take d.ps.length) h = some t → t.wid ≤ W := fun h t e => hms t (List.mem_of_mem_take (zipped_mem e).1)
            have := ih _ _ _ (W + 3) (K + 3) t (fun h t e => Nat.le_trans (hsz h t e) (Nat.le_add_right _ _)) (fun m hm => ?_) ?_ e
            · omega
            · rcases List.mem_append.mp hm with hm | hm
              · obtain ⟨p, hp', rfl⟩ := List.mem_map.mp hm
                have h1 := Ty.wid_sub hsz p
                have h2 := Ty.nar_wid ((Ty.nar_on _ _ (ok.body h d e2).1).2 p hp')
                omega
              · exact Nat.le_trans (hms m (List.mem_of_mem_drop hm)) (Nat.le_add_right _ _)
            · have h1 := ok.parts h d e2
              rw [List.length_append, List.length_map, List.length_drop]; omega
          · cases e
end Mine
end

section
/- part Led3 -/
open PySem PySem.W PyProof.Rows PySem.Calls PySem.Spec PyProof.V
namespace Mine
section
variable {prog : Program} {w : World} {A : Around} {E : Value → Shared → Prop} {s : Shared} {h₀ : Heap} {L : Addr} {m : Str → Option Value} {news : List (Addr × Obj)} {Q : Value → Shared → Prop} {a b : Addr} {k k' : Nat} {v : Value} {vs ws : List Value}

theorem led_take {value slice : PySem.Expr} {u : Tok} (F : Fr h₀ L s.heap m) (N : News h₀ L s.heap news) (hm : (a, listOf vs.toArray k) ∈ news) (hsz : vs.length < 10000) {n : Nat} (hn : n ≤ vs.length)
    (h : ∀ D h', Fr h₀ L h' m → News h₀ L h' ((D, listOf (vs.take n).toArray 0) :: news) → (∀ p ∈ news, @LT.lt Nat _ p.1 D) → Q (.ref D) { s with heap := h' })
    (hs : subscripted slice false (.ref a) (.ref s.heap.objs.size) = operate [.ref s.heap.objs.size, .ref a] (getItem (.ref a) (.ref s.heap.objs.size)) := by with_unfolding_all rfl)
    (hg : ∀ r, letTemporaryGo value (.ref a) r = pure () := by intro _; with_unfolding_all rfl) :
    wpAny (model prog w) A (subscriptTail value slice (.ref a) (.ref s.heap.objs.size)) Q E { s with heap := s.heap.push { cls := .type "slice", data := .fields #[.none, .int (n : Int) u, .none] } } :=
  kmk_slice_lit F N (N.isList hm) .none (.int _ _) (by rw [slicePick_upto _ n (by simpa using hn)]) h hs hg (by rw [sizeLine_eq]; simp; omega)

theorem led_drop {value slice : PySem.Expr} {u : Tok} (F : Fr h₀ L s.heap m) (N : News h₀ L s.heap news) (hm : (a, listOf vs.toArray k) ∈ news) (hsz : vs.length < 10000) {n : Nat} (hn : n ≤ vs.length)
    (h : ∀ D h', Fr h₀ L h' m → News h₀ L h' ((D, listOf (vs.drop n).toArray 0) :: news) → (∀ p ∈ news, @LT.lt Nat _ p.1 D) → Q (.ref D) { s with heap := h' })
    (hs : subscripted slice false (.ref a) (.ref s.heap.objs.size) = operate [.ref s.heap.objs.size, .ref a] (getItem (.ref a) (.ref s.heap.objs.size)) := by with_unfolding_all rfl)
    (hg : ∀ r, letTemporaryGo value (.ref a) r = pure () := by intro _; with_unfolding_all rfl) :
    wpAny (model prog w) A (subscriptTail value slice (.ref a) (.ref s.heap.objs.size)) Q E { s with heap := s.heap.push { cls := .type "slice", data := .fields #[.int (n : Int) u, .none, .none] } } :=
  kmk_slice_lit F N (N.isList hm) (.int _ _) .none (by rw [slicePick_from _ n (by simpa using hn)]) h hs hg (by rw [sizeLine_eq]; simp; omega)

theorem led_addLists (F : Fr h₀ L s.heap m) (N : News h₀ L s.heap news) (h1 : (a, listOf vs.toArray k) ∈ news) (h2 : (b, listOf ws.toArray k') ∈ news) (hsz : vs.length + ws.length < 10000)
    (h : ∀ D h', Fr h₀ L h' m → News h₀ L h' ((D, listOf (vs ++ ws).toArray 0) :: news) → (∀ p ∈ news, @LT.lt Nat _ p.1 D) → Q (.ref D) { s with heap := h' }) :
    wpAny (model prog w) A (binaryOp .Add (.ref a) (.ref b)) Q E s :=
  add_lists F N (N.isList h1) (N.isList h2) (fun h' F' N' => h _ h' F' N' fun p hp => Heap.lt_size (N p hp).1) (by rw [sizeLine_eq]; omega)

/-- None, or a type -/
noncomputable def OptV (news : List (Addr × Obj)) (v : Value) (t : Option Ty) : Prop := match t with
  | none => v = .none
  | some t => TyV news v t

theorem eq_none (N : News h₀ L s.heap news) (hu : A.units < cLine) {t : Option Ty} (h : OptV news v t) : PySem.SeqAt.EqAt A s v .none t.isNone := by
  cases t with
  | none => cases h; exact PySem.SeqAt.EqAt.same _
  | some t =>
    cases h with
    | leaf => exact PySem.SeqAt.EqAt.str_none _ _
    | app hm => exact PySem.SeqAt.EqAt.tuple_none ⟨_, (N _ hm).1, rfl, _, rfl⟩ hu

theorem led_noneIn (N : News h₀ L s.heap news) (hm : (a, listOf vs.toArray k) ∈ news) (hu : A.units + 1 < cLine) {os : List (Option Ty)} (hl : vs.length = os.length) (ho : ∀ (i : Nat) v t, vs[i]? = some v → os[i]? = some t → OptV news v t)
    (h : Q (.bool (os.any Option.isNone)) s) : wpAny (model prog w) A (compareOp .In .none (.ref a)) Q E s := by
  classical
  have hw : ∀ y ∈ vs, ∃ i : Nat, vs[i]? = some y := fun y hy => List.mem_iff_getElem?.mp hy
  refine PySem.SeqAt.in_listAt (fun v => decide (v = .none)) (N.isList hm) (fun y hy => ?_) ?_
  · obtain ⟨i, hi⟩ := hw y (by simpa using hy)
    have hlt := (List.getElem?_eq_some_iff.mp hi).1
    have h2 := ho i y _ hi (List.getElem?_eq_getElem (hl ▸ hlt))
    have e := eq_none (A := A.in1) N (by simpa using hu) h2
    have : decide (y = .none) = (os[i]'(hl ▸ hlt)).isNone := by
      cases h3 : os[i]'(hl ▸ hlt) with
      | none => rw [h3] at h2; simp [show y = Value.none from h2]
      | some t => rw [h3] at h2; cases (show TyV news y t from h2) <;> simp
    rw [this]; exact e
  · have : (vs.toArray.any fun v => decide (v = .none)) = os.any Option.isNone := by
      rw [Bool.eq_iff_iff]
      simp only [List.any_toArray, List.any_eq_true, decide_eq_true_eq]
      constructor
      · rintro ⟨y, hy, rfl⟩
        obtain ⟨i, hi⟩ := hw _ hy
        have hlt := (List.getElem?_eq_some_iff.mp hi).1
        have h2 := ho i _ _ hi (List.getElem?_eq_getElem (hl ▸ hlt))
        refine ⟨_, List.getElem_mem (hl ▸ hlt), ?_⟩
        cases h3 : os[i]'(hl ▸ hlt) with
        | none => rfl
        | some t => rw [h3] at h2; cases (show TyV news Value.none t from h2)
      · rintro ⟨o, ho', hn⟩
        obtain ⟨i, hi⟩ := List.mem_iff_getElem?.mp ho'
        have hlt := (List.getElem?_eq_some_iff.mp hi).1
        have h2 := ho i _ _ (List.getElem?_eq_getElem (hl ▸ hlt)) hi
        cases o with
        | none => exact ⟨_, List.getElem_mem (hl ▸ hlt), h2⟩
        | some t => simp at hn
    rw [this]; exact h
end
end Mine
end

section
/- part DictZip -/
open PySem PySem.W PyProof.Rows PySem.Calls PySem.Spec
set_option maxRecDepth 100000
namespace Mine

theorem zip_no_keys : typeLookup (.type "zip") "keys" = pure none := by rw [typeLookup_type, builtinLookup_eq_fast]; kernel_rfl
theorem zip_no_getattr : typeLookup (.type "zip") "__getattr__" = pure none := by rw [typeLookup_type, builtinLookup_eq_fast]; kernel_rfl
theorem zip_getattribute : entryFor table "zip.__getattribute__" = some Builtin.«object.__getattribute__» :=
  entryFor_alias (id' := "object.__getattribute__") (by kernel_rfl) (by decide +kernel) (by decide +kernel) (by kernel_rfl)

theorem zip_miss (z : Addr) (vs : Array Value) (u : Tok) :
    Meets (Builtin.«object.__getattribute__» ⟨[.ref z, .str "keys" u], []⟩) (fun A R s => s.heap.get? z = some { cls := .type "zip", dict := none, data := .fields vs, slots := #[] } ∧ raisesAttr (.ref z) "keys" A R s) :=
  Meets.of_wp fun prog w A R s hs => by
    obtain ⟨hp, g, d, tk, os⟩ := s
    obtain ⟨hx, hs⟩ := hs
    have hT : (⟨hp, g, d, tk, os⟩ : Shared).TypeIs (.ref z) "zip" := ⟨_, hx, rfl⟩
    have f0 := zip_no_keys
    unfold Builtin.«object.__getattribute__»
    repeat (any_goals (first | assumption | wp_step))
    exact wpAny_raiseAttrError hs.1 hs.2 (attrMsg_fits (by decide +kernel) (by decide +kernel))

theorem zip_keys {prog : Program} {w : World} {A : Around} {E : Value → Shared → Prop} {s : Shared} {z : Addr} {vs : Array Value} {Q : Option Value → Shared → Prop}
    (hx : s.heap.get? z = some { cls := .type "zip", dict := none, data := .fields vs, slots := #[] }) (hA : A.handled = none)
    (h : ∀ h' tk, (∀ b o, s.heap.get? b = some o → h'.get? b = some o) → Q none { s with heap := h', toks := tk }) :
    wpAny (model prog w) A (getAttr? (.ref z) "keys") Q E s := by
  obtain ⟨hp, g, d, tk, os⟩ := s
  have hT : ∀ tk', (⟨hp, g, d, tk', os⟩ : Shared).TypeIs (.ref z) "zip" := fun _ => ⟨_, hx, rfl⟩
  have f1 := sub_AttributeError
  have f3 := F.slot_zip_getattribute.lookup
  have f4 := F.slot_zip_getattribute.bind (.ref z)
  have f5 := zip_no_getattr
  unfold getAttr? getAttrBy? getAttrBy
  repeat (any_goals (first | assumption | exact hT _ | ((with_reducible show wpAny _ _ (call (Value.builtin "zip.__getattribute__") _ _) _ _ _); refine call_meets F.slot_zip_getattribute (hT _) zip_getattribute (F.args_zip_getattribute_2 _ _) (zip_miss z vs _) ⟨hx, hA, fun h' tk' e hx' => ?_⟩) | wp_step))
  obtain ⟨t', u', he⟩ := hx'.there
  have hk := hx'.keeps
  show wpAny _ _ (getattributeRaised _ _ _ _ _ _ _) _ _ _
  unfold getattributeRaised
  repeat (any_goals (first | assumption | wp_step))
  all_goals exact h _ _ hk
end Mine
end

section
/- part DictZip2 -/
open PySem PySem.W PyProof.Rows PySem.Calls PySem.Spec
set_option maxRecDepth 100000
namespace Mine
section
variable {prog : Program} {w : World} {A : Around} {E : Value → Shared → Prop} {s : Shared}

theorem alive {M : Model} {α : Addr} {Q : Option Obj → Shared → Prop} (h : Q (s.heap.get? α) s) : wpAny M A (loadIfAlive α) Q E s := fun _ _ _ => h

noncomputable abbrev zipO (TI TO : Addr) (f0 f1 : Value) : Obj := { cls := .type "zip", dict := none, data := .fields #[f0, f1, .bool false, .ref TI, .ref TO], slots := #[] }

/-- a zip that has handed out a tuple: that tuple is seen to be alive, and the zip makes a new one from then on -/
theorem zip_held {z TI TO T : Addr} {b : Bool} {oT : Obj} {Q : Bool → Shared → Prop} (hz : s.heap.get? z = some (zipO TI TO (rawInt T) (.bool b))) (hT : s.heap.get? T = some oT)
    (h : ∀ h', h'.get? z = some (zipO TI TO (rawInt T) (.bool true)) → Heap.SameBut z s.heap h' → Q false { s with heap := h' }) :
    wpAny (model prog w) A (Builtin.SmallTypes.ownedTupleIsFree (.ref z)) Q E s := by
  unfold Builtin.SmallTypes.ownedTupleIsFree
  refine wpAny_bind (wpAny_field hz rfl (x := rawInt T) rfl ?_)
  show wpAny _ _ (loadIfAlive ((T : Int)).toNat >>= _) _ _ _
  refine wpAny_bind (alive ?_)
  rw [Int.toNat_natCast, hT]
  simp only [Option.isNone_some, Bool.false_eq_true, if_false]
  refine wpAny_bind (wpAny_field hz rfl (x := .bool b) rfl ?_)
  cases b with
  | true =>
    rw [if_neg (by decide)]
    exact wpAny_bind (wpAny_pure (wpAny_pure (h _ hz (Heap.SameBut.refl ..))))
  | false =>
    rw [if_pos (by decide)]
    exact wpAny_bind (wpAny_setField_rec hz (by simp) fun h' hz' hs' => wpAny_pure (h h' hz' hs'))

theorem zip_next_held {z TI TO i1 i2 l1 l2 T : Addr} {k1 k2 : Nat} {xs ys : Array Value} {x y a b : Value} {f : Bool} {oT : Obj} {Q : Value → Shared → Prop} (D : ZipApart z TI TO i1 i2 l1 l2)
    (hz : s.heap.get? z = some (zipO TI TO (rawInt T) (.bool f))) (hT : s.heap.get? T = some oT) (hTI : IsPair s.heap TI (.ref i1) (.ref i2))
    (h1 : s.heap.IsListIter i1 l1 k1) (h2 : s.heap.IsListIter i2 l2 k2) (hl1 : s.heap.IsList l1 xs) (hl2 : s.heap.IsList l2 ys) (hx : xs[k1]? = some x) (hy : ys[k2]? = some y)
    (hQ : ∀ h', h'.get? z = some (zipO TI TO (rawInt T) (.bool true)) → h'.IsListIter i1 l1 (k1 + 1) → h'.IsListIter i2 l2 (k2 + 1) → IsPair h' s.heap.objs.size x y →
      (∀ c o, c ≠ z → c ≠ i1 → c ≠ i2 → s.heap.get? c = some o → h'.get? c = some o) → Q (.ref s.heap.objs.size) { s with heap := h' }) :
    wpAny (model prog w) A (Builtin.«zip.__next__» ⟨[.ref z], []⟩) (fun fin s' => ∃ v, fin = .done (.ret v) ∧ Q v s') E s := by
  show wpAny _ _ (field (.ref z) 2 >>= _) _ _ _
  refine wpAny_bind (wpAny_field hz rfl (x := .bool false) rfl ?_)
  show wpAny _ _ (field (.ref z) 3 >>= _) _ _ _
  refine wpAny_bind (wpAny_field hz rfl (x := .ref TI) rfl ?_)
  refine wpAny_bind (wpAny_seqItems hTI rfl ?_)
  show wpAny _ _ (Builtin.SmallTypes.ownedTupleIsFree (.ref z) >>= _) _ _ _
  refine wpAny_bind (zip_held hz hT fun h₁ hz₁ hs₁ => ?_)
  simp only [Bool.false_eq_true, if_false]
  refine wpAny_bind ?_
  simp only [List.forIn_toArray, List.forIn_cons, List.forIn_nil]
  refine wpAny_bind (wpAny_bind (wpAny_holding ?_))
  show wpAny _ _ (Builtin.SmallTypes.nextOf (.ref i1) >>= _) _ _ _
  refine wpAny_bind (wpAny_nextOf_list_item (h1.extBut hs₁.extBut D.i1z) (hl1.extBut hs₁.extBut D.l1z) hx fun h₂ h1₂ hs₂ => wpAny_pure (wpAny_pure ?_))
  refine wpAny_bind (wpAny_bind (wpAny_holding ?_))
  show wpAny _ _ (Builtin.SmallTypes.nextOf (.ref i2) >>= _) _ _ _
  refine wpAny_bind (wpAny_nextOf_list_item ((h2.extBut hs₁.extBut D.i2z).extBut hs₂.extBut D.i12.symm) ((hl2.extBut hs₁.extBut D.l2z).extBut hs₂.extBut D.l2i1) hy fun h₃ h2₃ hs₃ => wpAny_pure (wpAny_pure (wpAny_pure ?_)))
  refine wpAny_bind (wpAny_newTuple (hsz := Nat.le_of_ble_eq_true rfl) ?_)
  have hsz : h₃.objs.size = s.heap.objs.size := by rw [hs₃.1, hs₂.1, hs₁.1]
  have hz₃ : h₃.get? z = some _ := hs₃.extBut _ _ D.i2z.symm (hs₂.extBut _ _ D.i1z.symm hz₁)
  have hk : ∀ c o, c ≠ z → c ≠ i1 → c ≠ i2 → s.heap.get? c = some o → (h₃.push { cls := .type "tuple", data := .seq #[x, y] }).get? c = some o := fun c o c1 c2 c3 e =>
    Heap.get?_push_of_some _ (hs₃.extBut _ _ c3 (hs₂.extBut _ _ c2 (hs₁.extBut _ _ c1 e)))
  refine wpAny_pure ⟨_, rfl, ?_⟩
  show Q (.ref h₃.objs.size) _
  have hp : IsPair (h₃.push { cls := .type "tuple", data := .seq #[x, y] }) h₃.objs.size x y := Heap.get?_push_size _ rfl
  rw [hsz] at hp ⊢
  exact hQ _ (Heap.get?_push_of_some _ hz₃) ((h1₂.extBut hs₃.extBut D.i12).at fun o e => Heap.get?_push_of_some _ e) (h2₃.at fun o e => Heap.get?_push_of_some _ e) hp hk

theorem zip_end_held {z TI TO i1 i2 l1 l2 T : Addr} {k1 : Nat} {xs : Array Value} {f : Bool} {oT : Obj} {Q : Fin → Shared → Prop} (hh : A.handled = none) (D : ZipApart z TI TO i1 i2 l1 l2)
    (hz : s.heap.get? z = some (zipO TI TO (rawInt T) (.bool f))) (hT : s.heap.get? T = some oT) (hTI : IsPair s.heap TI (.ref i1) (.ref i2))
    (h1 : s.heap.IsListIter i1 l1 k1) (hl1 : s.heap.IsList l1 xs) (hend : xs[k1]? = none)
    (hE : ∀ h' e, (∀ c o, c ≠ z → c ≠ i1 → s.heap.get? c = some o → h'.get? c = some o) → (∃ o, h'.get? e = some o ∧ o.cls = .type "StopIteration") → E (.ref e) { s with heap := h' }) :
    wpAny (model prog w) A (Builtin.«zip.__next__» ⟨[.ref z], []⟩) Q E s := by
  show wpAny _ _ (field (.ref z) 2 >>= _) _ _ _
  refine wpAny_bind (wpAny_field hz rfl (x := .bool false) rfl ?_)
  show wpAny _ _ (field (.ref z) 3 >>= _) _ _ _
  refine wpAny_bind (wpAny_field hz rfl (x := .ref TI) rfl ?_)
  refine wpAny_bind (wpAny_seqItems hTI rfl ?_)
  show wpAny _ _ (Builtin.SmallTypes.ownedTupleIsFree (.ref z) >>= _) _ _ _
  refine wpAny_bind (zip_held hz hT fun h₁ hz₁ hs₁ => ?_)
  simp only [Bool.false_eq_true, if_false]
  refine wpAny_bind ?_
  simp only [List.forIn_toArray, List.forIn_cons, List.forIn_nil]
  refine wpAny_bind (wpAny_bind (wpAny_holding ?_))
  show wpAny _ _ (Builtin.SmallTypes.nextOf (.ref i1) >>= _) _ _ _
  exact wpAny_bind (wpAny_nextOf_list_end hh (h1.extBut hs₁.extBut D.i1z) (hl1.extBut hs₁.extBut D.l1z) hend fun h₂ e hs₂ he => hE h₂ e (fun c o c1 c2 x => hs₂ _ _ c2 (hs₁.extBut _ _ c1 x)) he)

theorem pyNext_zip_held {z TI TO i1 i2 l1 l2 T : Addr} {k1 k2 : Nat} {xs ys : Array Value} {x y : Value} {f : Bool} {oT : Obj} {Q : Option Value → Shared → Prop} (D : ZipApart z TI TO i1 i2 l1 l2)
    (hz : s.heap.get? z = some (zipO TI TO (rawInt T) (.bool f))) (hT : s.heap.get? T = some oT) (hTI : IsPair s.heap TI (.ref i1) (.ref i2))
    (h1 : s.heap.IsListIter i1 l1 k1) (h2 : s.heap.IsListIter i2 l2 k2) (hl1 : s.heap.IsList l1 xs) (hl2 : s.heap.IsList l2 ys) (hx : xs[k1]? = some x) (hy : ys[k2]? = some y)
    (hQ : ∀ h', h'.get? z = some (zipO TI TO (rawInt T) (.bool true)) → h'.IsListIter i1 l1 (k1 + 1) → h'.IsListIter i2 l2 (k2 + 1) → IsPair h' s.heap.objs.size x y →
      (∀ c o, c ≠ z → c ≠ i1 → c ≠ i2 → s.heap.get? c = some o → h'.get? c = some o) → Q (some (.ref s.heap.objs.size)) { s with heap := h' }) : wpAny (model prog w) A (pyNext (.ref z)) Q E s := by
  have hTz : s.TypeIs (.ref z) "zip" := ⟨_, hz, rfl⟩
  unfold pyNext
  exact wpAny_bind (wpAny_attempt (wpAny_callSpecial?_slot (name := Str.ofString "__next__") hTz F.slot_zip_next
    (wpAny_call_entry F.slot_zip_next hTz F.entry_zip_next
      (zip_next_held (a := .none) (b := .none) D hz hT hTI h1 h2 hl1 hl2 hx hy fun h' a1 a2 a3 a4 a5 => wpAny_pure (hQ h' a1 a2 a3 a4 a5)) (F.args_zip_next_1 _))))

theorem pyNext_zip_end_held {z TI TO i1 i2 l1 l2 T : Addr} {k1 : Nat} {xs : Array Value} {f : Bool} {oT : Obj} {Q : Option Value → Shared → Prop} (hh : A.handled = none) (D : ZipApart z TI TO i1 i2 l1 l2)
    (hz : s.heap.get? z = some (zipO TI TO (rawInt T) (.bool f))) (hT : s.heap.get? T = some oT) (hTI : IsPair s.heap TI (.ref i1) (.ref i2))
    (h1 : s.heap.IsListIter i1 l1 k1) (hl1 : s.heap.IsList l1 xs) (hend : xs[k1]? = none)
    (hQ : ∀ h', (∀ c o, c ≠ z → c ≠ i1 → s.heap.get? c = some o → h'.get? c = some o) → Q none { s with heap := h' }) : wpAny (model prog w) A (pyNext (.ref z)) Q E s := by
  have hTz : s.TypeIs (.ref z) "zip" := ⟨_, hz, rfl⟩
  unfold pyNext
  refine wpAny_bind (wpAny_attempt (wpAny_callSpecial?_slot (name := Str.ofString "__next__") hTz F.slot_zip_next
    (wpAny_call_entry F.slot_zip_next hTz F.entry_zip_next (zip_end_held (l2 := l2) hh D hz hT hTI h1 hl1 hend fun h' e hk he => ?_) (F.args_zip_next_1 _))))
  obtain ⟨o, ho, hc⟩ := he
  refine wpAny_bind (wpAny_isInstance (T := "StopIteration") (b := true) ⟨o, ho, hc⟩ isSubtype_stop ?_)
  exact wpAny_pure (hQ _ hk)
end
end Mine
end

section
/- part DictZip3 -/
open PySem PySem.W PyProof.Rows PySem.Calls PySem.Spec
set_option maxRecDepth 100000
namespace Mine

theorem loop_plain : plainId "dict.update.loop" = true := by decide +kernel
theorem loop_entry : entryFor table "dict.update.loop" = some Builtin.«dict.update.loop» := entryFor_of_tree (by kernel_rfl)

/-- a zip of two lists that has given j pairs -/
noncomputable def ZS (h : Heap) (z TI TO i1 i2 l1 l2 : Addr) (xs ys : Array Value) (j : Nat) : Prop :=
  (h.get? z = some (zipO TI TO .none (.bool false)) ∨ ∃ (T : Nat) (oT : Obj) (f : Bool), h.get? z = some (zipO TI TO (rawInt T) (.bool f)) ∧ h.get? T = some oT) ∧
    IsPair h TI (.ref i1) (.ref i2) ∧ (∃ a b, IsPair h TO a b) ∧ h.IsListIter i1 l1 j ∧ h.IsListIter i2 l2 j ∧ h.IsList l1 xs ∧ h.IsList l2 ys

section
variable {prog : Program} {w : World} {A : Around} {E : Value → Shared → Prop} {s : Shared} {z TI TO i1 i2 l1 l2 d : Addr} {xs ys : Array Value} {j : Nat}

theorem ZS.keeps {h h' : Heap} (Z : ZS h z TI TO i1 i2 l1 l2 xs ys j) (hk : ∀ b o, b ≠ d → h.get? b = some o → h'.get? b = some o) (hd : ∃ o, h'.get? d = some o) (nz : z ≠ d) (nTI : TI ≠ d) (nTO : TO ≠ d) (n1 : i1 ≠ d) (n2 : i2 ≠ d) (m1 : l1 ≠ d) (m2 : l2 ≠ d) :
    ZS h' z TI TO i1 i2 l1 l2 xs ys j := by
  obtain ⟨h1, h2, ⟨a, b, h3⟩, h4, h5, h6, h7⟩ := Z
  refine ⟨?_, hk _ _ nTI h2, ⟨a, b, hk _ _ nTO h3⟩, h4.at fun o e => hk _ o n1 e, h5.at fun o e => hk _ o n2 e, h6.at fun o e => hk _ o m1 e, h7.at fun o e => hk _ o m2 e⟩
  rcases h1 with h1 | ⟨T, oT, f, h1, hT⟩
  · exact .inl (hk _ _ nz h1)
  · by_cases e : T = d
    · subst e; obtain ⟨o, ho⟩ := hd; exact .inr ⟨T, o, f, hk _ _ nz h1, ho⟩
    · exact .inr ⟨T, oT, f, hk _ _ nz h1, hk _ _ e hT⟩

theorem ZS.next {x y : Value} {Q : Option Value → Shared → Prop} (D : ZipApart z TI TO i1 i2 l1 l2) (Z : ZS s.heap z TI TO i1 i2 l1 l2 xs ys j) (hx : xs[j]? = some x) (hy : ys[j]? = some y)
    (hQ : ∀ h' T, ZS h' z TI TO i1 i2 l1 l2 xs ys (j + 1) → IsPair h' T x y → (∀ c o, c ≠ z → c ≠ TO → c ≠ i1 → c ≠ i2 → s.heap.get? c = some o → h'.get? c = some o) → Q (some (.ref T)) { s with heap := h' }) :
    wpAny (model prog w) A (pyNext (.ref z)) Q E s := by
  obtain ⟨h1, h2, ⟨a, b, h3⟩, h4, h5, h6, h7⟩ := Z
  rcases h1 with h1 | ⟨T, oT, f, h1, hT⟩
  · refine wpAny_pyNext_zip_item D h1 h2 h3 h4 h5 h6 h7 hx hy fun h' a1 a2 a3 a4 a5 _ hk => ?_
    exact hQ h' _ ⟨.inr ⟨_, _, false, a1, a5⟩, hk _ _ D.TIz D.TITO D.TIi1 D.TIi2 h2, ⟨_, _, a2⟩, a3, a4, h6.at fun o e => hk _ o D.l1z D.l1TO D.l1i1 D.l1i2 e, h7.at fun o e => hk _ o D.l2z D.l2TO D.l2i1 D.l2i2 e⟩ a5 hk
  · refine pyNext_zip_held D h1 hT h2 h4 h5 h6 h7 hx hy fun h' a1 a3 a4 a5 hk => ?_
    refine hQ h' _ ⟨.inr ⟨T, ?_⟩, hk _ _ D.TIz D.TIi1 D.TIi2 h2, ⟨_, _, hk _ _ D.TOz D.TOi1 D.TOi2 h3⟩, a3, a4, h6.at fun o e => hk _ o D.l1z D.l1i1 D.l1i2 e, h7.at fun o e => hk _ o D.l2z D.l2i1 D.l2i2 e⟩ a5 (fun c o c1 _ c3 c4 e => hk c o c1 c3 c4 e)
    by_cases e1 : T = z
    · subst e1; exact ⟨_, true, a1, a1⟩
    · by_cases e2 : T = i1
      · subst e2; obtain ⟨o, ho, _⟩ := a3; exact ⟨o, true, a1, ho⟩
      · by_cases e3 : T = i2
        · subst e3; obtain ⟨o, ho, _⟩ := a4; exact ⟨o, true, a1, ho⟩
        · exact ⟨oT, true, a1, hk _ _ e1 e2 e3 hT⟩

theorem ZS.stop {Q : Option Value → Shared → Prop} (hh : A.handled = none) (D : ZipApart z TI TO i1 i2 l1 l2) (Z : ZS s.heap z TI TO i1 i2 l1 l2 xs ys j) (hx : xs[j]? = none)
    (hQ : ∀ h', (∀ c o, c ≠ z → c ≠ TO → c ≠ i1 → c ≠ i2 → s.heap.get? c = some o → h'.get? c = some o) → Q none { s with heap := h' }) :
    wpAny (model prog w) A (pyNext (.ref z)) Q E s := by
  obtain ⟨h1, h2, ⟨a, b, h3⟩, h4, h5, h6, h7⟩ := Z
  rcases h1 with h1 | ⟨T, oT, f, h1, hT⟩
  · exact wpAny_pyNext_zip_end hh D h1 h2 h3 h4 h5 h6 h7 (.inl hx) fun h' hk => hQ h' hk
  · exact pyNext_zip_end_held hh D h1 hT h2 h4 h6 hx fun h' hk => hQ h' fun c o c1 _ c3 _ e => hk c o c1 c3 e

theorem dz_loop {ks : List (Str × Tok)} {vals : List Value} {kvs₀ : List (Str × Value)} {R : Result → Shared → Prop} (hh : A.handled = none) (D : ZipApart z TI TO i1 i2 l1 l2)
    (nz : z ≠ d) (nTI : TI ≠ d) (nTO : TO ≠ d) (n1 : i1 ≠ d) (n2 : i2 ≠ d) (m1 : l1 ≠ d) (m2 : l2 ≠ d) (hlen : ks.length = vals.length) (hsz : kvs₀.length + ks.length ≤ sizeLine) (h₁ : Heap) :
    ∀ (k j : Nat) (s : Shared), ks.length - j = k → j ≤ ks.length → ZS s.heap z TI TO i1 i2 l1 l2 (ks.map fun p => Value.str p.1 p.2).toArray vals.toArray j →
      s.heap.DictOf (strKind prog w) d (merged kvs₀ (((ks.map (·.1)).zip vals).take j)) → (∀ c o, c ≠ z → c ≠ TO → c ≠ i1 → c ≠ i2 → c ≠ d → h₁.get? c = some o → s.heap.get? c = some o) →
      (∀ h' tk, h'.DictOf (strKind prog w) d (merged kvs₀ ((ks.map (·.1)).zip vals)) → (∀ c o, c ≠ z → c ≠ TO → c ≠ i1 → c ≠ i2 → c ≠ d → h₁.get? c = some o → h'.get? c = some o) → R (.ok (.ret .none)) { s with heap := h', toks := tk }) →
      wpAny (model prog w) A.in1 (Builtin.«dict.update.loop» ⟨[.ref d, .ref z, rawInt j, .none], []⟩) (fun fin s' => match fin with | .done f => R (.ok f) s' | .again c' => c'.quiet = true ∧ codeAny (model prog w) A c' R s') (fun e s' => R (.error e) s') s := by
  intro k
  induction k with
  | zero =>
    intro j s hk hj Z hD hold h
    have ej : j = ks.length := by omega
    subst ej
    show wpAny _ _ (pyNext (.ref z) >>= _) _ _ _
    refine wpAny_bind (Z.stop hh D (by simp) fun h' hk' => ?_)
    show wpAny _ _ (Builtin.Dict.addKeywords d [] >>= _) _ _ _
    refine wpAny_bind (wpAny_pure (wpAny_pure ?_))
    have e1 : ((ks.map (·.1)).zip vals).take ks.length = (ks.map (·.1)).zip vals := List.take_of_length_le (by simp [hlen])
    rw [e1] at hD
    have hdT : ∃ o, s.heap.get? d = some o := by obtain ⟨o, _, _, ho, _⟩ := hD; exact ⟨o, ho⟩
    refine h h' s.toks ?_ fun c o c1 c2 c3 c4 c5 e => hk' c o c1 c2 c3 c4 (hold c o c1 c2 c3 c4 c5 e)
    obtain ⟨o, es, ep, ho, r⟩ := hD
    exact ⟨o, es, ep, hk' _ _ (Ne.symm nz) (Ne.symm nTO) (Ne.symm n1) (Ne.symm n2) ho, r⟩
  | succ k ih =>
    intro j s hk hj Z hD hold h
    have hlt : j < ks.length := by omega
    have hx : (ks.map fun p => Value.str p.1 p.2).toArray[j]? = some (.str ks[j].1 ks[j].2) := by simp [hlt]
    have hy : vals.toArray[j]? = some (vals[j]'(hlen ▸ hlt)) := by simp [hlen ▸ hlt]
    show wpAny _ _ (pyNext (.ref z) >>= _) _ _ _
    refine wpAny_bind (Z.next D hx hy fun h' T Z' hT hk' => ?_)
    dsimp only
    refine wpAny_bind (wpAny_holding ?_)
    refine wpAny_bind (wpAny_tryCatch ?_)
    have hTt : (⟨h', s.gens, s.drawn, s.toks, s.os⟩ : Shared).TypeIs (.ref T) "tuple" := ⟨_, hT, rfl⟩
    unfold Builtin.Dict.pairItems
    refine wpAny_bind (wpAny_typeOf hTt ?_)
    rw [if_pos (by decide)]
    refine wpAny_bind (wpAny_seqItems hT rfl (wpAny_pure ?_))
    dsimp only [Option.getD_some]
    have hdT : s.heap.get? d ≠ none := by obtain ⟨o, _, _, ho, _⟩ := hD; rw [ho]; exact Option.some_ne_none _
    have hD' : h'.DictOf (strKind prog w) d (merged kvs₀ (((ks.map (·.1)).zip vals).take j)) := by
      obtain ⟨o, es, ep, ho, r⟩ := hD
      exact ⟨o, es, ep, hk' _ _ (Ne.symm nz) (Ne.symm nTO) (Ne.symm n1) (Ne.symm n2) ho, r⟩
    have hml := merged_length_le kvs₀ (((ks.map (·.1)).zip vals).take j)
    have htl : (((ks.map (·.1)).zip vals).take j).length ≤ j := by rw [List.length_take]; exact Nat.min_le_left _ _
    refine wpAny_holding (wpAny_dictSet_pairs (strKind_is prog w _ _) hD' (fun h₂ hD₂ hs₂ => ?_) (by omega))
    refine wpAny_pure ⟨plainId_quiet loop_plain _, codeAny_builtin loop_entry ?_⟩
    rw [Around.under_plainId loop_plain _]
    have hz : ((ks.map (·.1)).zip vals)[j]? = some (ks[j].1, vals[j]'(hlen ▸ hlt)) := by
      rw [List.getElem?_zip_eq_some]
      simp [hlt, hlen ▸ hlt]
    rw [← merged_take_succ _ _ _ _ hz] at hD₂
    have hdE : ∃ o, h₂.get? d = some o := by obtain ⟨o, _, _, ho, _⟩ := hD₂; exact ⟨o, ho⟩
    exact ih (j + 1) { s with heap := h₂, toks := s.toks + 1 } (by omega) (by omega) (Z'.keeps (fun b o e1 e => hs₂.extBut b o e1 e) hdE nz nTI nTO n1 n2 m1 m2) hD₂
      (fun c o c1 c2 c3 c4 c5 e => hs₂.extBut c o c5 (hk' c o c1 c2 c3 c4 (hold c o c1 c2 c3 c4 c5 e))) h
end
end Mine
end

section
/- part DictZip4 -/
open PySem PySem.W PyProof.Rows PySem.Calls PySem.Spec
set_option maxRecDepth 100000
namespace Mine

/-- a zip of two lists, just made -/
noncomputable def ZipMade (h₀ h : Heap) (L : Addr) (news : List (Addr × Obj)) (z : Addr) (xs ys : Array Value) : Prop :=
  ∃ TI TO i1 i2 l1 l2 lo : Nat, ZipApart z TI TO i1 i2 l1 l2 ∧ h.get? z = some (zipO TI TO .none (.bool false)) ∧ ZS h z TI TO i1 i2 l1 l2 xs ys 0 ∧ (lo ≤ z ∧ lo ≤ TO ∧ lo ≤ i1 ∧ lo ≤ i2) ∧
    (∀ p ∈ news, @LT.lt Nat _ p.1 lo) ∧ @LT.lt Nat _ L lo ∧ (∀ b o, h₀.get? b = some o → @LT.lt Nat _ b lo)

section
variable {prog : Program} {w : World} {A : Around} {E : Value → Shared → Prop} {s : Shared} {h₀ : Heap} {L : Addr} {m : Str → Option Value} {news : List (Addr × Obj)} {Q : Value → Shared → Prop}

theorem led_zip {l1 l2 : Addr} {xs ys : Array Value} {k1 k2 : Nat} (F : Fr h₀ L s.heap m) (N : News h₀ L s.heap news) (h1 : (l1, listOf xs k1) ∈ news) (h2 : (l2, listOf ys k2) ∈ news) 
    (h : ∀ z h', Fr h₀ L h' m → News h₀ L h' news → ZipMade h₀ h' L news z xs ys → Q (.ref z) { s with heap := h' }) :
    wpAny (model prog w) A (call (.type "zip") [.ref l1, .ref l2]) Q E s := by
  have hl1 := N.isList h1
  have hl2 := N.isList h2
  have lt1 : @LT.lt Nat _ l1 s.heap.objs.size := Heap.lt_size (N _ h1).1
  have lt2 : @LT.lt Nat _ l2 s.heap.objs.size := Heap.lt_size (N _ h2).1
  refine call_zip_2 hl1 hl2 fun h' a1 a2 a3 a4 a5 _ hk => h _ h' (F.keeps hk) (N.grown hk) ?_
  refine ⟨s.heap.objs.size + 2, s.heap.objs.size + 3, s.heap.objs.size, s.heap.objs.size + 1, l1, l2, s.heap.objs.size, ?_, a1, ⟨.inl a1, a2, ⟨_, _, a3⟩, a4, a5, hl1.at fun o e => hk _ o e, hl2.at fun o e => hk _ o e⟩, by omega,
    fun p hp => Heap.lt_size (N p hp).1, F.ns.lt, fun b o e => Heap.lt_size (F.keep b o e)⟩
  constructor <;> (show @Ne Nat _ _; omega)

theorem led_dictZip {z : Addr} {ks : List (Str × Tok)} {vals : List Value} (F : Fr h₀ L s.heap m) (N : News h₀ L s.heap news) (hbig : h₀.NoLimit) (hh : A.handled = none)
    (Z : ZipMade h₀ s.heap L news z (ks.map fun p => Value.str p.1 p.2).toArray vals.toArray) (hlen : ks.length = vals.length) (hsz : ks.length < 10000) (hn : (ks.map (·.1)).Nodup)
    (h : ∀ D o h' tk', Fr h₀ L h' m → News h₀ L h' ((D, o) :: news) → (∀ p ∈ news, @LT.lt Nat _ p.1 D) → (D == sysModules) = false → o.IsDictOf (strKind prog w) ((ks.map (·.1)).zip vals) → Q (.ref D) { s with heap := h', toks := tk' }) :
    wpAny (model prog w) A (call (.type "dict") [.ref z]) Q E s := by
  obtain ⟨TI, TO, i1, i2, l1, l2, lo, D, hz, Zs, hlo, hnews, hL, h₀lo⟩ := Z
  have hdz : @LT.lt Nat _ z s.heap.objs.size := Heap.lt_size hz
  have hdTI : @LT.lt Nat _ TI s.heap.objs.size := Heap.lt_size Zs.2.1
  have hdTO : @LT.lt Nat _ TO s.heap.objs.size := by obtain ⟨a, b, e⟩ := Zs.2.2.1; exact Heap.lt_size e
  have hd1 : @LT.lt Nat _ i1 s.heap.objs.size := by obtain ⟨o, e, _⟩ := Zs.2.2.2.1; exact Heap.lt_size e
  have hd2 : @LT.lt Nat _ i2 s.heap.objs.size := by obtain ⟨o, e, _⟩ := Zs.2.2.2.2.1; exact Heap.lt_size e
  have hm1 : @LT.lt Nat _ l1 s.heap.objs.size := by obtain ⟨o, e, _⟩ := Zs.2.2.2.2.2.1; exact Heap.lt_size e
  have hm2 : @LT.lt Nat _ l2 s.heap.objs.size := by obtain ⟨o, e, _⟩ := Zs.2.2.2.2.2.2; exact Heap.lt_size e
  refine callType_codes (Q₁ := fun obj s₁ => obj = .ref s.heap.objs.size ∧ s₁ = { s with heap := s.heap.push { cls := .type "dict", data := .dict #[] } }) PySem.F.kt_called_dict (PySem.F.kt_typeCall_dict_1 _) PySem.F.entry_dict_init (kt_code_dict_new _ ⟨rfl, rfl⟩) ?_
  rintro obj s₁ ⟨rfl, rfl⟩
  have hnew : (s.heap.push { cls := .type "dict", data := .dict #[] }).DictOf (strKind prog w) s.heap.objs.size [] := Heap.DictOf.new s.heap
  have up : ∀ b o, s.heap.get? b = some o → (s.heap.push { cls := .type "dict", data := .dict #[] }).get? b = some o := fun b o e => Heap.get?_push_of_some _ e
  have hzp := up _ _ hz
  refine ⟨hnew.typeIs, PySem.F.args_dict_init_2 _ _, ?_⟩
  unfold Builtin.«dict.__init__»
  refine wpAny_bind ?_
  unfold Builtin.Dict.selfAndRest
  refine wpAny_bind (wpAny_notOrdered_dict hnew.typeIs ?_)
  show wpAny _ _ (pure (s.heap.objs.size, [Value.ref z])) _ _ _
  refine wpAny_pure ?_
  show wpAny _ _ (Builtin.Dict.updateFrom "dict.__init__" s.heap.objs.size (.ref z) [] .none) _ _ _
  unfold Builtin.Dict.updateFrom
  have hTz : ({ s with heap := s.heap.push { cls := .type "dict", data := .dict #[] } } : Shared).TypeIs (.ref z) "zip" := ⟨_, hzp, rfl⟩
  refine wpAny_bind (wpAny_typeOf hTz ?_)
  rw [if_pos (by decide)]
  refine wpAny_bind (zip_keys hzp hh fun h₁ tk₁ hk₁ => ?_)
  simp only [Option.isNone_none, if_true]
  refine wpAny_bind (wpAny_rule ?_)
  refine wpAny_bind (wpAny_pyIter_zip (hk₁ _ _ hzp) ?_)
  refine wpAny_pure ⟨plainId_quiet loop_plain _, codeAny_builtin loop_entry ?_⟩
  rw [Around.under_plainId loop_plain _]
  have Z1 : ZS h₁ z TI TO i1 i2 l1 l2 (ks.map fun p => Value.str p.1 p.2).toArray vals.toArray 0 :=
    Zs.keeps (d := s.heap.objs.size) (fun b o _ e => hk₁ _ _ (up b o e)) ⟨_, hk₁ _ _ (Heap.get?_push_size _ rfl)⟩ (Nat.ne_of_lt hdz) (Nat.ne_of_lt hdTI) (Nat.ne_of_lt hdTO) (Nat.ne_of_lt hd1) (Nat.ne_of_lt hd2) (Nat.ne_of_lt hm1) (Nat.ne_of_lt hm2)
  have hD1 : h₁.DictOf (strKind prog w) s.heap.objs.size (merged [] (((ks.map (·.1)).zip vals).take 0)) := by
    obtain ⟨o, es, ep, ho, r⟩ := hnew
    exact ⟨o, es, ep, hk₁ _ _ ho, r⟩
  refine dz_loop (A := A.in1) (kvs₀ := []) (R := wants (fun r s₂ => r = Value.none ∧ Q (Value.ref s.heap.objs.size) s₂) E) hh D (Nat.ne_of_lt hdz) (Nat.ne_of_lt hdTI) (Nat.ne_of_lt hdTO) (Nat.ne_of_lt hd1) (Nat.ne_of_lt hd2) (Nat.ne_of_lt hm1) (Nat.ne_of_lt hm2) hlen (by rw [sizeLine_eq]; simp; omega) s.heap ks.length 0 { s with heap := h₁, toks := tk₁ } rfl (Nat.zero_le _) Z1 hD1
    (fun c o _ _ _ _ _ e => hk₁ _ _ (up c o e)) fun h' tk hD hold => ?_
  have e1 : merged [] ((ks.map (·.1)).zip vals) = (ks.map (·.1)).zip vals := merged_nil_of_nodup _ (by
    rw [List.map_fst_zip (by simp [hlen])]; exact hn)
  rw [e1] at hD
  obtain ⟨o', ho', hd'⟩ := Heap.dictOf_iff.mp hD
  have hle : ∀ {c : Addr}, @LT.lt Nat _ c lo → c ≠ z ∧ c ≠ TO ∧ c ≠ i1 ∧ c ≠ i2 ∧ c ≠ s.heap.objs.size := fun {c} hc => by
    refine ⟨?_, ?_, ?_, ?_, ?_⟩ <;> (show @Ne Nat _ _; omega)
  have keepLo : ∀ b o, @LT.lt Nat _ b lo → s.heap.get? b = some o → h'.get? b = some o := fun b o hb e => by
    obtain ⟨c1, c2, c3, c4, c5⟩ := hle hb
    exact hold b o c1 c2 c3 c4 c5 e
  have F' : Fr h₀ L h' m := ⟨F.ns.at' fun o e => keepLo _ o hL e, fun b o e => keepLo b o (h₀lo b o e) (F.keep b o e), F.above⟩
  refine ⟨rfl, h _ o' h' tk F' (fun p hp => ?_) (fun p hp => Heap.lt_size (N p hp).1) (F.notModules (modules_low hbig)) hd'⟩
  rcases List.mem_cons.mp hp with rfl | hp
  · exact ⟨ho', by have := F.ns.lt; exact Ne.symm (Nat.ne_of_lt this), next_is_new F⟩
  · exact ⟨keepLo _ _ (hnews p hp) (N p hp).1, (N p hp).2⟩
end
end Mine
end

section
/- part TyEq -/
open PySem PySem.W PyProof.Rows PySem.Calls PySem.Spec PyProof.V
namespace Mine

noncomputable def Ty.spine : Ty → Str × List Ty
  | .leaf h => (h, [])
  | .app f a => (f.spine.1, f.spine.2 ++ [a])
theorem Ty.spine_on : ∀ (as : List Ty) (b : Ty), (b.on as).spine = (b.spine.1, b.spine.2 ++ as)
  | [], b => by simp [Ty.on]
  | a :: as, b => by
    have := Ty.spine_on as (.app b a)
    show ((Ty.app b a).on as).spine = _
    rw [this]
    simp [Ty.spine]
theorem Ty.on_inj {h h' : Str} {as as' : List Ty} (e : (Ty.leaf h).on as = (Ty.leaf h').on as') : h = h' ∧ as = as' := by
  have := congrArg Ty.spine e
  rw [Ty.spine_on, Ty.spine_on] at this
  simpa [Ty.spine] using this

section
variable {prog : Program} {w : World} {A : Around} {E : Value → Shared → Prop} {s : Shared} {h₀ : Heap} {L : Addr} {m : Str → Option Value} {news : List (Addr × Obj)} {Q : Value → Shared → Prop}

theorem ty_eq (N : News h₀ L s.heap news) : ∀ (n : Nat) (A : Around) (t : Ty) (v v' : Value), t.dep ≤ n → TyV news v t → TyV news v' t → A.units + n < cLine → PySem.SeqAt.EqAt A s v v' true := by
  intro n
  induction n with
  | zero =>
    intro A t v v' hd h h' hu
    cases h with
    | @leaf x k =>
      cases h' with
      | @leaf _ k2 => have := PySem.SeqAt.EqAt.str_str (A := A) (s := s) x k x k2; simpa using this
      | @app _ _ _ _ as _ _ hm hne hl hts ht =>
        cases as with
        | nil => exact (hne rfl).elim
        | cons a as => have := (Ty.on_inj (h := x) (as := []) ht).2; cases this
    | @app _ x _ _ as _ _ hm hne hl hts ht =>
      subst ht
      cases as with
      | nil => exact (hne rfl).elim
      | cons a as => have := (Ty.dep_on (a :: as) (.leaf x)).2 a List.mem_cons_self; omega
  | succ n ih =>
    intro A t v v' hd h h' hu
    cases h with
    | @leaf x k =>
      cases h' with
      | @leaf _ k2 => have := PySem.SeqAt.EqAt.str_str (A := A) (s := s) x k x k2; simpa using this
      | @app _ _ _ _ as _ _ hm hne hl hts ht =>
        cases as with
        | nil => exact (hne rfl).elim
        | cons a as => have := (Ty.on_inj (h := x) (as := []) ht).2; cases this
    | @app a1 x k vs as n1 _ hm hne hl hts ht =>
      cases h' with
      | leaf =>
        cases as with
        | nil => exact (hne rfl).elim
        | cons a as => have := (Ty.on_inj (as := []) ht).2; cases this
      | @app a2 x2 k2 vs2 as2 n2 _ hm2 hne2 hl2 hts2 ht2 =>
        obtain ⟨e1, e2⟩ := Ty.on_inj (ht.symm.trans ht2)
        subst e1 e2
        by_cases ha : a1 = a2
        · subst ha; exact PySem.SeqAt.EqAt.same _
        · have hd1 := Ty.dep_on as (.leaf x)
          rw [← ht] at hd1
          have R := PySem.SeqAt.RcAt.tuples (A := A) (s := s) (e := fun _ => true) (items := (Value.str x k :: vs).toArray) (items2 := (Value.str x k2 :: vs2).toArray) ⟨_, (N _ hm).1, rfl, _, rfl⟩ ⟨_, (N _ hm2).1, rfl, _, rfl⟩ (by omega) (fun j j1 j2 => by
            cases j with
            | zero => have := PySem.SeqAt.EqAt.str_str (A := A.in1) (s := s) x k x k2; simpa using this
            | succ j =>
              have l1 : j < vs.length := by simpa using j1
              have l2 : j < vs2.length := by simpa using j2
              have l3 : j < as.length := hl ▸ l1
              have := ih A.in1 as[j] vs[j] vs2[j] (by have := hd1.2 as[j] (List.getElem_mem l3); omega) (hts j _ _ (List.getElem?_eq_getElem l1) (List.getElem?_eq_getElem l3)) (hts2 j _ _ (List.getElem?_eq_getElem l2) (List.getElem?_eq_getElem l3))
                (by show A.units + 1 + n < cLine; omega)
              simpa using this)
          refine PySem.SeqAt.EqAt.of_refs ha ?_
          have e : ((List.range (min (Value.str x k :: vs).toArray.size (Value.str x k2 :: vs2).toArray.size)).all (fun _ => true) && (Value.str x k :: vs).toArray.size == (Value.str x k2 :: vs2).toArray.size) = true := by
            simp [hl, hl2]
          rw [e] at R
          exact R

/-- seen == due, two values of one type -/
theorem led_tyEq (N : News h₀ L s.heap news) {t : Ty} {v v' : Value} (h : TyV news v t) (h' : TyV news v' t) (hu : A.units + t.dep < cLine) (hq : Q (.bool true) s) : wpAny (model prog w) A (compareOp .Eq v v') Q E s := by
  cases h with
  | @leaf x k =>
    cases h' with
    | @leaf _ k2 => exact PySem.SeqAt.RcAt.str_str x k x k2 prog w E Q (by simpa using hq)
    | @app _ _ _ _ as _ _ hm hne hl hts ht =>
      cases as with
      | nil => exact (hne rfl).elim
      | cons a as => have := (Ty.on_inj (h := x) (as := []) ht).2; cases this
  | @app a1 x k vs as n1 _ hm hne hl hts ht =>
    cases h' with
    | leaf =>
      cases as with
      | nil => exact (hne rfl).elim
      | cons a as => have := (Ty.on_inj (as := []) ht).2; cases this
    | @app a2 x2 k2 vs2 as2 n2 _ hm2 hne2 hl2 hts2 ht2 =>
      obtain ⟨e1, e2⟩ := Ty.on_inj (ht.symm.trans ht2)
      subst e1 e2
      have hd1 := Ty.dep_on as (.leaf x)
      rw [← ht] at hd1
      have R := PySem.SeqAt.RcAt.tuples (A := A) (s := s) (e := fun _ => true) (items := (Value.str x k :: vs).toArray) (items2 := (Value.str x k2 :: vs2).toArray) ⟨_, (N _ hm).1, rfl, _, rfl⟩ ⟨_, (N _ hm2).1, rfl, _, rfl⟩ (by omega) (fun j j1 j2 => by
        cases j with
        | zero => have := PySem.SeqAt.EqAt.str_str (A := A.in1) (s := s) x k x k2; simpa using this
        | succ j =>
          have l1 : j < vs.length := by simpa using j1
          have l2 : j < vs2.length := by simpa using j2
          have l3 : j < as.length := hl ▸ l1
          have hdj := hd1.2 as[j] (List.getElem_mem l3)
          have := ty_eq N (t.dep - 1) A.in1 as[j] vs[j] vs2[j] (by omega) (hts j _ _ (List.getElem?_eq_getElem l1) (List.getElem?_eq_getElem l3)) (hts2 j _ _ (List.getElem?_eq_getElem l2) (List.getElem?_eq_getElem l3))
            (by show A.units + 1 + _ < cLine; omega)
          simpa using this)
      have e : ((List.range (min (Value.str x k :: vs).toArray.size (Value.str x k2 :: vs2).toArray.size)).all (fun _ => true) && (Value.str x k :: vs).toArray.size == (Value.str x k2 :: vs2).toArray.size) = true := by
        simp [hl, hl2]
      rw [e] at R
      exact R prog w E Q hq
end
end Mine
end

section
/- part ToldDef -/
open PySem PySem.W PyProof.Rows
namespace Mine

/-- a dict of types: what stands for the names -/
noncomputable def EnvV (w : World) (news : List (Addr × Obj)) (d : Addr) (σ : Str → Option Ty) : Prop :=
  ∃ (o : Obj) (kvs : List (Str × Value)), (d, o) ∈ news ∧ o.IsDictOf (strKind PySem.Challenge.rw_xw0149_01.row.prog w) kvs ∧ (d == sysModules) = false ∧
    (∀ h v, valueAt kvs h = some v → ∃ t, σ h = some t ∧ TyV news v t) ∧ (∀ h, valueAt kvs h = none → σ h = none)
theorem EnvV.mono {w : World} {news news' : List (Addr × Obj)} {d : Addr} {σ : Str → Option Ty} (hs : ∀ p ∈ news, p ∈ news') (h : EnvV w news d σ) : EnvV w news' d σ := by
  obtain ⟨o, kvs, h1, h2, h3, h4, h5⟩ := h
  exact ⟨o, kvs, hs _ h1, h2, h3, fun h v e => by obtain ⟨t, a, b⟩ := h4 h v e; exact ⟨t, a, b.mono hs⟩, h5⟩

/-- the dict told -/
noncomputable def ToldV (w : World) (news : List (Addr × Obj)) (d : Addr) (T : Str → Option Def) : Prop :=
  ∃ (o : Obj) (kvs : List (Str × Value)), (d, o) ∈ news ∧ o.IsDictOf (strKind PySem.Challenge.rw_xw0149_01.row.prog w) kvs ∧ (d == sysModules) = false ∧
    (∀ h v, valueAt kvs h = some v → ∃ (df : Def) (tu pl : Addr) (pvs : List (Str × Tok)) (bv : Value) (n k : Nat), T h = some df ∧ v = .ref tu ∧ (tu, tupOf [.ref pl, bv] n) ∈ news ∧ (pl, listOf (pvs.map fun p : Str × Tok => Value.str p.1 p.2).toArray k) ∈ news ∧ pvs.map (·.1) = df.ps ∧ TyV news bv ((Ty.leaf df.bh).on df.parts)) ∧
    (∀ h, valueAt kvs h = none → T h = none)
theorem ToldV.mono {w : World} {news news' : List (Addr × Obj)} {d : Addr} {T : Str → Option Def} (hs : ∀ p ∈ news, p ∈ news') (h : ToldV w news d T) : ToldV w news' d T := by
  obtain ⟨o, kvs, h1, h2, h3, h4, h5⟩ := h
  exact ⟨o, kvs, hs _ h1, h2, h3, fun h v e => by obtain ⟨df, tu, pl, pvs, bv, n, k, a1, a2, a3, a4, a5, a6⟩ := h4 h v e; exact ⟨df, tu, pl, pvs, bv, n, k, a1, a2, hs _ a3, hs _ a4, a5, a6.mono hs⟩, h5⟩

theorem TyVs.take {news : List (Addr × Obj)} {vs : List Value} {ts : List Ty} (h : TyVs news vs ts) (n : Nat) : TyVs news (vs.take n) (ts.take n) :=
  ⟨by simp [h.1], fun i v t h1 h2 => h.2 i v t (by rw [List.getElem?_take] at h1; split at h1; exact h1; cases h1) (by rw [List.getElem?_take] at h2; split at h2; exact h2; cases h2)⟩
theorem TyVs.drop {news : List (Addr × Obj)} {vs : List Value} {ts : List Ty} (h : TyVs news vs ts) (n : Nat) : TyVs news (vs.drop n) (ts.drop n) :=
  ⟨by simp [h.1], fun i v t h1 h2 => h.2 (n + i) v t (by simpa using h1) (by simpa using h2)⟩
theorem NodeVs.take {w : World} {news : List (Addr × Obj)} {vs : List Value} {ts : List Ty} (h : NodeVs w news vs ts) (n : Nat) : NodeVs w news (vs.take n) (ts.take n) :=
  ⟨by simp [h.1], fun i v t h1 h2 => h.2 i v t (by rw [List.getElem?_take] at h1; split at h1; exact h1; cases h1) (by rw [List.getElem?_take] at h2; split at h2; exact h2; cases h2)⟩

theorem valueAt_cons {p : Str} {v : Value} {kvs : List (Str × Value)} {h : Str} : valueAt ((p, v) :: kvs) h = if h = p then some v else valueAt kvs h := by
  unfold valueAt
  rw [List.find?_cons]
  by_cases e : h = p
  · subst e; simp
  · simp [e, Ne.symm e]

theorem zipped_cons {p h : Str} {t : Ty} {ps : List Str} {ts : List Ty} : zipped (p :: ps) (t :: ts) h = if h = p then some t else zipped ps ts h := by
  unfold zipped
  rw [List.zip_cons_cons, List.lookup_cons]
  by_cases e : h = p
  · subst e; simp
  · rw [if_neg e, show (h == p) = false from beq_eq_false_iff_ne.mpr e]

theorem zip_at {R : Value → Ty → Prop} : ∀ {ps : List Str} {vs : List Value} {ts : List Ty}, vs.length = ts.length → (∀ (i : Nat) v t, vs[i]? = some v → ts[i]? = some t → R v t) →
    (∀ h v, valueAt (ps.zip vs) h = some v → ∃ t, zipped ps ts h = some t ∧ R v t) ∧ ∀ h, valueAt (ps.zip vs) h = none → zipped ps ts h = none
  | [], _, _, _, _ => ⟨fun h v e => by simp [valueAt] at e, fun h _ => by simp [zipped]⟩
  | _ :: _, [], [], _, _ => ⟨fun h v e => by simp [valueAt] at e, fun h _ => by simp [zipped]⟩
  | _ :: _, [], _ :: _, h, _ => by simp at h
  | _ :: _, _ :: _, [], h, _ => by simp at h
  | p :: ps, v :: vs, t :: ts, hl, hr => by
    obtain ⟨h1, h2⟩ := zip_at (ps := ps) (vs := vs) (ts := ts) (by simpa using hl) (fun i v' t' a b => hr (i + 1) v' t' (by simpa using a) (by simpa using b))
    refine ⟨fun h x e => ?_, fun h e => ?_⟩
    · rw [List.zip_cons_cons, valueAt_cons] at e
      rw [zipped_cons]
      by_cases hp : h = p
      · rw [if_pos hp] at e ⊢
        cases e
        exact ⟨t, rfl, hr 0 _ t rfl rfl⟩
      · rw [if_neg hp] at e ⊢
        exact h1 h x e
    · rw [List.zip_cons_cons, valueAt_cons] at e
      rw [zipped_cons]
      by_cases hp : h = p
      · rw [if_pos hp] at e; cases e
      · rw [if_neg hp] at e ⊢
        exact h2 h e

theorem OptV.mono {news news' : List (Addr × Obj)} (hs : ∀ p ∈ news, p ∈ news') {v : Value} {t : Option Ty} (h : OptV news v t) : OptV news' v t := by
  cases t with
  | none => exact h
  | some t => exact TyV.mono hs h
end Mine
end

section
/- part ExcMk -/
open PySem PySem.W PyProof.Rows PySem.Calls PySem.Spec Builtin Builtin.ObjectAttr
set_option maxRecDepth 100000
namespace Mine

section
variable {prog : Program} {w : World} {A : Around} {K : Frag} {C x dx : Addr} {s : Shared} {h₀ : Heap} {L : Addr} {m : Str → Option Value} {news : List (Addr × Obj)} {R : Result → Shared → Prop} {name : Str} {tk : Tok} {v : Value} {E : Value → Shared → Prop}

/-- an exception's attribute is told: object.__setattr__ -/
theorem osx_open {ox : Obj} {od : Option Obj} {cd : ClassData} (X : K.In s.heap) (I : InstAt s.heap x ox C od) (hc : clsIn K C = some cd) (ho : refuseLoop (.ref x) "__setattr__" cd.mro = pure ()) (hsub : mroIn K C (.type "object") = some true)
    (ha : findIn K (.ref C) name = some none)
    (h : wpAny (model prog w) A.in1 (storeInOwnDict (.ref x) (.ref C) (.str name tk) name v false)
      (fun fin s' => match fin with | .done f => R (.ok f) s' | .again c' => c'.quiet = true ∧ codeAny (model prog w) A c' R s') (fun e s' => R (.error e) s') s) :
    codeAny (model prog w) A (.call (.builtin "object.__setattr__") ⟨[.ref x, .str name tk, v], []⟩) R s := by
  have SF := PySem.F.store_object
  have sub : Looks (model prog w) s.heap (isInstance (.ref x) (.type "object")) true := I.type.andThen (looks_mroIn X hsub)
  refine codeAny_call_builtin SF.slot.plain SF.entry (@check_slot (model prog w) _ _ s "object.__setattr__" "object" "__setattr__" (.ref x) [.str name tk, v] [] _ SF.kind SF.split sub (SF.args (.ref x) (.str name tk) v) ?_)
  have hm : Looks (model prog w) s.heap (mroOf (.ref C)) cd.mro := (looks_clsIn X hc).andThen .now
  rw [osa_eq, refuse_eq]
  refine wpAny_bind (wpAny_bind (I.type.here (wpAny_bind (hm.here ?_))))
  rw [ho]
  exact wpAny_pure (wpAny_bind (I.type.here (wpAny_bind ((looks_findIn X ha).here (wpAny_bind (wpAny_pure h))))))

/-- a name is put into a dict of names -/
theorem put_in {od od' : Obj} {pre post : List (Addr × Obj)} {es : List DictEntry} {n : Nat} {Q : Fin → Shared → Prop} (F : Fr h₀ L s.heap m) (N : News h₀ L s.heap (pre ++ (dx, od) :: post))
    (hl : (lookIn name od).isSome = true) (h1 : ∀ p ∈ pre, p.1 ≠ dx) (h2 : ∀ p ∈ post, p.1 ≠ dx)
    (e : Obj.putName name (PyData.keyHash w.params name) (.str name s.toks) v od = od') (e' : od'.data = .dict es.toArray n) (hz : es.length ≤ 1000)
    (h : ∀ h', Fr h₀ L h' m → News h₀ L h' (pre ++ (dx, od') :: post) → Q (.done (.ret .none)) { s with heap := h', toks := s.toks + 1 }) :
    wpAny (model prog w) A (storeInDict dx (.str name tk) name v) Q E s := by
  obtain ⟨U1, U2⟩ := news_upd (f := Obj.putName name (PyData.keyHash w.params name) (.str name s.toks) v) F N h1 h2 e (by obtain ⟨_, _, dd, _⟩ := od'; cases e'; rfl)
  have D := (N (dx, od) (by simp)).1
  have D' := (U2 (dx, od') (by simp)).1
  unfold storeInDict newKeyGuard
  refine wpAny_bind (wpAny_pure (wpAny_bind ?_))
  unfold nsSet
  refine wpAny_bind (wpAny_bind (wpAny_askSetting (wpAny_pure (wpAny_bind (wpAny_mkText (wpAny_bind (wpAny_loadPart D ?_)))))))
  unfold lookIn at hl
  split at hl
  · rename_i es₀ n₀ q
    rw [q]
    dsimp only
    have c : (!es₀.any (·.key.isStr name) && es₀.any (·.refKey)) = false := by
      rw [← Array.any_toList, ← Array.any_toList]
      split at hl
      · rename_i en he
        rw [List.any_eq_true.mpr ⟨en, List.mem_of_find?_eq_some he, List.find?_some he⟩]; rfl
      · split at hl
        · cases hl
        · rename_i z; rw [Bool.not_eq_true] at z; rw [z, Bool.and_false]
    rw [aRefKeyMayBeTheName_at, c]
    refine wpAny_updatePart D ?_
    refine wpAny_bind (wpAny_lookBehind D' (by rw [e']; exact pastItsLine_dict (by rw [List.size_toArray, sizeLine_eq]; omega)) ?_)
    exact wpAny_pure (h _ U1 U2)
  · cases hl

/-- what the class of an exception tells of its stores -/
structure XCls (K : Frag) (C : Addr) (cd : ClassData) : Prop where
  cls : clsIn K C = some cd
  pass : ∀ self : Value, refuseLoop self "__setattr__" cd.mro = pure ()
  sub : mroIn K C (.type "object") = some true
  set : findIn K (.ref C) "__setattr__" = some (some (.builtin "object.__setattr__"))
  has : cd.hasDict = true

theorem x_set1 {cd : ClassData} (Y : XCls K C cd) {fs : Array Value} {od od' : Obj} {es : List DictEntry} {n : Nat} {Q : Unit → Shared → Prop} (F : Fr h₀ L s.heap m) (X₀ : K.In h₀)
    (N : News h₀ L s.heap ([(x, { cls := .ref C, dict := some dx, data := .fields fs })] ++ (dx, od) :: news)) (hxd : x ≠ dx) (hnd : ∀ p ∈ news, p.1 ≠ dx) (ha : findIn K (.ref C) name = some none) (hl : (lookIn name od).isSome = true)
    (e : Obj.putName name (PyData.keyHash w.params name) (.str name (s.toks + 1)) v od = od') (e' : od'.data = .dict es.toArray n) (hz : es.length ≤ 1000)
    (h : ∀ h', Fr h₀ L h' m → News h₀ L h' ([(x, { cls := .ref C, dict := some dx, data := .fields fs })] ++ (dx, od') :: news) → Q () { s with heap := h', toks := s.toks + 2 }) :
    wpAny (model prog w) A (setAttr (.ref x) name v) Q E s := by
  have X := X₀.keeps F.keep
  have hx := (N _ List.mem_cons_self).1
  have hdx := (N (dx, od) (by simp)).1
  have I : InstAt s.heap x { cls := .ref C, dict := some dx, data := .fields fs } C (some od) := ⟨hx, rfl, rfl, hdx⟩
  refine set_plain X I Y.set (osx_open (s := { s with toks := s.toks + 1 }) X I Y.cls (Y.pass _) Y.sub ha ?_)
  refine wpAny_bind (wpAny_pure (wpAny_bind (wpAny_bind (wpAny_loadPart hx (wpAny_bind (Looks.here (s := { s with toks := s.toks + 1 }) (looks_clsIn X Y.cls) ?_))))))
  rw [Y.has]
  refine wpAny_pure (a := some dx) ?_
  show wpAny _ _ (storeInDict dx (.str name _) name v) _ _ _
  exact put_in (s := { s with toks := s.toks + 1 }) F N hl (by intro p hp; rw [List.mem_singleton.mp hp]; exact hxd) hnd e e' hz fun h' F' N' => h h' F' N'

theorem x_set0 {cd : ClassData} (Y : XCls K C cd) {fs : Array Value} {Q : Unit → Shared → Prop} (F : Fr h₀ L s.heap m) (X₀ : K.In h₀)
    (N : News h₀ L s.heap ((x, { cls := .ref C, data := .fields fs }) :: news)) (hnx : ∀ p ∈ news, p.1 ≠ x) (ha : findIn K (.ref C) name = some none)
    (h : ∀ h' dx, Fr h₀ L h' m → News h₀ L h' ([(x, { cls := .ref C, dict := some dx, data := .fields fs })] ++ (dx, dictOf [{ hash := PyData.keyHash w.params name, key := .str name (s.toks + 1), val := v }] 1) :: news) → x ≠ dx → (∀ p ∈ news, p.1 ≠ dx) → Q () { s with heap := h', toks := s.toks + 2 }) :
    wpAny (model prog w) A (setAttr (.ref x) name v) Q E s := by
  have X := X₀.keeps F.keep
  have hx := (N _ List.mem_cons_self).1
  have I : InstAt s.heap x { cls := .ref C, data := .fields fs } C none := ⟨hx, rfl, rfl, trivial⟩
  refine set_plain X I Y.set (osx_open (s := { s with toks := s.toks + 1 }) X I Y.cls (Y.pass _) Y.sub ha ?_)
  refine wpAny_bind (wpAny_pure (wpAny_bind (wpAny_bind (wpAny_loadPart hx (wpAny_bind (Looks.here (s := { s with toks := s.toks + 1 }) (looks_clsIn X Y.cls) ?_))))))
  rw [Y.has]
  have F1 := F.push emptyDict
  have N1 := N.push F emptyDict
  have hxs : x ≠ s.heap.objs.size := Nat.ne_of_lt (Heap.lt_size hx)
  have hns : ∀ p ∈ news, p.1 ≠ s.heap.objs.size := fun p hp => Nat.ne_of_lt (Heap.lt_size (N p (List.mem_cons_of_mem _ hp)).1)
  obtain ⟨F2, N2⟩ := news_upd (d := x) (pre := [(s.heap.objs.size, emptyDict)]) (post := news) (f := fun o => { o with dict := some s.heap.objs.size }) F1 N1 (by intro p hp; rw [List.mem_singleton.mp hp]; exact Ne.symm hxs) hnx rfl rfl
  have hx1 : (s.heap.push emptyDict).get? x = some { cls := .ref C, data := .fields fs } := Heap.get?_push_of_some _ hx
  refine wpAny_bind (wpAny_alloc' (wpAny_bind (wpAny_update' hx1 ?_)))
  refine wpAny_pure (a := some s.heap.objs.size) ?_
  show wpAny _ _ (storeInDict s.heap.objs.size (.str name _) name v) _ _ _
  refine put_in (pre := [(x, _)]) (post := news) (od := emptyDict) (s := { s with heap := (s.heap.push emptyDict).update x fun o => { o with dict := some s.heap.objs.size }, toks := s.toks + 1 }) F2 (fun p hp => N2 p ?_) rfl (by intro p hp; rw [List.mem_singleton.mp hp]; exact hxs) hns rfl rfl (Nat.le_of_ble_eq_true rfl) fun h' F' N' => h h' s.heap.objs.size F' N' hxs hns
  simp only [List.cons_append, List.nil_append, List.mem_cons] at hp ⊢
  rcases hp with h | h | h
  · exact .inr (.inl h)
  · exact .inl h
  · exact .inr (.inr h)
end
end Mine
end

section
/- part ExcMk2 -/
set_option maxRecDepth 100000
open PySem
open PySem.Sem (wp)
open PySem.W
namespace Mine
section
variable {prog : Program} {w : World} {A : Around} {E : Value → Shared → Prop} {h : Heap} {g : Array GenState} {d : Drawn} {t : Nat} {os : OsState}
variable {nm q : Str} {C N : Addr} {bs bm bmB : List Value} {hdct : Bool} {sn : List Str} {sub : List Value} {ab : Bool} {col : Option Bool} {dd : Option Addr} {k0 k1 k2 k3 k5 : Option Value} {B newId initId : String} {R : Result → Shared → Prop}

theorem mine_check_new (F : ExcBaseFacts B newId initId bmB) (hB : bm.contains (.type B) = true) {rest : List Value} {Q : Unit → Shared → Prop} (hC : h.get? C = some (excClassObj nm q C N bs bm hdct sn sub ab col dd k0 k1 k2 k3 k5 newId))
    (hq : Q () ⟨h, g, d, t, os⟩) : wpAny (model prog w) A (checkBuiltinCall newId ⟨.ref C :: rest, []⟩) Q E ⟨h, g, d, t, os⟩ := by
  have hcont : (Value.ref C :: bm).contains (.type B) = true := by rw [List.contains_cons, hB, Bool.or_true]
  have hstar := F.noStar
  simp only [checkBuiltinCall, F.newKind, F.newSplit, F.newRow]
  repeat (first | refine wpAny_loadPart_at hC ?_ | (refine wpAny_isSubtype_exc hC ?_; rw [hcont]) | refine wpAny_staticBase_exc hC ?_ | refine wpAny_madeBy_exc hC ?_ | simp only [bne_self_eq_false, Bool.false_eq_true, if_false] | wp_step)
  exact hq

theorem mine_new (F : ExcBaseFacts B newId initId bmB) (hB : bm.contains (.type B) = true) (hA : bm.contains (.type "AttributeError") = false) (hN : bm.contains (.type "NameError") = false) {rest : List Value}
    (hC : h.get? C = some (excClassObj nm q C N bs bm hdct sn sub ab col dd k0 k1 k2 k3 k5 newId))
    (hq : R (.ok (.ret (.ref (h.objs.size + 1)))) ⟨(h.push { cls := .type "tuple", data := .seq rest.toArray }).push
      { cls := .ref C, data := .fields #[.ref h.objs.size, .none, .none, .none, .bool false, .none] }, g, d, t, os⟩) (hrest : rest.length ≤ sizeLine := by size_fits) :
    codeAny (model prog w) A (.builtin newId ⟨.ref C :: rest, []⟩) R ⟨h, g, d, t, os⟩ := by
  have hends := F.ends
  have hcB : (Value.ref C :: bm).contains (.type B) = true := by rw [List.contains_cons, hB, Bool.or_true]
  have hcA : (Value.ref C :: bm).contains (.type "AttributeError") = false := by rw [List.contains_cons, hA]; rfl
  have hcN : (Value.ref C :: bm).contains (.type "NameError") = false := by rw [List.contains_cons, hN]; rfl
  refine codeAny_builtinAt F.entry ?_
  unfold Builtin.«BaseException.__new__»
  refine wpAt_bind ?_
  show wpAt _ _ _ (stack >>= _) _ _ _
  refine wpAt_bind (wpAt_stack fun p below => wpAt_of_wpAny ?_)
  wp_walk
  refine wpAt_of_wpAny ?_
  rw [F.owner]
  repeat (first | with_reducible refine wpAny_madeHere_exc F.canon hC ?_ | with_reducible refine wpAny_loadPart_at hC ?_ | (with_reducible refine wpAny_isSubtype_exc hC ?_; first | rw [hcB] | rw [hcA] | rw [hcN]) | wp_step)
  show R _ _
  rw [Heap.size_push]
  exact hq

theorem mine_type_call (F : ExcBaseFacts B newId initId bmB) (hB : bm.contains (.type B) = true) (hA : bm.contains (.type "AttributeError") = false) (hN : bm.contains (.type "NameError") = false) {rest : List Value} {fI : Addr} {oI : Obj} {Q : Fin → Shared → Prop}
    (hC : h.get? C = some (excClassObj nm q C N bs bm hdct sn sub ab col dd k0 k1 k2 k3 k5 newId)) (hi : Looks (model prog w) h (typeLookup (.ref C) "__init__") (some (.ref fI)))
    (hfI : h.get? fI = some oI) (hfc : oI.cls = .type "function")
    (hq : ∀ h' e, Heap.MadeExcOf h h' e (.ref C) rest → h.objs.size ≤ e →
      wpAny (model prog w) A (call (.ref fI) (.ref e :: rest)) (fun r s' => r = .none ∧ Q (.done (.ret (.ref e))) s') E ⟨h', g, d, t, os⟩) (hrest : rest.length ≤ sizeLine := by size_fits) :
    wpAny (model prog w) A (Builtin.«type.__call__» ⟨.ref C :: rest, []⟩) Q E ⟨h, g, d, t, os⟩ := by
  repeat (first | with_reducible refine wpAny_loadPart_at hC ?_ | with_reducible refine wpAny_madeBy_exc hC ?_ | wp_step)
  refine codeAny_call_builtin_code (Code.quiet_builtin _ F.quiet) (mine_check_new F hB hC ?_)
  refine mine_new F hB hA hN hC ?_ hrest
  show wpAny _ _ _ _ _ _
  have up : ∀ b o, h.get? b = some o → ((h.push { cls := .type "tuple", data := .seq rest.toArray }).push { cls := .ref C, data := .fields #[.ref h.objs.size, .none, .none, .none, .bool false, .none] }).get? b = some o :=
    fun b o e => Heap.get?_push_of_some _ (Heap.get?_push_of_some _ e)
  have hC₁ := up _ _ hC
  have hfI₁ := up _ _ hfI
  have hget : ((h.push { cls := .type "tuple", data := .seq rest.toArray }).push
      { cls := .ref C, data := .fields #[.ref h.objs.size, .none, .none, .none, .bool false, .none] }).get? (h.objs.size + 1) = some
      { cls := .ref C, data := .fields #[.ref h.objs.size, .none, .none, .none, .bool false, .none] } := by heap_get
  have hcC : (Value.ref C :: bm).contains (.ref C) = true := by simp
  unfold isInstance
  repeat (first | with_reducible refine wpAny_loadPart_at hget ?_ | (with_reducible refine wpAny_isSubtype_exc hC₁ ?_; rw [hcC]) | wp_step)
  show wpAny _ _ (typeLookup (.ref C) _) _ _ _
  refine (hi.keeps up).here (s := ⟨_, g, d, t, os⟩) ?_
  refine wpAny_holding (wpAny_bind ?_)
  unfold bindSpecial
  refine wpAny_bind (wpAny_typeOf (T := "function") ⟨_, hfI₁, hfc⟩ ?_)
  rw [if_pos (by decide)]
  refine wpAny_pure (wpAny_bind (wpAny_mono (hq _ (h.objs.size + 1) ⟨fun b o hb => Heap.get?_push_of_some _ (Heap.get?_push_of_some _ hb), Heap.get?_none_of_le (Nat.le_succ _), h.objs.size, hget, Heap.get?_none_of_le (Nat.le_refl _), ?_⟩ (Nat.le_succ _)) (fun r s' hr => ?_) fun _ _ x => x))
  · exact Heap.get?_push_of_some _ (Heap.get?_push_at rfl rfl)
  · obtain ⟨rfl, hQ⟩ := hr
    wp_walk
    exact hQ

theorem mine_call (F : ExcBaseFacts B newId initId bmB) (hB : bm.contains (.type B) = true) (hA : bm.contains (.type "AttributeError") = false) (hN : bm.contains (.type "NameError") = false) {rest : List Value} {fI : Addr} {oI : Obj} {Q : Value → Shared → Prop}
    (hC : h.get? C = some (excClassObj nm q C N bs bm hdct sn sub ab col dd k0 k1 k2 k3 k5 newId)) (hi : Looks (model prog w) h (typeLookup (.ref C) "__init__") (some (.ref fI)))
    (hfI : h.get? fI = some oI) (hfc : oI.cls = .type "function")
    (hq : ∀ h' e, Heap.MadeExcOf h h' e (.ref C) rest → h.objs.size ≤ e →
      wpAny (model prog w) (A.under (.builtin "type.__call__" ⟨.ref C :: rest, []⟩)) (call (.ref fI) (.ref e :: rest)) (fun r s' => r = .none ∧ Q (.ref e) s') E ⟨h', g, d, t, os⟩) (hrest : rest.length ≤ sizeLine := by size_fits) :
    wpAny (model prog w) A (call (.ref C) rest) Q E ⟨h, g, d, t, os⟩ := by
  have f1 := tc_lookup
  have f2 := tc_bind (.ref C)
  have hT : (⟨h, g, d, t, os⟩ : Shared).TypeIs (.ref C) "type" := ⟨_, hC, rfl⟩
  refine wpAny_call (codeAny_of_tree ?_)
  show wpAny _ _ (callAny (.ref C) _) _ _ _
  repeat (any_goals (first | assumption | with_reducible refine wpAny_loadPart_at hC ?_ | wp_step))
  refine ⟨rfl, ?_⟩
  refine codeAny_call_builtin_at (Code.quiet_builtin _ (by decide +kernel)) entry_typeCall (wpAny_check_type_call_sub hC (mine_type_call (hrest := hrest) F hB hA hN hC hi hfI hfc fun h' e hm hl => ?_))
  exact hq h' e hm hl

/-- BaseException.__init__, as a class's own __init__ calls it -/
theorem mine_init (F : ExcBaseFacts B newId initId bmB) (hB : bm.contains (.type B) = true) {e t0 : Addr} {rest : List Value} {Q : Value → Shared → Prop}
    (hC : h.get? C = some (excClassObj nm q C N bs bm hdct sn sub ab col dd k0 k1 k2 k3 k5 newId)) (he : h.get? e = some { cls := .ref C, data := .fields #[.ref t0, .none, .none, .none, .bool false, .none] }) (hrest : rest.length ≤ sizeLine)
    (hq : Q .none ⟨(h.push { cls := .type "tuple", data := .seq rest.toArray }).update e (Obj.mapFields (·.setIfInBounds 0 (.ref h.objs.size))), g, d, t, os⟩) :
    wpAny (model prog w) A (call (.builtin initId) (.ref e :: rest)) Q E ⟨h, g, d, t, os⟩ := by
  have hcB : (Value.ref C :: bm).contains (.type B) = true := by rw [List.contains_cons, hB, Bool.or_true]
  have hshort := F.noStar
  refine wpAny_call (codeAny_call_builtin F.init.plain F.initEntry ?_)
  simp only [checkBuiltinCall, F.initKind, F.initSplit, F.initRow]
  repeat (first | (with_reducible refine wpAny_loadPart_at he ?_) | with_reducible refine wpAny_loadPart_at hC ?_ | (with_reducible refine wpAny_isSubtype_exc hC ?_; rw [hcB]) | wp_step)
  refine wpAny_onRaise ?_
  rw [show ∀ (a b : String) (n : Nat), Bind.check ⟨.positional, "*", B, .self, [⟨"args", .varPos, false⟩]⟩ a b n (List.map (fun x => x.fst) ({ pos := Value.ref e :: rest } : Args).kw) = pure () from
    fun a b n => check_star_args _ _ _ _ _ _]
  refine wpAny_pure ?_
  wp_walk
  exact hq

/-- a value is an exception of the class C; it is on its way -/
noncomputable def Raises (C : Addr) (E : Value → Shared → Prop) (v : Value) (s₁ : Shared) : Prop :=
  ∃ e dx t, v = .ref e ∧ (∃ nm q N bs bm hdct sn sub ab col dd k0 k1 k2 k3 k5 newId, bm.contains (.type "BaseException") = true ∧ s₁.heap.get? C = some (excClassObj nm q C N bs bm hdct sn sub ab col dd k0 k1 k2 k3 k5 newId)) ∧
    s₁.heap.get? e = some { cls := .ref C, dict := dx, data := .fields #[.ref t, .none, .none, .none, .bool false, .none] } ∧ E (.ref e) s₁
theorem mine_raise {M : Model} {s : Shared} {env : Env} {x : Expr} {pos : Pos} {Q : Flow → Shared → Prop} (hh : A.handled = none)
    (h : wpAny M A (eval x env) (Raises C E) E s) :
    wpAny M A (exec (.Raise (some x) none pos) env) Q E s := by
  rw [arm_exec_Raise]
  simp only [evalOpt, Option.map]
  refine wpAny_bind (wpAny_standAt ?_)
  unfold raiseStmt
  refine wpAny_bind (wpAny_bind (wpAny_mono h (fun v s₁ h₁ => wpAny_bind (wpAny_standAt (wpAny_pure ?_))) fun _ _ x => x))
  obtain ⟨e, dx, t, rfl, ⟨nm, q, N, bs, bm, hdct, sn, sub, ab, col, dd, k0, k1, k2, k3, k5, newId, hbase, hC⟩, he, hE⟩ := h₁
  have hcB : (Value.ref C :: bm).contains (.type "BaseException") = true := by rw [List.contains_cons, hbase, Bool.or_true]
  obtain ⟨hp, g, d, tk, os⟩ := s₁
  repeat (first | with_reducible refine wpAny_loadPart_at he ?_ | with_reducible refine wpAny_loadPart_at hC ?_ | (with_reducible refine wpAny_isSubtype_exc hC ?_; rw [hcB]) | wp_step)
  exact wpAny_raiseNew_none hh hE
end
end Mine
end

section
/- part SynDef -/
open PySem PySem.W PyProof.Rows
namespace Mine

/-- the dict of the Expander -/
noncomputable abbrev selfDict (w : World) (k1 k2 k3 : Tok) (sy : Addr) (c : Nat) : Obj :=
  dictOf [{ hash := PyData.keyHash w.params (Str.ofString "synonyms"), key := .str (Str.ofString "synonyms") k1, val := .ref sy }, { hash := PyData.keyHash w.params (Str.ofString "many"), key := .str (Str.ofString "many") k2, val := .int (c : Int) k3 }] 2

/-- the dict of a Synonym -/
noncomputable abbrev synDict (w : World) (k1 k2 k3 : Tok) (nv : Value) (pl : Addr) (bv : Value) : Obj :=
  dictOf [{ hash := PyData.keyHash w.params (Str.ofString "name"), key := .str (Str.ofString "name") k1, val := nv }, { hash := PyData.keyHash w.params (Str.ofString "params"), key := .str (Str.ofString "params") k2, val := .ref pl },
    { hash := PyData.keyHash w.params (Str.ofString "node"), key := .str (Str.ofString "node") k3, val := bv }] 3

/-- the dict of synonyms -/
noncomputable def SynV (w : World) (news : List (Addr × Obj)) (d : Addr) (T : Str → Option Def) : Prop :=
  ∃ (o : Obj) (kvs : List (Str × Value)), (d, o) ∈ news ∧ o.IsDictOf (strKind PySem.Challenge.rw_xw0149_01.row.prog w) kvs ∧ (d == sysModules) = false ∧
    (∀ h v, valueAt kvs h = some v → ∃ (df : Def) (sx sdd pl : Addr) (k1 k2 k3 : Tok) (nv : Value) (pvs : List (Str × Tok)) (bv : Value) (kp : Nat), T h = some df ∧ v = .ref sx ∧ (sx, instObj 173 sdd) ∈ news ∧ (sdd, synDict w k1 k2 k3 nv pl bv) ∈ news ∧
      (pl, listOf (pvs.map fun p : Str × Tok => Value.str p.1 p.2).toArray kp) ∈ news ∧ pvs.map (·.1) = df.ps ∧ NodeV w news bv ((Ty.leaf df.bh).on df.parts)) ∧
    (∀ h, valueAt kvs h = none → T h = none)
theorem SynV.mono {w : World} {news news' : List (Addr × Obj)} {d : Addr} {T : Str → Option Def} (hs : ∀ p ∈ news, p ∈ news') (h : SynV w news d T) : SynV w news' d T := by
  obtain ⟨o, kvs, h1, h2, h3, h4, h5⟩ := h
  exact ⟨o, kvs, hs _ h1, h2, h3, fun h v e => by obtain ⟨df, sx, sdd, pl, k1, k2, k3, nv, pvs, bv, kp, a1, a2, a3, a4, a5, a6, a7⟩ := h4 h v e; exact ⟨df, sx, sdd, pl, k1, k2, k3, nv, pvs, bv, kp, a1, a2, hs _ a3, hs _ a4, hs _ a5, a6, a7.mono hs⟩, h5⟩
end Mine
end

section
/- part StepEv -/
open PySem PySem.W PyProof.Rows
namespace Mine

theorem Ty.of_spine : ∀ t : Ty, (Ty.leaf t.spine.1).on t.spine.2 = t
  | .leaf _ => rfl
  | .app f a => by
    have := Ty.of_spine f
    show (Ty.leaf f.spine.1).on (f.spine.2 ++ [a]) = _
    rw [Ty.on_snoc, this]

/-- the head of a type is not told -/
noncomputable def Free (T : Str → Option Def) (t : Ty) : Prop := T t.spine.1 = none

noncomputable abbrev bound0 (d : Def) (ms : List Ty) : Str → Option Ty := zipped d.ps (ms.take d.ps.length)

/-- one step at a told head -/
noncomputable def stepEv (T : Str → Option Def) (d : Def) (ms : List Ty) : Option (Str × List Ty) :=
  if ms.length < d.ps.length then none else if d.parts.all (plain T) then
    some (((Ty.leaf d.bh).sub (bound0 d ms)).spine.1, ((Ty.leaf d.bh).sub (bound0 d ms)).spine.2 ++ (d.parts.map (Ty.sub (bound0 d ms)) ++ ms.drop d.ps.length)) else none

theorem headEv_step {T : Str → Option Def} {r : Nat} {h : Str} {ms : List Ty} {d : Def} (e : T h = some d) (hms : ∀ m ∈ ms, Free T m) :
    headEv T (r + 1) (fun _ => none) h ms = match stepEv T d ms with | none => none | some p => headEv T r (fun _ => none) p.1 p.2 := by
  rw [headEv_told rfl e]
  unfold stepEv
  by_cases h1 : ms.length < d.ps.length
  · rw [if_pos h1, if_pos h1]
  · rw [if_neg h1, if_neg h1]
    by_cases h2 : d.parts.all (plain T) = true
    · rw [if_pos h2, if_pos h2]
      dsimp only
      have e0 : (Ty.leaf d.bh).sub (bound0 d ms) = (bound0 d ms d.bh).getD (.leaf d.bh) := rfl
      rw [e0]
      cases e1 : bound0 d ms d.bh with
      | none => exact headEv_free e1 rfl
      | some t =>
        have ht : Free T t := hms t (List.mem_of_mem_take (zipped_mem e1).1)
        rw [headEv_some e1]
        show some (t.on _) = headEv T r _ t.spine.1 (t.spine.2 ++ _)
        rw [headEv_leaf rfl ht, Ty.on_append t.spine.2 _ (Ty.leaf t.spine.1), Ty.of_spine]
    · rw [if_neg h2, if_neg h2]

theorem sub_free {T : Str → Option Def} {σ : Str → Option Ty} (hσ : ∀ h t, σ h = some t → Free T t) : ∀ p : Ty, plain T p = true → Free T (p.sub σ)
  | .leaf h, hp => by
    show Free T ((σ h).getD (.leaf h))
    cases e : σ h with
    | none => show T h = none; simpa [plain] using hp
    | some t => exact hσ h t e
  | .app f a, hp => by
    simp only [plain, Bool.and_eq_true] at hp
    exact sub_free hσ f hp.1

/-- what a step at a told head leaves, if it leaves a told head -/
theorem stepEv_told {T : Str → Option Def} {h : Str} {ms : List Ty} {d : Def} {p : Str × List Ty} (_e : T h = some d) (hms : ∀ m ∈ ms, Free T m) (hp : stepEv T d ms = some p) (ht : T p.1 ≠ none) :
    p.1 = d.bh ∧ (∀ m ∈ p.2, Free T m) ∧ p.2.length = d.parts.length + (ms.length - d.ps.length) ∧ d.ps.length ≤ ms.length := by
  unfold stepEv at hp
  split at hp
  · cases hp
  · rename_i h1
    split at hp
    · rename_i h2
      cases hp
      have e0 : (Ty.leaf d.bh).sub (bound0 d ms) = (bound0 d ms d.bh).getD (.leaf d.bh) := rfl
      dsimp only at ht
      rw [e0] at ht ⊢
      have hf : ∀ h t, bound0 d ms h = some t → Free T t := fun h t e => hms t (List.mem_of_mem_take (zipped_mem e).1)
      cases e1 : bound0 d ms d.bh with
      | some t => rw [e1] at ht; exact (ht (hf _ t e1)).elim
      | none =>
        refine ⟨rfl, fun m hm => ?_, by simp [Ty.spine], by omega⟩
        simp only [Option.getD_none, Ty.spine, List.nil_append] at hm
        rcases List.mem_append.mp hm with hm | hm
        · obtain ⟨q, hq, rfl⟩ := List.mem_map.mp hm
          exact sub_free hf q (List.all_eq_true.mp h2 q hq)
        · exact hms m (List.mem_of_mem_drop hm)
    · cases hp

theorem stepEv_len {T : Str → Option Def} {ms : List Ty} {d : Def} (h : ms.length < d.ps.length) : stepEv T d ms = none := by unfold stepEv; rw [if_pos h]

theorem free_head {T : Str → Option Def} {r : Nat} {h : Str} {ms : List Ty} (e : T h = none) : headEv T r (fun _ => none) h ms = some ((Ty.leaf h).on ms) ∧ Free T ((Ty.leaf h).on ms) :=
  ⟨headEv_leaf rfl e, by unfold Free; rw [Ty.spine_on]; exact e⟩
end Mine
namespace Mine
theorem tyAll_none {T : Str → Option Def} {r : Nat} {σ : Str → Option Ty} {a : Ty} (e : tyEv T r σ a [] = none) : ∀ {as : List Ty}, a ∈ as → tyAll T r σ as = none
  | b :: as, h => by
    rcases List.mem_cons.mp h with rfl | h
    · simp [tyAll, e]
    · simp [tyAll, tyAll_none e h]
theorem tyAll_snoc {T : Str → Option Def} {r : Nat} {σ : Str → Option Ty} {a a' : Ty} : ∀ {as as' : List Ty}, tyAll T r σ as = some as' → tyEv T r σ a [] = some a' → tyAll T r σ (as ++ [a]) = some (as' ++ [a'])
  | [], as', h, e => by cases h; simp [tyAll, e]
  | b :: as, as', h, e => by
    simp only [tyAll] at h
    cases e1 : tyEv T r σ b [] with
    | none => rw [e1] at h; cases h
    | some b' =>
      cases e2 : tyAll T r σ as with
      | none => rw [e1, e2] at h; cases h
      | some bs =>
        rw [e1, e2] at h
        cases h
        have := tyAll_snoc (a := a) (a' := a') e2 e
        simp [tyAll, e1, this]
theorem tyAll_len {T : Str → Option Def} {r : Nat} {σ : Str → Option Ty} : ∀ {as as' : List Ty}, tyAll T r σ as = some as' → as'.length = as.length
  | [], as', h => by cases h; rfl
  | b :: as, as', h => by
    simp only [tyAll] at h
    cases e1 : tyEv T r σ b [] with
    | none => rw [e1] at h; cases h
    | some b' =>
      cases e2 : tyAll T r σ as with
      | none => rw [e1, e2] at h; cases h
      | some bs => rw [e1, e2] at h; cases h; simp [tyAll_len e2]
end Mine
end

section
/- part Pure2 -/
open PySem PySem.W PyProof.Rows
namespace Mine
theorem Ty.sub_none : ∀ t : Ty, t.sub (fun _ => none) = t
  | .leaf _ => rfl
  | .app f a => by show Ty.app (f.sub _) (a.sub _) = _; rw [Ty.sub_none f, Ty.sub_none a]

/-- what whole costs -/
noncomputable def cst (r : Nat) : Nat → Nat
  | 0 => 1 + 12 * r
  | n + 1 => 1 + 3 * cst r n + 12 * r
/-- how big what comes is -/
noncomputable def rsz (r z : Nat) : Nat → Nat
  | 0 => 1
  | n + 1 => (2 * r + 4) * (z ^ r * rsz r z n + 1)
theorem rsz_pos (r z : Nat) : ∀ n, 1 ≤ rsz r z n
  | 0 => Nat.le_refl _
  | n + 1 => by
    have : 1 * 1 ≤ (2 * r + 4) * (z ^ r * rsz r z n + 1) := Nat.mul_le_mul (by omega) (by omega)
    exact this
theorem cst_pos (r : Nat) : ∀ n, 1 + 12 * r ≤ cst r n
  | 0 => Nat.le_refl _
  | n + 1 => by show 1 + 12 * r ≤ 1 + 3 * cst r n + 12 * r; omega

theorem stepEv_told2 {T : Str → Option Def} {ms : List Ty} {d : Def} {p : Str × List Ty} (hms : ∀ m ∈ ms, Free T m) (hp : stepEv T d ms = some p) (ht : T p.1 ≠ none) :
    p.2 = d.parts.map (Ty.sub (bound0 d ms)) ++ ms.drop d.ps.length := by
  unfold stepEv at hp
  split at hp
  · cases hp
  · split at hp
    · cases hp
      have e0 : (Ty.leaf d.bh).sub (bound0 d ms) = (bound0 d ms d.bh).getD (.leaf d.bh) := rfl
      dsimp only at ht
      rw [e0] at ht ⊢
      cases e1 : bound0 d ms d.bh with
      | some t => rw [e1] at ht; exact (ht (hms t (List.mem_of_mem_take (zipped_mem e1).1))).elim
      | none => simp [Ty.spine]
    · cases hp

theorem tyAll_mem {T : Str → Option Def} {r : Nat} {σ : Str → Option Ty} : ∀ {as as' : List Ty}, tyAll T r σ as = some as' → ∀ m ∈ as', ∃ a ∈ as, tyEv T r σ a [] = some m
  | [], as', h, m, hm => by cases h; cases hm
  | b :: as, as', h, m, hm => by
    simp only [tyAll] at h
    cases e1 : tyEv T r σ b [] with
    | none => rw [e1] at h; cases h
    | some b' =>
      cases e2 : tyAll T r σ as with
      | none => rw [e1, e2] at h; cases h
      | some bs =>
        rw [e1, e2] at h; cases h
        rcases List.mem_cons.mp hm with rfl | hm
        · exact ⟨b, List.mem_cons_self, e1⟩
        · obtain ⟨a, h1, h2⟩ := tyAll_mem e2 m hm
          exact ⟨a, List.mem_cons_of_mem _ h1, h2⟩

theorem size_tyEv {T : Str → Option Def} {rk : Str → Nat} {z : Nat} (ok : TOk T rk z) (hz : 1 ≤ z) {r : Nat} : ∀ (n : Nat) (t t' : Ty), t.dep ≤ n → t.nar → tyEv T r (fun _ => none) t [] = some t' → t'.size ≤ rsz r z n := by
  have leafc : ∀ (h : Str) t', headEv T r (fun _ => none) h [] = some t' → t'.size = 1 := fun h t' e => by
    cases e2 : T h with
    | none => rw [headEv_leaf rfl e2] at e; cases e; rfl
    | some d =>
      cases r with
      | zero => simp [headEv, e2] at e
      | succ r => rw [headEv_told rfl e2, if_pos (show [].length < d.ps.length from ok.one h d e2)] at e; cases e
  intro n
  induction n with
  | zero =>
    intro t t' hd hn e
    obtain ⟨h, as, rfl⟩ : ∃ h as, t = (Ty.leaf h).on as := ⟨_, _, (Ty.of_spine t).symm⟩
    cases as with
    | nil => rw [leafc h t' e]; exact Nat.le_refl _
    | cons a as => have := (Ty.dep_on (a :: as) (.leaf h)).2 a List.mem_cons_self; omega
  | succ n ih =>
    intro t t' hd hn e
    obtain ⟨h, as, rfl⟩ : ∃ h as, t = (Ty.leaf h).on as := ⟨_, _, (Ty.of_spine t).symm⟩
    cases hall : tyAll T r (fun _ => none) as with
    | none => rw [tyEv_on, hall] at e; cases e
    | some as' =>
      rw [tyEv_on, hall] at e
      replace e : headEv T r (fun _ => none) h (as' ++ []) = some t' := e
      rw [List.append_nil] at e
      have hw := Ty.nar_wid hn
      rw [Ty.wid_on] at hw
      have hl := tyAll_len hall
      have hw0 : (Ty.leaf h).wid = 0 := rfl
      have := size_head ok hz r (fun _ => none) h as' (rsz r z n) 3 t' (rsz_pos r z n) (fun _ _ q => nomatch q) (fun m hm => by
        obtain ⟨a, ha, he⟩ := tyAll_mem hall m hm
        exact ih a m (by have := (Ty.dep_on as (.leaf h)).2 a ha; omega) ((Ty.nar_on as _ hn).2 a ha) he) (by omega) e
      rw [show 3 + 2 * r + 1 = 2 * r + 4 by omega] at this
      exact this
theorem rsz_mono {r z : Nat} (hz : 1 ≤ z) (n : Nat) : rsz r z n ≤ rsz r z (n + 1) := by
  show rsz r z n ≤ (2 * r + 4) * (z ^ r * rsz r z n + 1)
  have h1 : 1 * rsz r z n ≤ z ^ r * rsz r z n := Nat.mul_le_mul_right _ (Nat.one_le_pow _ _ hz)
  have h2 : 1 * (z ^ r * rsz r z n + 1) ≤ (2 * r + 4) * (z ^ r * rsz r z n + 1) := Nat.mul_le_mul_right _ (by omega)
  omega
end Mine
end

section
/- part ForDict -/
open PySem PySem.W PyProof.Rows PySem.Calls PySem.Spec
namespace Mine
section
variable {prog : Program} {w : World} {A : Around} {E : Value → Shared → Prop} {s : Shared} {h₀ : Heap} {m : Str → Option Value} {env : Env} {news : List (Addr × Obj)} {x : Str} {body : List Stmt} {Q : Flow → Shared → Prop}

theorem for_dict (J : Nat → (Str → Option Value) → List (Addr × Obj) → Prop) {d : Addr} {o : Obj} {kvs : List (Str × Value)} (hh : A.handled = none) (F : Fr h₀ env.locals s.heap m) (N : News h₀ env.locals s.heap news) (hm : (d, o) ∈ news)
    (hd : o.IsDictOf (strKind prog w) kvs) (hsys : (d == sysModules) = false) (hax : ∀ i m₁ nw, J i m₁ nw → (d, o) ∈ nw) (h0 : J 0 m news)
    (turn : ∀ i k v t m₁ nw I oI (s₁ : Shared), kvs[i]? = some (k, v) → J i m₁ nw → Fr h₀ env.locals s₁.heap (fun y => if y = x then some (.str k t) else m₁ y) → News h₀ env.locals s₁.heap ((I, oI) :: nw) → (∀ p ∈ nw, p.1 ≠ I) →
      wpAny (model prog w) A (execs body env) (FEnd h₀ env.locals I oI (J (i + 1)) s₁) E s₁)
    (hQ : ∀ h' tk m' nw, Fr h₀ env.locals h' m' → News h₀ env.locals h' nw → J kvs.length m' nw → Q .next { s with heap := h', toks := tk }) :
    wpAny (model prog w) A (pyIter (.ref d)) (LoopAtU prog w A h₀ env x body Q E) E s := by
  obtain ⟨ep, hA⟩ := (Heap.dictOf_iff.mpr ⟨o, (N _ hm).1, hd⟩ : s.heap.DictOf (strKind prog w) d kvs).dictAt
  have hlt : d < s.heap.objs.size := Heap.lt_size (N _ hm).1
  refine wpAny_pyIter_dict hsys hA ?_
  exact for_at (s := { s with heap := s.heap.push { cls := .type "dict_keyiterator", data := .fields #[.ref d, .int 0 0, .int kvs.length 0, .int ep 0] } }) (news := news) J (Walks.dictKeys hh s.heap.objs.size d (Nat.ne_of_lt hlt) kvs ep) ⟨⟨_, Heap.get?_push_size _ rfl, rfl, rfl⟩, hA.push _⟩ (F.keeps fun _ _ e => Heap.get?_push_of_some _ e) (N.push F _)
    (fun p hp => Nat.ne_of_lt (Heap.lt_size (N p hp).1)) hax (fun i h st => by obtain ⟨o, e, _⟩ := st.1; exact ⟨o, e⟩) h0 (fun i v m₁ nw oI s₁ _ hP hJ F' N' off => by
      obtain ⟨k, y, hk, hkey⟩ := hP
      obtain ⟨t, rfl⟩ : ∃ t, v = .str k t := Value.isStrOf_shape hkey
      exact turn i k y t m₁ nw _ oI s₁ hk hJ F' N' off) hQ
end

theorem va_map {k : Str} {v : Value} {h : Str} : ∀ kvs : List (Str × Value), valueAt (kvs.map fun kv => if kv.1 = k then (kv.1, v) else kv) h = if h = k then (valueAt kvs h).map (fun _ => v) else valueAt kvs h
  | [] => by simp [valueAt]
  | (p, x) :: kvs => by
    have ih := va_map (k := k) (v := v) (h := h) kvs
    rw [List.map_cons, valueAt_cons (kvs := kvs)]
    by_cases hp : p = k
    · subst hp
      rw [if_pos rfl, valueAt_cons, ih]
      by_cases hh : h = p <;> simp [hh]
    · rw [if_neg hp, valueAt_cons, ih]
      by_cases hh : h = p
      · subst hh; simp [hp]
      · simp [hh]
theorem va_app {k : Str} {v : Value} {h : Str} : ∀ kvs : List (Str × Value), valueAt (kvs ++ [(k, v)]) h = match valueAt kvs h with | some x => some x | none => if h = k then some v else none
  | [] => by
    rw [List.nil_append, valueAt_cons]
    by_cases hh : h = k <;> simp [hh, valueAt]
  | (p, x) :: kvs => by
    have ih := va_app (k := k) (v := v) (h := h) kvs
    rw [List.cons_append, valueAt_cons, ih, valueAt_cons]
    by_cases hh : h = p <;> simp [hh]
theorem va_any {k : Str} : ∀ kvs : List (Str × Value), (kvs.any fun kv => kv.1 = k) = (valueAt kvs k).isSome
  | [] => by simp [valueAt]
  | (p, x) :: kvs => by
    have ih := va_any (k := k) kvs
    rw [List.any_cons, ih, valueAt_cons]
    by_cases hh : k = p
    · subst hh; simp
    · simp [hh, Ne.symm hh]
theorem va_stored {kvs : List (Str × Value)} {k : Str} {v : Value} {h : Str} : valueAt (stored kvs k v) h = if h = k then some v else valueAt kvs h := by
  unfold stored
  rw [va_any]
  cases hs : valueAt kvs k with
  | some x =>
    rw [if_pos (by rfl : (some x).isSome = true), va_map]
    by_cases hh : h = k
    · subst hh; rw [if_pos rfl, hs]; simp
    · simp [hh]
  | none =>
    rw [if_neg (by simp), va_app]
    by_cases hh : h = k
    · subst hh; simp [hs]
    · cases valueAt kvs h <;> simp [hh]
theorem va_len {kvs : List (Str × Value)} {k : Str} {v : Value} : (stored kvs k v).length ≤ kvs.length + 1 := by
  unfold stored
  split
  · simp
  · simp
theorem va_mem {kvs : List (Str × Value)} {i : Nat} {k : Str} {v : Value} (h : kvs[i]? = some (k, v)) : ∃ x, valueAt kvs k = some x := by
  have : (valueAt kvs k).isSome = true := by
    rw [← va_any, List.any_eq_true]
    exact ⟨_, List.mem_of_getElem? h, by simp⟩
  exact Option.isSome_iff_exists.mp this
theorem va_get {kvs : List (Str × Value)} {h : Str} {v : Value} (e : valueAt kvs h = some v) : ∃ (i : Nat) (x : Value), i < kvs.length ∧ kvs[i]? = some (h, x) := by
  have : (kvs.any fun kv => kv.1 = h) = true := by rw [va_any, e]; rfl
  obtain ⟨⟨p, x⟩, hm, hp⟩ := List.any_eq_true.mp this
  obtain ⟨i, hi⟩ := List.mem_iff_getElem?.mp hm
  have hp' : p = h := by simpa using hp
  subst hp'
  exact ⟨i, x, (List.getElem?_eq_some_iff.mp hi).1, hi⟩
end Mine
end

section
/- part C_told3 -/
open PySem PySem.W PyProof.Rows
namespace Mine
theorem nar_on_le : ∀ (as : List Ty) (b : Ty), b.nar → b.wid + as.length ≤ 3 → (∀ a ∈ as, a.nar) → (b.on as).nar
  | [], _, h, _, _ => h
  | a :: as, b, h, hw, ha => by
    have e : (a :: as).length = as.length + 1 := rfl
    rw [e] at hw
    exact nar_on_le as (.app b a) ⟨by omega, h, ha a (List.mem_cons_self ..)⟩ (by show b.wid + 1 + as.length ≤ 3; omega) fun x hx => ha x (List.mem_cons_of_mem _ hx)
theorem all_on_le {P : Str → Prop} : ∀ (as : List Ty) (b : Ty), b.all P → (∀ a ∈ as, a.all P) → (b.on as).all P
  | [], _, h, _ => h
  | a :: as, b, h, ha => all_on_le as (.app b a) ⟨h, ha a (List.mem_cons_self ..)⟩ fun x hx => ha x (List.mem_cons_of_mem _ hx)
theorem dep_on_le {n : Nat} : ∀ (as : List Ty) (b : Ty), b.dep ≤ n + 1 → (∀ a ∈ as, a.dep ≤ n) → (b.on as).dep ≤ n + 1
  | [], _, h, _ => h
  | a :: as, b, h, ha => dep_on_le as (.app b a) (by have := ha a (List.mem_cons_self ..); show max b.dep (a.dep + 1) ≤ n + 1; omega) fun x hx => ha x (List.mem_cons_of_mem _ hx)
theorem gen_all {LS HS : List Str} : ∀ (n : Nat) (t : Ty), GenTy LS HS n t → t.dep ≤ n ∧ t.nar ∧ t.size ≤ 1 + 3 * (8 ^ n - 1) ∧ t.all (· ∈ LS ++ HS)
  | 0, t, h => by
    obtain ⟨s, hs, rfl⟩ := h
    exact ⟨Nat.le_refl _, trivial, Nat.le_refl _, List.mem_append_left _ hs⟩
  | n + 1, t, h => by
    rcases h with ⟨s, hs, rfl⟩ | ⟨h, hh, as, rfl, _, h3, ha⟩
    · exact ⟨Nat.zero_le _, trivial, Nat.le_add_right _ _, List.mem_append_left _ hs⟩
    · have ih : ∀ a ∈ as, _ := fun a m => gen_all n a (ha a m)
      refine ⟨dep_on_le as _ (Nat.zero_le _) fun a m => (ih a m).1, nar_on_le as _ trivial (by show 0 + as.length ≤ 3; omega) fun a m => (ih a m).2.1, ?_, all_on_le as _ (List.mem_append_right _ hh) fun a m => (ih a m).2.2.2⟩
      have hM := size_on_le (M := 1 + 3 * (8 ^ n - 1)) as (.leaf h) fun a m => (ih a m).2.2.1
      have e1 : (Ty.leaf h).size = 1 := rfl
      rw [e1] at hM
      have hp : 1 ≤ 8 ^ n := Nat.one_le_pow _ _ (by decide)
      have h4 : as.length * (1 + 3 * (8 ^ n - 1) + 1) ≤ 3 * (1 + 3 * (8 ^ n - 1) + 1) := Nat.mul_le_mul_right _ h3
      have e8 : 8 ^ (n + 1) = 8 ^ n * 8 := rfl
      omega
theorem gen_body {LS HS : List Str} {t : Ty} (h : GenTy LS HS 1 t) : ∃ bh parts, t = (Ty.leaf bh).on parts ∧ bh ∈ LS ++ HS ∧ parts.length ≤ 3 ∧ ∀ p ∈ parts, ∃ s ∈ LS, p = .leaf s := by
  rcases h with ⟨s, hs, rfl⟩ | ⟨h, hh, as, rfl, _, h3, ha⟩
  · exact ⟨s, [], rfl, List.mem_append_left _ hs, Nat.zero_le _, fun _ h => nomatch h⟩
  · exact ⟨h, as, rfl, List.mem_append_right _ hh, h3, ha⟩
noncomputable def told3 (dS dT dU : Def) : Str → Option Def := fun h => if h = (Str.ofString "S") then some dS else if h = (Str.ofString "T") then some dT else if h = (Str.ofString "U") then some dU else none
noncomputable def rk3 : Str → Nat := fun h => if h = (Str.ofString "S") then 0 else if h = (Str.ofString "T") then 1 else 2
theorem told3_some {dS dT dU d : Def} {h : Str} (e : told3 dS dT dU h = some d) : (h = (Str.ofString "S") ∧ d = dS) ∨ (h = (Str.ofString "T") ∧ d = dT) ∨ (h = (Str.ofString "U") ∧ d = dU) := by
  unfold told3 at e
  split at e
  · cases e; exact .inl ⟨‹_›, rfl⟩
  · split at e
    · cases e; exact .inr (.inl ⟨‹_›, rfl⟩)
    · split at e
      · cases e; exact .inr (.inr ⟨‹_›, rfl⟩)
      · cases e
theorem rk3_S : rk3 (Str.ofString "S") = 0 := by unfold rk3; rw [if_pos rfl]
theorem rk3_T : rk3 (Str.ofString "T") = 1 := by unfold rk3; rw [if_neg (by decide), if_pos rfl]
theorem rk3_U : rk3 (Str.ofString "U") = 2 := by unfold rk3; rw [if_neg (by decide), if_neg (by decide)]
theorem rk3_lt (h : Str) : rk3 h < 3 := by unfold rk3; split; omega; split <;> omega
structure BodyOk (d : Def) (ps LS HS : List Str) : Prop where
  hp : d.ps = ps
  hb : d.bh ∈ LS ++ HS
  hl : d.parts.length ≤ 3
  hparts : ∀ p ∈ d.parts, ∃ s ∈ LS, p = .leaf s
theorem told3_ok {dS dT dU : Def} (oS : BodyOk dS [(Str.ofString "x"), (Str.ofString "y")] [(Str.ofString "x"), (Str.ofString "y"), (Str.ofString "Int"), (Str.ofString "[]")] [(Str.ofString "[]"), (Str.ofString "->"), (Str.ofString "x"), (Str.ofString "y")]) (oT : BodyOk dT [(Str.ofString "y"), (Str.ofString "x")] [(Str.ofString "y"), (Str.ofString "x"), (Str.ofString "Int"), (Str.ofString "[]"), (Str.ofString "S")] [(Str.ofString "[]"), (Str.ofString "->"), (Str.ofString "y"), (Str.ofString "x"), (Str.ofString "S")])
    (oU : BodyOk dU [(Str.ofString "y")] [(Str.ofString "y"), (Str.ofString "Int"), (Str.ofString "[]"), (Str.ofString "S"), (Str.ofString "T")] [(Str.ofString "[]"), (Str.ofString "->"), (Str.ofString "y"), (Str.ofString "S"), (Str.ofString "T")]) : TOk (told3 dS dT dU) rk3 1 := by
  have nS : ∀ x ∈ [(Str.ofString "x"), (Str.ofString "y"), (Str.ofString "Int"), (Str.ofString "[]")] ++ [(Str.ofString "[]"), (Str.ofString "->"), (Str.ofString "x"), (Str.ofString "y")], Under (told3 dS dT dU) rk3 0 x := fun x hx d e => by
    rcases told3_some e with ⟨rfl, _⟩ | ⟨rfl, _⟩ | ⟨rfl, _⟩ <;> exact absurd hx (by decide)
  have nT : ∀ x ∈ [(Str.ofString "y"), (Str.ofString "x"), (Str.ofString "Int"), (Str.ofString "[]"), (Str.ofString "S")] ++ [(Str.ofString "[]"), (Str.ofString "->"), (Str.ofString "y"), (Str.ofString "x"), (Str.ofString "S")], Under (told3 dS dT dU) rk3 1 x := fun x hx d e => by
    rcases told3_some e with ⟨rfl, _⟩ | ⟨rfl, _⟩ | ⟨rfl, _⟩
    · rw [rk3_S]; decide
    · exact absurd hx (by decide)
    · exact absurd hx (by decide)
  have nU : ∀ x ∈ [(Str.ofString "y"), (Str.ofString "Int"), (Str.ofString "[]"), (Str.ofString "S"), (Str.ofString "T")] ++ [(Str.ofString "[]"), (Str.ofString "->"), (Str.ofString "y"), (Str.ofString "S"), (Str.ofString "T")], Under (told3 dS dT dU) rk3 2 x := fun x hx d e => by
    rcases told3_some e with ⟨rfl, _⟩ | ⟨rfl, _⟩ | ⟨rfl, _⟩
    · rw [rk3_S]; decide
    · rw [rk3_T]; decide
    · exact absurd hx (by decide)
  have body : ∀ {d : Def} {ps LS HS : List Str} {r : Nat}, BodyOk d ps LS HS → (∀ x ∈ LS ++ HS, Under (told3 dS dT dU) rk3 r x) → ((Ty.leaf d.bh).on d.parts).nar ∧ ((Ty.leaf d.bh).on d.parts).all (Under (told3 dS dT dU) rk3 r) ∧ ((Ty.leaf d.bh).on d.parts).dep ≤ 2 := fun o n => by
    refine ⟨nar_on_le _ _ trivial (by show 0 + _ ≤ 3; have := o.hl; omega) fun a m => ?_, all_on_le _ _ (n _ o.hb) fun a m => ?_, Nat.le_succ_of_le (dep_on_le (n := 0) _ _ (Nat.zero_le _) fun a m => ?_)⟩
    all_goals obtain ⟨s, hs, rfl⟩ := o.hparts a m
    · trivial
    · exact n _ (List.mem_append_left _ hs)
    · exact Nat.le_refl _
  refine ⟨?_, ?_, ?_, ?_, ?_, ?_, ?_, ?_, ?_⟩ <;> intro h d e <;> rcases told3_some e with ⟨rfl, rfl⟩ | ⟨rfl, rfl⟩ | ⟨rfl, rfl⟩
  any_goals decide
  any_goals (first | rw [oS.hp]; decide | rw [oT.hp]; decide | rw [oU.hp]; decide)
  any_goals (first | exact oS.hl | exact oT.hl | exact oU.hl)
  any_goals (first | (rw [rk3_S]; exact body oS nS) | (rw [rk3_T]; exact body oT nT) | (rw [rk3_U]; exact body oU nU))
  all_goals (intro p hp; have hx : ∃ s, p = .leaf s := (by first | exact (oS.hparts p hp).imp fun _ x => x.2 | exact (oT.hparts p hp).imp fun _ x => x.2 | exact (oU.hparts p hp).imp fun _ x => x.2); obtain ⟨s, rfl⟩ := hx; exact ⟨Nat.le_refl _, .inr ⟨_, rfl⟩⟩)
theorem bodyOk_of {LS HS : List Str} {ps : List Str} {t : Ty} (h : GenTy LS HS 1 t) : ∃ d : Def, BodyOk d ps LS HS ∧ t = (Ty.leaf d.bh).on d.parts := by
  obtain ⟨bh, parts, e, h1, h2, h3⟩ := gen_body h
  exact ⟨⟨ps, bh, parts⟩, ⟨rfl, h1, h2, h3⟩, e⟩
noncomputable def Ent (news : List (Addr × Obj)) (df : Def) (v : Value) : Prop :=
  ∃ (tu pl : Addr) (pvs : List (Str × Tok)) (bv : Value) (n k : Nat), v = .ref tu ∧ (tu, tupOf [.ref pl, bv] n) ∈ news ∧ (pl, listOf (pvs.map fun p : Str × Tok => Value.str p.1 p.2).toArray k) ∈ news ∧ pvs.map (·.1) = df.ps ∧ TyV news bv ((Ty.leaf df.bh).on df.parts)
theorem told3_ents {news : List (Addr × Obj)} {dS dT dU : Def} {vS vT vU : Value} (eS : Ent news dS vS) (eT : Ent news dT vT) (eU : Ent news dU vU) :
    ∀ h v, valueAt [((Str.ofString "S"), vS), ((Str.ofString "T"), vT), ((Str.ofString "U"), vU)] h = some v → ∃ (df : Def) (tu pl : Addr) (pvs : List (Str × Tok)) (bv : Value) (n k : Nat), told3 dS dT dU h = some df ∧ v = .ref tu ∧ (tu, tupOf [.ref pl, bv] n) ∈ news ∧ (pl, listOf (pvs.map fun p : Str × Tok => Value.str p.1 p.2).toArray k) ∈ news ∧ pvs.map (·.1) = df.ps ∧ TyV news bv ((Ty.leaf df.bh).on df.parts) := fun h v e => by
  rw [valueAt_cons, valueAt_cons, valueAt_cons] at e
  have fin : ∀ {df : Def} {v' : Value}, Ent news df v' → told3 dS dT dU h = some df → v' = v → ∃ (df : Def) (tu pl : Addr) (pvs : List (Str × Tok)) (bv : Value) (n k : Nat), told3 dS dT dU h = some df ∧ v = .ref tu ∧ (tu, tupOf [.ref pl, bv] n) ∈ news ∧ (pl, listOf (pvs.map fun p : Str × Tok => Value.str p.1 p.2).toArray k) ∈ news ∧ pvs.map (·.1) = df.ps ∧ TyV news bv ((Ty.leaf df.bh).on df.parts) := fun x e1 e2 => by
    obtain ⟨tu, pl, pvs, bv, n, k, h1, h2, h3, h4, h5⟩ := x
    exact ⟨_, tu, pl, pvs, bv, n, k, e1, e2 ▸ h1, h2, h3, h4, h5⟩
  by_cases h1 : h = (Str.ofString "S")
  · rw [if_pos h1] at e; cases e; exact fin eS (by unfold told3; rw [if_pos h1]) rfl
  · rw [if_neg h1] at e
    by_cases h2 : h = (Str.ofString "T")
    · rw [if_pos h2] at e; cases e; exact fin eT (by unfold told3; rw [if_neg h1, if_pos h2]) rfl
    · rw [if_neg h2] at e
      by_cases h3 : h = (Str.ofString "U")
      · rw [if_pos h3] at e; cases e; exact fin eU (by unfold told3; rw [if_neg h1, if_neg h2, if_pos h3]) rfl
      · rw [if_neg h3] at e; simp [valueAt] at e
theorem told3_none {dS dT dU : Def} {vS vT vU : Value} {h : Str} (e : valueAt [((Str.ofString "S"), vS), ((Str.ofString "T"), vT), ((Str.ofString "U"), vU)] h = none) : told3 dS dT dU h = none := by
  rw [valueAt_cons, valueAt_cons, valueAt_cons] at e
  unfold told3
  by_cases h1 : h = (Str.ofString "S")
  · rw [if_pos h1] at e; cases e
  · rw [if_neg h1] at e ⊢
    by_cases h2 : h = (Str.ofString "T")
    · rw [if_pos h2] at e; cases e
    · rw [if_neg h2] at e ⊢
      by_cases h3 : h = (Str.ofString "U")
      · rw [if_pos h3] at e; cases e
      · rw [if_neg h3]
theorem under3 {dS dT dU : Def} {LS HS : List Str} {n : Nat} {t : Ty} (g : GenTy LS HS n t) : t.all (Under (told3 dS dT dU) rk3 3) := Ty.all_mono (fun h _ _ _ => rk3_lt h) (gen_all n t g).2.2.2
theorem cst3 : cst 3 2 + 40 ≤ 4000 := by decide
theorem rsz3 : rsz 3 1 2 ≤ 500 := by decide
theorem rsz31 : rsz 3 1 1 ≤ 4000 := by decide
theorem ent2 {news : List (Addr × Obj)} {df : Def} {tu pl : Addr} {a b : Str} {k1 k2 : Tok} {bv : Value} {n k : Nat} {t : Ty} (hm : (tu, tupOf [.ref pl, bv] n) ∈ news) (hl : (pl, listOf #[.str a k1, .str b k2] k) ∈ news) (hp : df.ps = [a, b]) (hv : TyV news bv t) (e : t = (Ty.leaf df.bh).on df.parts) : Ent news df (.ref tu) :=
  ⟨tu, pl, [(a, k1), (b, k2)], bv, n, k, rfl, hm, hl, hp.symm, e ▸ hv⟩
theorem ent1 {news : List (Addr × Obj)} {df : Def} {tu pl : Addr} {a : Str} {k1 : Tok} {bv : Value} {n k : Nat} {t : Ty} (hm : (tu, tupOf [.ref pl, bv] n) ∈ news) (hl : (pl, listOf #[.str a k1] k) ∈ news) (hp : df.ps = [a]) (hv : TyV news bv t) (e : t = (Ty.leaf df.bh).on df.parts) : Ent news df (.ref tu) :=
  ⟨tu, pl, [(a, k1)], bv, n, k, rfl, hm, hl, hp.symm, e ▸ hv⟩
end Mine
end

section
open PySem PySem.W PyProof.Rows
namespace Mine
local macro_rules | `(tactic| walk_at $s:str) => `(tactic| k_extra $s)
local macro_rules | `(tactic| lcg_src) => `(tactic| k_extra "my src")
local macro_rules | `(tactic| lcg_sub) => `(tactic| k_extra "my sub")
local macro_rules | `(tactic| k_all) => `(tactic| k_extra "my all")
local macro_rules | `(tactic| k_mem) => `(tactic| k_extra "my mem")
local macro_rules | `(tactic| k_tabat) => `(tactic| k_extra "my tabat")
local macro_rules | `(tactic| k_updF) => `(tactic| k_extra "my updF")
local macro_rules | `(tactic| k_qdec) => `(tactic| decide +kernel)
local macro_rules | `(tactic| k_ne) => `(tactic| k_extra "my ne")
local macro_rules | `(tactic| omega) => `(tactic| k_extra "my om")

section
/- part C_pull -/
theorem kw_C_pull_s_0 : True := by
  w_top off
  k_with_none
  k_with "my path" => first | with_reducible exact And.left | with_reducible exact And.right | (refine path_r ?_; k_extra "my path")
  k_with "my ne" => ((try dsimp only); first | (refine' Nat.ne_of_gt (lt_pick ?neA ?neB); (case neA => with_reducible assumption); (case neB => k_extra "my path")) | (refine' Nat.ne_of_lt (lt_pick ?neA ?neB); (case neA => with_reducible assumption); (case neB => k_extra "my path")) | exact Nat.ne_of_gt (by with_reducible assumption) | exact Nat.ne_of_lt (by with_reducible assumption) | fail)
  k_with "my om" => first | exact Nat.le_of_ble_eq_true rfl | with_reducible assumption | lia
  k_with "eval Name" => (k_here; k_dflt (first | (refine' nameX_L ?Fw1 ?vw1 ?_ ?aw1 ?bw1; (case Fw1 => k_asm); (case aw1 => rfl); (case bw1 => rfl); (case vw1 => rfl); k_whole) | (refine' nameX_C ?Nw1 ?cw1 ?mw1 ?dw1 ?_ ?aw1 ?bw1; (case aw1 => rfl); (case bw1 => rfl); (case Nw1 => k_asm); (case cw1 => rfl); (case mw1 => k_mem); (case dw1 => k_asm); k_whole) | (refine' nameX_K ?Fw1 ?Xw1 ?Tw1 ?ew1 ?_ ?aw1 ?bw1; (case Fw1 => k_asm); (case Xw1 => k_asm); (case Tw1 => k_asm); (case aw1 => rfl); (case bw1 => rfl); (case ew1 => k_is); k_whole) | (refine' nameX_B ?Fw1 ?Xw1 ?Tw1 ?ew1 ?vw1 ?nw1 ?_ ?aw1 ?bw1; (case Fw1 => k_asm); (case Xw1 => k_asm); (case Tw1 => k_asm); (case aw1 => rfl); (case bw1 => rfl); (case ew1 => k_is); (case vw1 => boot_fast); (case nw1 => decide); k_whole)))
  k_with "call builtin:isinstance" => (k_here; (with_reducible show wpAny _ _ (call _ [Value.ref _, Value.ref _]) _ _ _); k_dflt (first | (refine' isi_call ?k1w2 ?k2w2 ?k3w2 ?k4w2 ?_; (case k1w2 => k_in); (case k2w2 => k_types); (case k3w2 => k_is); (case k4w2 => intro e; cases e); k_whole) | (refine' kin_callC ?k1w2 ?k2w2 ?k3w2 ?k4w2 ?k5w2 ?k6w2 ?k7w2 ?k8w2 ?k9w2 ?_; (case k1w2 => k_in); (case k2w2 => k_inst); (case k3w2 => kin_no); (case k4w2 => k_is); (case k5w2 => k_is); (case k6w2 => k_is); (case k7w2 => k_is); (case k8w2 => k_is); (case k9w2 => k_is); k_whole)))
  k_with "getAttr ref" => (k_here; k_dflt (refine' get_own ?k1w3 ?k2w3 ?k3w3 ?k4w3 ?k5w3 ?k6w3 ?k7w3 ?k8w3 ?k9w3 ?_; (case k1w3 => k_asm); (case k2w3 => k_asm); (case k3w3 => k_inst); (case k4w3 => k_is); (case k5w3 => k_is); (case k6w3 => k_is); (case k7w3 => k_is); (case k8w3 => k_get); (case k9w3 => k_handed); k_whole))
  k_with "exec For Name Name cons nil" => refine halt ?_
  k_with "my src" => first | exact fun _ h => h | with_reducible assumption | (refine sub_t ?_; lcg_src) | (refine sub_l ?_; lcg_src) | (refine sub_r ?_; lcg_src)
  k_with "my sub" => first | exact sub_n | (refine sub_c ?_ ?_; k_mem; lcg_sub) | (refine sub_a ?_ ?_; lcg_sub; lcg_sub) | lcg_src
  k_with "my all" => first | assumption | (refine List.forall_mem_append.mpr ⟨?_, ?_⟩ <;> k_all)
  k_with "my mem" => first | with_reducible assumption | exact List.Mem.head _ | (refine List.mem_cons_of_mem _ ?_; k_mem) | (refine List.mem_append_left _ ?_; k_mem) | (refine List.mem_append_right _ ?_; k_mem)
  k_with "tell sides" => ((case k1 => k_asm); (case k2 => k_asm); (case k3 => k_asm); (case k4 => k_asm); (case k5 => k_asm); (try (case sub => lcg_sub)); (try (case hm => first | exact mu_nil | assumption | (refine mu_one ?_; k_all))); (case kk => first | exact rfl | assumption); (case kd => ktr_room); (case ku => ktr_units))
  k_with "enter" => (k_dflt (refine' code_def ?k1w10 ?k2w10 ?k3w10 ?k4w10 ?k5w10 ?kAw10 ?kFw10 ?kKw10 ?k6w10 ?k7w10 ?k8w10 ?k9w10 ?kBw10 ?_ ?c2w10 ?c3w10 ?c4w10 ?c5w10; (case kAw10 => exact rfl); (case kFw10 => exact rfl); (case kKw10 => assumption); (case k1w10 => k_asm); (case k2w10 => k_asm); (case k3w10 => k_asm); (case k4w10 => k_asm); (case k5w10 => k_asm); (case k6w10 => k_is); (case k7w10 => k_is); (case k8w10 => ktr_room); (case k9w10 => exact BindsTo.of_eq rfl); (case c5w10 => decide); (case kBw10 => exact locs rfl); (case c2w10 => exact rfl); (case c3w10 => exact rfl); (case c4w10 => exact rfl); k_whole))
  k_with "enter cells" => (k_dflt (refine' code_defC ?k1w11 ?k2w11 ?k3w11 ?k4w11 ?k5w11 ?kAw11 ?kFw11 ?kKw11 ?k6w11 ?k7w11 ?k8w11 ?k9w11 ?kBw11 ?kDw11 ?_ ?c2w11 ?c3w11 ?c4w11; (case kAw11 => exact rfl); (case kFw11 => exact rfl); (case kKw11 => assumption); (case k1w11 => k_asm); (case k2w11 => k_asm); (case k3w11 => k_asm); (case k4w11 => k_asm); (case k5w11 => k_asm); (case k6w11 => k_is); (case k7w11 => k_is); (case k8w11 => ktr_room); (case k9w11 => exact BindsTo.of_eq rfl); (case kBw11 => exact rfl); (case kDw11 => decide +kernel); (case c2w11 => exact rfl); (case c3w11 => exact rfl); (case c4w11 => exact rfl); k_whole))
  k_with "enter own" => (refine' code_def ?k1w12 ?k2w12 ?k3w12 ?k4w12 ?k5w12 ?kAw12 ?kFw12 ?kKw12 ?k6w12 ?k7w12 ?k8w12 ?k9w12 ?kBw12 ?_ ?c2w12 ?c3w12 ?c4w12 ?c5w12; (case kAw12 => exact rfl); (case kFw12 => exact rfl); (case kKw12 => exact rfl); (case k1w12 => k_asm); (case k2w12 => k_asm); (case k3w12 => k_asm); (case k4w12 => k_asm); (case k5w12 => k_asm); (case k6w12 => k_is); (case k7w12 => k_is); (case k8w12 => ktr_room); (case k9w12 => first | exact BindsTo.of_eq rfl | exact binds_K (by k_in) rfl (by k_is) rfl rfl rfl | fail "k_enter: no rule for these arguments"); (case c5w12 => decide); (case kBw12 => exact locs rfl); (case c2w12 => exact rfl); (case c3w12 => exact rfl); (case c4w12 => exact rfl); k_whole; intro g' L' h' FG' F' N' B' X' T'; (try dsimp only); (try k_lift B'); (try k_fold))
  k_with "call ref" => (k_here; k_dflt (first
    | (refine' call_cls ?k1w13 ?k2w13 ?k3w13 ?k4w13 ?k5w13 ?k6w13 ?_; (case k1w13 => k_asm); (case k2w13 => k_asm); (case k3w13 => k_asm); (case k4w13 => k_is); (case k5w13 => k_is); (case k6w13 => k_is); k_whole; intro x' d' h' F' N' l1 l2; (try k_lt l1); (try k_lt2 l2); (try k_sweep); walk_at "enter own")
    | (refine wpAny_call ?_; walk_at "enter own")))
  k_with "subscriptTail" => (k_here; (with_reducible show wpAny _ _ (subscriptTail _ _ (Value.ref _) (Value.int 0 _)) _ _ _); k_dflt (refine' led_tup0 ?k1w14 ?k2w14 ?k3w14 ?_; (case k1w14 => k_asm); (case k2w14 => k_mem); (case k3w14 => (first | assumption | omega)); k_whole))
  k_with "subscriptTail Name Slice ref ref" => (k_here; (with_reducible show wpAny _ _ (subscriptTail _ (PySem.Expr.Slice _ _ none _) (Value.ref _) (Value.ref _)) _ _ _); k_dflt (refine' led_tupTail ?k1w15 ?k2w15 ?k3w15 ?k4w15 ?_; (case k1w15 => k_asm); (case k2w15 => k_asm); (case k3w15 => k_mem); (case k4w15 => (first | assumption | omega)); k_whole); intro D' h' F' N' l1; (try k_lt l1); (try k_sweep))
  k_with "call ref" => ((with_reducible first | show wpAny _ _ (call (Value.ref 191) _) _ _ _ | show wpAny _ _ (call (Value.ref 198) _) _ _ _ | show wpAny _ _ (call (Value.ref 205) _) _ _ _ | show wpAny _ _ (call (Value.ref 224) _) _ _ _ | show wpAny _ _ (call (Value.ref 229) _) _ _ _ | show wpAny _ _ (call (Value.ref 243) _) _ _ _ | show wpAny _ _ (call (Value.ref 257) _) _ _ _ | show wpAny _ _ (call (Value.ref 264) _) _ _ _ | show wpAny _ _ (call (Value.ref 276) _) _ _ _ | show wpAny _ _ (call (Value.ref 283) _) _ _ _ | show wpAny _ _ (call (Value.ref 290) _) _ _ _ | show wpAny _ _ (call (Value.ref 295) _) _ _ _ | show wpAny _ _ (call (Value.ref 302) _) _ _ _ | show wpAny _ _ (call (Value.ref 309) _) _ _ _); refine halt ?_)
  k_with "eval ListComp" => refine halt ?_
  k_with "exec Assign cons ListComp" => refine halt ?_
  k_with "exec For" => refine halt ?_
  k_with "exec While" => refine halt ?_
  k_with "call type:tuple" => ((with_reducible show wpAny _ _ (call (Value.type "tuple") [Value.ref _]) _ _ _); refine halt ?_)
  k_with "binaryOp Add ref ref" => ((with_reducible show wpAny _ _ (binaryOp Operator.Add (Value.ref _) (Value.ref _)) _ _ _); refine halt ?_)
  k_with "my tabat" => first | assumption | exact ab0 (by assumption) | exact ab1 (by assumption) | (refine ab_trans (by assumption) ?_; k_tabat)
  k_with "my updF" => first | exact Fresh.nil | assumption | (refine Fresh.allLt ?_ ?_; k_tabat; k_updF) | (refine Fresh.append ?_ ?_; k_updF; k_updF)
  k_with "getMethod ref" => (k_here; (with_reducible show wpAny _ _ (getMethod (Value.ref _) (Str.ofString "get") _) _ _ _); k_dflt (refine kdg_method (knd := PySem.strKind _ _) (by k_asm) (by k_mem) (by assumption) ?_))
  k_with "call builtin:dict.get" => (k_here; k_dflt (refine kdg_get2 (knd := PySem.strKind _ _) (by k_asm) (by k_mem) (by assumption) (by assumption) (strKind_is _ _ _ _) _ rfl ?_))
  k_with "compareOp NotEq ref ref" => (k_here; k_dflt (first | (refine' led_ne_nil ?k1w27 ?k2w27 ?k3w27 ?k4w27 ?_; (case k1w27 => k_asm); (case k2w27 => k_mem); (case k3w27 => k_mem); (case k4w27 => ke_room)) | (refine' led_ne_snoc ?k1w27 ?k2w27 ?k3w27 ?k4w27 ?_; (case k1w27 => k_asm); (case k2w27 => k_mem); (case k3w27 => k_mem); (case k4w27 => ke_room))))
  k_with "compareOp Eq ref ref" => (k_here; k_dflt (first | (refine' led_eq_nil ?k1w28 ?k2w28 ?k3w28 ?k4w28 ?_; (case k1w28 => k_asm); (case k2w28 => k_mem); (case k3w28 => k_mem); (case k4w28 => ke_room)) | (refine' led_eq_cons ?k1w28 ?k2w28 ?k3w28 ?k4w28 ?_; (case k1w28 => k_asm); (case k2w28 => k_mem); (case k3w28 => k_mem); (case k4w28 => ke_room))))
  trivial
/-- the trunk: a list of two ints -/
noncomputable def TrunkOk (o : Obj) : Prop := ∃ t0 t1 k0 k1 n, o = listOf #[.int t0 k0, .int t1 k1] n ∧ 0 ≤ t0 ∧ 0 ≤ t1 ∧ t1 < 2147483399

set_option maxRecDepth 100000 in
set_option maxHeartbeats 8000000 in
theorem pull_tells {w : World} {mean : ExcName → Option Value} {mg mb : Str → Option Value} {tr : Addr} {o : Obj} {many : Int} {k2 : Tok} (ho : TrunkOk o) (hm : 1 ≤ many) (hM : many < 1000) :
    Tell w mean mg mb 257 [.ref tr, .int many k2] 3 [tr] [(tr, o)]
      (fun r tl led' => ∃ x o' kx, r = .int x kx ∧ 0 ≤ x ∧ x < many ∧ TrunkOk o' ∧ tl = [] ∧ led' = [(tr, o')]) False [] := by
  refine cps fun GX hGX => ?_
  obtain ⟨t0, t1, k0, k1, n, rfl, h0, h1, h2⟩ := ho
  refine hGX ?_
  clear hGX GX
  unfold Tell
  k_fill
  intro dp un gd cn cs a ccd cl outer A₀ base h₀ L m s fr Q E B F X N hmu T hk hd hu hret hfail
  have hap := mu_ne hmu
  replace N : News h₀ L s.heap ((tr, listOf #[.int t0 k0, .int t1 k1] n) :: fr) := fun p hp => N p (by simp only [List.mem_append, List.mem_cons] at hp ⊢; grind)
  refine wpAny_call ?_
  walk_at "enter"
  intro g' L' h' FG' F' N' B' X' T'
  try dsimp only
  try k_fold
  k_steps
  all_goals (rename News _ _ _ _ => N9)
  all_goals (refine hret _ [] [_] _ _ (by assumption) (news_back N9) Fresh.nil ⟨_, _, _, rfl, ?_, ?_, ⟨_, _, _, _, _, rfl, ?_, ?_, ?_⟩, rfl, rfl⟩)
  all_goals (try simp only [show Int.toNat 0 = 0 from rfl, show Int.toNat 1 = 1 from rfl, List.getD_cons_zero, List.getD_cons_succ])
  all_goals (first | omega | exact Int.fmod_nonneg_of_pos _ (by omega) | exact Int.fmod_lt_of_pos _ (by omega) | exact Int.fdiv_nonneg (by omega) (by omega))
end

section
/- part C_one -/
theorem kw_C_one_s_0 : True := by
  w_top off
  k_with_none
  k_with "my path" => first | with_reducible exact And.left | with_reducible exact And.right | (refine path_r ?_; k_extra "my path")
  k_with "my ne" => ((try dsimp only); first | (refine' Nat.ne_of_gt (lt_pick ?neA ?neB); (case neA => with_reducible assumption); (case neB => k_extra "my path")) | (refine' Nat.ne_of_lt (lt_pick ?neA ?neB); (case neA => with_reducible assumption); (case neB => k_extra "my path")) | exact Nat.ne_of_gt (by with_reducible assumption) | exact Nat.ne_of_lt (by with_reducible assumption) | fail)
  k_with "my om" => first | exact Nat.le_of_ble_eq_true rfl | with_reducible assumption | lia
  k_with "eval Name" => (k_here; k_dflt (first | (refine' nameX_L ?Fw29 ?vw29 ?_ ?aw29 ?bw29; (case Fw29 => k_asm); (case aw29 => rfl); (case bw29 => rfl); (case vw29 => rfl); k_whole) | (refine' nameX_C ?Nw29 ?cw29 ?mw29 ?dw29 ?_ ?aw29 ?bw29; (case aw29 => rfl); (case bw29 => rfl); (case Nw29 => k_asm); (case cw29 => rfl); (case mw29 => k_mem); (case dw29 => k_asm); k_whole) | (refine' nameX_K ?Fw29 ?Xw29 ?Tw29 ?ew29 ?_ ?aw29 ?bw29; (case Fw29 => k_asm); (case Xw29 => k_asm); (case Tw29 => k_asm); (case aw29 => rfl); (case bw29 => rfl); (case ew29 => k_is); k_whole) | (refine' nameX_B ?Fw29 ?Xw29 ?Tw29 ?ew29 ?vw29 ?nw29 ?_ ?aw29 ?bw29; (case Fw29 => k_asm); (case Xw29 => k_asm); (case Tw29 => k_asm); (case aw29 => rfl); (case bw29 => rfl); (case ew29 => k_is); (case vw29 => boot_fast); (case nw29 => decide); k_whole)))
  k_with "call builtin:isinstance" => (k_here; (with_reducible show wpAny _ _ (call _ [Value.ref _, Value.ref _]) _ _ _); k_dflt (first | (refine' isi_call ?k1w30 ?k2w30 ?k3w30 ?k4w30 ?_; (case k1w30 => k_in); (case k2w30 => k_types); (case k3w30 => k_is); (case k4w30 => intro e; cases e); k_whole) | (refine' kin_callC ?k1w30 ?k2w30 ?k3w30 ?k4w30 ?k5w30 ?k6w30 ?k7w30 ?k8w30 ?k9w30 ?_; (case k1w30 => k_in); (case k2w30 => k_inst); (case k3w30 => kin_no); (case k4w30 => k_is); (case k5w30 => k_is); (case k6w30 => k_is); (case k7w30 => k_is); (case k8w30 => k_is); (case k9w30 => k_is); k_whole)))
  k_with "getAttr ref" => (k_here; k_dflt (refine' get_own ?k1w31 ?k2w31 ?k3w31 ?k4w31 ?k5w31 ?k6w31 ?k7w31 ?k8w31 ?k9w31 ?_; (case k1w31 => k_asm); (case k2w31 => k_asm); (case k3w31 => k_inst); (case k4w31 => k_is); (case k5w31 => k_is); (case k6w31 => k_is); (case k7w31 => k_is); (case k8w31 => k_get); (case k9w31 => k_handed); k_whole))
  k_with "exec For Name Name cons nil" => refine halt ?_
  k_with "my src" => first | exact fun _ h => h | with_reducible assumption | (refine sub_t ?_; lcg_src) | (refine sub_l ?_; lcg_src) | (refine sub_r ?_; lcg_src)
  k_with "my sub" => first | exact sub_n | (refine sub_c ?_ ?_; k_mem; lcg_sub) | (refine sub_a ?_ ?_; lcg_sub; lcg_sub) | lcg_src
  k_with "my all" => first | assumption | (refine List.forall_mem_append.mpr ⟨?_, ?_⟩ <;> k_all)
  k_with "my mem" => first | with_reducible assumption | exact List.Mem.head _ | (refine List.mem_cons_of_mem _ ?_; k_mem) | (refine List.mem_append_left _ ?_; k_mem) | (refine List.mem_append_right _ ?_; k_mem)
  k_with "tell sides" => ((case k1 => k_asm); (case k2 => k_asm); (case k3 => k_asm); (case k4 => k_asm); (case k5 => k_asm); (try (case sub => lcg_sub)); (try (case hm => first | exact mu_nil | assumption | (refine mu_one ?_; k_all))); (case kk => first | exact rfl | assumption); (case kd => ktr_room); (case ku => ktr_units))
  k_with "enter" => (k_dflt (refine' code_def ?k1w38 ?k2w38 ?k3w38 ?k4w38 ?k5w38 ?kAw38 ?kFw38 ?kKw38 ?k6w38 ?k7w38 ?k8w38 ?k9w38 ?kBw38 ?_ ?c2w38 ?c3w38 ?c4w38 ?c5w38; (case kAw38 => exact rfl); (case kFw38 => exact rfl); (case kKw38 => assumption); (case k1w38 => k_asm); (case k2w38 => k_asm); (case k3w38 => k_asm); (case k4w38 => k_asm); (case k5w38 => k_asm); (case k6w38 => k_is); (case k7w38 => k_is); (case k8w38 => ktr_room); (case k9w38 => exact BindsTo.of_eq rfl); (case c5w38 => decide); (case kBw38 => exact locs rfl); (case c2w38 => exact rfl); (case c3w38 => exact rfl); (case c4w38 => exact rfl); k_whole))
  k_with "enter cells" => (k_dflt (refine' code_defC ?k1w39 ?k2w39 ?k3w39 ?k4w39 ?k5w39 ?kAw39 ?kFw39 ?kKw39 ?k6w39 ?k7w39 ?k8w39 ?k9w39 ?kBw39 ?kDw39 ?_ ?c2w39 ?c3w39 ?c4w39; (case kAw39 => exact rfl); (case kFw39 => exact rfl); (case kKw39 => assumption); (case k1w39 => k_asm); (case k2w39 => k_asm); (case k3w39 => k_asm); (case k4w39 => k_asm); (case k5w39 => k_asm); (case k6w39 => k_is); (case k7w39 => k_is); (case k8w39 => ktr_room); (case k9w39 => exact BindsTo.of_eq rfl); (case kBw39 => exact rfl); (case kDw39 => decide +kernel); (case c2w39 => exact rfl); (case c3w39 => exact rfl); (case c4w39 => exact rfl); k_whole))
  k_with "enter own" => (refine' code_def ?k1w40 ?k2w40 ?k3w40 ?k4w40 ?k5w40 ?kAw40 ?kFw40 ?kKw40 ?k6w40 ?k7w40 ?k8w40 ?k9w40 ?kBw40 ?_ ?c2w40 ?c3w40 ?c4w40 ?c5w40; (case kAw40 => exact rfl); (case kFw40 => exact rfl); (case kKw40 => exact rfl); (case k1w40 => k_asm); (case k2w40 => k_asm); (case k3w40 => k_asm); (case k4w40 => k_asm); (case k5w40 => k_asm); (case k6w40 => k_is); (case k7w40 => k_is); (case k8w40 => ktr_room); (case k9w40 => first | exact BindsTo.of_eq rfl | exact binds_K (by k_in) rfl (by k_is) rfl rfl rfl | fail "k_enter: no rule for these arguments"); (case c5w40 => decide); (case kBw40 => exact locs rfl); (case c2w40 => exact rfl); (case c3w40 => exact rfl); (case c4w40 => exact rfl); k_whole; intro g' L' h' FG' F' N' B' X' T'; (try dsimp only); (try k_lift B'); (try k_fold))
  k_with "call ref" => (k_here; k_dflt (first
    | (refine' call_cls ?k1w41 ?k2w41 ?k3w41 ?k4w41 ?k5w41 ?k6w41 ?_; (case k1w41 => k_asm); (case k2w41 => k_asm); (case k3w41 => k_asm); (case k4w41 => k_is); (case k5w41 => k_is); (case k6w41 => k_is); k_whole; intro x' d' h' F' N' l1 l2; (try k_lt l1); (try k_lt2 l2); (try k_sweep); walk_at "enter own")
    | (refine wpAny_call ?_; walk_at "enter own")))
  k_with "subscriptTail" => (k_here; (with_reducible show wpAny _ _ (subscriptTail _ _ (Value.ref _) (Value.int 0 _)) _ _ _); k_dflt (refine' led_tup0 ?k1w42 ?k2w42 ?k3w42 ?_; (case k1w42 => k_asm); (case k2w42 => k_mem); (case k3w42 => (first | assumption | omega)); k_whole))
  k_with "subscriptTail Name Slice ref ref" => (k_here; (with_reducible show wpAny _ _ (subscriptTail _ (PySem.Expr.Slice _ _ none _) (Value.ref _) (Value.ref _)) _ _ _); k_dflt (refine' led_tupTail ?k1w43 ?k2w43 ?k3w43 ?k4w43 ?_; (case k1w43 => k_asm); (case k2w43 => k_asm); (case k3w43 => k_mem); (case k4w43 => (first | assumption | omega)); k_whole); intro D' h' F' N' l1; (try k_lt l1); (try k_sweep))
  k_with "call ref" => ((with_reducible first | show wpAny _ _ (call (Value.ref 191) _) _ _ _ | show wpAny _ _ (call (Value.ref 198) _) _ _ _ | show wpAny _ _ (call (Value.ref 205) _) _ _ _ | show wpAny _ _ (call (Value.ref 224) _) _ _ _ | show wpAny _ _ (call (Value.ref 229) _) _ _ _ | show wpAny _ _ (call (Value.ref 243) _) _ _ _ | show wpAny _ _ (call (Value.ref 257) _) _ _ _ | show wpAny _ _ (call (Value.ref 264) _) _ _ _ | show wpAny _ _ (call (Value.ref 276) _) _ _ _ | show wpAny _ _ (call (Value.ref 283) _) _ _ _ | show wpAny _ _ (call (Value.ref 290) _) _ _ _ | show wpAny _ _ (call (Value.ref 295) _) _ _ _ | show wpAny _ _ (call (Value.ref 302) _) _ _ _ | show wpAny _ _ (call (Value.ref 309) _) _ _ _); refine halt ?_)
  k_with "eval ListComp" => refine halt ?_
  k_with "exec Assign cons ListComp" => refine halt ?_
  k_with "exec For" => refine halt ?_
  k_with "exec While" => refine halt ?_
  k_with "call type:tuple" => ((with_reducible show wpAny _ _ (call (Value.type "tuple") [Value.ref _]) _ _ _); refine halt ?_)
  k_with "binaryOp Add ref ref" => ((with_reducible show wpAny _ _ (binaryOp Operator.Add (Value.ref _) (Value.ref _)) _ _ _); refine halt ?_)
  k_with "my tabat" => first | assumption | exact ab0 (by assumption) | exact ab1 (by assumption) | (refine ab_trans (by assumption) ?_; k_tabat)
  k_with "my updF" => first | exact Fresh.nil | assumption | (refine Fresh.allLt ?_ ?_; k_tabat; k_updF) | (refine Fresh.append ?_ ?_; k_updF; k_updF)
  k_with "getMethod ref" => (k_here; (with_reducible show wpAny _ _ (getMethod (Value.ref _) (Str.ofString "get") _) _ _ _); k_dflt (refine kdg_method (knd := PySem.strKind _ _) (by k_asm) (by k_mem) (by assumption) ?_))
  k_with "call builtin:dict.get" => (k_here; k_dflt (refine kdg_get2 (knd := PySem.strKind _ _) (by k_asm) (by k_mem) (by assumption) (by assumption) (strKind_is _ _ _ _) _ rfl ?_))
  k_with "compareOp NotEq ref ref" => (k_here; k_dflt (first | (refine' led_ne_nil ?k1w55 ?k2w55 ?k3w55 ?k4w55 ?_; (case k1w55 => k_asm); (case k2w55 => k_mem); (case k3w55 => k_mem); (case k4w55 => ke_room)) | (refine' led_ne_snoc ?k1w55 ?k2w55 ?k3w55 ?k4w55 ?_; (case k1w55 => k_asm); (case k2w55 => k_mem); (case k3w55 => k_mem); (case k4w55 => ke_room))))
  k_with "compareOp Eq ref ref" => (k_here; k_dflt (first | (refine' led_eq_nil ?k1w56 ?k2w56 ?k3w56 ?k4w56 ?_; (case k1w56 => k_asm); (case k2w56 => k_mem); (case k3w56 => k_mem); (case k4w56 => ke_room)) | (refine' led_eq_cons ?k1w56 ?k2w56 ?k3w56 ?k4w56 ?_; (case k1w56 => k_asm); (case k2w56 => k_mem); (case k3w56 => k_mem); (case k4w56 => ke_room))))
  trivial

theorem kw_C_one_0 : True := by
  k_with "call builtin:len" => (k_here; (with_reducible show wpAny _ _ (call (Value.builtin "len") [Value.ref _]) _ _ _); k_dflt (refine' led_len ?k1w57 ?k2w57 ?k3w57 ?_; (case k1w57 => k_asm); (case k2w57 => k_mem); (case k3w57 => (simp; omega)); k_whole))
  k_with "subscriptTail" => (k_here; (with_reducible show wpAny _ _ (subscriptTail _ _ (Value.ref _) (Value.int _ _)) _ _ _); k_dflt (refine' led_item ?k1w58 ?k2w58 ?k3w58 ?k4w58 ?k5w58 ?_; (case k1w58 => k_asm); (case k2w58 => k_mem); (case k3w58 => omega); (case k4w58 => (simp; omega)); (case k5w58 => (simp; omega)); k_whole); intro x' hx')
  trivial
set_option maxRecDepth 100000 in
set_option maxHeartbeats 8000000 in
theorem one_tells {w : World} {mean : ExcName → Option Value} {mg mb : Str → Option Value} {tr th : Addr} {o : Obj} {vs : List Value} {n : Nat}
    (ho : TrunkOk o) (h1 : 1 ≤ vs.length) (h2 : vs.length < 1000) (hne : th ≠ tr) :
    Tell w mean mg mb 264 [.ref tr, .ref th] 6 [tr] [(tr, o), (th, listOf vs.toArray n)]
      (fun r tl led' => ∃ o', r ∈ vs ∧ TrunkOk o' ∧ tl = [] ∧ led' = [(tr, o'), (th, listOf vs.toArray n)]) False [] := by
  unfold Tell
  k_fill
  intro dp un gd cn cs a ccd cl outer A₀ base h₀ L m s fr Q E B F X N hmu T hk hd hu hret hfail
  have hap := mu_ne hmu
  have hth : (th, listOf vs.toArray n) ∈ fr ++ [(tr, o), (th, listOf vs.toArray n)] := by simp
  refine wpAny_call ?_
  walk_at "enter"
  intro g' L' h' FG' F' N' B' X' T'
  try dsimp only
  try k_fold
  k_steps
  refine unhalt ?_
  refine' tell_use (fr ++ [(th, listOf vs.toArray n)]) (pull_tells ho ?_ ?_) ?k1 ?k2 ?k3 ?k4 ?sub ?hm ?k5 ?kk ?kd ?ku ?_ (fun h => h.elim)
  walk_at "tell sides"
  · simp; omega
  · simp; omega
  intro r tl led' h' tk' F' N' hfr hq1
  refine cps fun GX hGX => ?_
  obtain ⟨x, o', kx, hr, hx0, hx1, ho', htl, hl⟩ := hq1
  refine hGX ?_
  clear hGX GX
  subst hr htl hl
  try k_fold
  k_steps
  rename _ = some _ => hx
  rename News _ _ _ _ => N9
  exact hret _ [] [(tr, o'), (th, listOf vs.toArray n)] _ _ (by assumption) (news_sub N9 (by lcg_sub)) Fresh.nil ⟨o', List.mem_of_getElem? (by simpa using hx), ho', rfl, rfl⟩
end

section
/- part C_type -/
theorem kw_C_type_s_0 : True := by
  w_top off
  k_with_none
  k_with "my path" => first | with_reducible exact And.left | with_reducible exact And.right | (refine path_r ?_; k_extra "my path")
  k_with "my ne" => ((try dsimp only); first | (refine' Nat.ne_of_gt (lt_pick ?neA ?neB); (case neA => with_reducible assumption); (case neB => k_extra "my path")) | (refine' Nat.ne_of_lt (lt_pick ?neA ?neB); (case neA => with_reducible assumption); (case neB => k_extra "my path")) | exact Nat.ne_of_gt (by with_reducible assumption) | exact Nat.ne_of_lt (by with_reducible assumption) | fail)
  k_with "my om" => first | exact Nat.le_of_ble_eq_true rfl | with_reducible assumption | lia
  k_with "eval Name" => (k_here; k_dflt (first | (refine' nameX_L ?Fw59 ?vw59 ?_ ?aw59 ?bw59; (case Fw59 => k_asm); (case aw59 => rfl); (case bw59 => rfl); (case vw59 => rfl); k_whole) | (refine' nameX_C ?Nw59 ?cw59 ?mw59 ?dw59 ?_ ?aw59 ?bw59; (case aw59 => rfl); (case bw59 => rfl); (case Nw59 => k_asm); (case cw59 => rfl); (case mw59 => k_mem); (case dw59 => k_asm); k_whole) | (refine' nameX_K ?Fw59 ?Xw59 ?Tw59 ?ew59 ?_ ?aw59 ?bw59; (case Fw59 => k_asm); (case Xw59 => k_asm); (case Tw59 => k_asm); (case aw59 => rfl); (case bw59 => rfl); (case ew59 => k_is); k_whole) | (refine' nameX_B ?Fw59 ?Xw59 ?Tw59 ?ew59 ?vw59 ?nw59 ?_ ?aw59 ?bw59; (case Fw59 => k_asm); (case Xw59 => k_asm); (case Tw59 => k_asm); (case aw59 => rfl); (case bw59 => rfl); (case ew59 => k_is); (case vw59 => boot_fast); (case nw59 => decide); k_whole)))
  k_with "call builtin:isinstance" => (k_here; (with_reducible show wpAny _ _ (call _ [Value.ref _, Value.ref _]) _ _ _); k_dflt (first | (refine' isi_call ?k1w60 ?k2w60 ?k3w60 ?k4w60 ?_; (case k1w60 => k_in); (case k2w60 => k_types); (case k3w60 => k_is); (case k4w60 => intro e; cases e); k_whole) | (refine' kin_callC ?k1w60 ?k2w60 ?k3w60 ?k4w60 ?k5w60 ?k6w60 ?k7w60 ?k8w60 ?k9w60 ?_; (case k1w60 => k_in); (case k2w60 => k_inst); (case k3w60 => kin_no); (case k4w60 => k_is); (case k5w60 => k_is); (case k6w60 => k_is); (case k7w60 => k_is); (case k8w60 => k_is); (case k9w60 => k_is); k_whole)))
  k_with "getAttr ref" => (k_here; k_dflt (refine' get_own ?k1w61 ?k2w61 ?k3w61 ?k4w61 ?k5w61 ?k6w61 ?k7w61 ?k8w61 ?k9w61 ?_; (case k1w61 => k_asm); (case k2w61 => k_asm); (case k3w61 => k_inst); (case k4w61 => k_is); (case k5w61 => k_is); (case k6w61 => k_is); (case k7w61 => k_is); (case k8w61 => k_get); (case k9w61 => k_handed); k_whole))
  k_with "exec For Name Name cons nil" => refine halt ?_
  k_with "my src" => first | exact fun _ h => h | with_reducible assumption | (refine sub_t ?_; lcg_src) | (refine sub_l ?_; lcg_src) | (refine sub_r ?_; lcg_src)
  k_with "my sub" => first | exact sub_n | (refine sub_c ?_ ?_; k_mem; lcg_sub) | (refine sub_a ?_ ?_; lcg_sub; lcg_sub) | lcg_src
  k_with "my all" => first | assumption | (refine List.forall_mem_append.mpr ⟨?_, ?_⟩ <;> k_all)
  k_with "my mem" => first | with_reducible assumption | exact List.Mem.head _ | (refine List.mem_cons_of_mem _ ?_; k_mem) | (refine List.mem_append_left _ ?_; k_mem) | (refine List.mem_append_right _ ?_; k_mem)
  k_with "tell sides" => ((case k1 => k_asm); (case k2 => k_asm); (case k3 => k_asm); (case k4 => k_asm); (case k5 => k_asm); (try (case sub => lcg_sub)); (try (case hm => first | exact mu_nil | assumption | (refine mu_one ?_; k_all))); (case kk => first | exact rfl | assumption); (case kd => ktr_room); (case ku => ktr_units))
  k_with "enter" => (k_dflt (refine' code_def ?k1w68 ?k2w68 ?k3w68 ?k4w68 ?k5w68 ?kAw68 ?kFw68 ?kKw68 ?k6w68 ?k7w68 ?k8w68 ?k9w68 ?kBw68 ?_ ?c2w68 ?c3w68 ?c4w68 ?c5w68; (case kAw68 => exact rfl); (case kFw68 => exact rfl); (case kKw68 => assumption); (case k1w68 => k_asm); (case k2w68 => k_asm); (case k3w68 => k_asm); (case k4w68 => k_asm); (case k5w68 => k_asm); (case k6w68 => k_is); (case k7w68 => k_is); (case k8w68 => ktr_room); (case k9w68 => exact BindsTo.of_eq rfl); (case c5w68 => decide); (case kBw68 => exact locs rfl); (case c2w68 => exact rfl); (case c3w68 => exact rfl); (case c4w68 => exact rfl); k_whole))
  k_with "enter cells" => (k_dflt (refine' code_defC ?k1w69 ?k2w69 ?k3w69 ?k4w69 ?k5w69 ?kAw69 ?kFw69 ?kKw69 ?k6w69 ?k7w69 ?k8w69 ?k9w69 ?kBw69 ?kDw69 ?_ ?c2w69 ?c3w69 ?c4w69; (case kAw69 => exact rfl); (case kFw69 => exact rfl); (case kKw69 => assumption); (case k1w69 => k_asm); (case k2w69 => k_asm); (case k3w69 => k_asm); (case k4w69 => k_asm); (case k5w69 => k_asm); (case k6w69 => k_is); (case k7w69 => k_is); (case k8w69 => ktr_room); (case k9w69 => exact BindsTo.of_eq rfl); (case kBw69 => exact rfl); (case kDw69 => decide +kernel); (case c2w69 => exact rfl); (case c3w69 => exact rfl); (case c4w69 => exact rfl); k_whole))
  k_with "enter own" => (refine' code_def ?k1w70 ?k2w70 ?k3w70 ?k4w70 ?k5w70 ?kAw70 ?kFw70 ?kKw70 ?k6w70 ?k7w70 ?k8w70 ?k9w70 ?kBw70 ?_ ?c2w70 ?c3w70 ?c4w70 ?c5w70; (case kAw70 => exact rfl); (case kFw70 => exact rfl); (case kKw70 => exact rfl); (case k1w70 => k_asm); (case k2w70 => k_asm); (case k3w70 => k_asm); (case k4w70 => k_asm); (case k5w70 => k_asm); (case k6w70 => k_is); (case k7w70 => k_is); (case k8w70 => ktr_room); (case k9w70 => first | exact BindsTo.of_eq rfl | exact binds_K (by k_in) rfl (by k_is) rfl rfl rfl | fail "k_enter: no rule for these arguments"); (case c5w70 => decide); (case kBw70 => exact locs rfl); (case c2w70 => exact rfl); (case c3w70 => exact rfl); (case c4w70 => exact rfl); k_whole; intro g' L' h' FG' F' N' B' X' T'; (try dsimp only); (try k_lift B'); (try k_fold))
  k_with "call ref" => (k_here; k_dflt (first
    | (refine' call_cls ?k1w71 ?k2w71 ?k3w71 ?k4w71 ?k5w71 ?k6w71 ?_; (case k1w71 => k_asm); (case k2w71 => k_asm); (case k3w71 => k_asm); (case k4w71 => k_is); (case k5w71 => k_is); (case k6w71 => k_is); k_whole; intro x' d' h' F' N' l1 l2; (try k_lt l1); (try k_lt2 l2); (try k_sweep); walk_at "enter own")
    | (refine wpAny_call ?_; walk_at "enter own")))
  k_with "subscriptTail" => (k_here; (with_reducible show wpAny _ _ (subscriptTail _ _ (Value.ref _) (Value.int 0 _)) _ _ _); k_dflt (refine' led_tup0 ?k1w72 ?k2w72 ?k3w72 ?_; (case k1w72 => k_asm); (case k2w72 => k_mem); (case k3w72 => (first | assumption | omega)); k_whole))
  k_with "subscriptTail Name Slice ref ref" => (k_here; (with_reducible show wpAny _ _ (subscriptTail _ (PySem.Expr.Slice _ _ none _) (Value.ref _) (Value.ref _)) _ _ _); k_dflt (refine' led_tupTail ?k1w73 ?k2w73 ?k3w73 ?k4w73 ?_; (case k1w73 => k_asm); (case k2w73 => k_asm); (case k3w73 => k_mem); (case k4w73 => (first | assumption | omega)); k_whole); intro D' h' F' N' l1; (try k_lt l1); (try k_sweep))
  k_with "call ref" => ((with_reducible first | show wpAny _ _ (call (Value.ref 191) _) _ _ _ | show wpAny _ _ (call (Value.ref 198) _) _ _ _ | show wpAny _ _ (call (Value.ref 205) _) _ _ _ | show wpAny _ _ (call (Value.ref 224) _) _ _ _ | show wpAny _ _ (call (Value.ref 229) _) _ _ _ | show wpAny _ _ (call (Value.ref 243) _) _ _ _ | show wpAny _ _ (call (Value.ref 257) _) _ _ _ | show wpAny _ _ (call (Value.ref 264) _) _ _ _ | show wpAny _ _ (call (Value.ref 276) _) _ _ _ | show wpAny _ _ (call (Value.ref 283) _) _ _ _ | show wpAny _ _ (call (Value.ref 290) _) _ _ _ | show wpAny _ _ (call (Value.ref 295) _) _ _ _ | show wpAny _ _ (call (Value.ref 302) _) _ _ _ | show wpAny _ _ (call (Value.ref 309) _) _ _ _); refine halt ?_)
  k_with "eval ListComp" => refine halt ?_
  k_with "exec Assign cons ListComp" => refine halt ?_
  k_with "exec For" => refine halt ?_
  k_with "exec While" => refine halt ?_
  k_with "call type:tuple" => ((with_reducible show wpAny _ _ (call (Value.type "tuple") [Value.ref _]) _ _ _); refine halt ?_)
  k_with "binaryOp Add ref ref" => ((with_reducible show wpAny _ _ (binaryOp Operator.Add (Value.ref _) (Value.ref _)) _ _ _); refine halt ?_)
  k_with "my tabat" => first | assumption | exact ab0 (by assumption) | exact ab1 (by assumption) | (refine ab_trans (by assumption) ?_; k_tabat)
  k_with "my updF" => first | exact Fresh.nil | assumption | (refine Fresh.allLt ?_ ?_; k_tabat; k_updF) | (refine Fresh.append ?_ ?_; k_updF; k_updF)
  k_with "getMethod ref" => (k_here; (with_reducible show wpAny _ _ (getMethod (Value.ref _) (Str.ofString "get") _) _ _ _); k_dflt (refine kdg_method (knd := PySem.strKind _ _) (by k_asm) (by k_mem) (by assumption) ?_))
  k_with "call builtin:dict.get" => (k_here; k_dflt (refine kdg_get2 (knd := PySem.strKind _ _) (by k_asm) (by k_mem) (by assumption) (by assumption) (strKind_is _ _ _ _) _ rfl ?_))
  k_with "compareOp NotEq ref ref" => (k_here; k_dflt (first | (refine' led_ne_nil ?k1w85 ?k2w85 ?k3w85 ?k4w85 ?_; (case k1w85 => k_asm); (case k2w85 => k_mem); (case k3w85 => k_mem); (case k4w85 => ke_room)) | (refine' led_ne_snoc ?k1w85 ?k2w85 ?k3w85 ?k4w85 ?_; (case k1w85 => k_asm); (case k2w85 => k_mem); (case k3w85 => k_mem); (case k4w85 => ke_room))))
  k_with "compareOp Eq ref ref" => (k_here; k_dflt (first | (refine' led_eq_nil ?k1w86 ?k2w86 ?k3w86 ?k4w86 ?_; (case k1w86 => k_asm); (case k2w86 => k_mem); (case k3w86 => k_mem); (case k4w86 => ke_room)) | (refine' led_eq_cons ?k1w86 ?k2w86 ?k3w86 ?k4w86 ?_; (case k1w86 => k_asm); (case k2w86 => k_mem); (case k3w86 => k_mem); (case k4w86 => ke_room))))
  trivial
set_option maxRecDepth 100000 in
set_option maxHeartbeats 8000000 in
theorem type_tells {w : World} {mean : ExcName → Option Value} {mg mb : Str → Option Value} {LS HS : List Str} {tr la he : Addr} {vL vH : List Value} {nL nH : Nat} (hL : Names vL LS) (hH : Names vH HS) (hla : la ≠ tr) (hhe : he ≠ tr) :
    ∀ (fl : Nat) {kf : Tok} {o : Obj}, TrunkOk o →
    Tell w mean mg mb 276 [.ref tr, .int (fl : Int) kf, .ref la, .ref he] (10 * fl + 20) [tr] [(tr, o), (la, listOf vL.toArray nL), (he, listOf vH.toArray nH)]
      (fun r tl led' => ∃ o' t, TrunkOk o' ∧ led' = [(tr, o'), (la, listOf vL.toArray nL), (he, listOf vH.toArray nH)] ∧ TyV tl r t ∧ GenTy LS HS fl t) False [] := by
  intro fl
  induction fl with
  | zero =>
    intro kf o ho
    unfold Tell
    k_fill
    intro dp un gd cn cs a ccd cl outer A₀ base h₀ L m s fr Q E B F X N hmu T hk hd hu hret hfail
    have hap := mu_ne hmu
    refine wpAny_call ?_
    walk_at "enter cells"
    intro g L1 h1 tk1 cells FG F1 N1 Y B1 X1 T1 l1
    have l2 : @LT.lt Nat _ tr L1 := l1 (tr, o) (by simp)
    refine cps fun GX hGX => ?_
    obtain ⟨c1, c2, c3, c4, hE, d1, d2, d3, d4⟩ := CellsAre.four Y
    refine hGX ?_
    clear hGX GX
    subst hE; clear Y
    simp only [List.cons_append, List.nil_append] at N1
    try dsimp only
    try k_fold
    k_steps
    refine unhalt ?_
    refine' tell_use ((L1 + 1 + 1 + 1 + 1, c1) :: (L1 + 1 + 1 + 1, c2) :: (L1 + 1 + 1, c3) :: (L1 + 1, c4) :: (fr ++ [(he, listOf vH.toArray nH)])) (one_tells (n := nL) ho hL.1 hL.2.1 hla) ?k1 ?k2 ?k3 ?k4 ?sub ?hm ?k5 ?kk ?kd ?ku ?_ (fun h => h.elim)
    walk_at "tell sides"
    intro r tl led' h' tk' F' N' hfr hq2
    refine cps fun GX hGX => ?_
    obtain ⟨o', hr, ho', htl, hl⟩ := hq2
    refine hGX ?_
    clear hGX GX
    subst htl hl
    try k_fold
    k_steps
    rename News _ _ _ _ => N9
    refine cps fun GX hGX => ?_
    obtain ⟨s', k', rfl, hs'⟩ := hL.2.2 r hr
    refine hGX ?_
    clear hGX GX
    exact hret _ [] [(tr, o'), (la, listOf vL.toArray nL), (he, listOf vH.toArray nH)] _ _ (by assumption) (news_sub N9 (by lcg_sub)) Fresh.nil ⟨o', .leaf s', ho', rfl, .leaf, GenTy.leaf hs'⟩
  | succ fl ih =>
    intro kf o ho
    unfold Tell
    k_fill
    intro dp un gd cn cs a ccd cl outer A₀ base h₀ L m s fr Q E B F X N hmu T hk hd hu hret hfail
    have hap := mu_ne hmu
    refine wpAny_call ?_
    walk_at "enter cells"
    intro g L1 h1 tk1 cells FG F1 N1 Y B1 X1 T1 l1
    have l2 : @LT.lt Nat _ tr L1 := l1 (tr, o) (by simp)
    have lfr : Fresh (fr ++ [(tr, o), (la, listOf vL.toArray nL), (he, listOf vH.toArray nH)]) [(L1, o)] := fun q hq p hp => by rw [List.mem_singleton.mp hp]; exact l1 q hq
    refine cps fun GX hGX => ?_
    obtain ⟨c1, c2, c3, c4, hE, d1, d2, d3, d4⟩ := CellsAre.four Y
    refine hGX ?_
    clear hGX GX
    subst hE; clear Y
    simp only [List.cons_append, List.nil_append] at N1
    try dsimp only
    try k_fold
    k_steps
    refine unhalt ?_
    refine' tell_use ((L1 + 1 + 1 + 1 + 1, c1) :: (L1 + 1 + 1 + 1, c2) :: (L1 + 1 + 1, c3) :: (L1 + 1, c4) :: (fr ++ [(la, listOf vL.toArray nL), (he, listOf vH.toArray nH)])) (pull_tells ho (by decide) (by decide)) ?k1 ?k2 ?k3 ?k4 ?sub ?hm ?k5 ?kk ?kd ?ku ?_ (fun h => h.elim)
    walk_at "tell sides"
    intro r tl led' h' tk' F' N' hfr hq3
    refine cps fun GX hGX => ?_
    obtain ⟨x, o1, kx, hr, hx0, hx1, ho1, htl, hl⟩ := hq3
    refine hGX ?_
    clear hGX GX
    subst hr htl hl
    try k_fold
    k_steps
    · -- way == 0
      refine unhalt ?_
      refine' tell_use ((L1 + 1 + 1 + 1 + 1, c1) :: (L1 + 1 + 1 + 1, c2) :: (L1 + 1 + 1, c3) :: (L1 + 1, c4) :: (fr ++ [(he, listOf vH.toArray nH)])) (one_tells (n := nL) ho1 hL.1 hL.2.1 hla) ?k1 ?k2 ?k3 ?k4 ?sub ?hm ?k5 ?kk ?kd ?ku ?_ (fun h => h.elim)
      walk_at "tell sides"
      intro r tl led' h' tk' F' N' hfr hq4
      refine cps fun GX hGX => ?_
      obtain ⟨o', hr, ho', htl, hl⟩ := hq4
      refine hGX ?_
      clear hGX GX
      subst htl hl
      try k_fold
      k_steps
      rename News _ _ _ _ => N9
      refine cps fun GX hGX => ?_
      obtain ⟨s', k', rfl, hs'⟩ := hL.2.2 r hr
      refine hGX ?_
      clear hGX GX
      exact hret _ [] [(tr, o'), (la, listOf vL.toArray nL), (he, listOf vH.toArray nH)] _ _ (by assumption) (news_sub N9 (by lcg_sub)) Fresh.nil ⟨o', .leaf s', ho', rfl, .leaf, GenTy.leaf hs'⟩
    · -- a head and its parts
      refine unhalt ?_
      refine' tell_use ((L1 + 1 + 1 + 1 + 1, c1) :: (L1 + 1 + 1 + 1, c2) :: (L1 + 1 + 1, c3) :: (L1 + 1, c4) :: (fr ++ [(la, listOf vL.toArray nL)])) (one_tells (n := nH) ho1 hH.1 hH.2.1 hhe) ?k1 ?k2 ?k3 ?k4 ?sub ?hm ?k5 ?kk ?kd ?ku ?_ (fun h => h.elim)
      walk_at "tell sides"
      intro r tl led' h' tk' F' N' hfr hq5
      refine cps fun GX hGX => ?_
      obtain ⟨o2, hr, ho2, htl, hl⟩ := hq5
      refine hGX ?_
      clear hGX GX
      subst htl hl
      refine cps fun GX hGX => ?_
      obtain ⟨hd', kh', rfl, hhd'⟩ := hH.2.2 r hr
      refine hGX ?_
      clear hGX GX
      replace N' : News g L1 h' ((L1 + 1 + 1 + 1 + 1, c1) :: (L1 + 1 + 1 + 1, c2) :: (L1 + 1 + 1, c3) :: (L1 + 1, c4) :: (fr ++ [(tr, o2), (la, listOf vL.toArray nL), (he, listOf vH.toArray nH)])) := news_sub N' (by lcg_sub)
      try k_fold
      k_steps
      refine unhalt ?_
      rename_i D9 h9 F9 N9 l9
      k_dflt (refine comp_eval F9 rfl rfl B1.stays rfl (by decide) rfl (by decide) rfl ?_)
      try k_fold
      k_steps
      refine unhalt ?_
      refine' tell_use ((D9, tupOf [.str hd' kh'] 0) :: (L1 + 1 + 1 + 1 + 1, c1) :: (L1 + 1 + 1 + 1, c2) :: (L1 + 1 + 1, c3) :: (L1 + 1, c4) :: (fr ++ [(la, listOf vL.toArray nL), (he, listOf vH.toArray nH)])) (pull_tells ho2 (by decide) (by decide)) ?k1 ?k2 ?k3 ?k4 ?sub ?hm ?k5 ?kk ?kd ?ku ?_ (fun h => h.elim)
      walk_at "tell sides"
      intro r tl led' h' tk' F' N' hfr hq6
      refine cps fun GX hGX => ?_
      obtain ⟨x3, o3, kx3, hr, hx30, hx31, ho3, htl, hl⟩ := hq6
      refine hGX ?_
      clear hGX GX
      subst hr htl hl
      replace N' : News g L1 h' ((tr, o3) :: ((D9, tupOf [.str hd' kh'] 0) :: (L1 + 1 + 1 + 1 + 1, c1) :: (L1 + 1 + 1 + 1, c2) :: (L1 + 1 + 1, c3) :: (L1 + 1, c4) :: (fr ++ [(la, listOf vL.toArray nL), (he, listOf vH.toArray nH)]))) := news_sub N' (by lcg_sub)
      try k_fold
      k_steps
      rename Fr _ _ _ _ => F10
      rename News _ _ _ _ => N10
      rename IsRange _ _ _ _ _ _ _ _ => hr
      have x3c : x3 = 0 ∨ x3 = 1 ∨ x3 = 2 := by omega
      refine src_range (n := (1 + x3).toNat) (keep := []) (Fl := False) (S := fun i ys nw => ∃ o' tl ts, TrunkOk o' ∧ nw = (tr, o') :: (tl ++ ((D9, tupOf [.str hd' kh'] 0) :: (L1 + 1 + 1 + 1 + 1, c1) :: (L1 + 1 + 1 + 1, c2) :: (L1 + 1 + 1, c3) :: (L1 + 1, c4) :: (fr ++ [(la, listOf vL.toArray nL), (he, listOf vH.toArray nH)]))) ∧ TyVs tl ys ts ∧ (∀ a ∈ ts, GenTy LS HS fl a) ∧ Fresh (fr ++ [(tr, o), (la, listOf vL.toArray nL), (he, listOf vH.toArray nH)]) tl) rfl F10 N10 hr ?_ ?_ ?_ ?_ ?_ ?_ ?_ ?_
      · rcases x3c with rfl | rfl | rfl <;> rfl
      · rcases x3c with rfl | rfl | rfl <;> rfl
      · rcases x3c with rfl | rfl | rfl <;> exact Nat.le_of_ble_eq_true rfl
      · exact ⟨o3, [], [], ho3, rfl, TyVs.nil, fun a h => by simp at h, Fresh.nil⟩
      · intro i ys nw v I oI oC C D m₂ h11 tk11 hv hi hyl hq7 hC hx F11 N11 off11 ne11
        refine cps fun GX hGX => ?_
        obtain ⟨o4, tl, ts, ho4, hnw, hts, hgen, hfr4⟩ := hq7
        refine hGX ?_
        clear hGX GX
        subst hnw
        k_steps
        refine unhalt ?_
        rw [show ((fl + 1 : Nat) : Int) - 1 = (fl : Int) by omega]
        have e3 := off11.mem
        have htr := e3 (tr, o4) List.mem_cons_self
        have hta : ∀ p ∈ tl, p.1 ≠ tr := hfr4.ne (a := tr) (o := o) (by simp)
        refine' tell_use ((I, oI) :: (C, oC) :: (D, LCg.lst ys) :: (tl ++ (D9, tupOf [.str hd' kh'] 0) :: (L1 + 1 + 1 + 1 + 1, c1) :: (L1 + 1 + 1 + 1, c2) :: (L1 + 1 + 1, c3) :: (L1 + 1, c4) :: fr)) (ih ho4) ?k1 ?k2 ?k3 ?k4 ?sub ?hm ?k5 ?kk ?kd ?ku ?_ (fun h => h.elim)
        walk_at "tell sides"
        intro r tl' led' h' tk' F' N' hfr' hq8
        refine cps fun GX hGX => ?_
        obtain ⟨o', t', ho', hl, htv, hgt⟩ := hq8
        refine hGX ?_
        clear hGX GX
        subst hl
        have hI := hfr'.ne (a := I) (o := oI) (by simp)
        have hCC := hfr'.ne (a := C) (o := oC) (by simp)
        have hDD := hfr'.ne (a := D) (o := LCg.lst ys) (by simp)
        refine ⟨h', tk', (tr, o') :: ((tl' ++ tl) ++ ((D9, tupOf [.str hd' kh'] 0) :: (L1 + 1 + 1 + 1 + 1, c1) :: (L1 + 1 + 1 + 1, c2) :: (L1 + 1 + 1, c3) :: (L1 + 1, c4) :: (fr ++ [(la, listOf vL.toArray nL), (he, listOf vH.toArray nH)]))), rfl, F', news_sub N' (by lcg_sub), LCg.Off3.of fun p hp => ?_,
          o', tl' ++ tl, ts ++ [t'], ho', rfl, TyVs.snoc (htv.mono fun p hp => List.mem_append_left _ hp) (hts.mono fun p hp => List.mem_append_right _ hp), fun a ha => ?_, Fresh.append (hfr'.addr fun p hp => ?_) hfr4⟩
        · rcases List.mem_cons.mp hp with rfl | hp
          · exact htr
          · rcases List.mem_append.mp hp with hp | hp
            · rcases List.mem_append.mp hp with hp | hp
              · exact ⟨hI p hp, hCC p hp, hDD p hp⟩
              · exact e3 p (List.mem_cons_of_mem _ (List.mem_append_left _ hp))
            · exact e3 p (List.mem_cons_of_mem _ (List.mem_append_right _ hp))
        · rcases List.mem_append.mp ha with h | h
          · exact hgen a h
          · rw [List.mem_singleton.mp h]; exact hgt
        · rcases List.mem_append.mp hp with hp | hp
          · exact ⟨p, (by lcg_sub : ∀ p ∈ fr, p ∈ (I, oI) :: (C, oC) :: (D, LCg.lst ys) :: (tl ++ (D9, tupOf [.str hd' kh'] 0) :: (L1 + 1 + 1 + 1 + 1, c1) :: (L1 + 1 + 1 + 1, c2) :: (L1 + 1 + 1, c3) :: (L1 + 1, c4) :: fr) ++ [(tr, o4), (la, listOf vL.toArray nL), (he, listOf vH.toArray nH)]) p hp, rfl⟩
          · rcases List.mem_cons.mp hp with rfl | hp
            · exact ⟨(tr, o4), by k_mem, rfl⟩
            · exact ⟨p, List.mem_append_right _ (List.mem_cons_of_mem _ hp), rfl⟩
      · intro i ys nw _ p hp; simp at hp
      · intro h; exact h.elim
      · intro D h12 tk12 ys nw lD F12 N12 off12 hyl hq9
        refine cps fun GX hGX => ?_
        obtain ⟨o4, tl, ts, ho4, hnw, hts, hgen, hfr4⟩ := hq9
        refine hGX ?_
        clear hGX GX
        subst hnw
        try k_fold
        k_steps
        refine unhalt ?_
        have hys : ys.length ≤ 3 := by omega
        have hys0 : 1 ≤ ys.length := by omega
        have hys1 : ys ≠ [] := List.ne_nil_of_length_pos hys0
        have hszA : ys.toArray.size ≤ 16384 := by rw [List.size_toArray]; exact Nat.le_trans hys (by decide)
        refine kde_tupleOf (zs := ys) F12 N12 (N12.isList List.mem_cons_self) hszA rfl fun T1 h13 F13 N13 l13 => ?_
        try k_fold
        k_steps
        refine unhalt ?_
        refine led_addTup F13 N13 (vs := [.str hd' kh']) (n := 0) (k := 0) (by k_mem) List.mem_cons_self (List.cons_ne_nil _ _) hys1 (by rw [List.length_singleton]; omega) fun T2 h14 F14 N14 l14 => ?_
        try k_fold
        k_steps
        rename News _ _ _ _ => N15
        have hld : ∀ p ∈ fr ++ [(tr, o), (la, listOf vL.toArray nL), (he, listOf vH.toArray nH)], ∃ q ∈ (T1, tupOf ys 0) :: (D, LCg.lst ys) :: (tr, o4) :: (tl ++ ((D9, tupOf [.str hd' kh'] 0) :: (L1 + 1 + 1 + 1 + 1, c1) :: (L1 + 1 + 1 + 1, c2) :: (L1 + 1 + 1, c3) :: (L1 + 1, c4) :: (fr ++ [(la, listOf vL.toArray nL), (he, listOf vH.toArray nH)]))), q.1 = p.1 := fun p hp => by
          rcases List.mem_append.mp hp with hp | hp
          · exact ⟨p, (by lcg_sub : ∀ p ∈ fr, p ∈ (T1, tupOf ys 0) :: (D, LCg.lst ys) :: (tr, o4) :: (tl ++ ((D9, tupOf [.str hd' kh'] 0) :: (L1 + 1 + 1 + 1 + 1, c1) :: (L1 + 1 + 1 + 1, c2) :: (L1 + 1 + 1, c3) :: (L1 + 1, c4) :: (fr ++ [(la, listOf vL.toArray nL), (he, listOf vH.toArray nH)])))) p hp, rfl⟩
          · rcases List.mem_cons.mp hp with rfl | hp
            · exact ⟨(tr, o4), by k_mem, rfl⟩
            · exact ⟨p, (by lcg_sub : ∀ p ∈ [(la, listOf vL.toArray nL), (he, listOf vH.toArray nH)], p ∈ (T1, tupOf ys 0) :: (D, LCg.lst ys) :: (tr, o4) :: (tl ++ ((D9, tupOf [.str hd' kh'] 0) :: (L1 + 1 + 1 + 1 + 1, c1) :: (L1 + 1 + 1 + 1, c2) :: (L1 + 1 + 1, c3) :: (L1 + 1, c4) :: (fr ++ [(la, listOf vL.toArray nL), (he, listOf vH.toArray nH)])))) p hp, rfl⟩
        have ltl : Fresh (fr ++ [(tr, o), (la, listOf vL.toArray nL), (he, listOf vH.toArray nH)]) ((T2, tupOf ([.str hd' kh'] ++ ys) 0) :: (T1, tupOf ys 0) :: (D, LCg.lst ys) :: (tl ++ (D9, tupOf [.str hd' kh'] 0) :: [(L1 + 1 + 1 + 1 + 1, c1), (L1 + 1 + 1 + 1, c2), (L1 + 1 + 1, c3), (L1 + 1, c4)])) := by
          refine Fresh.allLt (lt_addr l14 hld) (Fresh.allLt (lt_addr l13 fun p hp => ?_) (Fresh.allLt (lt_addr lD fun p hp => ?_) (Fresh.append hfr4 (Fresh.allLt (lt_addr (allLt_mem (l := (L1 + 1 + 1 + 1 + 1, c1) :: (L1 + 1 + 1 + 1, c2) :: (L1 + 1 + 1, c3) :: (L1 + 1, c4) :: (fr ++ [(tr, o2), (la, listOf vL.toArray nL), (he, listOf vH.toArray nH)])) l9) fun p hp => ?_) ?_))))
          · rcases List.mem_append.mp hp with hp | hp
            · exact ⟨p, (by lcg_sub : ∀ p ∈ fr, p ∈ (D, LCg.lst ys) :: (tr, o4) :: (tl ++ ((D9, tupOf [.str hd' kh'] 0) :: (L1 + 1 + 1 + 1 + 1, c1) :: (L1 + 1 + 1 + 1, c2) :: (L1 + 1 + 1, c3) :: (L1 + 1, c4) :: (fr ++ [(la, listOf vL.toArray nL), (he, listOf vH.toArray nH)])))) p hp, rfl⟩
            · rcases List.mem_cons.mp hp with rfl | hp
              · exact ⟨(tr, o4), by k_mem, rfl⟩
              · exact ⟨p, (by lcg_sub : ∀ p ∈ [(la, listOf vL.toArray nL), (he, listOf vH.toArray nH)], p ∈ (D, LCg.lst ys) :: (tr, o4) :: (tl ++ ((D9, tupOf [.str hd' kh'] 0) :: (L1 + 1 + 1 + 1 + 1, c1) :: (L1 + 1 + 1 + 1, c2) :: (L1 + 1 + 1, c3) :: (L1 + 1, c4) :: (fr ++ [(la, listOf vL.toArray nL), (he, listOf vH.toArray nH)])))) p hp, rfl⟩
          · rcases List.mem_append.mp hp with hp | hp
            · exact ⟨p, (by lcg_sub : ∀ p ∈ fr, p ∈ (tr, o3) :: ((D9, tupOf [.str hd' kh'] 0) :: (L1 + 1 + 1 + 1 + 1, c1) :: (L1 + 1 + 1 + 1, c2) :: (L1 + 1 + 1, c3) :: (L1 + 1, c4) :: (fr ++ [(la, listOf vL.toArray nL), (he, listOf vH.toArray nH)]))) p hp, rfl⟩
            · rcases List.mem_cons.mp hp with rfl | hp
              · exact ⟨(tr, o3), by k_mem, rfl⟩
              · exact ⟨p, (by lcg_sub : ∀ p ∈ [(la, listOf vL.toArray nL), (he, listOf vH.toArray nH)], p ∈ (tr, o3) :: ((D9, tupOf [.str hd' kh'] 0) :: (L1 + 1 + 1 + 1 + 1, c1) :: (L1 + 1 + 1 + 1, c2) :: (L1 + 1 + 1, c3) :: (L1 + 1, c4) :: (fr ++ [(la, listOf vL.toArray nL), (he, listOf vH.toArray nH)]))) p hp, rfl⟩
          · rcases List.mem_append.mp hp with hp | hp
            · exact ⟨p, (by lcg_sub : ∀ p ∈ fr, p ∈ (L1 + 1 + 1 + 1 + 1, c1) :: (L1 + 1 + 1 + 1, c2) :: (L1 + 1 + 1, c3) :: (L1 + 1, c4) :: (fr ++ [(tr, o2), (la, listOf vL.toArray nL), (he, listOf vH.toArray nH)])) p hp, rfl⟩
            · rcases List.mem_cons.mp hp with rfl | hp
              · exact ⟨(tr, o2), by k_mem, rfl⟩
              · exact ⟨p, (by lcg_sub : ∀ p ∈ [(la, listOf vL.toArray nL), (he, listOf vH.toArray nH)], p ∈ (L1 + 1 + 1 + 1 + 1, c1) :: (L1 + 1 + 1 + 1, c2) :: (L1 + 1 + 1, c3) :: (L1 + 1, c4) :: (fr ++ [(tr, o2), (la, listOf vL.toArray nL), (he, listOf vH.toArray nH)])) p hp, rfl⟩
          · intro q hq p hp
            have hq1 : @LT.lt Nat _ q.1 L1 := lfr q hq (L1, o) (List.mem_singleton.mpr rfl)
            simp only [List.mem_cons, List.not_mem_nil, or_false] at hp
            rcases hp with rfl | rfl | rfl | rfl <;> (show @LT.lt Nat _ q.1 _; omega)
        have hlen := hts.1
        have hts0 : ts ≠ [] := List.ne_nil_of_length_pos (by omega)
        refine hret _ ((T2, tupOf ([.str hd' kh'] ++ ys) 0) :: (T1, tupOf ys 0) :: (D, LCg.lst ys) :: (tl ++ (D9, tupOf [.str hd' kh'] 0) :: [(L1 + 1 + 1 + 1 + 1, c1), (L1 + 1 + 1 + 1, c2), (L1 + 1 + 1, c3), (L1 + 1, c4)])) [(tr, o4), (la, listOf vL.toArray nL), (he, listOf vH.toArray nH)] _ _ (by assumption) (news_sub N15 (by lcg_sub)) ltl
          ⟨o4, (Ty.leaf hd').on ts, ho4, rfl, TyV.app (List.Mem.head _) hts0 hlen (hts.mono (fun p hp => by k_mem)).2 rfl, Or.inr ⟨hd', hhd', ts, rfl, by omega, by omega, hgen⟩⟩
end

section
/- part C_node -/
theorem kw_C_node_s_0 : True := by
  w_top off
  k_with_none
  k_with "my path" => first | with_reducible exact And.left | with_reducible exact And.right | (refine path_r ?_; k_extra "my path")
  k_with "my ne" => ((try dsimp only); first | (refine' Nat.ne_of_gt (lt_pick ?neA ?neB); (case neA => with_reducible assumption); (case neB => k_extra "my path")) | (refine' Nat.ne_of_lt (lt_pick ?neA ?neB); (case neA => with_reducible assumption); (case neB => k_extra "my path")) | exact Nat.ne_of_gt (by with_reducible assumption) | exact Nat.ne_of_lt (by with_reducible assumption) | fail)
  k_with "my om" => first | exact Nat.le_of_ble_eq_true rfl | with_reducible assumption | lia
  k_with "eval Name" => (k_here; k_dflt (first | (refine' nameX_L ?Fw87 ?vw87 ?_ ?aw87 ?bw87; (case Fw87 => k_asm); (case aw87 => rfl); (case bw87 => rfl); (case vw87 => rfl); k_whole) | (refine' nameX_C ?Nw87 ?cw87 ?mw87 ?dw87 ?_ ?aw87 ?bw87; (case aw87 => rfl); (case bw87 => rfl); (case Nw87 => k_asm); (case cw87 => rfl); (case mw87 => k_mem); (case dw87 => k_asm); k_whole) | (refine' nameX_K ?Fw87 ?Xw87 ?Tw87 ?ew87 ?_ ?aw87 ?bw87; (case Fw87 => k_asm); (case Xw87 => k_asm); (case Tw87 => k_asm); (case aw87 => rfl); (case bw87 => rfl); (case ew87 => k_is); k_whole) | (refine' nameX_B ?Fw87 ?Xw87 ?Tw87 ?ew87 ?vw87 ?nw87 ?_ ?aw87 ?bw87; (case Fw87 => k_asm); (case Xw87 => k_asm); (case Tw87 => k_asm); (case aw87 => rfl); (case bw87 => rfl); (case ew87 => k_is); (case vw87 => boot_fast); (case nw87 => decide); k_whole)))
  k_with "call builtin:isinstance" => (k_here; (with_reducible show wpAny _ _ (call _ [Value.ref _, Value.ref _]) _ _ _); k_dflt (first | (refine' isi_call ?k1w88 ?k2w88 ?k3w88 ?k4w88 ?_; (case k1w88 => k_in); (case k2w88 => k_types); (case k3w88 => k_is); (case k4w88 => intro e; cases e); k_whole) | (refine' kin_callC ?k1w88 ?k2w88 ?k3w88 ?k4w88 ?k5w88 ?k6w88 ?k7w88 ?k8w88 ?k9w88 ?_; (case k1w88 => k_in); (case k2w88 => k_inst); (case k3w88 => kin_no); (case k4w88 => k_is); (case k5w88 => k_is); (case k6w88 => k_is); (case k7w88 => k_is); (case k8w88 => k_is); (case k9w88 => k_is); k_whole)))
  k_with "getAttr ref" => (k_here; k_dflt (refine' get_own ?k1w89 ?k2w89 ?k3w89 ?k4w89 ?k5w89 ?k6w89 ?k7w89 ?k8w89 ?k9w89 ?_; (case k1w89 => k_asm); (case k2w89 => k_asm); (case k3w89 => k_inst); (case k4w89 => k_is); (case k5w89 => k_is); (case k6w89 => k_is); (case k7w89 => k_is); (case k8w89 => k_get); (case k9w89 => k_handed); k_whole))
  k_with "exec For Name Name cons nil" => refine halt ?_
  k_with "getAttr ref" => (k_here; k_dflt (refine' cls_val ?k1w91 ?k2w91 ?k3w91 ?k4w91 ?k5w91 ?k6w91 ?_; (case k1w91 => k_asm); (case k2w91 => k_asm); (case k3w91 => k_is); (case k4w91 => k_is); (case k5w91 => k_is); (case k6w91 => k_handed); k_whole))
  k_with "my src" => first | exact fun _ h => h | with_reducible assumption | (refine sub_t ?_; lcg_src) | (refine sub_l ?_; lcg_src) | (refine sub_r ?_; lcg_src)
  k_with "my sub" => first | exact sub_n | (refine sub_c ?_ ?_; k_mem; lcg_sub) | (refine sub_a ?_ ?_; lcg_sub; lcg_sub) | lcg_src
  k_with "my all" => first | assumption | (refine List.forall_mem_append.mpr ⟨?_, ?_⟩ <;> k_all)
  k_with "my mem" => first | with_reducible assumption | exact List.Mem.head _ | (refine List.mem_cons_of_mem _ ?_; k_mem) | (refine List.mem_append_left _ ?_; k_mem) | (refine List.mem_append_right _ ?_; k_mem)
  k_with "tell sides" => ((case k1 => k_asm); (case k2 => k_asm); (case k3 => k_asm); (case k4 => k_asm); (case k5 => k_asm); (try (case sub => lcg_sub)); (try (case hm => first | exact mu_nil | assumption | (refine mu_one ?_; k_all))); (case kk => first | exact rfl | assumption); (case kd => ktr_room); (case ku => ktr_units))
  k_with "enter" => (k_dflt (refine' code_def ?k1w97 ?k2w97 ?k3w97 ?k4w97 ?k5w97 ?kAw97 ?kFw97 ?kKw97 ?k6w97 ?k7w97 ?k8w97 ?k9w97 ?kBw97 ?_ ?c2w97 ?c3w97 ?c4w97 ?c5w97; (case kAw97 => exact rfl); (case kFw97 => exact rfl); (case kKw97 => assumption); (case k1w97 => k_asm); (case k2w97 => k_asm); (case k3w97 => k_asm); (case k4w97 => k_asm); (case k5w97 => k_asm); (case k6w97 => k_is); (case k7w97 => k_is); (case k8w97 => ktr_room); (case k9w97 => exact BindsTo.of_eq rfl); (case c5w97 => decide); (case kBw97 => exact locs rfl); (case c2w97 => exact rfl); (case c3w97 => exact rfl); (case c4w97 => exact rfl); k_whole))
  k_with "enter cells" => (k_dflt (refine' code_defC ?k1w98 ?k2w98 ?k3w98 ?k4w98 ?k5w98 ?kAw98 ?kFw98 ?kKw98 ?k6w98 ?k7w98 ?k8w98 ?k9w98 ?kBw98 ?kDw98 ?_ ?c2w98 ?c3w98 ?c4w98; (case kAw98 => exact rfl); (case kFw98 => exact rfl); (case kKw98 => assumption); (case k1w98 => k_asm); (case k2w98 => k_asm); (case k3w98 => k_asm); (case k4w98 => k_asm); (case k5w98 => k_asm); (case k6w98 => k_is); (case k7w98 => k_is); (case k8w98 => ktr_room); (case k9w98 => exact BindsTo.of_eq rfl); (case kBw98 => exact rfl); (case kDw98 => decide +kernel); (case c2w98 => exact rfl); (case c3w98 => exact rfl); (case c4w98 => exact rfl); k_whole))
  k_with "enter own" => (refine' code_def ?k1w99 ?k2w99 ?k3w99 ?k4w99 ?k5w99 ?kAw99 ?kFw99 ?kKw99 ?k6w99 ?k7w99 ?k8w99 ?k9w99 ?kBw99 ?_ ?c2w99 ?c3w99 ?c4w99 ?c5w99; (case kAw99 => exact rfl); (case kFw99 => exact rfl); (case kKw99 => exact rfl); (case k1w99 => k_asm); (case k2w99 => k_asm); (case k3w99 => k_asm); (case k4w99 => k_asm); (case k5w99 => k_asm); (case k6w99 => k_is); (case k7w99 => k_is); (case k8w99 => ktr_room); (case k9w99 => first | exact BindsTo.of_eq rfl | exact binds_K (by k_in) rfl (by k_is) rfl rfl rfl | fail "k_enter: no rule for these arguments"); (case c5w99 => decide); (case kBw99 => exact locs rfl); (case c2w99 => exact rfl); (case c3w99 => exact rfl); (case c4w99 => exact rfl); k_whole; intro g' L' h' FG' F' N' B' X' T'; (try dsimp only); (try k_lift B'); (try k_fold))
  k_with "call ref" => (k_here; k_dflt (first
    | (refine' call_cls ?k1w100 ?k2w100 ?k3w100 ?k4w100 ?k5w100 ?k6w100 ?_; (case k1w100 => k_asm); (case k2w100 => k_asm); (case k3w100 => k_asm); (case k4w100 => k_is); (case k5w100 => k_is); (case k6w100 => k_is); k_whole; intro x' d' h' F' N' l1 l2; (try k_lt l1); (try k_lt2 l2); (try k_sweep); walk_at "enter own")
    | (refine wpAny_call ?_; walk_at "enter own")))
  k_with "subscriptTail" => (k_here; (with_reducible show wpAny _ _ (subscriptTail _ _ (Value.ref _) (Value.int 0 _)) _ _ _); k_dflt (refine' led_tup0 ?k1w101 ?k2w101 ?k3w101 ?_; (case k1w101 => k_asm); (case k2w101 => k_mem); (case k3w101 => (first | assumption | omega)); k_whole))
  k_with "subscriptTail Name Slice ref ref" => (k_here; (with_reducible show wpAny _ _ (subscriptTail _ (PySem.Expr.Slice _ _ none _) (Value.ref _) (Value.ref _)) _ _ _); k_dflt (refine' led_tupTail ?k1w102 ?k2w102 ?k3w102 ?k4w102 ?_; (case k1w102 => k_asm); (case k2w102 => k_asm); (case k3w102 => k_mem); (case k4w102 => (first | assumption | omega)); k_whole); intro D' h' F' N' l1; (try k_lt l1); (try k_sweep))
  k_with "call ref" => ((with_reducible first | show wpAny _ _ (call (Value.ref 191) _) _ _ _ | show wpAny _ _ (call (Value.ref 198) _) _ _ _ | show wpAny _ _ (call (Value.ref 205) _) _ _ _ | show wpAny _ _ (call (Value.ref 224) _) _ _ _ | show wpAny _ _ (call (Value.ref 229) _) _ _ _ | show wpAny _ _ (call (Value.ref 243) _) _ _ _ | show wpAny _ _ (call (Value.ref 257) _) _ _ _ | show wpAny _ _ (call (Value.ref 264) _) _ _ _ | show wpAny _ _ (call (Value.ref 276) _) _ _ _ | show wpAny _ _ (call (Value.ref 283) _) _ _ _ | show wpAny _ _ (call (Value.ref 290) _) _ _ _ | show wpAny _ _ (call (Value.ref 295) _) _ _ _ | show wpAny _ _ (call (Value.ref 302) _) _ _ _ | show wpAny _ _ (call (Value.ref 309) _) _ _ _); refine halt ?_)
  k_with "eval ListComp" => refine halt ?_
  k_with "exec Assign cons ListComp" => refine halt ?_
  k_with "exec For" => refine halt ?_
  k_with "exec While" => refine halt ?_
  k_with "call type:tuple" => ((with_reducible show wpAny _ _ (call (Value.type "tuple") [Value.ref _]) _ _ _); refine halt ?_)
  k_with "binaryOp Add ref ref" => ((with_reducible show wpAny _ _ (binaryOp Operator.Add (Value.ref _) (Value.ref _)) _ _ _); refine halt ?_)
  k_with "my tabat" => first | assumption | exact ab0 (by assumption) | exact ab1 (by assumption) | (refine ab_trans (by assumption) ?_; k_tabat)
  k_with "my updF" => first | exact Fresh.nil | assumption | (refine Fresh.allLt ?_ ?_; k_tabat; k_updF) | (refine Fresh.append ?_ ?_; k_updF; k_updF)
  k_with "getMethod ref" => (k_here; (with_reducible show wpAny _ _ (getMethod (Value.ref _) (Str.ofString "get") _) _ _ _); k_dflt (refine kdg_method (knd := PySem.strKind _ _) (by k_asm) (by k_mem) (by assumption) ?_))
  k_with "call builtin:dict.get" => (k_here; k_dflt (refine kdg_get2 (knd := PySem.strKind _ _) (by k_asm) (by k_mem) (by assumption) (by assumption) (strKind_is _ _ _ _) _ rfl ?_))
  k_with "compareOp NotEq ref ref" => (k_here; k_dflt (first | (refine' led_ne_nil ?k1w114 ?k2w114 ?k3w114 ?k4w114 ?_; (case k1w114 => k_asm); (case k2w114 => k_mem); (case k3w114 => k_mem); (case k4w114 => ke_room)) | (refine' led_ne_snoc ?k1w114 ?k2w114 ?k3w114 ?k4w114 ?_; (case k1w114 => k_asm); (case k2w114 => k_mem); (case k3w114 => k_mem); (case k4w114 => ke_room))))
  k_with "compareOp Eq ref ref" => (k_here; k_dflt (first | (refine' led_eq_nil ?k1w115 ?k2w115 ?k3w115 ?k4w115 ?_; (case k1w115 => k_asm); (case k2w115 => k_mem); (case k3w115 => k_mem); (case k4w115 => ke_room)) | (refine' led_eq_cons ?k1w115 ?k2w115 ?k3w115 ?k4w115 ?_; (case k1w115 => k_asm); (case k2w115 => k_mem); (case k3w115 => k_mem); (case k4w115 => ke_room))))
  trivial
theorem isVar_of {h : Str} (e : ([Str.ofString "x", Str.ofString "y", Str.ofString "a"].any fun x => x == h) = true) : isVar h = true := by
  simp only [List.any_cons, List.any_nil, Bool.or_false, Bool.or_eq_true, beq_iff_eq] at e
  simp only [isVar, Bool.or_eq_true, beq_iff_eq]
  rcases e with e | e | e
  · exact .inl (.inl e.symm)
  · exact .inl (.inr e.symm)
  · exact .inr e.symm
theorem isVar_not {h : Str} (e : ([Str.ofString "x", Str.ofString "y", Str.ofString "a"].any fun x => x == h) = false) : isVar h = false := by
  simp only [List.any_cons, List.any_nil, Bool.or_false, Bool.or_eq_false_iff, beq_eq_false_iff_ne, ne_eq] at e
  simp only [isVar, Bool.or_eq_false_iff, beq_eq_false_iff_ne, ne_eq]
  exact ⟨⟨fun q => e.1 q.symm, fun q => e.2.1 q.symm⟩, fun q => e.2.2 q.symm⟩
set_option maxRecDepth 100000 in
set_option maxHeartbeats 8000000 in
theorem node_leaf {w : World} {mean : ExcName → Option Value} {mg mb : Str → Option Value} {nd : List (Addr × Obj)} {h : Str} {k : Tok} :
    Tell w mean mg mb 283 [.str h k] 10 [] nd
      (fun r tl led' => led' = nd ∧ NodeV w (tl ++ nd) r (.leaf h)) False [] := by
  unfold Tell
  k_fill
  intro dp un gd cn cs a ccd cl outer A₀ base h₀ L m s fr Q E B F X N hmu T hk hd hu hret hfail
  refine wpAny_call ?_
  walk_at "enter"
  intro g' L' h' FG' F' N' B' X' T'
  try dsimp only
  try k_fold
  k_steps
  · rename News _ _ _ _ => N9
    rename _ = _ => hh
    rename (@LT.lt Nat _ _ _) => l3
    rename (_ ∧ AllLt _ _) => l2
    rename (∀ p ∈ fr ++ nd, _) => l1
    exact hret _ [_, _, _] nd _ _ (by assumption) (news_sub N9 (by lcg_sub)) (Fresh.allLt (ab_trans l3 (ab1 l2)) (Fresh.allLt (ab1 l2) (Fresh.allLt l1 Fresh.nil))) ⟨rfl, .var (isVar_of hh) (List.Mem.head _) (List.mem_cons_of_mem _ (List.Mem.head _))⟩
  · rename News _ _ _ _ => N9
    rename _ = _ => hh
    rename (@LT.lt Nat _ _ _) => l3
    rename (_ ∧ AllLt _ _) => l2
    rename (∀ p ∈ fr ++ nd, _) => l1
    exact hret _ [_, _, _] nd _ _ (by assumption) (news_sub N9 (by lcg_sub)) (Fresh.allLt (ab_trans l3 (ab1 l2)) (Fresh.allLt (ab1 l2) (Fresh.allLt l1 Fresh.nil))) ⟨rfl, .con (isVar_not hh) (List.Mem.head _) (List.mem_cons_of_mem _ (List.Mem.head _))⟩
set_option maxRecDepth 100000 in
set_option maxHeartbeats 8000000 in
theorem node_tells {w : World} {mean : ExcName → Option Value} {mg mb : Str → Option Value} {nd : List (Addr × Obj)} : ∀ (n : Nat) {v : Value} {t : Ty}, t.dep ≤ n → t.size < 1000 → TyV nd v t →
    Tell w mean mg mb 283 [v] (10 * n + 10) [] nd
      (fun r tl led' => led' = nd ∧ NodeV w (tl ++ nd) r t) False [] := by
  intro n
  induction n with
  | zero =>
    intro v t hd hs hv
    cases hv with
    | leaf => exact node_leaf
    | @app at' hh kh vs as nn _ hm hne hl hts ht =>
      subst ht
      cases as with
      | nil => exact (hne rfl).elim
      | cons a as => have := (Ty.dep_on (a :: as) (.leaf hh)).2 a List.mem_cons_self; omega
  | succ n ih =>
    intro v t hdp hsz hv
    cases hv with
    | leaf => exact tell_size node_leaf (by omega)
    | @app at' hh kh vs as nn _ hm hne hl hts ht =>
      subst ht
      unfold Tell
      k_fill
      intro dp un gd cn cs a ccd cl outer A₀ base h₀ L m s fr Q E B F X N hmu T hk hd hu hret hfail
      have hvs : vs.length < 10000 := by
        have := (Ty.size_on as (.leaf hh)).1
        rw [hl]; omega
      refine wpAny_call ?_
      walk_at "enter"
      intro g' L' h' FG' F' N' B' X' T'
      try dsimp only
      try k_fold
      k_steps
      refine unhalt ?_
      refine' tell_use fr (node_leaf (nd := nd)) ?k1 ?k2 ?k3 ?k4 ?sub ?hm ?k5 ?kk ?kd ?ku ?_ (fun h => h.elim)
      walk_at "tell sides"
      intro r tl led' h' tk' F' N' hfr hq10
      obtain ⟨hl', hn'⟩ := hq10
      subst led'
      try k_fold
      k_steps
      refine unhalt ?_
      k_dflt (refine For_invU g' (by rfl) (by rfl) ?_)
      k_steps
      rename Fr _ _ _ _ => F9
      rename News _ _ _ _ => N9
      have l9 := l1
      have hDn : ∀ p ∈ fr ++ nd, p.1 < D' := fun p hp => l9 p ((by lcg_sub : ∀ p ∈ fr ++ nd, p ∈ fr ++ (tl ++ nd)) p hp)
      refine for_tup (fun i m₁ nw => ∃ (vw : Value) (m' : Str → Option Value) (tl' : List (Addr × Obj)), m₁ = (fun y => if y = Str.ofString "whole" then some vw else m' y) ∧ nw = (D', tupOf vs 0) :: (tl' ++ (fr ++ nd)) ∧ NodeV w (tl' ++ nd) vw ((Ty.leaf hh).on (as.take i)) ∧ Fresh (fr ++ nd) tl')
        rfl F9 (news_sub N9 (by lcg_sub)) (List.Mem.head _) ?_ ⟨r, _, tl, rfl, rfl, by rw [List.take_zero]; exact hn', hfr⟩ ?_ ?_
      · intro i m₁ nw hq11
        refine cps fun GX hGX => ?_
        obtain ⟨vw, m', tl', _, e, _⟩ := hq11
        refine hGX ?_
        clear hGX GX
        rw [e]; exact List.Mem.head _
      · intro i v m₁ nw I oI s₁ hv hq12 F10 N10 off10
        refine cps fun GX hGX => ?_
        obtain ⟨vw, m', tl', hm1, hnw, hvw, hfr'⟩ := hq12
        refine hGX ?_
        clear hGX GX
        subst hm1 hnw
        k_steps
        refine unhalt ?_
        obtain ⟨a1, ha1⟩ : ∃ a1, as[i]? = some a1 := by
          have h1 := (List.getElem?_eq_some_iff.mp (by simpa using hv : vs[i]? = some v)).1
          exact ⟨_, List.getElem?_eq_getElem (hl ▸ h1)⟩
        have ha1m := List.mem_of_getElem? ha1
        have hsa := (Ty.size_on as (.leaf hh)).2 a1 ha1m
        have hda := (Ty.dep_on as (.leaf hh)).2 a1 ha1m
        refine' tell_use ((I, oI) :: (D', tupOf vs 0) :: (tl' ++ fr)) (ih (by omega) (by omega) (hts i v a1 (by simpa using hv) ha1)) ?k1 ?k2 ?k3 ?k4 ?sub ?hm ?k5 ?kk ?kd ?ku ?_ (fun h => h.elim)
        walk_at "tell sides"
        intro r2 tl2 led2 h12 tk12 F12 N12 hfr2 hq13
        obtain ⟨hl2, hn2⟩ := hq13
        subst led2
        have hI2 := hfr2.ne (a := I) (o := oI) (by simp)
        try k_fold
        k_steps
        rename News _ _ _ _ => N13
        rename Fr _ _ _ _ => F13
        rename (@LT.lt Nat _ _ _) => l3
        rename (∀ p, p ∈ (I, oI) :: (D', tupOf vs 0) :: (tl' ++ fr) ++ (tl2 ++ nd) → _) => l2
        have hx1 := ab_trans l3 l2
        have hne : ∀ {a : Addr}, (∀ p ∈ (I, oI) :: (D', tupOf vs 0) :: (tl' ++ fr) ++ (tl2 ++ nd), @LT.lt Nat _ p.1 a) → a ≠ I := fun h => off_of h (List.Mem.head _)
        have hfr3 : Fresh (fr ++ nd) (tl2 ++ tl') := Fresh.append (hfr2.sub (by lcg_sub)) hfr'
        have hfr4 := fun (o o' : Obj) => Fresh.allLt (o := o) (ab2 hx1 (by lcg_sub : ∀ p ∈ fr ++ nd, p ∈ _)) (Fresh.allLt (o := o') (ab2 l2 (by lcg_sub : ∀ p ∈ fr ++ nd, p ∈ _)) hfr3)
        refine ⟨rfl, _, _, _, (D', tupOf vs 0) :: (((_, _) :: (_, _) :: (tl2 ++ tl')) ++ (fr ++ nd)), rfl, F13, news_sub N13 (by lcg_sub),
          off_c (off10 _ (List.Mem.head _)) (off_a (off_c (hne hx1) (off_c (hne l2) (off_a hI2 (off_s off10 (by lcg_sub))))) (off_s off10 (by lcg_sub))), _, _, _, rfl, rfl, ?_, hfr4 _ _⟩
        rw [List.take_add_one, ha1]
        show NodeV w _ _ ((Ty.leaf hh).on (as.take i ++ [a1]))
        rw [Ty.on_snoc]
        exact .app (List.Mem.head _) (List.mem_cons_of_mem _ (List.Mem.head _)) (hvw.mono (by lcg_sub)) (hn2.mono (by lcg_sub))
      · intro h11 tk11 m11 nw F11 N11 hq14
        refine cps fun GX hGX => ?_
        obtain ⟨vw, m', tl', hm1, hnw, hvw, hfr'⟩ := hq14
        refine hGX ?_
        clear hGX GX
        subst hm1 hnw
        k_steps
        rename News _ _ _ _ => N12
        have e1 : vs.toArray.size = as.length := by simpa using hl
        rw [e1, List.take_of_length_le (Nat.le_refl _)] at hvw
        exact hret _ ((D', tupOf vs 0) :: tl') nd _ _ (by assumption) (news_sub N12 (by lcg_sub)) (Fresh.allLt hDn hfr') ⟨rfl, hvw.mono (by lcg_sub)⟩
end

section
/- part C_repl -/
theorem kw_C_repl_s_0 : True := by
  w_top off
  k_with_none
  k_with "my path" => first | with_reducible exact And.left | with_reducible exact And.right | (refine path_r ?_; k_extra "my path")
  k_with "my ne" => ((try dsimp only); first | (refine' Nat.ne_of_gt (lt_pick ?neA ?neB); (case neA => with_reducible assumption); (case neB => k_extra "my path")) | (refine' Nat.ne_of_lt (lt_pick ?neA ?neB); (case neA => with_reducible assumption); (case neB => k_extra "my path")) | exact Nat.ne_of_gt (by with_reducible assumption) | exact Nat.ne_of_lt (by with_reducible assumption) | fail)
  k_with "my om" => first | exact Nat.le_of_ble_eq_true rfl | with_reducible assumption | lia
  k_with "eval Name" => (k_here; k_dflt (first | (refine' nameX_L ?Fw116 ?vw116 ?_ ?aw116 ?bw116; (case Fw116 => k_asm); (case aw116 => rfl); (case bw116 => rfl); (case vw116 => rfl); k_whole) | (refine' nameX_C ?Nw116 ?cw116 ?mw116 ?dw116 ?_ ?aw116 ?bw116; (case aw116 => rfl); (case bw116 => rfl); (case Nw116 => k_asm); (case cw116 => rfl); (case mw116 => k_mem); (case dw116 => k_asm); k_whole) | (refine' nameX_K ?Fw116 ?Xw116 ?Tw116 ?ew116 ?_ ?aw116 ?bw116; (case Fw116 => k_asm); (case Xw116 => k_asm); (case Tw116 => k_asm); (case aw116 => rfl); (case bw116 => rfl); (case ew116 => k_is); k_whole) | (refine' nameX_B ?Fw116 ?Xw116 ?Tw116 ?ew116 ?vw116 ?nw116 ?_ ?aw116 ?bw116; (case Fw116 => k_asm); (case Xw116 => k_asm); (case Tw116 => k_asm); (case aw116 => rfl); (case bw116 => rfl); (case ew116 => k_is); (case vw116 => boot_fast); (case nw116 => decide); k_whole)))
  k_with "call builtin:isinstance" => (k_here; (with_reducible show wpAny _ _ (call _ [Value.ref _, Value.ref _]) _ _ _); k_dflt (first | (refine' isi_call ?k1w117 ?k2w117 ?k3w117 ?k4w117 ?_; (case k1w117 => k_in); (case k2w117 => k_types); (case k3w117 => k_is); (case k4w117 => intro e; cases e); k_whole) | (refine' kin_callC ?k1w117 ?k2w117 ?k3w117 ?k4w117 ?k5w117 ?k6w117 ?k7w117 ?k8w117 ?k9w117 ?_; (case k1w117 => k_in); (case k2w117 => k_inst); (case k3w117 => kin_no); (case k4w117 => k_is); (case k5w117 => k_is); (case k6w117 => k_is); (case k7w117 => k_is); (case k8w117 => k_is); (case k9w117 => k_is); k_whole)))
  k_with "getAttr ref" => (k_here; k_dflt (refine' get_own ?k1w118 ?k2w118 ?k3w118 ?k4w118 ?k5w118 ?k6w118 ?k7w118 ?k8w118 ?k9w118 ?_; (case k1w118 => k_asm); (case k2w118 => k_asm); (case k3w118 => k_inst); (case k4w118 => k_is); (case k5w118 => k_is); (case k6w118 => k_is); (case k7w118 => k_is); (case k8w118 => k_get); (case k9w118 => k_handed); k_whole))
  k_with "exec For Name Name cons nil" => refine halt ?_
  k_with "my src" => first | exact fun _ h => h | with_reducible assumption | (refine sub_t ?_; lcg_src) | (refine sub_l ?_; lcg_src) | (refine sub_r ?_; lcg_src)
  k_with "my sub" => first | exact sub_n | (refine sub_c ?_ ?_; k_mem; lcg_sub) | (refine sub_a ?_ ?_; lcg_sub; lcg_sub) | lcg_src
  k_with "my all" => first | assumption | (refine List.forall_mem_append.mpr ⟨?_, ?_⟩ <;> k_all)
  k_with "my mem" => first | with_reducible assumption | exact List.Mem.head _ | (refine List.mem_cons_of_mem _ ?_; k_mem) | (refine List.mem_append_left _ ?_; k_mem) | (refine List.mem_append_right _ ?_; k_mem)
  k_with "tell sides" => ((case k1 => k_asm); (case k2 => k_asm); (case k3 => k_asm); (case k4 => k_asm); (case k5 => k_asm); (try (case sub => lcg_sub)); (try (case hm => first | exact mu_nil | assumption | (refine mu_one ?_; k_all))); (case kk => first | exact rfl | assumption); (case kd => ktr_room); (case ku => ktr_units))
  k_with "enter" => (k_dflt (refine' code_def ?k1w125 ?k2w125 ?k3w125 ?k4w125 ?k5w125 ?kAw125 ?kFw125 ?kKw125 ?k6w125 ?k7w125 ?k8w125 ?k9w125 ?kBw125 ?_ ?c2w125 ?c3w125 ?c4w125 ?c5w125; (case kAw125 => exact rfl); (case kFw125 => exact rfl); (case kKw125 => assumption); (case k1w125 => k_asm); (case k2w125 => k_asm); (case k3w125 => k_asm); (case k4w125 => k_asm); (case k5w125 => k_asm); (case k6w125 => k_is); (case k7w125 => k_is); (case k8w125 => ktr_room); (case k9w125 => exact BindsTo.of_eq rfl); (case c5w125 => decide); (case kBw125 => exact locs rfl); (case c2w125 => exact rfl); (case c3w125 => exact rfl); (case c4w125 => exact rfl); k_whole))
  k_with "enter cells" => (k_dflt (refine' code_defC ?k1w126 ?k2w126 ?k3w126 ?k4w126 ?k5w126 ?kAw126 ?kFw126 ?kKw126 ?k6w126 ?k7w126 ?k8w126 ?k9w126 ?kBw126 ?kDw126 ?_ ?c2w126 ?c3w126 ?c4w126; (case kAw126 => exact rfl); (case kFw126 => exact rfl); (case kKw126 => assumption); (case k1w126 => k_asm); (case k2w126 => k_asm); (case k3w126 => k_asm); (case k4w126 => k_asm); (case k5w126 => k_asm); (case k6w126 => k_is); (case k7w126 => k_is); (case k8w126 => ktr_room); (case k9w126 => exact BindsTo.of_eq rfl); (case kBw126 => exact rfl); (case kDw126 => decide +kernel); (case c2w126 => exact rfl); (case c3w126 => exact rfl); (case c4w126 => exact rfl); k_whole))
  k_with "enter own" => (refine' code_def ?k1w127 ?k2w127 ?k3w127 ?k4w127 ?k5w127 ?kAw127 ?kFw127 ?kKw127 ?k6w127 ?k7w127 ?k8w127 ?k9w127 ?kBw127 ?_ ?c2w127 ?c3w127 ?c4w127 ?c5w127; (case kAw127 => exact rfl); (case kFw127 => exact rfl); (case kKw127 => exact rfl); (case k1w127 => k_asm); (case k2w127 => k_asm); (case k3w127 => k_asm); (case k4w127 => k_asm); (case k5w127 => k_asm); (case k6w127 => k_is); (case k7w127 => k_is); (case k8w127 => ktr_room); (case k9w127 => first | exact BindsTo.of_eq rfl | exact binds_K (by k_in) rfl (by k_is) rfl rfl rfl | fail "k_enter: no rule for these arguments"); (case c5w127 => decide); (case kBw127 => exact locs rfl); (case c2w127 => exact rfl); (case c3w127 => exact rfl); (case c4w127 => exact rfl); k_whole; intro g' L' h' FG' F' N' B' X' T'; (try dsimp only); (try k_lift B'); (try k_fold))
  k_with "call ref" => (k_here; k_dflt (first
    | (refine' call_cls ?k1w128 ?k2w128 ?k3w128 ?k4w128 ?k5w128 ?k6w128 ?_; (case k1w128 => k_asm); (case k2w128 => k_asm); (case k3w128 => k_asm); (case k4w128 => k_is); (case k5w128 => k_is); (case k6w128 => k_is); k_whole; intro x' d' h' F' N' l1 l2; (try k_lt l1); (try k_lt2 l2); (try k_sweep); walk_at "enter own")
    | (refine wpAny_call ?_; walk_at "enter own")))
  k_with "subscriptTail" => (k_here; (with_reducible show wpAny _ _ (subscriptTail _ _ (Value.ref _) (Value.int 0 _)) _ _ _); k_dflt (refine' led_tup0 ?k1w129 ?k2w129 ?k3w129 ?_; (case k1w129 => k_asm); (case k2w129 => k_mem); (case k3w129 => (first | assumption | omega)); k_whole))
  k_with "subscriptTail Name Slice ref ref" => (k_here; (with_reducible show wpAny _ _ (subscriptTail _ (PySem.Expr.Slice _ _ none _) (Value.ref _) (Value.ref _)) _ _ _); k_dflt (refine' led_tupTail ?k1w130 ?k2w130 ?k3w130 ?k4w130 ?_; (case k1w130 => k_asm); (case k2w130 => k_asm); (case k3w130 => k_mem); (case k4w130 => (first | assumption | omega)); k_whole); intro D' h' F' N' l1; (try k_lt l1); (try k_sweep))
  k_with "call ref" => ((with_reducible first | show wpAny _ _ (call (Value.ref 191) _) _ _ _ | show wpAny _ _ (call (Value.ref 198) _) _ _ _ | show wpAny _ _ (call (Value.ref 205) _) _ _ _ | show wpAny _ _ (call (Value.ref 224) _) _ _ _ | show wpAny _ _ (call (Value.ref 229) _) _ _ _ | show wpAny _ _ (call (Value.ref 243) _) _ _ _ | show wpAny _ _ (call (Value.ref 257) _) _ _ _ | show wpAny _ _ (call (Value.ref 264) _) _ _ _ | show wpAny _ _ (call (Value.ref 276) _) _ _ _ | show wpAny _ _ (call (Value.ref 283) _) _ _ _ | show wpAny _ _ (call (Value.ref 290) _) _ _ _ | show wpAny _ _ (call (Value.ref 295) _) _ _ _ | show wpAny _ _ (call (Value.ref 302) _) _ _ _ | show wpAny _ _ (call (Value.ref 309) _) _ _ _); refine halt ?_)
  k_with "eval ListComp" => refine halt ?_
  k_with "exec Assign cons ListComp" => refine halt ?_
  k_with "exec For" => refine halt ?_
  k_with "exec While" => refine halt ?_
  k_with "call type:tuple" => ((with_reducible show wpAny _ _ (call (Value.type "tuple") [Value.ref _]) _ _ _); refine halt ?_)
  k_with "binaryOp Add ref ref" => ((with_reducible show wpAny _ _ (binaryOp Operator.Add (Value.ref _) (Value.ref _)) _ _ _); refine halt ?_)
  k_with "my tabat" => first | assumption | exact ab0 (by assumption) | exact ab1 (by assumption) | (refine ab_trans (by assumption) ?_; k_tabat)
  k_with "my updF" => first | exact Fresh.nil | assumption | (refine Fresh.allLt ?_ ?_; k_tabat; k_updF) | (refine Fresh.append ?_ ?_; k_updF; k_updF)
  k_with "getMethod ref" => (k_here; (with_reducible show wpAny _ _ (getMethod (Value.ref _) (Str.ofString "get") _) _ _ _); k_dflt (refine kdg_method (knd := PySem.strKind _ _) (by k_asm) (by k_mem) (by assumption) ?_))
  k_with "call builtin:dict.get" => (k_here; k_dflt (refine kdg_get2 (knd := PySem.strKind _ _) (by k_asm) (by k_mem) (by assumption) (by assumption) (strKind_is _ _ _ _) _ rfl ?_))
  k_with "compareOp NotEq ref ref" => (k_here; k_dflt (first | (refine' led_ne_nil ?k1w142 ?k2w142 ?k3w142 ?k4w142 ?_; (case k1w142 => k_asm); (case k2w142 => k_mem); (case k3w142 => k_mem); (case k4w142 => ke_room)) | (refine' led_ne_snoc ?k1w142 ?k2w142 ?k3w142 ?k4w142 ?_; (case k1w142 => k_asm); (case k2w142 => k_mem); (case k3w142 => k_mem); (case k4w142 => ke_room))))
  k_with "compareOp Eq ref ref" => (k_here; k_dflt (first | (refine' led_eq_nil ?k1w143 ?k2w143 ?k3w143 ?k4w143 ?_; (case k1w143 => k_asm); (case k2w143 => k_mem); (case k3w143 => k_mem); (case k4w143 => ke_room)) | (refine' led_eq_cons ?k1w143 ?k2w143 ?k3w143 ?k4w143 ?_; (case k1w143 => k_asm); (case k2w143 => k_mem); (case k3w143 => k_mem); (case k4w143 => ke_room))))
  trivial
set_option maxRecDepth 100000 in
set_option maxHeartbeats 8000000 in
theorem repl_tells {w : World} {mean : ExcName → Option Value} {mg mb : Str → Option Value} {nd : List (Addr × Obj)} {σ : Str → Option Ty} {vd : Addr} (hσ : ∀ h, isVar h = false → σ h = none) (hd' : SubV w nd vd σ) {v : Value} {t : Ty} (hv : NodeV w nd v t) :
    Tell w mean mg mb 191 [v, .ref vd] (10 * t.size + 10) [] nd
      (fun r tl led' => led' = nd ∧ NodeV w (tl ++ nd) r (t.sub σ)) False [] := by
  refine cps fun GX hGX => ?_
  obtain ⟨od, kvs, hod, hkv, hsm, hsome, hnone⟩ := hd'
  refine hGX ?_
  clear hGX GX
  induction hv with
  | @var x d k1 k2 k h hh hx hdd =>
    unfold Tell
    k_fill
    intro dp un gd cn cs a ccd cl outer A₀ base h₀ L m s fr Q E B F X N hmu T hk hd hu hret hfail
    refine wpAny_call ?_
    walk_at "enter"
    intro g' L' h' FG' F' N' B' X' T'
    try dsimp only
    try k_fold
    k_steps
    rename News _ _ _ _ => N9
    refine hret _ [] nd _ _ (by assumption) (news_sub N9 (by lcg_sub)) Fresh.nil ⟨rfl, ?_⟩
    show NodeV w nd _ ((σ h).getD (.leaf h))
    cases e : valueAt kvs h with
    | none => rw [hnone h e]; exact .var hh hx hdd
    | some v => obtain ⟨t, e1, e2⟩ := hsome h v e; rw [e1]; exact e2
  | con hh hx hdd =>
    unfold Tell
    k_fill
    intro dp un gd cn cs a ccd cl outer A₀ base h₀ L m s fr Q E B F X N hmu T hk hd hu hret hfail
    refine wpAny_call ?_
    walk_at "enter"
    intro g' L' h' FG' F' N' B' X' T'
    try dsimp only
    try k_fold
    k_steps
    rename News _ _ _ _ => N9
    refine hret _ [] nd _ _ (by assumption) (news_sub N9 (by lcg_sub)) Fresh.nil ⟨rfl, ?_⟩
    rw [Ty.sub, hσ _ hh]; exact .con hh hx hdd
  | @app x d k1 k2 k3 f b tf ta hx hdd hf ha ihf iha =>
    unfold Tell
    k_fill
    intro dp un gd cn cs a ccd cl outer A₀ base h₀ L m s fr Q E B F X N hmu T hk hd hu hret hfail
    refine wpAny_call ?_
    walk_at "enter"
    intro g' L' h' FG' F' N' B' X' T'
    try dsimp only
    try k_fold
    k_steps
    have esz : (Ty.app tf ta).size = tf.size + ta.size + 1 := rfl
    rw [esz] at hd hu
    refine unhalt ?_
    refine' tell_use fr (ihf) ?k1 ?k2 ?k3 ?k4 ?sub ?hm ?k5 ?kk ?kd ?ku ?_ (fun h => h.elim)
    walk_at "tell sides"
    intro r tl led' h' tk' F' N' hfr hq15
    obtain ⟨hl', hn'⟩ := hq15
    subst led'
    try k_fold
    k_steps
    refine unhalt ?_
    refine' tell_use (fr ++ tl) (iha) ?k1 ?k2 ?k3 ?k4 ?sub ?hm ?k5 ?kk ?kd ?ku ?_ (fun h => h.elim)
    walk_at "tell sides"
    intro r2 tl2 led' h2 tk2 F2 N2 hfr2 hq16
    obtain ⟨hl2, hn2⟩ := hq16
    subst led'
    try k_fold
    k_steps
    rename News _ _ _ _ => N9
    rename (@LT.lt Nat _ _ _) => l3
    rename (∀ p, p ∈ fr ++ tl ++ (tl2 ++ nd) → _) => l2
    have hfr3 := fun (o o' : Obj) => Fresh.allLt (o := o) (ab2 (ab_trans l3 l2) (by lcg_sub : ∀ p ∈ fr ++ nd, p ∈ _)) (Fresh.allLt (o := o') (ab2 l2 (by lcg_sub : ∀ p ∈ fr ++ nd, p ∈ _)) (Fresh.append (hfr2.sub (by lcg_sub)) hfr))
    exact hret _ _ nd _ _ (by assumption) (news_sub N9 (by lcg_sub)) (hfr3 _ _) ⟨rfl, .app (List.Mem.head _) (List.mem_cons_of_mem _ (List.Mem.head _)) (hn'.mono (by lcg_sub)) (hn2.mono (by lcg_sub))⟩
end

section
/- part C_hna -/
theorem kw_C_hna_s_0 : True := by
  w_top off
  k_with_none
  k_with "my path" => first | with_reducible exact And.left | with_reducible exact And.right | (refine path_r ?_; k_extra "my path")
  k_with "my ne" => ((try dsimp only); first | (refine' Nat.ne_of_gt (lt_pick ?neA ?neB); (case neA => with_reducible assumption); (case neB => k_extra "my path")) | (refine' Nat.ne_of_lt (lt_pick ?neA ?neB); (case neA => with_reducible assumption); (case neB => k_extra "my path")) | exact Nat.ne_of_gt (by with_reducible assumption) | exact Nat.ne_of_lt (by with_reducible assumption) | fail)
  k_with "my om" => first | exact Nat.le_of_ble_eq_true rfl | with_reducible assumption | lia
  k_with "eval Name" => (k_here; k_dflt (first | (refine' nameX_L ?Fw144 ?vw144 ?_ ?aw144 ?bw144; (case Fw144 => k_asm); (case aw144 => rfl); (case bw144 => rfl); (case vw144 => rfl); k_whole) | (refine' nameX_C ?Nw144 ?cw144 ?mw144 ?dw144 ?_ ?aw144 ?bw144; (case aw144 => rfl); (case bw144 => rfl); (case Nw144 => k_asm); (case cw144 => rfl); (case mw144 => k_mem); (case dw144 => k_asm); k_whole) | (refine' nameX_K ?Fw144 ?Xw144 ?Tw144 ?ew144 ?_ ?aw144 ?bw144; (case Fw144 => k_asm); (case Xw144 => k_asm); (case Tw144 => k_asm); (case aw144 => rfl); (case bw144 => rfl); (case ew144 => k_is); k_whole) | (refine' nameX_B ?Fw144 ?Xw144 ?Tw144 ?ew144 ?vw144 ?nw144 ?_ ?aw144 ?bw144; (case Fw144 => k_asm); (case Xw144 => k_asm); (case Tw144 => k_asm); (case aw144 => rfl); (case bw144 => rfl); (case ew144 => k_is); (case vw144 => boot_fast); (case nw144 => decide); k_whole)))
  k_with "call builtin:isinstance" => (k_here; (with_reducible show wpAny _ _ (call _ [Value.ref _, Value.ref _]) _ _ _); k_dflt (first | (refine' isi_call ?k1w145 ?k2w145 ?k3w145 ?k4w145 ?_; (case k1w145 => k_in); (case k2w145 => k_types); (case k3w145 => k_is); (case k4w145 => intro e; cases e); k_whole) | (refine' kin_callC ?k1w145 ?k2w145 ?k3w145 ?k4w145 ?k5w145 ?k6w145 ?k7w145 ?k8w145 ?k9w145 ?_; (case k1w145 => k_in); (case k2w145 => k_inst); (case k3w145 => kin_no); (case k4w145 => k_is); (case k5w145 => k_is); (case k6w145 => k_is); (case k7w145 => k_is); (case k8w145 => k_is); (case k9w145 => k_is); k_whole)))
  k_with "getAttr ref" => (k_here; k_dflt (refine' get_own ?k1w146 ?k2w146 ?k3w146 ?k4w146 ?k5w146 ?k6w146 ?k7w146 ?k8w146 ?k9w146 ?_; (case k1w146 => k_asm); (case k2w146 => k_asm); (case k3w146 => k_inst); (case k4w146 => k_is); (case k5w146 => k_is); (case k6w146 => k_is); (case k7w146 => k_is); (case k8w146 => k_get); (case k9w146 => k_handed); k_whole))
  k_with "exec For Name Name cons nil" => refine halt ?_
  k_with "my src" => first | exact fun _ h => h | with_reducible assumption | (refine sub_t ?_; lcg_src) | (refine sub_l ?_; lcg_src) | (refine sub_r ?_; lcg_src)
  k_with "my sub" => first | exact sub_n | (refine sub_c ?_ ?_; k_mem; lcg_sub) | (refine sub_a ?_ ?_; lcg_sub; lcg_sub) | lcg_src
  k_with "my all" => first | assumption | (refine List.forall_mem_append.mpr ⟨?_, ?_⟩ <;> k_all)
  k_with "my mem" => first | with_reducible assumption | exact List.Mem.head _ | (refine List.mem_cons_of_mem _ ?_; k_mem) | (refine List.mem_append_left _ ?_; k_mem) | (refine List.mem_append_right _ ?_; k_mem)
  k_with "tell sides" => ((case k1 => k_asm); (case k2 => k_asm); (case k3 => k_asm); (case k4 => k_asm); (case k5 => k_asm); (try (case sub => lcg_sub)); (try (case hm => first | exact mu_nil | assumption | (refine mu_one ?_; k_all))); (case kk => first | exact rfl | assumption); (case kd => ktr_room); (case ku => ktr_units))
  k_with "enter" => (k_dflt (refine' code_def ?k1w153 ?k2w153 ?k3w153 ?k4w153 ?k5w153 ?kAw153 ?kFw153 ?kKw153 ?k6w153 ?k7w153 ?k8w153 ?k9w153 ?kBw153 ?_ ?c2w153 ?c3w153 ?c4w153 ?c5w153; (case kAw153 => exact rfl); (case kFw153 => exact rfl); (case kKw153 => assumption); (case k1w153 => k_asm); (case k2w153 => k_asm); (case k3w153 => k_asm); (case k4w153 => k_asm); (case k5w153 => k_asm); (case k6w153 => k_is); (case k7w153 => k_is); (case k8w153 => ktr_room); (case k9w153 => exact BindsTo.of_eq rfl); (case c5w153 => decide); (case kBw153 => exact locs rfl); (case c2w153 => exact rfl); (case c3w153 => exact rfl); (case c4w153 => exact rfl); k_whole))
  k_with "enter cells" => (k_dflt (refine' code_defC ?k1w154 ?k2w154 ?k3w154 ?k4w154 ?k5w154 ?kAw154 ?kFw154 ?kKw154 ?k6w154 ?k7w154 ?k8w154 ?k9w154 ?kBw154 ?kDw154 ?_ ?c2w154 ?c3w154 ?c4w154; (case kAw154 => exact rfl); (case kFw154 => exact rfl); (case kKw154 => assumption); (case k1w154 => k_asm); (case k2w154 => k_asm); (case k3w154 => k_asm); (case k4w154 => k_asm); (case k5w154 => k_asm); (case k6w154 => k_is); (case k7w154 => k_is); (case k8w154 => ktr_room); (case k9w154 => exact BindsTo.of_eq rfl); (case kBw154 => exact rfl); (case kDw154 => decide +kernel); (case c2w154 => exact rfl); (case c3w154 => exact rfl); (case c4w154 => exact rfl); k_whole))
  k_with "enter own" => (refine' code_def ?k1w155 ?k2w155 ?k3w155 ?k4w155 ?k5w155 ?kAw155 ?kFw155 ?kKw155 ?k6w155 ?k7w155 ?k8w155 ?k9w155 ?kBw155 ?_ ?c2w155 ?c3w155 ?c4w155 ?c5w155; (case kAw155 => exact rfl); (case kFw155 => exact rfl); (case kKw155 => exact rfl); (case k1w155 => k_asm); (case k2w155 => k_asm); (case k3w155 => k_asm); (case k4w155 => k_asm); (case k5w155 => k_asm); (case k6w155 => k_is); (case k7w155 => k_is); (case k8w155 => ktr_room); (case k9w155 => first | exact BindsTo.of_eq rfl | exact binds_K (by k_in) rfl (by k_is) rfl rfl rfl | fail "k_enter: no rule for these arguments"); (case c5w155 => decide); (case kBw155 => exact locs rfl); (case c2w155 => exact rfl); (case c3w155 => exact rfl); (case c4w155 => exact rfl); k_whole; intro g' L' h' FG' F' N' B' X' T'; (try dsimp only); (try k_lift B'); (try k_fold))
  k_with "call ref" => (k_here; k_dflt (first
    | (refine' call_cls ?k1w156 ?k2w156 ?k3w156 ?k4w156 ?k5w156 ?k6w156 ?_; (case k1w156 => k_asm); (case k2w156 => k_asm); (case k3w156 => k_asm); (case k4w156 => k_is); (case k5w156 => k_is); (case k6w156 => k_is); k_whole; intro x' d' h' F' N' l1 l2; (try k_lt l1); (try k_lt2 l2); (try k_sweep); walk_at "enter own")
    | (refine wpAny_call ?_; walk_at "enter own")))
  k_with "subscriptTail" => (k_here; (with_reducible show wpAny _ _ (subscriptTail _ _ (Value.ref _) (Value.int 0 _)) _ _ _); k_dflt (refine' led_tup0 ?k1w157 ?k2w157 ?k3w157 ?_; (case k1w157 => k_asm); (case k2w157 => k_mem); (case k3w157 => (first | assumption | omega)); k_whole))
  k_with "subscriptTail Name Slice ref ref" => (k_here; (with_reducible show wpAny _ _ (subscriptTail _ (PySem.Expr.Slice _ _ none _) (Value.ref _) (Value.ref _)) _ _ _); k_dflt (refine' led_tupTail ?k1w158 ?k2w158 ?k3w158 ?k4w158 ?_; (case k1w158 => k_asm); (case k2w158 => k_asm); (case k3w158 => k_mem); (case k4w158 => (first | assumption | omega)); k_whole); intro D' h' F' N' l1; (try k_lt l1); (try k_sweep))
  k_with "call ref" => ((with_reducible first | show wpAny _ _ (call (Value.ref 191) _) _ _ _ | show wpAny _ _ (call (Value.ref 198) _) _ _ _ | show wpAny _ _ (call (Value.ref 205) _) _ _ _ | show wpAny _ _ (call (Value.ref 224) _) _ _ _ | show wpAny _ _ (call (Value.ref 229) _) _ _ _ | show wpAny _ _ (call (Value.ref 243) _) _ _ _ | show wpAny _ _ (call (Value.ref 257) _) _ _ _ | show wpAny _ _ (call (Value.ref 264) _) _ _ _ | show wpAny _ _ (call (Value.ref 276) _) _ _ _ | show wpAny _ _ (call (Value.ref 283) _) _ _ _ | show wpAny _ _ (call (Value.ref 290) _) _ _ _ | show wpAny _ _ (call (Value.ref 295) _) _ _ _ | show wpAny _ _ (call (Value.ref 302) _) _ _ _ | show wpAny _ _ (call (Value.ref 309) _) _ _ _); refine halt ?_)
  k_with "eval ListComp" => refine halt ?_
  k_with "exec Assign cons ListComp" => refine halt ?_
  k_with "exec For" => refine halt ?_
  k_with "exec While" => refine halt ?_
  k_with "call type:tuple" => ((with_reducible show wpAny _ _ (call (Value.type "tuple") [Value.ref _]) _ _ _); refine halt ?_)
  k_with "binaryOp Add ref ref" => ((with_reducible show wpAny _ _ (binaryOp Operator.Add (Value.ref _) (Value.ref _)) _ _ _); refine halt ?_)
  k_with "my tabat" => first | assumption | exact ab0 (by assumption) | exact ab1 (by assumption) | (refine ab_trans (by assumption) ?_; k_tabat)
  k_with "my updF" => first | exact Fresh.nil | assumption | (refine Fresh.allLt ?_ ?_; k_tabat; k_updF) | (refine Fresh.append ?_ ?_; k_updF; k_updF)
  k_with "getMethod ref" => (k_here; (with_reducible show wpAny _ _ (getMethod (Value.ref _) (Str.ofString "get") _) _ _ _); k_dflt (refine kdg_method (knd := PySem.strKind _ _) (by k_asm) (by k_mem) (by assumption) ?_))
  k_with "call builtin:dict.get" => (k_here; k_dflt (refine kdg_get2 (knd := PySem.strKind _ _) (by k_asm) (by k_mem) (by assumption) (by assumption) (strKind_is _ _ _ _) _ rfl ?_))
  k_with "compareOp NotEq ref ref" => (k_here; k_dflt (first | (refine' led_ne_nil ?k1w170 ?k2w170 ?k3w170 ?k4w170 ?_; (case k1w170 => k_asm); (case k2w170 => k_mem); (case k3w170 => k_mem); (case k4w170 => ke_room)) | (refine' led_ne_snoc ?k1w170 ?k2w170 ?k3w170 ?k4w170 ?_; (case k1w170 => k_asm); (case k2w170 => k_mem); (case k3w170 => k_mem); (case k4w170 => ke_room))))
  k_with "compareOp Eq ref ref" => (k_here; k_dflt (first | (refine' led_eq_nil ?k1w171 ?k2w171 ?k3w171 ?k4w171 ?_; (case k1w171 => k_asm); (case k2w171 => k_mem); (case k3w171 => k_mem); (case k4w171 => ke_room)) | (refine' led_eq_cons ?k1w171 ?k2w171 ?k3w171 ?k4w171 ?_; (case k1w171 => k_asm); (case k2w171 => k_mem); (case k3w171 => k_mem); (case k4w171 => ke_room))))
  trivial
set_option maxRecDepth 100000 in
set_option maxHeartbeats 8000000 in
theorem hna_tells {w : World} {mean : ExcName → Option Value} {mg mb : Str → Option Value} {nd : List (Addr × Obj)} {v : Value} {t : Ty} (hv : NodeV w nd v t) (hsz : t.size < 10000) :
    Tell w mean mg mb 198 [v] 6 [] nd
      (fun r tl led' => led' = nd ∧ ∃ T A hv hk avs as k, r = .ref T ∧ (T, tupOf [hv, .ref A] 0) ∈ tl ∧ (A, listOf avs.toArray k) ∈ tl ∧ NodeV w nd hv (.leaf hk) ∧ NodeVs w nd avs as ∧ t = (Ty.leaf hk).on as) False [] := by
  unfold Tell
  k_fill
  intro dp un gd cn cs a ccd cl outer A₀ base h₀ L m s fr Q E B F X N hmu T hk hd hu hret hfail
  refine wpAny_call ?_
  walk_at "enter"
  intro g' L' h' FG' F' N' B' X' T'
  try dsimp only
  try k_fold
  k_steps
  refine unhalt ?_
  rename_i A _ l9 h9 F9 N9
  have hA : ∀ p ∈ fr ++ nd, p.1 ≠ A := fun p hp => Nat.ne_of_lt (l9 p hp)
  k_dflt (refine While_inv (n₀ := t.size) (fun n m₁ nw => ∃ (v' : Value) (t' : Ty) (avs : List Value) (as : List Ty) (k : Nat), m₁ (Str.ofString "node") = some v' ∧ m₁ (Str.ofString "args") = some (.ref A) ∧ nw = (A, listOf avs.toArray k) :: (fr ++ nd) ∧
      NodeV w nd v' t' ∧ NodeVs w nd avs as ∧ t = t'.on as.reverse ∧ n = t'.size ∧ avs.length + t'.size ≤ t.size) F9 N9 ⟨v, t, [], [], _, rfl, rfl, rfl, hv, NodeVs.nil, rfl, rfl, by simp⟩ ?_)
  intro n m₁ nw h10 tk10 F10 N10 hq17
  refine cps fun GX hGX => ?_
  obtain ⟨v', t', avs, as, k, hm1, hm2, hnw, hv', has, htt, hn, hle⟩ := hq17
  refine hGX ?_
  clear hGX GX
  subst hnw
  replace F10 := fr_see2 F10 hm1 hm2
  clear hm1 hm2
  cases hv' with
  | @var x d k1 k2 k hk' hh hx hdd =>
    k_steps
    rename News _ _ _ _ => N11
    rename A < _ ∧ _ => l3
    exact hret _ _ nd _ _ (by assumption) (news_sub N11 (by lcg_sub)) (Fresh.allLt (ab1 l3) (Fresh.allLt l9 Fresh.nil)) ⟨rfl, _, A, _, hk', _, _, _, rfl, List.Mem.head _, List.mem_cons_of_mem _ (List.Mem.head _), .var hh hx hdd, has.reverse, htt⟩
  | @con x d k1 k2 k hk' hh hx hdd =>
    k_steps
    rename News _ _ _ _ => N11
    rename A < _ ∧ _ => l3
    exact hret _ _ nd _ _ (by assumption) (news_sub N11 (by lcg_sub)) (Fresh.allLt (ab1 l3) (Fresh.allLt l9 Fresh.nil)) ⟨rfl, _, A, _, hk', _, _, _, rfl, List.Mem.head _, List.mem_cons_of_mem _ (List.Mem.head _), .con hh hx hdd, has.reverse, htt⟩
  | @app x d k1 k2 k3 f b tf ta hx hdd hf ha =>
    k_steps
    rename News _ _ _ _ => N11
    rename Fr _ _ _ _ => F11
    have esz : (Ty.app tf ta).size = tf.size + ta.size + 1 := rfl
    refine WhileStep.intro (n' := tf.size) F11 N11 (by omega) ⟨f, tf, avs ++ [b], as ++ [ta], _, rfl, rfl, by rw [List.push_toArray], hf, has.snoc ha, ?_, rfl, ?_⟩
    · rw [htt, List.reverse_append]; rfl
    · rw [List.length_append, List.length_singleton]; omega
end

section
/- part C_most -/
theorem kw_C_most_s_0 : True := by
  w_top off
  k_with_none
  k_with "my path" => first | with_reducible exact And.left | with_reducible exact And.right | (refine path_r ?_; k_extra "my path")
  k_with "my ne" => ((try dsimp only); first | (refine' Nat.ne_of_gt (lt_pick ?neA ?neB); (case neA => with_reducible assumption); (case neB => k_extra "my path")) | (refine' Nat.ne_of_lt (lt_pick ?neA ?neB); (case neA => with_reducible assumption); (case neB => k_extra "my path")) | exact Nat.ne_of_gt (by with_reducible assumption) | exact Nat.ne_of_lt (by with_reducible assumption) | fail)
  k_with "my om" => first | exact Nat.le_of_ble_eq_true rfl | with_reducible assumption | lia
  k_with "eval Name" => (k_here; k_dflt (first | (refine' nameX_L ?Fw172 ?vw172 ?_ ?aw172 ?bw172; (case Fw172 => k_asm); (case aw172 => rfl); (case bw172 => rfl); (case vw172 => rfl); k_whole) | (refine' nameX_C ?Nw172 ?cw172 ?mw172 ?dw172 ?_ ?aw172 ?bw172; (case aw172 => rfl); (case bw172 => rfl); (case Nw172 => k_asm); (case cw172 => rfl); (case mw172 => k_mem); (case dw172 => k_asm); k_whole) | (refine' nameX_K ?Fw172 ?Xw172 ?Tw172 ?ew172 ?_ ?aw172 ?bw172; (case Fw172 => k_asm); (case Xw172 => k_asm); (case Tw172 => k_asm); (case aw172 => rfl); (case bw172 => rfl); (case ew172 => k_is); k_whole) | (refine' nameX_B ?Fw172 ?Xw172 ?Tw172 ?ew172 ?vw172 ?nw172 ?_ ?aw172 ?bw172; (case Fw172 => k_asm); (case Xw172 => k_asm); (case Tw172 => k_asm); (case aw172 => rfl); (case bw172 => rfl); (case ew172 => k_is); (case vw172 => boot_fast); (case nw172 => decide); k_whole)))
  k_with "call builtin:isinstance" => (k_here; (with_reducible show wpAny _ _ (call _ [Value.ref _, Value.ref _]) _ _ _); k_dflt (first | (refine' isi_call ?k1w173 ?k2w173 ?k3w173 ?k4w173 ?_; (case k1w173 => k_in); (case k2w173 => k_types); (case k3w173 => k_is); (case k4w173 => intro e; cases e); k_whole) | (refine' kin_callC ?k1w173 ?k2w173 ?k3w173 ?k4w173 ?k5w173 ?k6w173 ?k7w173 ?k8w173 ?k9w173 ?_; (case k1w173 => k_in); (case k2w173 => k_inst); (case k3w173 => kin_no); (case k4w173 => k_is); (case k5w173 => k_is); (case k6w173 => k_is); (case k7w173 => k_is); (case k8w173 => k_is); (case k9w173 => k_is); k_whole)))
  k_with "getAttr ref" => (k_here; k_dflt (refine' get_own ?k1w174 ?k2w174 ?k3w174 ?k4w174 ?k5w174 ?k6w174 ?k7w174 ?k8w174 ?k9w174 ?_; (case k1w174 => k_asm); (case k2w174 => k_asm); (case k3w174 => k_inst); (case k4w174 => k_is); (case k5w174 => k_is); (case k6w174 => k_is); (case k7w174 => k_is); (case k8w174 => k_get); (case k9w174 => k_handed); k_whole))
  k_with "exec For Name Name cons nil" => refine halt ?_
  k_with "my src" => first | exact fun _ h => h | with_reducible assumption | (refine sub_t ?_; lcg_src) | (refine sub_l ?_; lcg_src) | (refine sub_r ?_; lcg_src)
  k_with "my sub" => first | exact sub_n | (refine sub_c ?_ ?_; k_mem; lcg_sub) | (refine sub_a ?_ ?_; lcg_sub; lcg_sub) | lcg_src
  k_with "my all" => first | assumption | (refine List.forall_mem_append.mpr ⟨?_, ?_⟩ <;> k_all)
  k_with "my mem" => first | with_reducible assumption | exact List.Mem.head _ | (refine List.mem_cons_of_mem _ ?_; k_mem) | (refine List.mem_append_left _ ?_; k_mem) | (refine List.mem_append_right _ ?_; k_mem)
  k_with "tell sides" => ((case k1 => k_asm); (case k2 => k_asm); (case k3 => k_asm); (case k4 => k_asm); (case k5 => k_asm); (try (case sub => lcg_sub)); (try (case hm => first | exact mu_nil | assumption | (refine mu_one ?_; k_all))); (case kk => first | exact rfl | assumption); (case kd => ktr_room); (case ku => ktr_units))
  k_with "enter" => (k_dflt (refine' code_def ?k1w181 ?k2w181 ?k3w181 ?k4w181 ?k5w181 ?kAw181 ?kFw181 ?kKw181 ?k6w181 ?k7w181 ?k8w181 ?k9w181 ?kBw181 ?_ ?c2w181 ?c3w181 ?c4w181 ?c5w181; (case kAw181 => exact rfl); (case kFw181 => exact rfl); (case kKw181 => assumption); (case k1w181 => k_asm); (case k2w181 => k_asm); (case k3w181 => k_asm); (case k4w181 => k_asm); (case k5w181 => k_asm); (case k6w181 => k_is); (case k7w181 => k_is); (case k8w181 => ktr_room); (case k9w181 => exact BindsTo.of_eq rfl); (case c5w181 => decide); (case kBw181 => exact locs rfl); (case c2w181 => exact rfl); (case c3w181 => exact rfl); (case c4w181 => exact rfl); k_whole))
  k_with "enter cells" => (k_dflt (refine' code_defC ?k1w182 ?k2w182 ?k3w182 ?k4w182 ?k5w182 ?kAw182 ?kFw182 ?kKw182 ?k6w182 ?k7w182 ?k8w182 ?k9w182 ?kBw182 ?kDw182 ?_ ?c2w182 ?c3w182 ?c4w182; (case kAw182 => exact rfl); (case kFw182 => exact rfl); (case kKw182 => assumption); (case k1w182 => k_asm); (case k2w182 => k_asm); (case k3w182 => k_asm); (case k4w182 => k_asm); (case k5w182 => k_asm); (case k6w182 => k_is); (case k7w182 => k_is); (case k8w182 => ktr_room); (case k9w182 => exact BindsTo.of_eq rfl); (case kBw182 => exact rfl); (case kDw182 => decide +kernel); (case c2w182 => exact rfl); (case c3w182 => exact rfl); (case c4w182 => exact rfl); k_whole))
  k_with "enter own" => (refine' code_def ?k1w183 ?k2w183 ?k3w183 ?k4w183 ?k5w183 ?kAw183 ?kFw183 ?kKw183 ?k6w183 ?k7w183 ?k8w183 ?k9w183 ?kBw183 ?_ ?c2w183 ?c3w183 ?c4w183 ?c5w183; (case kAw183 => exact rfl); (case kFw183 => exact rfl); (case kKw183 => exact rfl); (case k1w183 => k_asm); (case k2w183 => k_asm); (case k3w183 => k_asm); (case k4w183 => k_asm); (case k5w183 => k_asm); (case k6w183 => k_is); (case k7w183 => k_is); (case k8w183 => ktr_room); (case k9w183 => first | exact BindsTo.of_eq rfl | exact binds_K (by k_in) rfl (by k_is) rfl rfl rfl | fail "k_enter: no rule for these arguments"); (case c5w183 => decide); (case kBw183 => exact locs rfl); (case c2w183 => exact rfl); (case c3w183 => exact rfl); (case c4w183 => exact rfl); k_whole; intro g' L' h' FG' F' N' B' X' T'; (try dsimp only); (try k_lift B'); (try k_fold))
  k_with "call ref" => (k_here; k_dflt (first
    | (refine' call_cls ?k1w184 ?k2w184 ?k3w184 ?k4w184 ?k5w184 ?k6w184 ?_; (case k1w184 => k_asm); (case k2w184 => k_asm); (case k3w184 => k_asm); (case k4w184 => k_is); (case k5w184 => k_is); (case k6w184 => k_is); k_whole; intro x' d' h' F' N' l1 l2; (try k_lt l1); (try k_lt2 l2); (try k_sweep); walk_at "enter own")
    | (refine wpAny_call ?_; walk_at "enter own")))
  k_with "subscriptTail" => (k_here; (with_reducible show wpAny _ _ (subscriptTail _ _ (Value.ref _) (Value.int 0 _)) _ _ _); k_dflt (refine' led_tup0 ?k1w185 ?k2w185 ?k3w185 ?_; (case k1w185 => k_asm); (case k2w185 => k_mem); (case k3w185 => (first | assumption | omega)); k_whole))
  k_with "subscriptTail Name Slice ref ref" => (k_here; (with_reducible show wpAny _ _ (subscriptTail _ (PySem.Expr.Slice _ _ none _) (Value.ref _) (Value.ref _)) _ _ _); k_dflt (refine' led_tupTail ?k1w186 ?k2w186 ?k3w186 ?k4w186 ?_; (case k1w186 => k_asm); (case k2w186 => k_asm); (case k3w186 => k_mem); (case k4w186 => (first | assumption | omega)); k_whole); intro D' h' F' N' l1; (try k_lt l1); (try k_sweep))
  k_with "call ref" => ((with_reducible first | show wpAny _ _ (call (Value.ref 191) _) _ _ _ | show wpAny _ _ (call (Value.ref 198) _) _ _ _ | show wpAny _ _ (call (Value.ref 205) _) _ _ _ | show wpAny _ _ (call (Value.ref 224) _) _ _ _ | show wpAny _ _ (call (Value.ref 229) _) _ _ _ | show wpAny _ _ (call (Value.ref 243) _) _ _ _ | show wpAny _ _ (call (Value.ref 257) _) _ _ _ | show wpAny _ _ (call (Value.ref 264) _) _ _ _ | show wpAny _ _ (call (Value.ref 276) _) _ _ _ | show wpAny _ _ (call (Value.ref 283) _) _ _ _ | show wpAny _ _ (call (Value.ref 290) _) _ _ _ | show wpAny _ _ (call (Value.ref 295) _) _ _ _ | show wpAny _ _ (call (Value.ref 302) _) _ _ _ | show wpAny _ _ (call (Value.ref 309) _) _ _ _); refine halt ?_)
  k_with "eval ListComp" => refine halt ?_
  k_with "exec Assign cons ListComp" => refine halt ?_
  k_with "exec For" => refine halt ?_
  k_with "exec While" => refine halt ?_
  k_with "call type:tuple" => ((with_reducible show wpAny _ _ (call (Value.type "tuple") [Value.ref _]) _ _ _); refine halt ?_)
  k_with "binaryOp Add ref ref" => ((with_reducible show wpAny _ _ (binaryOp Operator.Add (Value.ref _) (Value.ref _)) _ _ _); refine halt ?_)
  k_with "my tabat" => first | assumption | exact ab0 (by assumption) | exact ab1 (by assumption) | (refine ab_trans (by assumption) ?_; k_tabat)
  k_with "my updF" => first | exact Fresh.nil | assumption | (refine Fresh.allLt ?_ ?_; k_tabat; k_updF) | (refine Fresh.append ?_ ?_; k_updF; k_updF)
  k_with "getMethod ref" => (k_here; (with_reducible show wpAny _ _ (getMethod (Value.ref _) (Str.ofString "get") _) _ _ _); k_dflt (refine kdg_method (knd := PySem.strKind _ _) (by k_asm) (by k_mem) (by assumption) ?_))
  k_with "call builtin:dict.get" => (k_here; k_dflt (refine kdg_get2 (knd := PySem.strKind _ _) (by k_asm) (by k_mem) (by assumption) (by assumption) (strKind_is _ _ _ _) _ rfl ?_))
  k_with "compareOp NotEq ref ref" => (k_here; k_dflt (first | (refine' led_ne_nil ?k1w198 ?k2w198 ?k3w198 ?k4w198 ?_; (case k1w198 => k_asm); (case k2w198 => k_mem); (case k3w198 => k_mem); (case k4w198 => ke_room)) | (refine' led_ne_snoc ?k1w198 ?k2w198 ?k3w198 ?k4w198 ?_; (case k1w198 => k_asm); (case k2w198 => k_mem); (case k3w198 => k_mem); (case k4w198 => ke_room))))
  k_with "compareOp Eq ref ref" => (k_here; k_dflt (first | (refine' led_eq_nil ?k1w199 ?k2w199 ?k3w199 ?k4w199 ?_; (case k1w199 => k_asm); (case k2w199 => k_mem); (case k3w199 => k_mem); (case k4w199 => ke_room)) | (refine' led_eq_cons ?k1w199 ?k2w199 ?k3w199 ?k4w199 ?_; (case k1w199 => k_asm); (case k2w199 => k_mem); (case k3w199 => k_mem); (case k4w199 => ke_room))))
  trivial
theorem kw_C_most_0 : True := by
  k_with "call builtin:list.pop" => (k_here; k_dflt (refine' led_pop ?k1w200 ?k2w200 ?k3w200 ?k4w200 ?_; (case k1w200 => k_asm); (case k2w200 => k_asm); (case k3w200 => k_upd); (case k4w200 => (first | assumption | omega)); k_whole); intro h' F' N')
  k_with "call builtin:list.extend" => (k_here; k_dflt (refine' led_extend2 ?k1w201 ?k2w201 ?k3w201 ?k4w201 ?k5w201 ?_; (case k1w201 => k_asm); (case k2w201 => k_asm); (case k3w201 => k_mem); (case k4w201 => k_upd); (case k5w201 => (first | assumption | omega)); k_whole); intro h' F' N')
  trivial
noncomputable def sizes : List Ty → Nat
  | [] => 0
  | t :: ts => t.size + sizes ts
theorem sizes_append : ∀ (a b : List Ty), sizes (a ++ b) = sizes a + sizes b
  | [], b => by simp [sizes]
  | t :: a, b => by simp [sizes, sizes_append a b, Nat.add_assoc]
theorem len_sizes : ∀ a : List Ty, a.length ≤ sizes a
  | [] => Nat.le_refl _
  | t :: a => by have := len_sizes a; have := t.size_pos; simp [sizes]; omega
set_option maxRecDepth 100000 in
set_option maxHeartbeats 8000000 in
theorem most_tells {w : World} {mean : ExcName → Option Value} {mg mb : Str → Option Value} {nd : List (Addr × Obj)} {v : Value} {t : Ty} (hv : NodeV w nd v t) (hsz : t.size ≤ 4000) :
    Tell w mean mg mb 205 [v] 6 [] nd
      (fun r tl led' => led' = nd ∧ r = .bool false) False [] := by
  unfold Tell
  k_fill
  intro dp un gd cn cs a ccd cl outer A₀ base h₀ L m s fr Q E B F X N hmu T hk hd hu hret hfail
  refine wpAny_call ?_
  walk_at "enter"
  intro g' L' h' FG' F' N' B' X' T'
  try dsimp only
  try k_fold
  k_steps
  refine unhalt ?_
  rename_i tk9 A _ l9 D9 _ _ _ _ h9 F9 N9
  have hA : ∀ p ∈ fr ++ nd, p.1 ≠ A := fun p hp => Nat.ne_of_lt (l9 p hp)
  k_dflt (refine While_inv (n₀ := t.size) (fun n m₁ nw => ∃ (vs : List Value) (ts : List Ty) (k c : Nat) (tc : Tok), m₁ (Str.ofString "many") = some (.int (c : Int) tc) ∧ m₁ (Str.ofString "left") = some (.ref A) ∧ nw = (A, listOf vs.toArray k) :: (fr ++ nd) ∧
      NodeVs w nd vs ts ∧ c + sizes ts ≤ t.size ∧ n = sizes ts) F9 (news_sub N9 (by lcg_sub)) ⟨[v], [t], _, 0, tk9, rfl, rfl, rfl, NodeVs.nil.cons hv, by simp [sizes], by simp [sizes]⟩ ?_)
  intro n m₁ nw h10 tk10 F10 N10 hq18
  refine cps fun GX hGX => ?_
  obtain ⟨vs, ts, k, c, tc, hm1, hm2, hnw, hvs, hle, hn⟩ := hq18
  refine hGX ?_
  clear hGX GX
  subst hnw
  replace F10 := fr_see2 F10 hm1 hm2
  clear hm1 hm2
  rcases List.eq_nil_or_concat vs with rfl | ⟨vs1, v1, hvs1⟩
  · k_steps
    rename News _ _ _ _ => N11
    have e : decide ((4000 : Int) < (c : Int)) = false := decide_eq_false (by omega)
    rw [e]
    exact hret _ [_] nd _ _ (by assumption) (news_sub N11 (by lcg_sub)) (Fresh.allLt l9 Fresh.nil) ⟨rfl, rfl⟩
  · rw [List.concat_eq_append] at hvs1
    subst hvs1
    have hl0 := len_sizes ts
    have hl1 := hvs.1
    have hl2 : vs1.length < 10000 := by rw [List.length_append, List.length_singleton] at hl1; omega
    obtain ⟨ts1, t1, rfl⟩ : ∃ ts1 t1, ts = ts1 ++ [t1] := by
      rcases List.eq_nil_or_concat ts with rfl | ⟨a, b, e⟩
      · simp at hl1
      · exact ⟨a, b, by rw [← List.concat_eq_append]; exact e⟩
    have hl3 : vs1.length = ts1.length := by simpa using hl1
    have hv1 : NodeV w nd v1 t1 := hvs.2 vs1.length v1 t1 (by simp) (by rw [hl3]; simp)
    have hvs1 : NodeVs w nd vs1 ts1 := ⟨hl3, fun i v t e1 e2 => hvs.2 i v t (by rw [List.getElem?_append_left (List.getElem?_eq_some_iff.mp e1).1]; exact e1) (by rw [List.getElem?_append_left (List.getElem?_eq_some_iff.mp e2).1]; exact e2)⟩
    rw [sizes_append] at hle hn
    have e1 : sizes [t1] = t1.size := rfl
    have ep := t1.size_pos
    cases hv1 with
    | @var x d k1 k2 kk hk' hh hx hdd =>
      k_steps
      rename News _ _ _ _ => N11
      rename Fr _ _ _ _ => F11
      exact WhileStep.intro (n' := sizes ts1) F11 (news_sub N11 (by lcg_sub)) (by omega) ⟨vs1, ts1, _, c + 1, _, rfl, rfl, rfl, hvs1, by omega, rfl⟩
    | @con x d k1 k2 kk hk' hh hx hdd =>
      k_steps
      rename News _ _ _ _ => N11
      rename Fr _ _ _ _ => F11
      exact WhileStep.intro (n' := sizes ts1) F11 (news_sub N11 (by lcg_sub)) (by omega) ⟨vs1, ts1, _, c + 1, _, rfl, rfl, rfl, hvs1, by omega, rfl⟩
    | @app x d k1 k2 k3 f b tf ta hx hdd hf ha =>
      k_steps
      rename News _ _ _ _ => N11
      rename Fr _ _ _ _ => F11
      have e2 : (Ty.app tf ta).size = tf.size + ta.size + 1 := rfl
      have e3 : sizes (ts1 ++ [tf, ta]) = sizes ts1 + (tf.size + (ta.size + 0)) := by rw [sizes_append]; rfl
      exact WhileStep.intro (n' := sizes (ts1 ++ [tf, ta])) F11 (news_sub N11 (by lcg_sub)) (by omega) ⟨vs1 ++ [f, b], ts1 ++ [tf, ta], _, c + 1, _, rfl, rfl, rfl, hvs1.append (NodeVs.cons hf (NodeVs.nil.cons ha)), by omega, rfl⟩
end

section
/- part C_behind -/
theorem kw_C_behind_s_0 : True := by
  w_top off
  k_with_none
  k_with "my path" => first | with_reducible exact And.left | with_reducible exact And.right | (refine path_r ?_; k_extra "my path")
  k_with "my ne" => ((try dsimp only); first | (refine' Nat.ne_of_gt (lt_pick ?neA ?neB); (case neA => with_reducible assumption); (case neB => k_extra "my path")) | (refine' Nat.ne_of_lt (lt_pick ?neA ?neB); (case neA => with_reducible assumption); (case neB => k_extra "my path")) | exact Nat.ne_of_gt (by with_reducible assumption) | exact Nat.ne_of_lt (by with_reducible assumption) | fail)
  k_with "my om" => first | exact Nat.le_of_ble_eq_true rfl | with_reducible assumption | lia
  k_with "eval Name" => (k_here; k_dflt (first | (refine' nameX_L ?Fw202 ?vw202 ?_ ?aw202 ?bw202; (case Fw202 => k_asm); (case aw202 => rfl); (case bw202 => rfl); (case vw202 => rfl); k_whole) | (refine' nameX_C ?Nw202 ?cw202 ?mw202 ?dw202 ?_ ?aw202 ?bw202; (case aw202 => rfl); (case bw202 => rfl); (case Nw202 => k_asm); (case cw202 => rfl); (case mw202 => k_mem); (case dw202 => k_asm); k_whole) | (refine' nameX_K ?Fw202 ?Xw202 ?Tw202 ?ew202 ?_ ?aw202 ?bw202; (case Fw202 => k_asm); (case Xw202 => k_asm); (case Tw202 => k_asm); (case aw202 => rfl); (case bw202 => rfl); (case ew202 => k_is); k_whole) | (refine' nameX_B ?Fw202 ?Xw202 ?Tw202 ?ew202 ?vw202 ?nw202 ?_ ?aw202 ?bw202; (case Fw202 => k_asm); (case Xw202 => k_asm); (case Tw202 => k_asm); (case aw202 => rfl); (case bw202 => rfl); (case ew202 => k_is); (case vw202 => boot_fast); (case nw202 => decide); k_whole)))
  k_with "call builtin:isinstance" => (k_here; (with_reducible show wpAny _ _ (call _ [Value.ref _, Value.ref _]) _ _ _); k_dflt (first | (refine' isi_call ?k1w203 ?k2w203 ?k3w203 ?k4w203 ?_; (case k1w203 => k_in); (case k2w203 => k_types); (case k3w203 => k_is); (case k4w203 => intro e; cases e); k_whole) | (refine' kin_callC ?k1w203 ?k2w203 ?k3w203 ?k4w203 ?k5w203 ?k6w203 ?k7w203 ?k8w203 ?k9w203 ?_; (case k1w203 => k_in); (case k2w203 => k_inst); (case k3w203 => kin_no); (case k4w203 => k_is); (case k5w203 => k_is); (case k6w203 => k_is); (case k7w203 => k_is); (case k8w203 => k_is); (case k9w203 => k_is); k_whole)))
  k_with "getAttr ref" => (k_here; k_dflt (refine' get_own ?k1w204 ?k2w204 ?k3w204 ?k4w204 ?k5w204 ?k6w204 ?k7w204 ?k8w204 ?k9w204 ?_; (case k1w204 => k_asm); (case k2w204 => k_asm); (case k3w204 => k_inst); (case k4w204 => k_is); (case k5w204 => k_is); (case k6w204 => k_is); (case k7w204 => k_is); (case k8w204 => k_get); (case k9w204 => k_handed); k_whole))
  k_with "exec For Name Name cons nil" => refine halt ?_
  k_with "my src" => first | exact fun _ h => h | with_reducible assumption | (refine sub_t ?_; lcg_src) | (refine sub_l ?_; lcg_src) | (refine sub_r ?_; lcg_src)
  k_with "my sub" => first | exact sub_n | (refine sub_c ?_ ?_; k_mem; lcg_sub) | (refine sub_a ?_ ?_; lcg_sub; lcg_sub) | lcg_src
  k_with "my all" => first | assumption | (refine List.forall_mem_append.mpr ⟨?_, ?_⟩ <;> k_all)
  k_with "my mem" => first | with_reducible assumption | exact List.Mem.head _ | (refine List.mem_cons_of_mem _ ?_; k_mem) | (refine List.mem_append_left _ ?_; k_mem) | (refine List.mem_append_right _ ?_; k_mem)
  k_with "tell sides" => ((case k1 => k_asm); (case k2 => k_asm); (case k3 => k_asm); (case k4 => k_asm); (case k5 => k_asm); (try (case sub => lcg_sub)); (try (case hm => first | exact mu_nil | assumption | (refine mu_one ?_; k_all))); (case kk => first | exact rfl | assumption); (case kd => ktr_room); (case ku => ktr_units))
  k_with "enter" => (k_dflt (refine' code_def ?k1w211 ?k2w211 ?k3w211 ?k4w211 ?k5w211 ?kAw211 ?kFw211 ?kKw211 ?k6w211 ?k7w211 ?k8w211 ?k9w211 ?kBw211 ?_ ?c2w211 ?c3w211 ?c4w211 ?c5w211; (case kAw211 => exact rfl); (case kFw211 => exact rfl); (case kKw211 => assumption); (case k1w211 => k_asm); (case k2w211 => k_asm); (case k3w211 => k_asm); (case k4w211 => k_asm); (case k5w211 => k_asm); (case k6w211 => k_is); (case k7w211 => k_is); (case k8w211 => ktr_room); (case k9w211 => exact BindsTo.of_eq rfl); (case c5w211 => decide); (case kBw211 => exact locs rfl); (case c2w211 => exact rfl); (case c3w211 => exact rfl); (case c4w211 => exact rfl); k_whole))
  k_with "enter cells" => (k_dflt (refine' code_defC ?k1w212 ?k2w212 ?k3w212 ?k4w212 ?k5w212 ?kAw212 ?kFw212 ?kKw212 ?k6w212 ?k7w212 ?k8w212 ?k9w212 ?kBw212 ?kDw212 ?_ ?c2w212 ?c3w212 ?c4w212; (case kAw212 => exact rfl); (case kFw212 => exact rfl); (case kKw212 => assumption); (case k1w212 => k_asm); (case k2w212 => k_asm); (case k3w212 => k_asm); (case k4w212 => k_asm); (case k5w212 => k_asm); (case k6w212 => k_is); (case k7w212 => k_is); (case k8w212 => ktr_room); (case k9w212 => exact BindsTo.of_eq rfl); (case kBw212 => exact rfl); (case kDw212 => decide +kernel); (case c2w212 => exact rfl); (case c3w212 => exact rfl); (case c4w212 => exact rfl); k_whole))
  k_with "enter own" => (refine' code_def ?k1w213 ?k2w213 ?k3w213 ?k4w213 ?k5w213 ?kAw213 ?kFw213 ?kKw213 ?k6w213 ?k7w213 ?k8w213 ?k9w213 ?kBw213 ?_ ?c2w213 ?c3w213 ?c4w213 ?c5w213; (case kAw213 => exact rfl); (case kFw213 => exact rfl); (case kKw213 => exact rfl); (case k1w213 => k_asm); (case k2w213 => k_asm); (case k3w213 => k_asm); (case k4w213 => k_asm); (case k5w213 => k_asm); (case k6w213 => k_is); (case k7w213 => k_is); (case k8w213 => ktr_room); (case k9w213 => first | exact BindsTo.of_eq rfl | exact binds_K (by k_in) rfl (by k_is) rfl rfl rfl | fail "k_enter: no rule for these arguments"); (case c5w213 => decide); (case kBw213 => exact locs rfl); (case c2w213 => exact rfl); (case c3w213 => exact rfl); (case c4w213 => exact rfl); k_whole; intro g' L' h' FG' F' N' B' X' T'; (try dsimp only); (try k_lift B'); (try k_fold))
  k_with "call ref" => (k_here; k_dflt (first
    | (refine' call_cls ?k1w214 ?k2w214 ?k3w214 ?k4w214 ?k5w214 ?k6w214 ?_; (case k1w214 => k_asm); (case k2w214 => k_asm); (case k3w214 => k_asm); (case k4w214 => k_is); (case k5w214 => k_is); (case k6w214 => k_is); k_whole; intro x' d' h' F' N' l1 l2; (try k_lt l1); (try k_lt2 l2); (try k_sweep); walk_at "enter own")
    | (refine wpAny_call ?_; walk_at "enter own")))
  k_with "subscriptTail" => (k_here; (with_reducible show wpAny _ _ (subscriptTail _ _ (Value.ref _) (Value.int 0 _)) _ _ _); k_dflt (refine' led_tup0 ?k1w215 ?k2w215 ?k3w215 ?_; (case k1w215 => k_asm); (case k2w215 => k_mem); (case k3w215 => (first | assumption | omega)); k_whole))
  k_with "subscriptTail Name Slice ref ref" => (k_here; (with_reducible show wpAny _ _ (subscriptTail _ (PySem.Expr.Slice _ _ none _) (Value.ref _) (Value.ref _)) _ _ _); k_dflt (refine' led_tupTail ?k1w216 ?k2w216 ?k3w216 ?k4w216 ?_; (case k1w216 => k_asm); (case k2w216 => k_asm); (case k3w216 => k_mem); (case k4w216 => (first | assumption | omega)); k_whole); intro D' h' F' N' l1; (try k_lt l1); (try k_sweep))
  k_with "call ref" => ((with_reducible first | show wpAny _ _ (call (Value.ref 191) _) _ _ _ | show wpAny _ _ (call (Value.ref 198) _) _ _ _ | show wpAny _ _ (call (Value.ref 205) _) _ _ _ | show wpAny _ _ (call (Value.ref 224) _) _ _ _ | show wpAny _ _ (call (Value.ref 229) _) _ _ _ | show wpAny _ _ (call (Value.ref 243) _) _ _ _ | show wpAny _ _ (call (Value.ref 257) _) _ _ _ | show wpAny _ _ (call (Value.ref 264) _) _ _ _ | show wpAny _ _ (call (Value.ref 276) _) _ _ _ | show wpAny _ _ (call (Value.ref 283) _) _ _ _ | show wpAny _ _ (call (Value.ref 290) _) _ _ _ | show wpAny _ _ (call (Value.ref 295) _) _ _ _ | show wpAny _ _ (call (Value.ref 302) _) _ _ _ | show wpAny _ _ (call (Value.ref 309) _) _ _ _); refine halt ?_)
  k_with "eval ListComp" => refine halt ?_
  k_with "exec Assign cons ListComp" => refine halt ?_
  k_with "exec For" => refine halt ?_
  k_with "exec While" => refine halt ?_
  k_with "call type:tuple" => ((with_reducible show wpAny _ _ (call (Value.type "tuple") [Value.ref _]) _ _ _); refine halt ?_)
  k_with "binaryOp Add ref ref" => ((with_reducible show wpAny _ _ (binaryOp Operator.Add (Value.ref _) (Value.ref _)) _ _ _); refine halt ?_)
  k_with "my tabat" => first | assumption | exact ab0 (by assumption) | exact ab1 (by assumption) | (refine ab_trans (by assumption) ?_; k_tabat)
  k_with "my updF" => first | exact Fresh.nil | assumption | (refine Fresh.allLt ?_ ?_; k_tabat; k_updF) | (refine Fresh.append ?_ ?_; k_updF; k_updF)
  k_with "getMethod ref" => (k_here; (with_reducible show wpAny _ _ (getMethod (Value.ref _) (Str.ofString "get") _) _ _ _); k_dflt (refine kdg_method (knd := PySem.strKind _ _) (by k_asm) (by k_mem) (by assumption) ?_))
  k_with "call builtin:dict.get" => (k_here; k_dflt (refine kdg_get2 (knd := PySem.strKind _ _) (by k_asm) (by k_mem) (by assumption) (by assumption) (strKind_is _ _ _ _) _ rfl ?_))
  k_with "compareOp NotEq ref ref" => (k_here; k_dflt (first | (refine' led_ne_nil ?k1w228 ?k2w228 ?k3w228 ?k4w228 ?_; (case k1w228 => k_asm); (case k2w228 => k_mem); (case k3w228 => k_mem); (case k4w228 => ke_room)) | (refine' led_ne_snoc ?k1w228 ?k2w228 ?k3w228 ?k4w228 ?_; (case k1w228 => k_asm); (case k2w228 => k_mem); (case k3w228 => k_mem); (case k4w228 => ke_room))))
  k_with "compareOp Eq ref ref" => (k_here; k_dflt (first | (refine' led_eq_nil ?k1w229 ?k2w229 ?k3w229 ?k4w229 ?_; (case k1w229 => k_asm); (case k2w229 => k_mem); (case k3w229 => k_mem); (case k4w229 => ke_room)) | (refine' led_eq_cons ?k1w229 ?k2w229 ?k3w229 ?k4w229 ?_; (case k1w229 => k_asm); (case k2w229 => k_mem); (case k3w229 => k_mem); (case k4w229 => ke_room))))
  trivial
set_option maxRecDepth 100000 in
set_option maxHeartbeats 8000000 in
theorem behind_tells {w : World} {mean : ExcName → Option Value} {mg mb : Str → Option Value} {nd : List (Addr × Obj)} {v : Value} {t : Ty} {ma : Addr} {mv : List Value} {ms : List Ty} {k : Nat} (hv : TyV nd v t) (hm : (ma, listOf mv.toArray k) ∈ nd) (hms : TyVs nd mv ms) (hsz : t.wid < 5000) (hsz2 : ms.length < 4000) :
    Tell w mean mg mb 290 [v, .ref ma] 6 [] nd
      (fun r tl led' => led' = nd ∧ TyV (tl ++ nd) r (t.on ms)) False [] := by
  have hlen := hms.1
  cases mv with
  | nil =>
    cases ms with
    | cons => simp at hlen
    | nil =>
      unfold Tell
      k_fill
      intro dp un gd cn cs a ccd cl outer A₀ base h₀ L m s fr Q E B F X N hmu T hk hd hu hret hfail
      refine wpAny_call ?_
      walk_at "enter"
      intro g' L' h' FG' F' N' B' X' T'
      try dsimp only
      try k_fold
      k_steps
      rename News _ _ _ _ => N9
      exact hret _ [] nd _ _ (by assumption) (news_sub N9 (by lcg_sub)) Fresh.nil ⟨rfl, hv⟩
  | cons m1 mv =>
    have hmne : ms ≠ [] := fun e => by subst e; simp at hlen
    have hszA : (m1 :: mv).toArray.size ≤ 16384 := by rw [List.size_toArray]; omega
    unfold Tell
    k_fill
    intro dp un gd cn cs a ccd cl outer A₀ base h₀ L m s fr Q E B F X N hmu T hk hd hu hret hfail
    refine wpAny_call ?_
    walk_at "enter"
    intro g' L' h' FG' F' N' B' X' T'
    try dsimp only
    try k_fold
    cases hv with
    | @leaf h k1 =>
      k_steps
      refine unhalt ?_
      rename News _ _ _ _ => N9
      rename Fr _ _ _ _ => F9
      refine kde_tupleOf (zs := m1 :: mv) F9 N9 (N9.isList (by k_mem)) hszA rfl fun T1 h13 F13 N13 l13 => ?_
      try k_fold
      k_steps
      refine unhalt ?_
      refine led_addTup F13 N13 (vs := [.str h k1]) (n := 0) (k := 0) (by k_mem) List.mem_cons_self (List.cons_ne_nil _ _) (List.cons_ne_nil _ _) (by rw [List.length_singleton]; omega) fun T2 h14 F14 N14 l14 => ?_
      try k_fold
      k_steps
      rename News _ _ _ _ => N15
      exact hret _ [(T2, _)] nd _ _ (by assumption) (news_sub N15 (by lcg_sub)) (Fresh.allLt (ab2 l14 (by lcg_sub)) Fresh.nil)
        ⟨rfl, TyV.app (List.Mem.head _) hmne hlen (hms.mono (by lcg_sub)).2 rfl⟩
    | @app at' hh kh vs as nn _ hm' hne hl hts ht =>
      have hs1 := Ty.wid_on as (.leaf hh)
      rw [← ht] at hs1
      have hs2 : (Ty.leaf hh).wid = 0 := rfl
      k_steps
      refine unhalt ?_
      rename News _ _ _ _ => N9
      rename Fr _ _ _ _ => F9
      refine kde_tupleOf (zs := m1 :: mv) F9 N9 (N9.isList (by k_mem)) hszA rfl fun T1 h13 F13 N13 l13 => ?_
      try k_fold
      k_steps
      refine unhalt ?_
      refine led_addTup F13 N13 (vs := .str hh kh :: vs) (n := nn) (k := 0) (by k_mem) List.mem_cons_self (List.cons_ne_nil _ _) (List.cons_ne_nil _ _) (by rw [List.length_cons]; omega) fun T2 h14 F14 N14 l14 => ?_
      try k_fold
      k_steps
      rename News _ _ _ _ => N15
      exact hret _ [(T2, _)] nd _ _ (by assumption) (news_sub N15 (by lcg_sub)) (Fresh.allLt (ab2 l14 (by lcg_sub)) Fresh.nil)
        ⟨rfl, TyV.app (List.Mem.head _) (by simp [hne]) (by rw [List.length_append, List.length_append, hl, hlen]) ((TyVs.append (⟨hl, hts⟩ : TyVs nd vs as) hms).mono (by lcg_sub)).2 (by rw [ht, Ty.on_append])⟩
end

section
/- part C_seen -/
theorem kw_C_seen_s_0 : True := by
  w_top off
  k_with_none
  k_with "my path" => first | with_reducible exact And.left | with_reducible exact And.right | (refine path_r ?_; k_extra "my path")
  k_with "my ne" => ((try dsimp only); first | (refine' Nat.ne_of_gt (lt_pick ?neA ?neB); (case neA => with_reducible assumption); (case neB => k_extra "my path")) | (refine' Nat.ne_of_lt (lt_pick ?neA ?neB); (case neA => with_reducible assumption); (case neB => k_extra "my path")) | exact Nat.ne_of_gt (by with_reducible assumption) | exact Nat.ne_of_lt (by with_reducible assumption) | fail)
  k_with "my om" => first | exact Nat.le_of_ble_eq_true rfl | with_reducible assumption | lia
  k_with "eval Name" => (k_here; k_dflt (first | (refine' nameX_L ?Fw230 ?vw230 ?_ ?aw230 ?bw230; (case Fw230 => k_asm); (case aw230 => rfl); (case bw230 => rfl); (case vw230 => rfl); k_whole) | (refine' nameX_C ?Nw230 ?cw230 ?mw230 ?dw230 ?_ ?aw230 ?bw230; (case aw230 => rfl); (case bw230 => rfl); (case Nw230 => k_asm); (case cw230 => rfl); (case mw230 => k_mem); (case dw230 => k_asm); k_whole) | (refine' nameX_K ?Fw230 ?Xw230 ?Tw230 ?ew230 ?_ ?aw230 ?bw230; (case Fw230 => k_asm); (case Xw230 => k_asm); (case Tw230 => k_asm); (case aw230 => rfl); (case bw230 => rfl); (case ew230 => k_is); k_whole) | (refine' nameX_B ?Fw230 ?Xw230 ?Tw230 ?ew230 ?vw230 ?nw230 ?_ ?aw230 ?bw230; (case Fw230 => k_asm); (case Xw230 => k_asm); (case Tw230 => k_asm); (case aw230 => rfl); (case bw230 => rfl); (case ew230 => k_is); (case vw230 => boot_fast); (case nw230 => decide); k_whole)))
  k_with "call builtin:isinstance" => (k_here; (with_reducible show wpAny _ _ (call _ [Value.ref _, Value.ref _]) _ _ _); k_dflt (first | (refine' isi_call ?k1w231 ?k2w231 ?k3w231 ?k4w231 ?_; (case k1w231 => k_in); (case k2w231 => k_types); (case k3w231 => k_is); (case k4w231 => intro e; cases e); k_whole) | (refine' kin_callC ?k1w231 ?k2w231 ?k3w231 ?k4w231 ?k5w231 ?k6w231 ?k7w231 ?k8w231 ?k9w231 ?_; (case k1w231 => k_in); (case k2w231 => k_inst); (case k3w231 => kin_no); (case k4w231 => k_is); (case k5w231 => k_is); (case k6w231 => k_is); (case k7w231 => k_is); (case k8w231 => k_is); (case k9w231 => k_is); k_whole)))
  k_with "getAttr ref" => (k_here; k_dflt (refine' get_own ?k1w232 ?k2w232 ?k3w232 ?k4w232 ?k5w232 ?k6w232 ?k7w232 ?k8w232 ?k9w232 ?_; (case k1w232 => k_asm); (case k2w232 => k_asm); (case k3w232 => k_inst); (case k4w232 => k_is); (case k5w232 => k_is); (case k6w232 => k_is); (case k7w232 => k_is); (case k8w232 => k_get); (case k9w232 => k_handed); k_whole))
  k_with "exec For Name Name cons nil" => refine halt ?_
  k_with "my src" => first | exact fun _ h => h | with_reducible assumption | (refine sub_t ?_; lcg_src) | (refine sub_l ?_; lcg_src) | (refine sub_r ?_; lcg_src)
  k_with "my sub" => first | exact sub_n | (refine sub_c ?_ ?_; k_mem; lcg_sub) | (refine sub_a ?_ ?_; lcg_sub; lcg_sub) | lcg_src
  k_with "my all" => first | assumption | (refine List.forall_mem_append.mpr ⟨?_, ?_⟩ <;> k_all)
  k_with "my mem" => first | with_reducible assumption | exact List.Mem.head _ | (refine List.mem_cons_of_mem _ ?_; k_mem) | (refine List.mem_append_left _ ?_; k_mem) | (refine List.mem_append_right _ ?_; k_mem)
  k_with "tell sides" => ((case k1 => k_asm); (case k2 => k_asm); (case k3 => k_asm); (case k4 => k_asm); (case k5 => k_asm); (try (case sub => lcg_sub)); (try (case hm => first | exact mu_nil | assumption | (refine mu_one ?_; k_all))); (case kk => first | exact rfl | assumption); (case kd => ktr_room); (case ku => ktr_units))
  k_with "enter" => (k_dflt (refine' code_def ?k1w239 ?k2w239 ?k3w239 ?k4w239 ?k5w239 ?kAw239 ?kFw239 ?kKw239 ?k6w239 ?k7w239 ?k8w239 ?k9w239 ?kBw239 ?_ ?c2w239 ?c3w239 ?c4w239 ?c5w239; (case kAw239 => exact rfl); (case kFw239 => exact rfl); (case kKw239 => assumption); (case k1w239 => k_asm); (case k2w239 => k_asm); (case k3w239 => k_asm); (case k4w239 => k_asm); (case k5w239 => k_asm); (case k6w239 => k_is); (case k7w239 => k_is); (case k8w239 => ktr_room); (case k9w239 => exact BindsTo.of_eq rfl); (case c5w239 => decide); (case kBw239 => exact locs rfl); (case c2w239 => exact rfl); (case c3w239 => exact rfl); (case c4w239 => exact rfl); k_whole))
  k_with "enter cells" => (k_dflt (refine' code_defC ?k1w240 ?k2w240 ?k3w240 ?k4w240 ?k5w240 ?kAw240 ?kFw240 ?kKw240 ?k6w240 ?k7w240 ?k8w240 ?k9w240 ?kBw240 ?kDw240 ?_ ?c2w240 ?c3w240 ?c4w240; (case kAw240 => exact rfl); (case kFw240 => exact rfl); (case kKw240 => assumption); (case k1w240 => k_asm); (case k2w240 => k_asm); (case k3w240 => k_asm); (case k4w240 => k_asm); (case k5w240 => k_asm); (case k6w240 => k_is); (case k7w240 => k_is); (case k8w240 => ktr_room); (case k9w240 => exact BindsTo.of_eq rfl); (case kBw240 => exact rfl); (case kDw240 => decide +kernel); (case c2w240 => exact rfl); (case c3w240 => exact rfl); (case c4w240 => exact rfl); k_whole))
  k_with "enter own" => (refine' code_def ?k1w241 ?k2w241 ?k3w241 ?k4w241 ?k5w241 ?kAw241 ?kFw241 ?kKw241 ?k6w241 ?k7w241 ?k8w241 ?k9w241 ?kBw241 ?_ ?c2w241 ?c3w241 ?c4w241 ?c5w241; (case kAw241 => exact rfl); (case kFw241 => exact rfl); (case kKw241 => exact rfl); (case k1w241 => k_asm); (case k2w241 => k_asm); (case k3w241 => k_asm); (case k4w241 => k_asm); (case k5w241 => k_asm); (case k6w241 => k_is); (case k7w241 => k_is); (case k8w241 => ktr_room); (case k9w241 => first | exact BindsTo.of_eq rfl | exact binds_K (by k_in) rfl (by k_is) rfl rfl rfl | fail "k_enter: no rule for these arguments"); (case c5w241 => decide); (case kBw241 => exact locs rfl); (case c2w241 => exact rfl); (case c3w241 => exact rfl); (case c4w241 => exact rfl); k_whole; intro g' L' h' FG' F' N' B' X' T'; (try dsimp only); (try k_lift B'); (try k_fold))
  k_with "call ref" => (k_here; k_dflt (first
    | (refine' call_cls ?k1w242 ?k2w242 ?k3w242 ?k4w242 ?k5w242 ?k6w242 ?_; (case k1w242 => k_asm); (case k2w242 => k_asm); (case k3w242 => k_asm); (case k4w242 => k_is); (case k5w242 => k_is); (case k6w242 => k_is); k_whole; intro x' d' h' F' N' l1 l2; (try k_lt l1); (try k_lt2 l2); (try k_sweep); walk_at "enter own")
    | (refine wpAny_call ?_; walk_at "enter own")))
  k_with "subscriptTail" => (k_here; (with_reducible show wpAny _ _ (subscriptTail _ _ (Value.ref _) (Value.int 0 _)) _ _ _); k_dflt (refine' led_tup0 ?k1w243 ?k2w243 ?k3w243 ?_; (case k1w243 => k_asm); (case k2w243 => k_mem); (case k3w243 => (first | assumption | omega)); k_whole))
  k_with "subscriptTail Name Slice ref ref" => (k_here; (with_reducible show wpAny _ _ (subscriptTail _ (PySem.Expr.Slice _ _ none _) (Value.ref _) (Value.ref _)) _ _ _); k_dflt (refine' led_tupTail ?k1w244 ?k2w244 ?k3w244 ?k4w244 ?_; (case k1w244 => k_asm); (case k2w244 => k_asm); (case k3w244 => k_mem); (case k4w244 => (first | assumption | omega)); k_whole); intro D' h' F' N' l1; (try k_lt l1); (try k_sweep))
  k_with "call ref" => ((with_reducible first | show wpAny _ _ (call (Value.ref 191) _) _ _ _ | show wpAny _ _ (call (Value.ref 198) _) _ _ _ | show wpAny _ _ (call (Value.ref 205) _) _ _ _ | show wpAny _ _ (call (Value.ref 224) _) _ _ _ | show wpAny _ _ (call (Value.ref 229) _) _ _ _ | show wpAny _ _ (call (Value.ref 243) _) _ _ _ | show wpAny _ _ (call (Value.ref 257) _) _ _ _ | show wpAny _ _ (call (Value.ref 264) _) _ _ _ | show wpAny _ _ (call (Value.ref 276) _) _ _ _ | show wpAny _ _ (call (Value.ref 283) _) _ _ _ | show wpAny _ _ (call (Value.ref 290) _) _ _ _ | show wpAny _ _ (call (Value.ref 295) _) _ _ _ | show wpAny _ _ (call (Value.ref 302) _) _ _ _ | show wpAny _ _ (call (Value.ref 309) _) _ _ _); refine halt ?_)
  k_with "eval ListComp" => refine halt ?_
  k_with "exec Assign cons ListComp" => refine halt ?_
  k_with "exec For" => refine halt ?_
  k_with "exec While" => refine halt ?_
  k_with "call type:tuple" => ((with_reducible show wpAny _ _ (call (Value.type "tuple") [Value.ref _]) _ _ _); refine halt ?_)
  k_with "binaryOp Add ref ref" => ((with_reducible show wpAny _ _ (binaryOp Operator.Add (Value.ref _) (Value.ref _)) _ _ _); refine halt ?_)
  k_with "my tabat" => first | assumption | exact ab0 (by assumption) | exact ab1 (by assumption) | (refine ab_trans (by assumption) ?_; k_tabat)
  k_with "my updF" => first | exact Fresh.nil | assumption | (refine Fresh.allLt ?_ ?_; k_tabat; k_updF) | (refine Fresh.append ?_ ?_; k_updF; k_updF)
  k_with "getMethod ref" => (k_here; (with_reducible show wpAny _ _ (getMethod (Value.ref _) (Str.ofString "get") _) _ _ _); k_dflt (refine kdg_method (knd := PySem.strKind _ _) (by k_asm) (by k_mem) (by assumption) ?_))
  k_with "call builtin:dict.get" => (k_here; k_dflt (refine kdg_get2 (knd := PySem.strKind _ _) (by k_asm) (by k_mem) (by assumption) (by assumption) (strKind_is _ _ _ _) _ rfl ?_))
  k_with "compareOp NotEq ref ref" => (k_here; k_dflt (first | (refine' led_ne_nil ?k1w256 ?k2w256 ?k3w256 ?k4w256 ?_; (case k1w256 => k_asm); (case k2w256 => k_mem); (case k3w256 => k_mem); (case k4w256 => ke_room)) | (refine' led_ne_snoc ?k1w256 ?k2w256 ?k3w256 ?k4w256 ?_; (case k1w256 => k_asm); (case k2w256 => k_mem); (case k3w256 => k_mem); (case k4w256 => ke_room))))
  k_with "compareOp Eq ref ref" => (k_here; k_dflt (first | (refine' led_eq_nil ?k1w257 ?k2w257 ?k3w257 ?k4w257 ?_; (case k1w257 => k_asm); (case k2w257 => k_mem); (case k3w257 => k_mem); (case k4w257 => ke_room)) | (refine' led_eq_cons ?k1w257 ?k2w257 ?k3w257 ?k4w257 ?_; (case k1w257 => k_asm); (case k2w257 => k_mem); (case k3w257 => k_mem); (case k4w257 => ke_room))))
  trivial
theorem wid_size : ∀ t : Ty, t.wid ≤ t.size
  | .leaf _ => Nat.zero_le _
  | .app f a => by have := wid_size f; show f.wid + 1 ≤ f.size + a.size + 1; omega
set_option maxRecDepth 100000 in
set_option maxHeartbeats 8000000 in
theorem seen_tells {w : World} {mean : ExcName → Option Value} {mg mb : Str → Option Value} {nd : List (Addr × Obj)} {v : Value} {t : Ty} (hv : NodeV w nd v t) (hsz : t.size < 4000) :
    Tell w mean mg mb 302 [v] (t.size + 8) [] nd
      (fun r tl led' => led' = nd ∧ TyV (tl ++ nd) r t) False [] := by
  induction hv with
  | @var x d k1 k2 k h hh hx hdd =>
    unfold Tell
    k_fill
    intro dp un gd cn cs a ccd cl outer A₀ base h₀ L m s fr Q E B F X N hmu T hk hd hu hret hfail
    refine wpAny_call ?_
    walk_at "enter"
    intro g' L' h' FG' F' N' B' X' T'
    try dsimp only
    try k_fold
    k_steps
    rename News _ _ _ _ => N9
    exact hret _ [] nd _ _ (by assumption) (news_sub N9 (by lcg_sub)) Fresh.nil ⟨rfl, .leaf⟩
  | con hh hx hdd =>
    unfold Tell
    k_fill
    intro dp un gd cn cs a ccd cl outer A₀ base h₀ L m s fr Q E B F X N hmu T hk hd hu hret hfail
    refine wpAny_call ?_
    walk_at "enter"
    intro g' L' h' FG' F' N' B' X' T'
    try dsimp only
    try k_fold
    k_steps
    rename News _ _ _ _ => N9
    exact hret _ [] nd _ _ (by assumption) (news_sub N9 (by lcg_sub)) Fresh.nil ⟨rfl, .leaf⟩
  | @app x d k1 k2 k3 f b tf ta hx hdd hf ha ihf iha =>
    have esz : (Ty.app tf ta).size = tf.size + ta.size + 1 := rfl
    rw [esz] at hsz
    have ep := ta.size_pos
    have ep2 := tf.size_pos
    unfold Tell
    k_fill
    intro dp un gd cn cs a ccd cl outer A₀ base h₀ L m s fr Q E B F X N hmu T hk hd hu hret hfail
    rw [esz] at hd hu
    refine wpAny_call ?_
    walk_at "enter"
    intro g' L' h' FG' F' N' B' X' T'
    try dsimp only
    try k_fold
    k_steps
    refine unhalt ?_
    refine' tell_use fr (ihf (by omega)) ?k1 ?k2 ?k3 ?k4 ?sub ?hm ?k5 ?kk ?kd ?ku ?_ (fun h => h.elim)
    walk_at "tell sides"
    intro r tl led' h' tk' F' N' hfr hq19
    obtain ⟨hl', hn'⟩ := hq19
    subst led'
    try k_fold
    k_steps
    refine unhalt ?_
    refine' tell_use (fr ++ tl) (iha (by omega)) ?k1 ?k2 ?k3 ?k4 ?sub ?hm ?k5 ?kk ?kd ?ku ?_ (fun h => h.elim)
    walk_at "tell sides"
    intro r2 tl2 led' h2 tk2 F2 N2 hfr2 hq20
    obtain ⟨hl2, hn2⟩ := hq20
    subst led'
    try k_fold
    k_steps
    refine unhalt ?_
    rename News _ _ _ _ => N9
    rename (∀ p, p ∈ fr ++ tl ++ (tl2 ++ nd) → _) => l9
    rename_i A9 _ _
    refine' tell_use fr (behind_tells (nd := (A9, listOf #[r2] 0) :: (tl ++ (tl2 ++ nd))) (mv := [r2]) (ms := [ta]) (hn'.mono (by lcg_sub)) (List.Mem.head _) (TyVs.nil.cons (hn2.mono (by lcg_sub))) (by have := wid_size tf; omega) (by simp)) ?k1 ?k2 ?k3 ?k4 ?sub ?hm ?k5 ?kk ?kd ?ku ?_ (fun h => h.elim)
    walk_at "tell sides"
    intro r3 tl3 led3 h3 tk3 F3 N3 hfr3 hq21
    obtain ⟨hl3, hn3⟩ := hq21
    subst hl3
    try k_fold
    k_steps
    rename News _ _ _ _ => N10
    exact hret _ (tl3 ++ (A9, listOf #[r2] 0) :: (tl2 ++ tl)) nd _ _ (by assumption) (news_sub N10 (by lcg_sub)) (Fresh.append (hfr3.sub (by lcg_sub)) (Fresh.allLt (ab2 l9 (by lcg_sub)) (Fresh.append (hfr2.sub (by lcg_sub)) hfr))) ⟨rfl, hn3.mono (by lcg_sub)⟩
end

section
/- part C_out -/
theorem kw_C_out_s_0 : True := by
  w_top off
  k_with_none
  k_with "my path" => first | with_reducible exact And.left | with_reducible exact And.right | (refine path_r ?_; k_extra "my path")
  k_with "my ne" => ((try dsimp only); first | (refine' Nat.ne_of_gt (lt_pick ?neA ?neB); (case neA => with_reducible assumption); (case neB => k_extra "my path")) | (refine' Nat.ne_of_lt (lt_pick ?neA ?neB); (case neA => with_reducible assumption); (case neB => k_extra "my path")) | exact Nat.ne_of_gt (by with_reducible assumption) | exact Nat.ne_of_lt (by with_reducible assumption) | fail)
  k_with "my om" => first | exact Nat.le_of_ble_eq_true rfl | with_reducible assumption | lia
  k_with "eval Name" => (k_here; k_dflt (first | (refine' nameX_L ?Fw258 ?vw258 ?_ ?aw258 ?bw258; (case Fw258 => k_asm); (case aw258 => rfl); (case bw258 => rfl); (case vw258 => rfl); k_whole) | (refine' nameX_C ?Nw258 ?cw258 ?mw258 ?dw258 ?_ ?aw258 ?bw258; (case aw258 => rfl); (case bw258 => rfl); (case Nw258 => k_asm); (case cw258 => rfl); (case mw258 => k_mem); (case dw258 => k_asm); k_whole) | (refine' nameX_K ?Fw258 ?Xw258 ?Tw258 ?ew258 ?_ ?aw258 ?bw258; (case Fw258 => k_asm); (case Xw258 => k_asm); (case Tw258 => k_asm); (case aw258 => rfl); (case bw258 => rfl); (case ew258 => k_is); k_whole) | (refine' nameX_B ?Fw258 ?Xw258 ?Tw258 ?ew258 ?vw258 ?nw258 ?_ ?aw258 ?bw258; (case Fw258 => k_asm); (case Xw258 => k_asm); (case Tw258 => k_asm); (case aw258 => rfl); (case bw258 => rfl); (case ew258 => k_is); (case vw258 => boot_fast); (case nw258 => decide); k_whole)))
  k_with "call builtin:isinstance" => (k_here; (with_reducible show wpAny _ _ (call _ [Value.ref _, Value.ref _]) _ _ _); k_dflt (first | (refine' isi_call ?k1w259 ?k2w259 ?k3w259 ?k4w259 ?_; (case k1w259 => k_in); (case k2w259 => k_types); (case k3w259 => k_is); (case k4w259 => intro e; cases e); k_whole) | (refine' kin_callC ?k1w259 ?k2w259 ?k3w259 ?k4w259 ?k5w259 ?k6w259 ?k7w259 ?k8w259 ?k9w259 ?_; (case k1w259 => k_in); (case k2w259 => k_inst); (case k3w259 => kin_no); (case k4w259 => k_is); (case k5w259 => k_is); (case k6w259 => k_is); (case k7w259 => k_is); (case k8w259 => k_is); (case k9w259 => k_is); k_whole)))
  k_with "getAttr ref" => (k_here; k_dflt (refine' get_own ?k1w260 ?k2w260 ?k3w260 ?k4w260 ?k5w260 ?k6w260 ?k7w260 ?k8w260 ?k9w260 ?_; (case k1w260 => k_asm); (case k2w260 => k_asm); (case k3w260 => k_inst); (case k4w260 => k_is); (case k5w260 => k_is); (case k6w260 => k_is); (case k7w260 => k_is); (case k8w260 => k_get); (case k9w260 => k_handed); k_whole))
  k_with "exec For Name Name cons nil" => refine halt ?_
  k_with "subscriptTail Name Slice ref ref" => refine halt ?_
  k_with "subscriptTail Name Slice ref ref" => (k_here; (with_reducible show wpAny _ _ (subscriptTail _ (PySem.Expr.Slice _ _ none _) (Value.ref _) (Value.ref _)) _ _ _); k_dflt (refine' led_tupTail ?k1w263 ?k2w263 ?k3w263 ?k4w263 ?_; (case k1w263 => k_asm); (case k2w263 => k_asm); (case k3w263 => k_mem); (case k4w263 => (first | assumption | omega)); k_whole); intro D' h' F' N' l1; (try k_lt l1); (try k_sweep))
  k_with "my src" => first | exact fun _ h => h | with_reducible assumption | (refine sub_t ?_; lcg_src) | (refine sub_l ?_; lcg_src) | (refine sub_r ?_; lcg_src)
  k_with "my sub" => first | exact sub_n | (refine sub_c ?_ ?_; k_mem; lcg_sub) | (refine sub_a ?_ ?_; lcg_sub; lcg_sub) | lcg_src
  k_with "my all" => first | assumption | (refine List.forall_mem_append.mpr ⟨?_, ?_⟩ <;> k_all)
  k_with "my mem" => first | with_reducible assumption | exact List.Mem.head _ | (refine List.mem_cons_of_mem _ ?_; k_mem) | (refine List.mem_append_left _ ?_; k_mem) | (refine List.mem_append_right _ ?_; k_mem)
  k_with "tell sides" => ((case k1 => k_asm); (case k2 => k_asm); (case k3 => k_asm); (case k4 => k_asm); (case k5 => k_asm); (try (case sub => lcg_sub)); (try (case hm => first | exact mu_nil | assumption | (refine mu_one ?_; k_all))); (case kk => first | exact rfl | assumption); (case kd => ktr_room); (case ku => ktr_units))
  k_with "enter" => (k_dflt (refine' code_def ?k1w269 ?k2w269 ?k3w269 ?k4w269 ?k5w269 ?kAw269 ?kFw269 ?kKw269 ?k6w269 ?k7w269 ?k8w269 ?k9w269 ?kBw269 ?_ ?c2w269 ?c3w269 ?c4w269 ?c5w269; (case kAw269 => exact rfl); (case kFw269 => exact rfl); (case kKw269 => assumption); (case k1w269 => k_asm); (case k2w269 => k_asm); (case k3w269 => k_asm); (case k4w269 => k_asm); (case k5w269 => k_asm); (case k6w269 => k_is); (case k7w269 => k_is); (case k8w269 => ktr_room); (case k9w269 => exact BindsTo.of_eq rfl); (case c5w269 => decide); (case kBw269 => exact locs rfl); (case c2w269 => exact rfl); (case c3w269 => exact rfl); (case c4w269 => exact rfl); k_whole))
  k_with "enter cells" => (k_dflt (refine' code_defC ?k1w270 ?k2w270 ?k3w270 ?k4w270 ?k5w270 ?kAw270 ?kFw270 ?kKw270 ?k6w270 ?k7w270 ?k8w270 ?k9w270 ?kBw270 ?kDw270 ?_ ?c2w270 ?c3w270 ?c4w270; (case kAw270 => exact rfl); (case kFw270 => exact rfl); (case kKw270 => assumption); (case k1w270 => k_asm); (case k2w270 => k_asm); (case k3w270 => k_asm); (case k4w270 => k_asm); (case k5w270 => k_asm); (case k6w270 => k_is); (case k7w270 => k_is); (case k8w270 => ktr_room); (case k9w270 => exact BindsTo.of_eq rfl); (case kBw270 => exact rfl); (case kDw270 => decide +kernel); (case c2w270 => exact rfl); (case c3w270 => exact rfl); (case c4w270 => exact rfl); k_whole))
  k_with "enter own" => (refine' code_def ?k1w271 ?k2w271 ?k3w271 ?k4w271 ?k5w271 ?kAw271 ?kFw271 ?kKw271 ?k6w271 ?k7w271 ?k8w271 ?k9w271 ?kBw271 ?_ ?c2w271 ?c3w271 ?c4w271 ?c5w271; (case kAw271 => exact rfl); (case kFw271 => exact rfl); (case kKw271 => exact rfl); (case k1w271 => k_asm); (case k2w271 => k_asm); (case k3w271 => k_asm); (case k4w271 => k_asm); (case k5w271 => k_asm); (case k6w271 => k_is); (case k7w271 => k_is); (case k8w271 => ktr_room); (case k9w271 => first | exact BindsTo.of_eq rfl | exact binds_K (by k_in) rfl (by k_is) rfl rfl rfl | fail "k_enter: no rule for these arguments"); (case c5w271 => decide); (case kBw271 => exact locs rfl); (case c2w271 => exact rfl); (case c3w271 => exact rfl); (case c4w271 => exact rfl); k_whole; intro g' L' h' FG' F' N' B' X' T'; (try dsimp only); (try k_lift B'); (try k_fold))
  k_with "call ref" => (k_here; k_dflt (first
    | (refine' call_cls ?k1w272 ?k2w272 ?k3w272 ?k4w272 ?k5w272 ?k6w272 ?_; (case k1w272 => k_asm); (case k2w272 => k_asm); (case k3w272 => k_asm); (case k4w272 => k_is); (case k5w272 => k_is); (case k6w272 => k_is); k_whole; intro x' d' h' F' N' l1 l2; (try k_lt l1); (try k_lt2 l2); (try k_sweep); walk_at "enter own")
    | (refine wpAny_call ?_; walk_at "enter own")))
  k_with "subscriptTail" => (k_here; (with_reducible show wpAny _ _ (subscriptTail _ _ (Value.ref _) (Value.int 0 _)) _ _ _); k_dflt (refine' led_tup0 ?k1w273 ?k2w273 ?k3w273 ?_; (case k1w273 => k_asm); (case k2w273 => k_mem); (case k3w273 => (first | assumption | omega)); k_whole))
  k_with "subscriptTail Name Slice ref ref" => (k_here; (with_reducible show wpAny _ _ (subscriptTail _ (PySem.Expr.Slice _ _ none _) (Value.ref _) (Value.ref _)) _ _ _); k_dflt (refine' led_tupTail ?k1w274 ?k2w274 ?k3w274 ?k4w274 ?_; (case k1w274 => k_asm); (case k2w274 => k_asm); (case k3w274 => k_mem); (case k4w274 => (first | assumption | omega)); k_whole); intro D' h' F' N' l1; (try k_lt l1); (try k_sweep))
  k_with "call ref" => ((with_reducible first | show wpAny _ _ (call (Value.ref 191) _) _ _ _ | show wpAny _ _ (call (Value.ref 198) _) _ _ _ | show wpAny _ _ (call (Value.ref 205) _) _ _ _ | show wpAny _ _ (call (Value.ref 224) _) _ _ _ | show wpAny _ _ (call (Value.ref 229) _) _ _ _ | show wpAny _ _ (call (Value.ref 243) _) _ _ _ | show wpAny _ _ (call (Value.ref 257) _) _ _ _ | show wpAny _ _ (call (Value.ref 264) _) _ _ _ | show wpAny _ _ (call (Value.ref 276) _) _ _ _ | show wpAny _ _ (call (Value.ref 283) _) _ _ _ | show wpAny _ _ (call (Value.ref 290) _) _ _ _ | show wpAny _ _ (call (Value.ref 295) _) _ _ _ | show wpAny _ _ (call (Value.ref 302) _) _ _ _ | show wpAny _ _ (call (Value.ref 309) _) _ _ _); refine halt ?_)
  k_with "eval ListComp" => refine halt ?_
  k_with "exec Assign cons ListComp" => refine halt ?_
  k_with "exec For" => refine halt ?_
  k_with "exec While" => refine halt ?_
  k_with "call type:tuple" => ((with_reducible show wpAny _ _ (call (Value.type "tuple") [Value.ref _]) _ _ _); refine halt ?_)
  k_with "binaryOp Add ref ref" => ((with_reducible show wpAny _ _ (binaryOp Operator.Add (Value.ref _) (Value.ref _)) _ _ _); refine halt ?_)
  k_with "my tabat" => first | assumption | exact ab0 (by assumption) | exact ab1 (by assumption) | (refine ab_trans (by assumption) ?_; k_tabat)
  k_with "my updF" => first | exact Fresh.nil | assumption | (refine Fresh.allLt ?_ ?_; k_tabat; k_updF) | (refine Fresh.append ?_ ?_; k_updF; k_updF)
  k_with "getMethod ref" => (k_here; (with_reducible show wpAny _ _ (getMethod (Value.ref _) (Str.ofString "get") _) _ _ _); k_dflt (refine kdg_method (knd := PySem.strKind _ _) (by k_asm) (by k_mem) (by assumption) ?_))
  k_with "call builtin:dict.get" => (k_here; k_dflt (refine kdg_get2 (knd := PySem.strKind _ _) (by k_asm) (by k_mem) (by assumption) (by assumption) (strKind_is _ _ _ _) _ rfl ?_))
  k_with "compareOp NotEq ref ref" => (k_here; k_dflt (first | (refine' led_ne_nil ?k1w286 ?k2w286 ?k3w286 ?k4w286 ?_; (case k1w286 => k_asm); (case k2w286 => k_mem); (case k3w286 => k_mem); (case k4w286 => ke_room)) | (refine' led_ne_snoc ?k1w286 ?k2w286 ?k3w286 ?k4w286 ?_; (case k1w286 => k_asm); (case k2w286 => k_mem); (case k3w286 => k_mem); (case k4w286 => ke_room))))
  k_with "compareOp Eq ref ref" => (k_here; k_dflt (first | (refine' led_eq_nil ?k1w287 ?k2w287 ?k3w287 ?k4w287 ?_; (case k1w287 => k_asm); (case k2w287 => k_mem); (case k3w287 => k_mem); (case k4w287 => ke_room)) | (refine' led_eq_cons ?k1w287 ?k2w287 ?k3w287 ?k4w287 ?_; (case k1w287 => k_asm); (case k2w287 => k_mem); (case k3w287 => k_mem); (case k4w287 => ke_room))))
  trivial
theorem some_isSome {α : Type} {o : Option α} {v : α} (h : o = some v) : o.isSome = true := by rw [h]; rfl
theorem none_isSome {α : Type} {o : Option α} (h : o = none) : o.isSome = false := by rw [h]; rfl

theorem kw_C_out_0 : True := by
  k_with "compareOp In str ref" => (k_here; k_dflt (first
    | refine kda_in (knd := PySem.strKind _ _) (by k_asm) (by k_mem) (by assumption) (by assumption) (strKind_is _ _ _ _) true (some_isSome (by assumption)) ?_
    | refine kda_in (knd := PySem.strKind _ _) (by k_asm) (by k_mem) (by assumption) (by assumption) (strKind_is _ _ _ _) false (none_isSome (by assumption)) ?_))
  k_with "compareOp NotIn str ref" => (k_here; k_dflt (first
    | refine kdg_notin (knd := PySem.strKind _ _) (by k_asm) (by k_mem) (by assumption) (by assumption) (strKind_is _ _ _ _) true (some_isSome (by assumption)) ?_
    | refine kdg_notin (knd := PySem.strKind _ _) (by k_asm) (by k_mem) (by assumption) (by assumption) (strKind_is _ _ _ _) false (none_isSome (by assumption)) ?_); (try dsimp only [Bool.not_true, Bool.not_false]))
  k_with "subscriptTail" => (k_here; (with_reducible show wpAny _ _ (subscriptTail _ _ (Value.ref _) (Value.str _ _)) _ _ _); k_dflt (refine kda_item (knd := PySem.strKind _ _) (by k_asm) (by k_mem) (by assumption) (strKind_is _ _ _ _) (by assumption) ?_))
  k_with "call builtin:len" => (k_here; k_dflt (refine' led_len ?k1w291 ?k2w291 ?k3w291 ?_; (case k1w291 => k_asm); (case k2w291 => k_mem); (case k3w291 => (first | assumption | omega)); k_whole))
  k_with "subscriptTail Name Slice ref ref" => (k_here; k_dflt (first
    | (refine' led_take ?k1w292 ?k2w292 ?k3w292 ?k4w292 ?k5w292 ?_; (case k1w292 => k_asm); (case k2w292 => k_asm); (case k3w292 => k_mem); (case k4w292 => assumption); (case k5w292 => assumption); k_whole)
    | (refine' led_drop ?k1w292 ?k2w292 ?k3w292 ?k4w292 ?k5w292 ?_; (case k1w292 => k_asm); (case k2w292 => k_asm); (case k3w292 => k_mem); (case k4w292 => assumption); (case k5w292 => assumption); k_whole)); intro D' h' F' N' l1; (try k_lt l1); (try k_sweep))
  k_with "call type:zip" => (refine halt ?_)
  k_with "call type:dict" => (refine halt ?_)
  trivial
/-- two cells, made at L -/
theorem two_fresh {led : List (Addr × Obj)} {L : Addr} (h : ∀ q ∈ led, @LT.lt Nat _ q.1 L) {c1 c2 : Obj} : Fresh led [(L + 1 + 1, c1), (L + 1, c2)] := fun q hq p hp => by
  have := h q hq
  simp only [List.mem_cons, List.not_mem_nil, or_false] at hp
  rcases hp with rfl | rfl <;> (show @LT.lt Nat _ q.1 _; omega)

/-- the contract of _law_out at a name -/
noncomputable def OutLeaf (w : World) (mean : ExcName → Option Value) (mg mb : Str → Option Value) (T : Str → Option Def) (rk : Str → Nat) (r : Nat) : Prop :=
  ∀ {nd : List (Addr × Obj)} {td ed ma : Addr} {σ : Str → Option Ty} {h : Str} {k : Tok} {mv : List Value} {ms : List Ty} {kk W K : Nat},
    ToldV w nd td T → EnvV w nd ed σ → (ma, listOf mv.toArray kk) ∈ nd → TyVs nd mv ms → (∀ h t, σ h = some t → t.wid ≤ W) → (∀ m ∈ ms, m.wid ≤ W) → ms.length ≤ K → W + K + 9 * r * r ≤ 3000 → Under T rk r h →
    Tell w mean mg mb 295 [.str h k, .ref td, .ref ed, .ref ma] (20 + 20 * r) [] nd (fun r' tl led' => led' = nd ∧ OptV (tl ++ nd) r' (headEv T r σ h ms)) False []

/-- the contract of _law_out -/
noncomputable def OutTy (w : World) (mean : ExcName → Option Value) (mg mb : Str → Option Value) (T : Str → Option Def) (rk : Str → Nat) (r n : Nat) : Prop :=
  ∀ {nd : List (Addr × Obj)} {td ed ma : Addr} {σ : Str → Option Ty} {v : Value} {t : Ty} {mv : List Value} {ms : List Ty} {kk W K : Nat},
    ToldV w nd td T → EnvV w nd ed σ → (ma, listOf mv.toArray kk) ∈ nd → TyVs nd mv ms → (∀ h t, σ h = some t → t.wid ≤ W) → (∀ m ∈ ms, m.wid ≤ W) → ms.length ≤ K → W + K + 9 * r * r + (n + 1) * (6 * r + 3) ≤ 3000 →
    TyV nd v t → t.dep ≤ n → t.nar → t.all (Under T rk r) →
    Tell w mean mg mb 295 [v, .ref td, .ref ed, .ref ma] (25 + 20 * r + 5 * n) [] nd (fun r' tl led' => led' = nd ∧ OptV (tl ++ nd) r' (tyEv T r σ t ms)) False []

set_option maxRecDepth 100000 in
set_option maxHeartbeats 8000000 in
theorem out_leaf {w : World} {mean : ExcName → Option Value} {mg mb : Str → Option Value} {T : Str → Option Def} {rk : Str → Nat} {z : Nat} (ok : TOk T rk z) {r : Nat} (ih : ∀ r', r = r' + 1 → OutTy w mean mg mb T rk r' 2) :
    OutLeaf w mean mg mb T rk r := by
  intro nd td ed ma σ h k mv ms kk W K ht he hm hms hσ hmW hmK hW hr
  have ht' := ht
  refine cps fun GX hGX => ?_
  obtain ⟨oe, ekv, hoe, hek, hes, hesome, henone⟩ := he
  refine hGX ?_
  clear hGX GX
  refine cps fun GX hGX => ?_
  obtain ⟨ot, tkv, hot, htk, hts, htsome, htnone⟩ := ht'
  refine hGX ?_
  clear hGX GX
  have hlen := hms.1
  cases e1 : valueAt ekv h with
  | some v =>
    obtain ⟨t, e2, hv⟩ := hesome h v e1
    have hw := hσ h t e2
    unfold Tell
    k_fill
    intro dp un gd cn cs a ccd cl outer A₀ base h₀ L m s fr Q E B F X N hmu T' hk hd hu hret hfail
    refine wpAny_call ?_
    walk_at "enter cells"
    intro g L1 h1 tk1 cells FG F1 N1 Y B1 X1 T1 l1
    refine cps fun GX hGX => ?_
    obtain ⟨c1, c2, hE, d1, d2⟩ := CellsAre.two Y
    refine hGX ?_
    clear hGX GX
    subst hE; clear Y
    simp only [List.cons_append, List.nil_append] at N1
    try dsimp only
    try k_fold
    k_steps
    refine unhalt ?_
    refine' tell_use ((L1 + 1 + 1, c1) :: (L1 + 1, c2) :: fr) (behind_tells hv hm hms (by omega) (by omega)) ?k1 ?k2 ?k3 ?k4 ?sub ?hm ?k5 ?kk ?kd ?ku ?_ (fun h => h.elim)
    walk_at "tell sides"
    intro r2 tl led' h' tk' F' N' hfr hq22
    obtain ⟨hl', hn'⟩ := hq22
    subst led'
    try k_fold
    k_steps
    rename News _ _ _ _ => N9
    rw [headEv_some e2] at hret
    exact hret _ (tl ++ [(L1 + 1 + 1, c1), (L1 + 1, c2)]) nd _ _ (by assumption) (news_sub N9 (by lcg_sub)) (Fresh.append (hfr.sub (by lcg_sub)) (two_fresh l1)) ⟨rfl, hn'.mono (by lcg_sub)⟩
  | none =>
    have e2 := henone h e1
    cases e3 : valueAt tkv h with
    | none =>
      have e4 := htnone h e3
      unfold Tell
      k_fill
      intro dp un gd cn cs a ccd cl outer A₀ base h₀ L m s fr Q E B F X N hmu T' hk hd hu hret hfail
      refine wpAny_call ?_
      walk_at "enter cells"
      intro g L1 h1 tk1 cells FG F1 N1 Y B1 X1 T1 l1
      refine cps fun GX hGX => ?_
      obtain ⟨c1, c2, hE, d1, d2⟩ := CellsAre.two Y
      refine hGX ?_
      clear hGX GX
      subst hE; clear Y
      simp only [List.cons_append, List.nil_append] at N1
      try dsimp only
      try k_fold
      k_steps
      refine unhalt ?_
      refine' tell_use ((L1 + 1 + 1, c1) :: (L1 + 1, c2) :: fr) (behind_tells (t := .leaf h) .leaf hm hms (by simp [Ty.wid]) (by omega)) ?k1 ?k2 ?k3 ?k4 ?sub ?hm ?k5 ?kk ?kd ?ku ?_ (fun h => h.elim)
      walk_at "tell sides"
      intro r2 tl led' h' tk' F' N' hfr hq23
      obtain ⟨hl', hn'⟩ := hq23
      subst led'
      try k_fold
      k_steps
      rename News _ _ _ _ => N9
      rw [headEv_leaf e2 e4] at hret
      exact hret _ (tl ++ [(L1 + 1 + 1, c1), (L1 + 1, c2)]) nd _ _ (by assumption) (news_sub N9 (by lcg_sub)) (Fresh.append (hfr.sub (by lcg_sub)) (two_fresh l1)) ⟨rfl, hn'.mono (by lcg_sub)⟩
    | some tv =>
      refine cps fun GX hGX => ?_
      obtain ⟨df, tu, pl, pvs, bv, n, kp, e4, hv, hmt, hmp, hps, hbv⟩ := htsome h tv e3
      refine hGX ?_
      clear hGX GX
      subst hv
      have hrk := hr df e4
      obtain ⟨r, rfl⟩ : ∃ r', r = r' + 1 := ⟨r - 1, by omega⟩
      replace ih : OutTy w mean mg mb T rk r 2 := ih r rfl
      have hp2 := ok.two h df e4
      have hbody := ok.body h df e4
      have hpl : pvs.length = df.ps.length := by rw [← hps, List.length_map]
      have hsz1 : mv.length < 10000 := by omega
      have hndp : (pvs.map (·.1)).Nodup := by rw [hps]; exact ok.nodup h df e4
      have hev := headEv_body ok (r := r) (ms := ms) e2 e4
      have hsm : (pvs.map fun p : Str × Tok => Value.str p.1 p.2).toArray.size < 100000 := by rw [List.size_toArray, List.length_map]; omega
      have hsm2 : mv.toArray.size < 100000 := by rw [List.size_toArray]; omega
      unfold Tell
      k_fill
      intro dp un gd cn cs a ccd cl outer A₀ base h₀ L m s fr Q E B F X N hmu T' hk hd hu hret hfail
      refine wpAny_call ?_
      walk_at "enter cells"
      intro g L1 h1 tk1 cells FG F1 N1 Y B1 X1 T1 l1
      refine cps fun GX hGX => ?_
      obtain ⟨c1, c2, hE, d1, d2⟩ := CellsAre.two Y
      refine hGX ?_
      clear hGX GX
      subst hE; clear Y
      simp only [List.cons_append, List.nil_append] at N1
      try dsimp only
      try k_fold
      k_steps
      · rename News _ _ _ _ => N9
        rename (_ : Int) < _ => hlt
        have hlt' : ms.length < df.ps.length := by simp only [List.size_toArray, List.length_map] at hlt; omega
        rw [headEv_told e2 e4, if_pos hlt'] at hret
        exact hret _ [(L1 + 1 + 1, c1), (L1 + 1, c2)] nd _ _ (by assumption) (news_sub N9 (by lcg_sub)) (two_fresh l1) ⟨rfl, rfl⟩
      · rename ¬ _ => hnl
        have hnl' : ¬ ms.length < df.ps.length := by simp only [List.size_toArray, List.length_map] at hnl; omega
        have hsz2 : (pvs.map fun p : Str × Tok => Value.str p.1 p.2).toArray.size ≤ mv.length := by rw [List.size_toArray, List.length_map]; omega
        refine unhalt ?_
        k_steps
        refine unhalt ?_
        rename News _ _ _ _ => N9
        rename Fr _ _ _ _ => F9
        rename Addr => DT
        rename (_ ∧ _ ∧ _) => l9
        refine led_zip F9 N9 (by k_mem) (by k_mem) fun zz h10 F10 N10 Z10 => ?_
        try k_fold
        k_steps
        refine unhalt ?_
        rename News _ _ _ _ => N11
        rename Fr _ _ _ _ => F11
        refine led_dictZip F11 N11 T1.nolimit rfl Z10 ?len ?sz hndp fun DD oD h12 tk12 F12 N12 l12 hsys hDict => ?_
        case len => rw [List.length_take, List.size_toArray, List.length_map]; rw [List.size_toArray, List.length_map] at hsz2; omega
        case sz => omega
        try k_fold
        k_steps
        refine unhalt ?_
        rename News _ _ _ _ => N13
        rename Fr _ _ _ _ => F13
        rename Addr => DR
        rename (_ ∧ _ ∧ _) => l13
        have z1 : (ms.take df.ps.length).length = df.ps.length := by rw [List.length_take]; omega
        have esz : (pvs.map fun p : Str × Tok => Value.str p.1 p.2).toArray.size = df.ps.length := by rw [List.size_toArray, List.length_map]; exact hpl
        have hev := headEv_body ok (r := r) (ms := ms) e2 e4 hnl'
        have hK2 : 9 * (r + 1) * (r + 1) = 9 * r * r + 18 * r + 9 := by
          simp only [Nat.mul_add, Nat.add_mul]; omega
        have hD' : EnvV w ((DR, listOf (mv.drop (pvs.map fun p : Str × Tok => Value.str p.1 p.2).toArray.size).toArray 0) :: (DD, oD) :: nd) DD (zipped df.ps (ms.take df.ps.length)) := by
          obtain ⟨q1, q2⟩ := zip_at (R := TyV ((DR, listOf (mv.drop (pvs.map fun p : Str × Tok => Value.str p.1 p.2).toArray.size).toArray 0) :: (DD, oD) :: nd)) (ps := df.ps) ((hms.take df.ps.length).1) (fun i v t a b => ((hms.take df.ps.length).2 i v t a b).mono (by lcg_sub))
          rw [hps, show List.take (pvs.map fun p : Str × Tok => Value.str p.1 p.2).toArray.size mv = List.take df.ps.length mv by rw [esz]] at hDict
          refine ⟨oD, _, by k_mem, hDict, hsys, ?_, ?_⟩
          · exact q1
          · exact q2
        refine' tell_use ((L1 + 1 + 1, c1) :: (L1 + 1, c2) :: fr) (ih (nd := (DR, listOf (mv.drop (pvs.map fun p : Str × Tok => Value.str p.1 p.2).toArray.size).toArray 0) :: (DD, oD) :: nd) (kk := 0) (W := W) (K := K) (ht.mono (by lcg_sub)) hD' (List.Mem.head _) (ms := ms.drop df.ps.length) ?a1 ?a2 ?a3 ?a4 ?a5 (hbv.mono (by lcg_sub)) ?a6 ?a7 ?a8) ?k1 ?k2 ?k3 ?k4 ?sub ?hm ?k5 ?kk ?kd ?ku ?_ (fun h => h.elim)
        walk_at "tell sides"
        case a1 => rw [esz]; exact (hms.drop df.ps.length).mono (by lcg_sub)
        case a2 => exact fun h t e => hmW t (List.mem_of_mem_take (zipped_mem e).1)
        case a3 => exact fun m hm => hmW m (List.mem_of_mem_drop hm)
        case a4 => rw [List.length_drop]; omega
        case a5 => omega
        case a6 => exact hbody.2.2
        case a7 => exact hbody.1
        case a8 => exact Ty.all_mono (fun h' hu d hd => by have := hu d hd; omega) hbody.2.1
        intro r2 tl led' h' tk' F' N' hfr hq24
        obtain ⟨hl', hn'⟩ := hq24
        subst led'
        try k_fold
        k_steps
        rename News _ _ _ _ => N15
        rw [hev] at hret
        refine hret _ (tl ++ [(DR, listOf (mv.drop (pvs.map fun p : Str × Tok => Value.str p.1 p.2).toArray.size).toArray 0), (DD, oD), (L1 + 1 + 1, c1), (L1 + 1, c2)]) nd _ _ (by assumption) (news_sub N15 (by lcg_sub)) (Fresh.append (hfr.sub (by lcg_sub)) (Fresh.allLt (allLt_mem l13.2.2.2.2) (Fresh.allLt (ab2 l12 (by lcg_sub)) (two_fresh l1)))) ⟨rfl, hn'.mono (by lcg_sub)⟩
end

section
/- part C_out2 -/
theorem kw_C_out2_s_0 : True := by
  w_top off
  k_with_none
  k_with "my path" => first | with_reducible exact And.left | with_reducible exact And.right | (refine path_r ?_; k_extra "my path")
  k_with "my ne" => ((try dsimp only); first | (refine' Nat.ne_of_gt (lt_pick ?neA ?neB); (case neA => with_reducible assumption); (case neB => k_extra "my path")) | (refine' Nat.ne_of_lt (lt_pick ?neA ?neB); (case neA => with_reducible assumption); (case neB => k_extra "my path")) | exact Nat.ne_of_gt (by with_reducible assumption) | exact Nat.ne_of_lt (by with_reducible assumption) | fail)
  k_with "my om" => first | exact Nat.le_of_ble_eq_true rfl | with_reducible assumption | lia
  k_with "eval Name" => (k_here; k_dflt (first | (refine' nameX_L ?Fw295 ?vw295 ?_ ?aw295 ?bw295; (case Fw295 => k_asm); (case aw295 => rfl); (case bw295 => rfl); (case vw295 => rfl); k_whole) | (refine' nameX_C ?Nw295 ?cw295 ?mw295 ?dw295 ?_ ?aw295 ?bw295; (case aw295 => rfl); (case bw295 => rfl); (case Nw295 => k_asm); (case cw295 => rfl); (case mw295 => k_mem); (case dw295 => k_asm); k_whole) | (refine' nameX_K ?Fw295 ?Xw295 ?Tw295 ?ew295 ?_ ?aw295 ?bw295; (case Fw295 => k_asm); (case Xw295 => k_asm); (case Tw295 => k_asm); (case aw295 => rfl); (case bw295 => rfl); (case ew295 => k_is); k_whole) | (refine' nameX_B ?Fw295 ?Xw295 ?Tw295 ?ew295 ?vw295 ?nw295 ?_ ?aw295 ?bw295; (case Fw295 => k_asm); (case Xw295 => k_asm); (case Tw295 => k_asm); (case aw295 => rfl); (case bw295 => rfl); (case ew295 => k_is); (case vw295 => boot_fast); (case nw295 => decide); k_whole)))
  k_with "call builtin:isinstance" => (k_here; (with_reducible show wpAny _ _ (call _ [Value.ref _, Value.ref _]) _ _ _); k_dflt (first | (refine' isi_call ?k1w296 ?k2w296 ?k3w296 ?k4w296 ?_; (case k1w296 => k_in); (case k2w296 => k_types); (case k3w296 => k_is); (case k4w296 => intro e; cases e); k_whole) | (refine' kin_callC ?k1w296 ?k2w296 ?k3w296 ?k4w296 ?k5w296 ?k6w296 ?k7w296 ?k8w296 ?k9w296 ?_; (case k1w296 => k_in); (case k2w296 => k_inst); (case k3w296 => kin_no); (case k4w296 => k_is); (case k5w296 => k_is); (case k6w296 => k_is); (case k7w296 => k_is); (case k8w296 => k_is); (case k9w296 => k_is); k_whole)))
  k_with "getAttr ref" => (k_here; k_dflt (refine' get_own ?k1w297 ?k2w297 ?k3w297 ?k4w297 ?k5w297 ?k6w297 ?k7w297 ?k8w297 ?k9w297 ?_; (case k1w297 => k_asm); (case k2w297 => k_asm); (case k3w297 => k_inst); (case k4w297 => k_is); (case k5w297 => k_is); (case k6w297 => k_is); (case k7w297 => k_is); (case k8w297 => k_get); (case k9w297 => k_handed); k_whole))
  k_with "exec For Name Name cons nil" => refine halt ?_
  k_with "my src" => first | exact fun _ h => h | with_reducible assumption | (refine sub_t ?_; lcg_src) | (refine sub_l ?_; lcg_src) | (refine sub_r ?_; lcg_src)
  k_with "my sub" => first | exact sub_n | (refine sub_c ?_ ?_; k_mem; lcg_sub) | (refine sub_a ?_ ?_; lcg_sub; lcg_sub) | lcg_src
  k_with "my all" => first | assumption | (refine List.forall_mem_append.mpr ⟨?_, ?_⟩ <;> k_all)
  k_with "my mem" => first | with_reducible assumption | exact List.Mem.head _ | (refine List.mem_cons_of_mem _ ?_; k_mem) | (refine List.mem_append_left _ ?_; k_mem) | (refine List.mem_append_right _ ?_; k_mem)
  k_with "tell sides" => ((case k1 => k_asm); (case k2 => k_asm); (case k3 => k_asm); (case k4 => k_asm); (case k5 => k_asm); (try (case sub => lcg_sub)); (try (case hm => first | exact mu_nil | assumption | (refine mu_one ?_; k_all))); (case kk => first | exact rfl | assumption); (case kd => ktr_room); (case ku => ktr_units))
  k_with "enter" => (k_dflt (refine' code_def ?k1w304 ?k2w304 ?k3w304 ?k4w304 ?k5w304 ?kAw304 ?kFw304 ?kKw304 ?k6w304 ?k7w304 ?k8w304 ?k9w304 ?kBw304 ?_ ?c2w304 ?c3w304 ?c4w304 ?c5w304; (case kAw304 => exact rfl); (case kFw304 => exact rfl); (case kKw304 => assumption); (case k1w304 => k_asm); (case k2w304 => k_asm); (case k3w304 => k_asm); (case k4w304 => k_asm); (case k5w304 => k_asm); (case k6w304 => k_is); (case k7w304 => k_is); (case k8w304 => ktr_room); (case k9w304 => exact BindsTo.of_eq rfl); (case c5w304 => decide); (case kBw304 => exact locs rfl); (case c2w304 => exact rfl); (case c3w304 => exact rfl); (case c4w304 => exact rfl); k_whole))
  k_with "enter cells" => (k_dflt (refine' code_defC ?k1w305 ?k2w305 ?k3w305 ?k4w305 ?k5w305 ?kAw305 ?kFw305 ?kKw305 ?k6w305 ?k7w305 ?k8w305 ?k9w305 ?kBw305 ?kDw305 ?_ ?c2w305 ?c3w305 ?c4w305; (case kAw305 => exact rfl); (case kFw305 => exact rfl); (case kKw305 => assumption); (case k1w305 => k_asm); (case k2w305 => k_asm); (case k3w305 => k_asm); (case k4w305 => k_asm); (case k5w305 => k_asm); (case k6w305 => k_is); (case k7w305 => k_is); (case k8w305 => ktr_room); (case k9w305 => exact BindsTo.of_eq rfl); (case kBw305 => exact rfl); (case kDw305 => decide +kernel); (case c2w305 => exact rfl); (case c3w305 => exact rfl); (case c4w305 => exact rfl); k_whole))
  k_with "enter own" => (refine' code_def ?k1w306 ?k2w306 ?k3w306 ?k4w306 ?k5w306 ?kAw306 ?kFw306 ?kKw306 ?k6w306 ?k7w306 ?k8w306 ?k9w306 ?kBw306 ?_ ?c2w306 ?c3w306 ?c4w306 ?c5w306; (case kAw306 => exact rfl); (case kFw306 => exact rfl); (case kKw306 => exact rfl); (case k1w306 => k_asm); (case k2w306 => k_asm); (case k3w306 => k_asm); (case k4w306 => k_asm); (case k5w306 => k_asm); (case k6w306 => k_is); (case k7w306 => k_is); (case k8w306 => ktr_room); (case k9w306 => first | exact BindsTo.of_eq rfl | exact binds_K (by k_in) rfl (by k_is) rfl rfl rfl | fail "k_enter: no rule for these arguments"); (case c5w306 => decide); (case kBw306 => exact locs rfl); (case c2w306 => exact rfl); (case c3w306 => exact rfl); (case c4w306 => exact rfl); k_whole; intro g' L' h' FG' F' N' B' X' T'; (try dsimp only); (try k_lift B'); (try k_fold))
  k_with "call ref" => (k_here; k_dflt (first
    | (refine' call_cls ?k1w307 ?k2w307 ?k3w307 ?k4w307 ?k5w307 ?k6w307 ?_; (case k1w307 => k_asm); (case k2w307 => k_asm); (case k3w307 => k_asm); (case k4w307 => k_is); (case k5w307 => k_is); (case k6w307 => k_is); k_whole; intro x' d' h' F' N' l1 l2; (try k_lt l1); (try k_lt2 l2); (try k_sweep); walk_at "enter own")
    | (refine wpAny_call ?_; walk_at "enter own")))
  k_with "subscriptTail" => (k_here; (with_reducible show wpAny _ _ (subscriptTail _ _ (Value.ref _) (Value.int 0 _)) _ _ _); k_dflt (refine' led_tup0 ?k1w308 ?k2w308 ?k3w308 ?_; (case k1w308 => k_asm); (case k2w308 => k_mem); (case k3w308 => (first | assumption | omega)); k_whole))
  k_with "subscriptTail Name Slice ref ref" => (k_here; (with_reducible show wpAny _ _ (subscriptTail _ (PySem.Expr.Slice _ _ none _) (Value.ref _) (Value.ref _)) _ _ _); k_dflt (refine' led_tupTail ?k1w309 ?k2w309 ?k3w309 ?k4w309 ?_; (case k1w309 => k_asm); (case k2w309 => k_asm); (case k3w309 => k_mem); (case k4w309 => (first | assumption | omega)); k_whole); intro D' h' F' N' l1; (try k_lt l1); (try k_sweep))
  k_with "call ref" => ((with_reducible first | show wpAny _ _ (call (Value.ref 191) _) _ _ _ | show wpAny _ _ (call (Value.ref 198) _) _ _ _ | show wpAny _ _ (call (Value.ref 205) _) _ _ _ | show wpAny _ _ (call (Value.ref 224) _) _ _ _ | show wpAny _ _ (call (Value.ref 229) _) _ _ _ | show wpAny _ _ (call (Value.ref 243) _) _ _ _ | show wpAny _ _ (call (Value.ref 257) _) _ _ _ | show wpAny _ _ (call (Value.ref 264) _) _ _ _ | show wpAny _ _ (call (Value.ref 276) _) _ _ _ | show wpAny _ _ (call (Value.ref 283) _) _ _ _ | show wpAny _ _ (call (Value.ref 290) _) _ _ _ | show wpAny _ _ (call (Value.ref 295) _) _ _ _ | show wpAny _ _ (call (Value.ref 302) _) _ _ _ | show wpAny _ _ (call (Value.ref 309) _) _ _ _); refine halt ?_)
  k_with "eval ListComp" => refine halt ?_
  k_with "exec Assign cons ListComp" => refine halt ?_
  k_with "exec For" => refine halt ?_
  k_with "exec While" => refine halt ?_
  k_with "call type:tuple" => ((with_reducible show wpAny _ _ (call (Value.type "tuple") [Value.ref _]) _ _ _); refine halt ?_)
  k_with "binaryOp Add ref ref" => ((with_reducible show wpAny _ _ (binaryOp Operator.Add (Value.ref _) (Value.ref _)) _ _ _); refine halt ?_)
  k_with "my tabat" => first | assumption | exact ab0 (by assumption) | exact ab1 (by assumption) | (refine ab_trans (by assumption) ?_; k_tabat)
  k_with "my updF" => first | exact Fresh.nil | assumption | (refine Fresh.allLt ?_ ?_; k_tabat; k_updF) | (refine Fresh.append ?_ ?_; k_updF; k_updF)
  k_with "getMethod ref" => (k_here; (with_reducible show wpAny _ _ (getMethod (Value.ref _) (Str.ofString "get") _) _ _ _); k_dflt (refine kdg_method (knd := PySem.strKind _ _) (by k_asm) (by k_mem) (by assumption) ?_))
  k_with "call builtin:dict.get" => (k_here; k_dflt (refine kdg_get2 (knd := PySem.strKind _ _) (by k_asm) (by k_mem) (by assumption) (by assumption) (strKind_is _ _ _ _) _ rfl ?_))
  k_with "compareOp NotEq ref ref" => (k_here; k_dflt (first | (refine' led_ne_nil ?k1w321 ?k2w321 ?k3w321 ?k4w321 ?_; (case k1w321 => k_asm); (case k2w321 => k_mem); (case k3w321 => k_mem); (case k4w321 => ke_room)) | (refine' led_ne_snoc ?k1w321 ?k2w321 ?k3w321 ?k4w321 ?_; (case k1w321 => k_asm); (case k2w321 => k_mem); (case k3w321 => k_mem); (case k4w321 => ke_room))))
  k_with "compareOp Eq ref ref" => (k_here; k_dflt (first | (refine' led_eq_nil ?k1w322 ?k2w322 ?k3w322 ?k4w322 ?_; (case k1w322 => k_asm); (case k2w322 => k_mem); (case k3w322 => k_mem); (case k4w322 => ke_room)) | (refine' led_eq_cons ?k1w322 ?k2w322 ?k3w322 ?k4w322 ?_; (case k1w322 => k_asm); (case k2w322 => k_mem); (case k3w322 => k_mem); (case k4w322 => ke_room))))
  trivial


theorem kw_C_out2_0 : True := by
  k_with "compareOp In str ref" => (k_here; k_dflt (first
    | refine kda_in (knd := PySem.strKind _ _) (by k_asm) (by k_mem) (by assumption) (by assumption) (strKind_is _ _ _ _) true (some_isSome (by assumption)) ?_
    | refine kda_in (knd := PySem.strKind _ _) (by k_asm) (by k_mem) (by assumption) (by assumption) (strKind_is _ _ _ _) false (none_isSome (by assumption)) ?_))
  k_with "compareOp NotIn str ref" => (k_here; k_dflt (first
    | refine kdg_notin (knd := PySem.strKind _ _) (by k_asm) (by k_mem) (by assumption) (by assumption) (strKind_is _ _ _ _) true (some_isSome (by assumption)) ?_
    | refine kdg_notin (knd := PySem.strKind _ _) (by k_asm) (by k_mem) (by assumption) (by assumption) (strKind_is _ _ _ _) false (none_isSome (by assumption)) ?_); (try dsimp only [Bool.not_true, Bool.not_false]))
  k_with "subscriptTail" => (k_here; (with_reducible show wpAny _ _ (subscriptTail _ _ (Value.ref _) (Value.str _ _)) _ _ _); k_dflt (refine kda_item (knd := PySem.strKind _ _) (by k_asm) (by k_mem) (by assumption) (strKind_is _ _ _ _) (by assumption) ?_))
  k_with "call builtin:len" => (k_here; k_dflt (refine' led_len ?k1w326 ?k2w326 ?k3w326 ?_; (case k1w326 => k_asm); (case k2w326 => k_mem); (case k3w326 => (first | assumption | omega)); k_whole))
  k_with "subscriptTail Name Slice ref ref" => (k_here; k_dflt (first
    | (refine' led_take ?k1w327 ?k2w327 ?k3w327 ?k4w327 ?k5w327 ?_; (case k1w327 => k_asm); (case k2w327 => k_asm); (case k3w327 => k_mem); (case k4w327 => assumption); (case k5w327 => assumption); k_whole)
    | (refine' led_drop ?k1w327 ?k2w327 ?k3w327 ?k4w327 ?k5w327 ?_; (case k1w327 => k_asm); (case k2w327 => k_asm); (case k3w327 => k_mem); (case k4w327 => assumption); (case k5w327 => assumption); k_whole)); intro D' h' F' N' l1; (try k_lt l1); (try k_sweep))
  k_with "call type:zip" => (refine halt ?_)
  k_with "call type:dict" => (refine halt ?_)
  k_with "compareOp In none ref" => refine halt ?_
  trivial
theorem tyEv_all {T : Str → Option Def} {r : Nat} {σ : Str → Option Ty} : ∀ as : List Ty, match (as.map fun a => tyEv T r σ a []).any Option.isNone with
    | true => tyAll T r σ as = none
    | false => ∃ ts, tyAll T r σ as = some ts ∧ (as.map fun a => tyEv T r σ a []) = ts.map some
  | [] => ⟨[], rfl, rfl⟩
  | a :: as => by
    have ih := tyEv_all (T := T) (r := r) (σ := σ) as
    cases h1 : tyEv T r σ a [] with
    | none => simp [h1, tyAll]
    | some a' =>
      cases h2 : (as.map fun a => tyEv T r σ a []).any Option.isNone with
      | true =>
        rw [h2] at ih
        simp only [List.map_cons, List.any_cons, h1, Option.isNone_some, Bool.false_or, h2, tyAll]
        rw [show tyAll T r σ as = none from ih]
      | false =>
        rw [h2] at ih
        obtain ⟨ts, e1, e2⟩ := ih
        simp only [List.map_cons, List.any_cons, h1, Option.isNone_some, Bool.false_or, h2, tyAll]
        exact ⟨a' :: ts, by rw [e1], by rw [e2]; rfl⟩
theorem wid_ty {T : Str → Option Def} {rk : Str → Nat} {z : Nat} (ok : TOk T rk z) {r : Nat} {σ : Str → Option Ty} {W : Nat} (hσ : ∀ h t, σ h = some t → t.wid ≤ W) : ∀ (t : Ty) (ms : List Ty) (t' : Ty) (n : Nat), t.dep ≤ n → t.nar → (∀ m ∈ ms, m.wid ≤ W + n * (6 * r + 3)) →
    tyEv T r σ t ms = some t' → t'.wid ≤ W + n * (6 * r + 3) + (t.wid + ms.length) + 6 * r
  | .leaf h, ms, t', n, hd, hn, hm, e => by
    have := wid_head ok r σ h ms (W + n * (6 * r + 3)) ms.length t' (fun h t e => Nat.le_trans (hσ h t e) (Nat.le_add_right _ _)) hm (Nat.le_refl _) e
    show t'.wid ≤ W + n * (6 * r + 3) + (0 + ms.length) + 6 * r
    omega
  | .app f a, ms, t', n, hd, hn, hm, e => by
    have hd' : max f.dep (a.dep + 1) ≤ n := hd
    have h1 : f.dep ≤ n := Nat.le_trans (Nat.le_max_left _ _) hd'
    have h2 : a.dep + 1 ≤ n := Nat.le_trans (Nat.le_max_right _ _) hd'
    obtain ⟨n, rfl⟩ : ∃ n', n = n' + 1 := ⟨n - 1, by omega⟩
    cases e1 : tyEv T r σ a [] with
    | none => simp [tyEv, e1] at e
    | some a' =>
      simp only [tyEv, e1] at e
      have ha := wid_ty ok hσ a [] a' n (by omega) hn.2.2 (fun m h => nomatch h) e1
      have hw := Ty.nar_wid hn.2.2
      have hl : ([] : List Ty).length = 0 := rfl
      have hs : (n + 1) * (6 * r + 3) = n * (6 * r + 3) + (6 * r + 3) := by rw [Nat.add_mul, Nat.one_mul]
      have := wid_ty ok hσ f (a' :: ms) t' (n + 1) h1 hn.2.1 (fun m h => by
        rcases List.mem_cons.mp h with rfl | h
        · omega
        · exact hm m h) e
      show t'.wid ≤ W + (n + 1) * (6 * r + 3) + ((f.wid + 1) + ms.length) + 6 * r
      rw [List.length_cons] at this
      omega

set_option maxRecDepth 100000 in
set_option maxHeartbeats 8000000 in
theorem out_ty {w : World} {mean : ExcName → Option Value} {mg mb : Str → Option Value} {T : Str → Option Def} {rk : Str → Nat} {z : Nat} (ok : TOk T rk z) {r : Nat} (ol : OutLeaf w mean mg mb T rk r) :
    ∀ n, OutTy w mean mg mb T rk r n := by
  intro n
  induction n with
  | zero =>
    intro nd td ed ma σ v t mv ms kk W K ht he hm hms hσ hmW hmK hW hv hdp hnar hall
    cases hv with
    | leaf => exact tell_size (ol ht he hm hms hσ hmW hmK (by omega) hall) (by omega)
    | @app at' hh kh vs as nn _ hm hne hl hts ht =>
      subst ht
      cases as with
      | nil => exact (hne rfl).elim
      | cons a as => have := (Ty.dep_on (a :: as) (.leaf hh)).2 a List.mem_cons_self; omega
  | succ n ih =>
    intro nd td ed ma σ v t mv ms kk W K ht he hm hms hσ hmW hmK hW hv hdp hnar hall
    have hs : (n + 1 + 1) * (6 * r + 3) = (n + 1) * (6 * r + 3) + (6 * r + 3) := by rw [Nat.add_mul (n + 1), Nat.one_mul]
    cases hv with
    | leaf => exact tell_size (ol ht he hm hms hσ hmW hmK (by omega) hall) (by omega)
    | @app at' hh kh vs as nn _ hm' hne hl hts hty =>
      subst hty
      have hnw := Ty.nar_wid hnar
      have hwo := Ty.wid_on as (.leaf hh)
      have hw0 : (Ty.leaf hh).wid = 0 := rfl
      obtain ⟨_, hnas⟩ := Ty.nar_on as _ hnar
      obtain ⟨hall1, hallas⟩ := Ty.all_on as _ hall
      have hvs : vs.length < 10000 := by omega
      have hlen := hms.1
      have ⟨oe, ekv, hoe, hek, hes, hesome, henone⟩ := he
      have ⟨ot, tkv, hot, htk, hts', htsome, htnone⟩ := ht
      unfold Tell
      k_fill
      intro dp un gd cn cs a ccd cl outer A₀ base h₀ L m s fr Q E B F X N hmu T' hk hd hu hret hfail
      refine wpAny_call ?_
      walk_at "enter cells"
      intro g L1 h1 tk1 cells FG F1 N1 Y B1 X1 T1 l1
      refine cps fun GX hGX => ?_
      obtain ⟨c1, c2, hE, d1, d2⟩ := CellsAre.two Y
      refine hGX ?_
      clear hGX GX
      subst hE; clear Y
      simp only [List.cons_append, List.nil_append] at N1
      try dsimp only
      try k_fold
      k_steps
      refine unhalt ?_
      rename Fr _ _ _ _ => F9
      rename News _ _ _ _ => N9
      k_dflt (refine comp_assign F9 rfl (by with_unfolding_all rfl) rfl rfl B1.stays rfl (by decide) rfl (by decide) rfl (by rfl) (by rfl) ?_)
      try k_fold
      k_steps
      rename Fr _ _ _ _ => F10
      rename News _ _ _ _ => N10
      rename Addr => DT
      rename (_ ∧ _ ∧ _) => l10
      refine src_tup (keep := []) (Fl := False) (S := fun i ys nw => ∃ tl, nw = tl ++ ((DT, tupOf vs 0) :: (L1 + 1 + 1, c1) :: (L1 + 1, c2) :: (fr ++ nd)) ∧ (∀ (j : Nat) v o, ys[j]? = some v → (as.map fun a => tyEv T r σ a [])[j]? = some o → OptV (tl ++ nd) v o) ∧ Fresh (fr ++ nd) tl) rfl F10 N10 (by k_mem) ?_ ?_ ?_ ?_ ?_ ?_ ?_
      · rw [sizeLine_eq, List.size_toArray]; omega
      · exact ⟨[], rfl, fun j v o e => by simp at e, Fresh.nil⟩
      · intro i ys nw hq25
        obtain ⟨tl, e, _⟩ := hq25
        rw [e]; k_mem
      · intro i ys nw v I oI oC C D m₂ h11 tk11 hv hyl hq26 hC hx F11 N11 off11 ne11
        refine cps fun GX hGX => ?_
        obtain ⟨tl, hnw, hos, hfr1⟩ := hq26
        refine hGX ?_
        clear hGX GX
        subst hnw
        k_steps
        refine unhalt ?_
        rename Addr => AX
        rename News _ _ _ _ => N12
        rename (_ ∧ _ ∧ _) => l12
        have hi : i < as.length := by have := (List.getElem?_eq_some_iff.mp (by simpa using hv : vs[i]? = some v)).1; omega
        obtain ⟨a1, ha1⟩ : ∃ a1, as[i]? = some a1 := ⟨_, List.getElem?_eq_getElem hi⟩
        have ha1m := List.mem_of_getElem? ha1
        have hda := (Ty.dep_on as (.leaf hh)).2 a1 ha1m
        refine' tell_use ((I, oI) :: (C, oC) :: (D, LCg.lst ys) :: (tl ++ (DT, tupOf vs 0) :: (L1 + 1 + 1, c1) :: (L1 + 1, c2) :: fr)) (ih (nd := (AX, listOf #[] 0) :: nd) (mv := []) (ms := []) (W := W) (K := 0) (ht.mono (by lcg_sub)) (he.mono (by lcg_sub)) (List.Mem.head _) TyVs.nil hσ (fun m h => nomatch h) (Nat.le_refl _) (by omega) ((hts i v a1 (by simpa using hv) ha1).mono (by lcg_sub)) (by omega) (hnas a1 ha1m) (hallas a1 ha1m)) ?k1 ?k2 ?k3 ?k4 ?sub ?hm ?k5 ?kk ?kd ?ku ?_ (fun h => h.elim)
        walk_at "tell sides"
        intro r2 tl2 led' h' tk' F' N' hfr' hq27
        obtain ⟨hl', hov⟩ := hq27
        subst led'
        have hI := hfr'.ne (a := I) (o := oI) (by simp)
        have hCC := hfr'.ne (a := C) (o := oC) (by simp)
        have hDD := hfr'.ne (a := D) (o := LCg.lst ys) (by simp)
        have e3 := off11.mem
        try k_fold
        k_steps
        refine ⟨h', tk', ((tl2 ++ (AX, listOf #[] 0) :: tl) ++ ((DT, tupOf vs 0) :: (L1 + 1 + 1, c1) :: (L1 + 1, c2) :: (fr ++ nd))), rfl, F', news_sub N' (by lcg_sub), LCg.Off3.of fun p hp => ?_, _, rfl, ?_, ?_⟩
        · rcases List.mem_append.mp hp with hp | hp
          · rcases List.mem_append.mp hp with hp | hp
            · exact ⟨hI p hp, hCC p hp, hDD p hp⟩
            · rcases List.mem_cons.mp hp with rfl | hp
              · exact ⟨Ne.symm (Nat.ne_of_lt l12.1), Ne.symm (Nat.ne_of_lt l12.2.1), Ne.symm (Nat.ne_of_lt l12.2.2.1)⟩
              · exact e3 p (List.mem_append_left _ hp)
          · exact e3 p (List.mem_append_right _ hp)
        · intro j v' o ej eo
          by_cases hj : j < ys.length
          · rw [List.getElem?_append_left hj] at ej
            exact (hos j v' o ej eo).mono (by lcg_sub)
          · rw [List.getElem?_append_right (by omega)] at ej
            have hj0 : j - ys.length = 0 := by
              have := (List.getElem?_eq_some_iff.mp ej).1
              rw [List.length_singleton] at this; omega
            rw [hj0] at ej
            cases ej
            have hji : j = i := by omega
            subst hji
            rw [List.getElem?_map, ha1] at eo
            cases eo
            exact hov.mono (by lcg_sub)
        · exact Fresh.append (hfr'.sub (by lcg_sub)) (Fresh.allLt (ab2 (allLt_mem l12.2.2.2) (by lcg_sub)) hfr1)
      · intro i ys nw _ p hp; simp at hp
      · intro h; exact h.elim
      · intro D h12 tk12 ys nw lD F12 N12 off12 hyl hq28
        refine cps fun GX hGX => ?_
        obtain ⟨tl, hnw, hos, hfr1⟩ := hq28
        refine hGX ?_
        clear hGX GX
        subst hnw
        try k_fold
        k_steps
        refine unhalt ?_
        rename Fr _ _ _ _ => F13
        rename News _ _ _ _ => N13
        have hyl' : ys.length = as.length := by rw [hyl, List.size_toArray]; exact hl
        have hos' : ∀ (j : Nat) v o, ys[j]? = some v → (as.map fun a => tyEv T r σ a [])[j]? = some o → OptV (tl ++ nd) v o := hos
        have hos2 := tyEv_all (T := T) (r := r) (σ := σ) as
        refine led_noneIn (os := as.map fun a => tyEv T r σ a []) N13 (List.Mem.head _) (by ktr_units) (by rw [List.length_map]; exact hyl') (fun j v o e1 e2 => (hos j v o e1 e2).mono (by lcg_sub)) ?_
        cases hb : (as.map fun a => tyEv T r σ a []).any Option.isNone with
        | true =>
          rw [hb] at hos2
          replace hos2 : tyAll T r σ as = none := hos2
          rw [tyEv_on, hos2] at hret
          k_steps
          rename News _ _ _ _ => N14
          exact hret _ ((D, LCg.lst ys) :: (tl ++ (DT, tupOf vs 0) :: [(L1 + 1 + 1, c1), (L1 + 1, c2)])) nd _ _ (by assumption) (news_sub N14 (by lcg_sub)) (Fresh.allLt (ab2 lD (by lcg_sub)) (Fresh.append hfr1 (Fresh.allLt (allLt_mem l10.2.2) (two_fresh l1)))) ⟨rfl, rfl⟩
        | false =>
          rw [hb] at hos2
          obtain ⟨ts, hts1, hts2⟩ := hos2
          k_steps
          refine unhalt ?_
          rw [tyEv_on, hts1] at hret
          have htl : ts.length = as.length := by have := congrArg List.length hts2; simpa using this.symm
          have hyts : TyVs (tl ++ nd) ys ts := ⟨by omega, fun j v t e1 e2 => by
            have := hos j v (some t) e1 (by rw [hts2, List.getElem?_map, e2]; rfl)
            exact this⟩
          rename Fr _ _ _ _ => F14
          rename News _ _ _ _ => N14
          refine led_addLists (ws := mv) (vs := ys) (k' := kk) F14 N14 (List.Mem.head _) (by k_mem) (by omega) fun DA h15 F15 N15 l15 => ?_
          try k_fold
          k_steps
          refine unhalt ?_
          have hwts : ∀ m ∈ ts, m.wid ≤ W + (n + 1) * (6 * r + 3) := fun m hm => by
            obtain ⟨j, hj⟩ := List.mem_iff_getElem?.mp hm
            have e1 : (as.map fun a => tyEv T r σ a [])[j]? = some (some m) := by rw [hts2, List.getElem?_map, hj]; rfl
            rw [List.getElem?_map] at e1
            cases e2 : as[j]? with
            | none => rw [e2] at e1; cases e1
            | some a1 =>
              rw [e2] at e1
              have ha1m := List.mem_of_getElem? e2
              have hda := (Ty.dep_on as (.leaf hh)).2 a1 ha1m
              have := wid_ty ok hσ a1 [] m n (by omega) (hnas a1 ha1m) (fun m h => nomatch h) (Option.some.inj e1)
              have h3 := Ty.nar_wid (hnas a1 ha1m)
              have h4 : (n + 1) * (6 * r + 3) = n * (6 * r + 3) + (6 * r + 3) := by rw [Nat.add_mul, Nat.one_mul]
              have hl : ([] : List Ty).length = 0 := rfl
              omega
          refine' tell_use ((D, LCg.lst ys) :: (DT, tupOf vs 0) :: (L1 + 1 + 1, c1) :: (L1 + 1, c2) :: fr) (ol (nd := (DA, listOf (ys ++ mv).toArray 0) :: (tl ++ nd)) (h := hh) (k := kh) (kk := 0) (W := W + (n + 1) * (6 * r + 3)) (K := K + 3) (ms := ts ++ ms) (ht.mono (by lcg_sub)) (he.mono (by lcg_sub)) (List.Mem.head _) ((hyts.append (hms.mono (by lcg_sub))).mono (by lcg_sub)) (fun h t e => Nat.le_trans (hσ h t e) (Nat.le_add_right _ _)) (fun m hm => (List.mem_append.mp hm).elim (hwts m) fun q => Nat.le_trans (hmW m q) (Nat.le_add_right _ _)) (by rw [List.length_append]; omega) (by omega) hall1) ?k1 ?k2 ?k3 ?k4 ?sub ?hm ?k5 ?kk ?kd ?ku ?_ (fun h => h.elim)
          walk_at "tell sides"
          intro r2 tl2 led' h' tk' F' N' hfr' hq29
          obtain ⟨hl', hov⟩ := hq29
          subst led'
          try k_fold
          k_steps
          rename News _ _ _ _ => N16
          exact hret _ (tl2 ++ (DA, listOf (ys ++ mv).toArray 0) :: (D, LCg.lst ys) :: (tl ++ (DT, tupOf vs 0) :: [(L1 + 1 + 1, c1), (L1 + 1, c2)])) nd _ _ (by assumption) (news_sub N16 (by lcg_sub)) (Fresh.append (hfr'.sub (by lcg_sub)) (Fresh.allLt (ab2 l15 (by lcg_sub)) (Fresh.allLt (ab2 lD (by lcg_sub)) (Fresh.append hfr1 (Fresh.allLt (allLt_mem l10.2.2) (two_fresh l1)))))) ⟨rfl, hov.mono (by lcg_sub)⟩

theorem out_all {w : World} {mean : ExcName → Option Value} {mg mb : Str → Option Value} {T : Str → Option Def} {rk : Str → Nat} {z : Nat} (ok : TOk T rk z) : ∀ r n, OutTy w mean mg mb T rk r n := by
  intro r
  induction r with
  | zero => exact out_ty ok (out_leaf ok fun r' e => by cases e)
  | succ r ih => exact out_ty ok (out_leaf ok fun r' e => by cases e; exact ih 2)
end

section
/- part C_kmake -/
theorem kw_C_kmake_s_0 : True := by
  w_top off
  k_with_none
  k_with "my path" => first | with_reducible exact And.left | with_reducible exact And.right | (refine path_r ?_; k_extra "my path")
  k_with "my ne" => ((try dsimp only); first | (refine' Nat.ne_of_gt (lt_pick ?neA ?neB); (case neA => with_reducible assumption); (case neB => k_extra "my path")) | (refine' Nat.ne_of_lt (lt_pick ?neA ?neB); (case neA => with_reducible assumption); (case neB => k_extra "my path")) | exact Nat.ne_of_gt (by with_reducible assumption) | exact Nat.ne_of_lt (by with_reducible assumption) | fail)
  k_with "my om" => first | exact Nat.le_of_ble_eq_true rfl | with_reducible assumption | lia
  k_with "eval Name" => (k_here; k_dflt (first | (refine' nameX_L ?Fw331 ?vw331 ?_ ?aw331 ?bw331; (case Fw331 => k_asm); (case aw331 => rfl); (case bw331 => rfl); (case vw331 => rfl); k_whole) | (refine' nameX_C ?Nw331 ?cw331 ?mw331 ?dw331 ?_ ?aw331 ?bw331; (case aw331 => rfl); (case bw331 => rfl); (case Nw331 => k_asm); (case cw331 => rfl); (case mw331 => k_mem); (case dw331 => k_asm); k_whole) | (refine' nameX_K ?Fw331 ?Xw331 ?Tw331 ?ew331 ?_ ?aw331 ?bw331; (case Fw331 => k_asm); (case Xw331 => k_asm); (case Tw331 => k_asm); (case aw331 => rfl); (case bw331 => rfl); (case ew331 => k_is); k_whole) | (refine' nameX_B ?Fw331 ?Xw331 ?Tw331 ?ew331 ?vw331 ?nw331 ?_ ?aw331 ?bw331; (case Fw331 => k_asm); (case Xw331 => k_asm); (case Tw331 => k_asm); (case aw331 => rfl); (case bw331 => rfl); (case ew331 => k_is); (case vw331 => boot_fast); (case nw331 => decide); k_whole)))
  k_with "call builtin:isinstance" => (k_here; (with_reducible show wpAny _ _ (call _ [Value.ref _, Value.ref _]) _ _ _); k_dflt (first | (refine' isi_call ?k1w332 ?k2w332 ?k3w332 ?k4w332 ?_; (case k1w332 => k_in); (case k2w332 => k_types); (case k3w332 => k_is); (case k4w332 => intro e; cases e); k_whole) | (refine' kin_callC ?k1w332 ?k2w332 ?k3w332 ?k4w332 ?k5w332 ?k6w332 ?k7w332 ?k8w332 ?k9w332 ?_; (case k1w332 => k_in); (case k2w332 => k_inst); (case k3w332 => kin_no); (case k4w332 => k_is); (case k5w332 => k_is); (case k6w332 => k_is); (case k7w332 => k_is); (case k8w332 => k_is); (case k9w332 => k_is); k_whole)))
  k_with "getAttr ref" => (k_here; k_dflt (refine' get_own ?k1w333 ?k2w333 ?k3w333 ?k4w333 ?k5w333 ?k6w333 ?k7w333 ?k8w333 ?k9w333 ?_; (case k1w333 => k_asm); (case k2w333 => k_asm); (case k3w333 => k_inst); (case k4w333 => k_is); (case k5w333 => k_is); (case k6w333 => k_is); (case k7w333 => k_is); (case k8w333 => k_get); (case k9w333 => k_handed); k_whole))
  k_with "exec For Name Name cons nil" => refine halt ?_
  k_with "my src" => first | exact fun _ h => h | with_reducible assumption | (refine sub_t ?_; lcg_src) | (refine sub_l ?_; lcg_src) | (refine sub_r ?_; lcg_src)
  k_with "my sub" => first | exact sub_n | (refine sub_c ?_ ?_; k_mem; lcg_sub) | (refine sub_a ?_ ?_; lcg_sub; lcg_sub) | lcg_src
  k_with "my all" => first | assumption | (refine List.forall_mem_append.mpr ⟨?_, ?_⟩ <;> k_all)
  k_with "my mem" => first | with_reducible assumption | exact List.Mem.head _ | (refine List.mem_cons_of_mem _ ?_; k_mem) | (refine List.mem_append_left _ ?_; k_mem) | (refine List.mem_append_right _ ?_; k_mem)
  k_with "tell sides" => ((case k1 => k_asm); (case k2 => k_asm); (case k3 => k_asm); (case k4 => k_asm); (case k5 => k_asm); (try (case sub => lcg_sub)); (try (case hm => first | exact mu_nil | assumption | (refine mu_one ?_; k_all))); (case kk => first | exact rfl | assumption); (case kd => ktr_room); (case ku => ktr_units))
  k_with "enter" => (k_dflt (refine' code_def ?k1w340 ?k2w340 ?k3w340 ?k4w340 ?k5w340 ?kAw340 ?kFw340 ?kKw340 ?k6w340 ?k7w340 ?k8w340 ?k9w340 ?kBw340 ?_ ?c2w340 ?c3w340 ?c4w340 ?c5w340; (case kAw340 => exact rfl); (case kFw340 => exact rfl); (case kKw340 => assumption); (case k1w340 => k_asm); (case k2w340 => k_asm); (case k3w340 => k_asm); (case k4w340 => k_asm); (case k5w340 => k_asm); (case k6w340 => k_is); (case k7w340 => k_is); (case k8w340 => ktr_room); (case k9w340 => exact BindsTo.of_eq rfl); (case c5w340 => decide); (case kBw340 => exact locs rfl); (case c2w340 => exact rfl); (case c3w340 => exact rfl); (case c4w340 => exact rfl); k_whole))
  k_with "enter cells" => (k_dflt (refine' code_defC ?k1w341 ?k2w341 ?k3w341 ?k4w341 ?k5w341 ?kAw341 ?kFw341 ?kKw341 ?k6w341 ?k7w341 ?k8w341 ?k9w341 ?kBw341 ?kDw341 ?_ ?c2w341 ?c3w341 ?c4w341; (case kAw341 => exact rfl); (case kFw341 => exact rfl); (case kKw341 => assumption); (case k1w341 => k_asm); (case k2w341 => k_asm); (case k3w341 => k_asm); (case k4w341 => k_asm); (case k5w341 => k_asm); (case k6w341 => k_is); (case k7w341 => k_is); (case k8w341 => ktr_room); (case k9w341 => exact BindsTo.of_eq rfl); (case kBw341 => exact rfl); (case kDw341 => decide +kernel); (case c2w341 => exact rfl); (case c3w341 => exact rfl); (case c4w341 => exact rfl); k_whole))
  k_with "enter own" => (refine' code_def ?k1w342 ?k2w342 ?k3w342 ?k4w342 ?k5w342 ?kAw342 ?kFw342 ?kKw342 ?k6w342 ?k7w342 ?k8w342 ?k9w342 ?kBw342 ?_ ?c2w342 ?c3w342 ?c4w342 ?c5w342; (case kAw342 => exact rfl); (case kFw342 => exact rfl); (case kKw342 => exact rfl); (case k1w342 => k_asm); (case k2w342 => k_asm); (case k3w342 => k_asm); (case k4w342 => k_asm); (case k5w342 => k_asm); (case k6w342 => k_is); (case k7w342 => k_is); (case k8w342 => ktr_room); (case k9w342 => first | exact BindsTo.of_eq rfl | exact binds_K (by k_in) rfl (by k_is) rfl rfl rfl | fail "k_enter: no rule for these arguments"); (case c5w342 => decide); (case kBw342 => exact locs rfl); (case c2w342 => exact rfl); (case c3w342 => exact rfl); (case c4w342 => exact rfl); k_whole; intro g' L' h' FG' F' N' B' X' T'; (try dsimp only); (try k_lift B'); (try k_fold))
  k_with "call ref" => (k_here; k_dflt (first
    | (refine' call_cls ?k1w343 ?k2w343 ?k3w343 ?k4w343 ?k5w343 ?k6w343 ?_; (case k1w343 => k_asm); (case k2w343 => k_asm); (case k3w343 => k_asm); (case k4w343 => k_is); (case k5w343 => k_is); (case k6w343 => k_is); k_whole; intro x' d' h' F' N' l1 l2; (try k_lt l1); (try k_lt2 l2); (try k_sweep); walk_at "enter own")
    | (refine wpAny_call ?_; walk_at "enter own")))
  k_with "subscriptTail" => (k_here; (with_reducible show wpAny _ _ (subscriptTail _ _ (Value.ref _) (Value.int 0 _)) _ _ _); k_dflt (refine' led_tup0 ?k1w344 ?k2w344 ?k3w344 ?_; (case k1w344 => k_asm); (case k2w344 => k_mem); (case k3w344 => (first | assumption | omega)); k_whole))
  k_with "subscriptTail Name Slice ref ref" => (k_here; (with_reducible show wpAny _ _ (subscriptTail _ (PySem.Expr.Slice _ _ none _) (Value.ref _) (Value.ref _)) _ _ _); k_dflt (refine' led_tupTail ?k1w345 ?k2w345 ?k3w345 ?k4w345 ?_; (case k1w345 => k_asm); (case k2w345 => k_asm); (case k3w345 => k_mem); (case k4w345 => (first | assumption | omega)); k_whole); intro D' h' F' N' l1; (try k_lt l1); (try k_sweep))
  k_with "call ref" => ((with_reducible first | show wpAny _ _ (call (Value.ref 191) _) _ _ _ | show wpAny _ _ (call (Value.ref 198) _) _ _ _ | show wpAny _ _ (call (Value.ref 205) _) _ _ _ | show wpAny _ _ (call (Value.ref 224) _) _ _ _ | show wpAny _ _ (call (Value.ref 229) _) _ _ _ | show wpAny _ _ (call (Value.ref 243) _) _ _ _ | show wpAny _ _ (call (Value.ref 257) _) _ _ _ | show wpAny _ _ (call (Value.ref 264) _) _ _ _ | show wpAny _ _ (call (Value.ref 276) _) _ _ _ | show wpAny _ _ (call (Value.ref 283) _) _ _ _ | show wpAny _ _ (call (Value.ref 290) _) _ _ _ | show wpAny _ _ (call (Value.ref 295) _) _ _ _ | show wpAny _ _ (call (Value.ref 302) _) _ _ _ | show wpAny _ _ (call (Value.ref 309) _) _ _ _); refine halt ?_)
  k_with "eval ListComp" => refine halt ?_
  k_with "exec Assign cons ListComp" => refine halt ?_
  k_with "exec For" => refine halt ?_
  k_with "exec While" => refine halt ?_
  k_with "call type:tuple" => ((with_reducible show wpAny _ _ (call (Value.type "tuple") [Value.ref _]) _ _ _); refine halt ?_)
  k_with "binaryOp Add ref ref" => ((with_reducible show wpAny _ _ (binaryOp Operator.Add (Value.ref _) (Value.ref _)) _ _ _); refine halt ?_)
  k_with "my tabat" => first | assumption | exact ab0 (by assumption) | exact ab1 (by assumption) | (refine ab_trans (by assumption) ?_; k_tabat)
  k_with "my updF" => first | exact Fresh.nil | assumption | (refine Fresh.allLt ?_ ?_; k_tabat; k_updF) | (refine Fresh.append ?_ ?_; k_updF; k_updF)
  k_with "getMethod ref" => (k_here; (with_reducible show wpAny _ _ (getMethod (Value.ref _) (Str.ofString "get") _) _ _ _); k_dflt (refine kdg_method (knd := PySem.strKind _ _) (by k_asm) (by k_mem) (by assumption) ?_))
  k_with "call builtin:dict.get" => (k_here; k_dflt (refine kdg_get2 (knd := PySem.strKind _ _) (by k_asm) (by k_mem) (by assumption) (by assumption) (strKind_is _ _ _ _) _ rfl ?_))
  k_with "compareOp NotEq ref ref" => (k_here; k_dflt (first | (refine' led_ne_nil ?k1w357 ?k2w357 ?k3w357 ?k4w357 ?_; (case k1w357 => k_asm); (case k2w357 => k_mem); (case k3w357 => k_mem); (case k4w357 => ke_room)) | (refine' led_ne_snoc ?k1w357 ?k2w357 ?k3w357 ?k4w357 ?_; (case k1w357 => k_asm); (case k2w357 => k_mem); (case k3w357 => k_mem); (case k4w357 => ke_room))))
  k_with "compareOp Eq ref ref" => (k_here; k_dflt (first | (refine' led_eq_nil ?k1w358 ?k2w358 ?k3w358 ?k4w358 ?_; (case k1w358 => k_asm); (case k2w358 => k_mem); (case k3w358 => k_mem); (case k4w358 => ke_room)) | (refine' led_eq_cons ?k1w358 ?k2w358 ?k3w358 ?k4w358 ?_; (case k1w358 => k_asm); (case k2w358 => k_mem); (case k3w358 => k_mem); (case k4w358 => ke_room))))
  trivial

theorem kw_C_kmake_0 : True := by
  k_with "enter own2" => (refine' code_def ?k1w359 ?k2w359 ?k3w359 ?k4w359 ?k5w359 ?kAw359 ?kFw359 ?kKw359 ?k6w359 ?k7w359 ?k8w359 ?k9w359 ?kBw359 ?_ ?c2w359 ?c3w359 ?c4w359 ?c5w359; (case kAw359 => exact rfl); (case kFw359 => exact rfl); (case kKw359 => assumption); (case k1w359 => k_asm); (case k2w359 => k_asm); (case k3w359 => k_asm); (case k4w359 => k_asm); (case k5w359 => k_asm); (case k6w359 => k_is); (case k7w359 => k_is); (case k8w359 => ktr_room); (case k9w359 => first | exact BindsTo.of_eq rfl | exact binds_K (by k_in) rfl (by k_is) rfl rfl rfl | fail "k_enter: no rule for these arguments"); (case c5w359 => decide); (case kBw359 => exact locs rfl); (case c2w359 => exact rfl); (case c3w359 => exact rfl); (case c4w359 => exact rfl); k_whole; intro g' L' h' FG' F' N' B' X' T'; (try dsimp only); (try k_lift B'); (try k_fold))
  k_with "getMethod type:Exception" => (k_here; refine' method_type ?Fw360 ?Xw360 ?mw360 (by decide +kernel) ?ew360 ?hw360 ?_; (case Fw360 => k_asm); (case Xw360 => k_asm); (case mw360 => kernel_rfl); (case ew360 => k_dflt k_is); (case hw360 => k_handed))
  k_with "call builtin:Exception.__init__" => refine halt ?_
  k_with "setAttr ref" => refine halt ?_
  k_with "call ref" => ((with_reducible show wpAny _ _ (call (Value.ref 45) _) _ _ _); refine halt ?_)
  trivial
noncomputable abbrev kBm : List Value := [.ref 32, .type "Exception", .type "BaseException", .type "object"]
theorem k45 (w : World) : ∃ nm q N bs hdct sn sub ab col dd k0 k1 k2 k3 k5, (hdHeap w.params).lookup 45 = some (excClassObj nm q 45 N bs kBm hdct sn sub ab col dd k0 k1 k2 k3 k5 "Exception.__new__") :=
  ⟨_, _, _, _, _, _, _, _, _, _, _, _, _, _, _, by with_unfolding_all rfl⟩
theorem kX (w : World) : ∃ cd, XCls (hdHeap w.params) 45 cd := by
  refine cps fun GX hGX => ?_
  obtain ⟨nm, q, N, bs, hdct, sn, sub, ab, col, dd, k0, k1, k2, k3, k5, hC⟩ := k45 w
  refine hGX ?_
  clear hGX GX
  refine ⟨_, ⟨by unfold clsIn; rw [hC], fun self => ?_, by with_unfolding_all rfl, by with_unfolding_all rfl, ?_⟩⟩
  · show refuseLoop self "__setattr__" (Value.ref 45 :: kBm) = pure ()
    rw [refuseLoop_ref, refuseLoop_ref]
    kernel_rfl
  · have h3 : (clsIn (hdHeap w.params) 45).any (·.hasDict) = true := by with_unfolding_all rfl
    unfold clsIn at h3
    rw [hC] at h3
    exact h3
theorem k_msg (w : World) : findIn (hdHeap w.params) (.ref 45) "message" = some none := by with_unfolding_all rfl
theorem k_plc (w : World) : findIn (hdHeap w.params) (.ref 45) "place" = some none := by with_unfolding_all rfl

theorem kinit_news {w : World} {A : Around} {E : Value → Shared → Prop} {s : Shared} {h₀ : Heap} {L : Addr} {m : Str → Option Value} {fr : List (Addr × Obj)} {e t0 : Addr} {v : Value} {Q : Value → Shared → Prop} (F : Fr h₀ L s.heap m) (X : (hdHeap w.params).In h₀)
    (N : News h₀ L s.heap ((e, { cls := .ref 45, data := .fields #[.ref t0, .none, .none, .none, .bool false, .none] }) :: fr)) (hne : ∀ p ∈ fr, p.1 ≠ e)
    (h : ∀ h' T, Fr h₀ L h' m → News h₀ L h' ((e, { cls := .ref 45, data := .fields #[.ref T, .none, .none, .none, .bool false, .none] }) :: fr) → Q .none { s with heap := h' }) :
    wpAny (model PySem.Challenge.rw_xw0149_01.row.prog w) A (call (.builtin "Exception.__init__") [.ref e, v]) Q E s := by
  refine cps fun GX hGX => ?_
  obtain ⟨nm, q, N1, bs, hdct, sn, sub, ab, col, dd, k0, k1, k2, k3, k5, hC⟩ := k45 w
  refine hGX ?_
  clear hGX GX
  refine cps fun GX hGX => ?_
  obtain ⟨hh, g, d, t, os⟩ := s
  refine hGX ?_
  clear hGX GX
  refine mine_init (B := "Exception") PySem.F.excBase_Exception rfl (F.keep _ _ (X _ _ hC)) (N _ List.mem_cons_self).1 (by size_fits) ?_
  have F1 := F.push { cls := .type "tuple", data := .seq [v].toArray }
  have N1 := N.push F { cls := .type "tuple", data := .seq [v].toArray }
  have hes : e ≠ hh.objs.size := Nat.ne_of_lt (Heap.lt_size (N _ List.mem_cons_self).1)
  obtain ⟨F2, N2⟩ := news_upd (d := e) (pre := [(hh.objs.size, { cls := .type "tuple", data := .seq [v].toArray })]) (post := fr) (f := Obj.mapFields (·.setIfInBounds 0 (.ref hh.objs.size))) F1 N1 (by intro p hp; rw [List.mem_singleton.mp hp]; exact Ne.symm hes) hne rfl rfl
  exact h _ _ F2 (news_sub N2 (by intro p hp; exact List.mem_cons_of_mem _ hp))


theorem k_ini (w : World) : findIn (hdHeap w.params) (.ref 45) "__init__" = some (some (.ref 29)) := by with_unfolding_all rfl
theorem k_29 (w : World) : ∃ o, (hdHeap w.params).lookup 29 = some o ∧ o.cls = .type "function" := ⟨_, by with_unfolding_all rfl, rfl⟩
noncomputable abbrev excObj (dx : Option Addr) (T : Addr) : Obj := { cls := .ref 45, dict := dx, data := .fields #[.ref T, .none, .none, .none, .bool false, .none] }
set_option maxRecDepth 100000 in
set_option maxHeartbeats 8000000 in
theorem kmake {w : World} {mean : ExcName → Option Value} {mg mb : Str → Option Value} {nd : List (Addr × Obj)} {v1 v2 : Value} :
    Tell w mean mg mb 45 [v1, v2] 12 [] nd
      (fun r tl led' => led' = nd ∧ ∃ e dx T, r = .ref e ∧ tl = [(e, excObj dx T)]) False [] := by
  unfold Tell
  k_fill
  intro dp un gd cn cs a ccd cl outer A₀ base h₀ L m s fr Q E B F X N hmu T hk hd hu hret hfail
  refine cps fun GX hGX => ?_
  obtain ⟨nm, q, N1, bs, hdct, sn, sub, ab, col, dd, k0, k1, k2, k3, k5, hC⟩ := k45 w
  refine hGX ?_
  clear hGX GX
  obtain ⟨o29, h29, hc29⟩ := k_29 w
  have X1 := X.keeps F.keep
  refine cps fun GX hGX => ?_
  obtain ⟨hh, gg, dr, tk, os⟩ := s
  refine hGX ?_
  clear hGX GX
  refine mine_call (B := "Exception") PySem.F.excBase_Exception rfl rfl rfl (X1 _ _ hC) (looks_findIn X1 (k_ini w)) (X1 _ _ h29) hc29 (fun h1 e hm hle => ?_) (by size_fits)
  refine cps fun GX hGX => ?_
  obtain ⟨hkeep, hnew, t0, he, ht1, ht2⟩ := hm
  refine hGX ?_
  clear hGX GX
  have F1 : Fr h₀ L h1 m := F.keeps hkeep
  have hLlt : L < hh.objs.size := F.ns.lt
  have hne : ∀ p ∈ fr ++ nd, @LT.lt Nat _ p.1 e := fun p hp => Nat.lt_of_lt_of_le (Heap.lt_size (N p hp).1) hle
  have hne' : ∀ p ∈ fr ++ nd, p.1 ≠ e := fun p hp => Nat.ne_of_lt (hne p hp)
  have he0 : h₀.get? e = none := by
    cases q : h₀.get? e with
    | none => rfl
    | some o => exact absurd (Heap.lt_size (F.keep _ _ q)) (Nat.not_lt.mpr hle)
  have N1 : News h₀ L h1 ((e, excObj none t0) :: (fr ++ nd)) := fun p hp => by
    rcases List.mem_cons.mp hp with rfl | hp
    · exact ⟨he, fun q => by have : e = L := q; rw [this] at hle; exact Nat.lt_irrefl _ (Nat.lt_of_lt_of_le hLlt hle), he0⟩
    · exact ⟨hkeep _ _ (N p hp).1, (N p hp).2⟩
  have hF2 : Fr h₀ L h1 m := F1
  clear F X1 hkeep hnew ht1 ht2 he hne' hLlt hle he0 h29 hc29 hC F1
  clear N
  try k_fold
  refine wpAny_call ?_
  walk_at "enter own2"
  k_steps
  refine unhalt ?_
  rename Fr _ _ _ _ => F5
  rename News _ _ _ _ => N5
  rename (Mine.hdHeap w.params).In _ => X5
  obtain ⟨cd, Y⟩ := kX w
  have hne' : ∀ p ∈ fr ++ nd, p.1 ≠ e := fun p hp => Nat.ne_of_lt (hne p hp)
  refine kinit_news (fr := fr ++ nd) (t0 := t0) F5 X5 (news_sub N5 (by lcg_sub)) hne' fun h1 T1 F1 N1 => ?_
  try k_fold
  k_steps
  refine unhalt ?_
  refine x_set0 (news := fr ++ nd) Y F1 X5 N1 hne' (k_msg w) fun h2 dx F2 N2 hxd hnd => ?_
  try k_fold
  k_steps
  refine unhalt ?_
  refine x_set1 (news := fr ++ nd) Y F2 X5 N2 hxd hnd (k_plc w) rfl rfl rfl (Nat.le_of_ble_eq_true rfl) fun h3 F3 N3 => ?_
  try k_fold
  k_steps
  rename News _ _ _ _ => N6
  exact hret _ [(e, excObj (some dx) T1)] nd _ _ (by assumption) (news_sub N6 (by lcg_sub)) (Fresh.allLt hne Fresh.nil) ⟨rfl, e, some dx, T1, rfl, rfl⟩

/-- an exception of the ledger leaves the frame that raises it -/
theorem blow_raise2 {M : Model} {A : Around} {E : Value → Shared → Prop} {s : Shared} {base h₀ : Heap} {L e : Addr} {m : Str → Option Value} {keep : List (Addr × Obj)} {env env' : Env} {outer : List Env} {g : Heap} {L' : Addr} {m' : Str → Option Value} {news : List (Addr × Obj)} {dx : Option Addr} {T : Addr} {Q : Unit → Shared → Prop}
    (K : Below A base (env :: outer) g) (F : Fr g L' s.heap m') (N : News g L' s.heap ((e, excObj dx T) :: news)) (hne : ∀ p ∈ news, p.1 ≠ e) (hf : env'.frame = some L') (hk : env'.scope.kind = .function) (FG : Fr h₀ L g m)
    (hs : ∀ p ∈ keep, p ∈ news) (hq : ∀ h', Blow base h₀ L m keep env outer e h' → Q () { s with heap := h' }) : wpAny M (A.deeper env') (leaving env' (.ref e)) Q E s := by
  have He := N _ List.mem_cons_self
  have up : ∀ b o, b ≠ e → s.heap.get? b = some o → (s.heap.hide e).get? b = some o := fun b o q z => (Heap.hide_ne s.heap q).trans z
  have F' : Fr g L' (s.heap.hide e) m' := by
    refine ⟨F.ns.at' fun o z => up _ o (Ne.symm He.2.1) z, fun b o z => up b o (fun q => ?_) (F.keep b o z), F.above⟩
    rw [q, He.2.2] at z; cases z
  have N' : News g L' (s.heap.hide e) news := fun p hp => ⟨up _ _ (hne p hp) (N p (List.mem_cons_of_mem _ hp)).1, (N p (List.mem_cons_of_mem _ hp)).2⟩
  exact blow_raise K F' N' hf hk FG (fun b o z => Heap.of_hide z) (Heap.hide_self _ _) He.1 rfl rfl rfl rfl hs hq

theorem raises_of {w : World} {h₀ : Heap} {L e : Addr} {m : Str → Option Value} {s : Shared} {E : Value → Shared → Prop} {news : List (Addr × Obj)} {dx : Option Addr} {T : Addr} (F : Fr h₀ L s.heap m) (X : (Mine.hdHeap w.params).In h₀) (N : News h₀ L s.heap news)
    (hm : (e, excObj dx T) ∈ news) (h : E (.ref e) s) : Raises 45 E (.ref e) s := by
  refine cps fun GX hGX => ?_
  obtain ⟨nm, q, N1, bs, hdct, sn, sub, ab, col, dd, k0, k1, k2, k3, k5, hC⟩ := k45 w
  refine hGX ?_
  clear hGX GX
  exact ⟨e, dx, T, rfl, ⟨nm, q, N1, bs, kBm, hdct, sn, sub, ab, col, dd, k0, k1, k2, k3, k5, "Exception.__new__", rfl, F.keep _ _ (X _ _ hC)⟩, (N _ hm).1, h⟩
end

section
/- part C_step -/
theorem kw_C_step_s_0 : True := by
  w_top off
  k_with_none
  k_with "my path" => first | with_reducible exact And.left | with_reducible exact And.right | (refine path_r ?_; k_extra "my path")
  k_with "my ne" => ((try dsimp only); first | (refine' Nat.ne_of_gt (lt_pick ?neA ?neB); (case neA => with_reducible assumption); (case neB => k_extra "my path")) | (refine' Nat.ne_of_lt (lt_pick ?neA ?neB); (case neA => with_reducible assumption); (case neB => k_extra "my path")) | exact Nat.ne_of_gt (by with_reducible assumption) | exact Nat.ne_of_lt (by with_reducible assumption) | fail)
  k_with "my om" => first | exact Nat.le_of_ble_eq_true rfl | with_reducible assumption | lia
  k_with "eval Name" => (k_here; k_dflt (first | (refine' nameX_L ?Fw364 ?vw364 ?_ ?aw364 ?bw364; (case Fw364 => k_asm); (case aw364 => rfl); (case bw364 => rfl); (case vw364 => rfl); k_whole) | (refine' nameX_C ?Nw364 ?cw364 ?mw364 ?dw364 ?_ ?aw364 ?bw364; (case aw364 => rfl); (case bw364 => rfl); (case Nw364 => k_asm); (case cw364 => rfl); (case mw364 => k_mem); (case dw364 => k_asm); k_whole) | (refine' nameX_K ?Fw364 ?Xw364 ?Tw364 ?ew364 ?_ ?aw364 ?bw364; (case Fw364 => k_asm); (case Xw364 => k_asm); (case Tw364 => k_asm); (case aw364 => rfl); (case bw364 => rfl); (case ew364 => k_is); k_whole) | (refine' nameX_B ?Fw364 ?Xw364 ?Tw364 ?ew364 ?vw364 ?nw364 ?_ ?aw364 ?bw364; (case Fw364 => k_asm); (case Xw364 => k_asm); (case Tw364 => k_asm); (case aw364 => rfl); (case bw364 => rfl); (case ew364 => k_is); (case vw364 => boot_fast); (case nw364 => decide); k_whole)))
  k_with "call builtin:isinstance" => (k_here; (with_reducible show wpAny _ _ (call _ [Value.ref _, Value.ref _]) _ _ _); k_dflt (first | (refine' isi_call ?k1w365 ?k2w365 ?k3w365 ?k4w365 ?_; (case k1w365 => k_in); (case k2w365 => k_types); (case k3w365 => k_is); (case k4w365 => intro e; cases e); k_whole) | (refine' kin_callC ?k1w365 ?k2w365 ?k3w365 ?k4w365 ?k5w365 ?k6w365 ?k7w365 ?k8w365 ?k9w365 ?_; (case k1w365 => k_in); (case k2w365 => k_inst); (case k3w365 => kin_no); (case k4w365 => k_is); (case k5w365 => k_is); (case k6w365 => k_is); (case k7w365 => k_is); (case k8w365 => k_is); (case k9w365 => k_is); k_whole)))
  k_with "getAttr ref" => (k_here; k_dflt (refine' get_own ?k1w366 ?k2w366 ?k3w366 ?k4w366 ?k5w366 ?k6w366 ?k7w366 ?k8w366 ?k9w366 ?_; (case k1w366 => k_asm); (case k2w366 => k_asm); (case k3w366 => k_inst); (case k4w366 => k_is); (case k5w366 => k_is); (case k6w366 => k_is); (case k7w366 => k_is); (case k8w366 => k_get); (case k9w366 => k_handed); k_whole))
  k_with "exec For Name Name cons nil" => refine halt ?_
  k_with "my src" => first | exact fun _ h => h | with_reducible assumption | (refine sub_t ?_; lcg_src) | (refine sub_l ?_; lcg_src) | (refine sub_r ?_; lcg_src)
  k_with "my sub" => first | exact sub_n | (refine sub_c ?_ ?_; k_mem; lcg_sub) | (refine sub_a ?_ ?_; lcg_sub; lcg_sub) | lcg_src
  k_with "my all" => first | assumption | (refine List.forall_mem_append.mpr ⟨?_, ?_⟩ <;> k_all)
  k_with "my mem" => first | with_reducible assumption | exact List.Mem.head _ | (refine List.mem_cons_of_mem _ ?_; k_mem) | (refine List.mem_append_left _ ?_; k_mem) | (refine List.mem_append_right _ ?_; k_mem)
  k_with "tell sides" => ((case k1 => k_asm); (case k2 => k_asm); (case k3 => k_asm); (case k4 => k_asm); (case k5 => k_asm); (try (case sub => lcg_sub)); (try (case hm => first | exact mu_nil | assumption | (refine mu_one ?_; k_all))); (case kk => first | exact rfl | assumption); (case kd => ktr_room); (case ku => ktr_units))
  k_with "enter" => (k_dflt (refine' code_def ?k1w373 ?k2w373 ?k3w373 ?k4w373 ?k5w373 ?kAw373 ?kFw373 ?kKw373 ?k6w373 ?k7w373 ?k8w373 ?k9w373 ?kBw373 ?_ ?c2w373 ?c3w373 ?c4w373 ?c5w373; (case kAw373 => exact rfl); (case kFw373 => exact rfl); (case kKw373 => assumption); (case k1w373 => k_asm); (case k2w373 => k_asm); (case k3w373 => k_asm); (case k4w373 => k_asm); (case k5w373 => k_asm); (case k6w373 => k_is); (case k7w373 => k_is); (case k8w373 => ktr_room); (case k9w373 => exact BindsTo.of_eq rfl); (case c5w373 => decide); (case kBw373 => exact locs rfl); (case c2w373 => exact rfl); (case c3w373 => exact rfl); (case c4w373 => exact rfl); k_whole))
  k_with "enter cells" => (k_dflt (refine' code_defC ?k1w374 ?k2w374 ?k3w374 ?k4w374 ?k5w374 ?kAw374 ?kFw374 ?kKw374 ?k6w374 ?k7w374 ?k8w374 ?k9w374 ?kBw374 ?kDw374 ?_ ?c2w374 ?c3w374 ?c4w374; (case kAw374 => exact rfl); (case kFw374 => exact rfl); (case kKw374 => assumption); (case k1w374 => k_asm); (case k2w374 => k_asm); (case k3w374 => k_asm); (case k4w374 => k_asm); (case k5w374 => k_asm); (case k6w374 => k_is); (case k7w374 => k_is); (case k8w374 => ktr_room); (case k9w374 => exact BindsTo.of_eq rfl); (case kBw374 => exact rfl); (case kDw374 => decide +kernel); (case c2w374 => exact rfl); (case c3w374 => exact rfl); (case c4w374 => exact rfl); k_whole))
  k_with "enter own" => (refine' code_def ?k1w375 ?k2w375 ?k3w375 ?k4w375 ?k5w375 ?kAw375 ?kFw375 ?kKw375 ?k6w375 ?k7w375 ?k8w375 ?k9w375 ?kBw375 ?_ ?c2w375 ?c3w375 ?c4w375 ?c5w375; (case kAw375 => exact rfl); (case kFw375 => exact rfl); (case kKw375 => exact rfl); (case k1w375 => k_asm); (case k2w375 => k_asm); (case k3w375 => k_asm); (case k4w375 => k_asm); (case k5w375 => k_asm); (case k6w375 => k_is); (case k7w375 => k_is); (case k8w375 => ktr_room); (case k9w375 => first | exact BindsTo.of_eq rfl | exact binds_K (by k_in) rfl (by k_is) rfl rfl rfl | fail "k_enter: no rule for these arguments"); (case c5w375 => decide); (case kBw375 => exact locs rfl); (case c2w375 => exact rfl); (case c3w375 => exact rfl); (case c4w375 => exact rfl); k_whole; intro g' L' h' FG' F' N' B' X' T'; (try dsimp only); (try k_lift B'); (try k_fold))
  k_with "call ref" => (k_here; k_dflt (first
    | (refine' call_cls ?k1w376 ?k2w376 ?k3w376 ?k4w376 ?k5w376 ?k6w376 ?_; (case k1w376 => k_asm); (case k2w376 => k_asm); (case k3w376 => k_asm); (case k4w376 => k_is); (case k5w376 => k_is); (case k6w376 => k_is); k_whole; intro x' d' h' F' N' l1 l2; (try k_lt l1); (try k_lt2 l2); (try k_sweep); walk_at "enter own")
    | (refine wpAny_call ?_; walk_at "enter own")))
  k_with "subscriptTail" => (k_here; (with_reducible show wpAny _ _ (subscriptTail _ _ (Value.ref _) (Value.int 0 _)) _ _ _); k_dflt (refine' led_tup0 ?k1w377 ?k2w377 ?k3w377 ?_; (case k1w377 => k_asm); (case k2w377 => k_mem); (case k3w377 => (first | assumption | omega)); k_whole))
  k_with "subscriptTail Name Slice ref ref" => (k_here; (with_reducible show wpAny _ _ (subscriptTail _ (PySem.Expr.Slice _ _ none _) (Value.ref _) (Value.ref _)) _ _ _); k_dflt (refine' led_tupTail ?k1w378 ?k2w378 ?k3w378 ?k4w378 ?_; (case k1w378 => k_asm); (case k2w378 => k_asm); (case k3w378 => k_mem); (case k4w378 => (first | assumption | omega)); k_whole); intro D' h' F' N' l1; (try k_lt l1); (try k_sweep))
  k_with "call ref" => ((with_reducible first | show wpAny _ _ (call (Value.ref 191) _) _ _ _ | show wpAny _ _ (call (Value.ref 198) _) _ _ _ | show wpAny _ _ (call (Value.ref 205) _) _ _ _ | show wpAny _ _ (call (Value.ref 224) _) _ _ _ | show wpAny _ _ (call (Value.ref 229) _) _ _ _ | show wpAny _ _ (call (Value.ref 243) _) _ _ _ | show wpAny _ _ (call (Value.ref 257) _) _ _ _ | show wpAny _ _ (call (Value.ref 264) _) _ _ _ | show wpAny _ _ (call (Value.ref 276) _) _ _ _ | show wpAny _ _ (call (Value.ref 283) _) _ _ _ | show wpAny _ _ (call (Value.ref 290) _) _ _ _ | show wpAny _ _ (call (Value.ref 295) _) _ _ _ | show wpAny _ _ (call (Value.ref 302) _) _ _ _ | show wpAny _ _ (call (Value.ref 309) _) _ _ _); refine halt ?_)
  k_with "eval ListComp" => refine halt ?_
  k_with "exec Assign cons ListComp" => refine halt ?_
  k_with "exec For" => refine halt ?_
  k_with "exec While" => refine halt ?_
  k_with "call type:tuple" => ((with_reducible show wpAny _ _ (call (Value.type "tuple") [Value.ref _]) _ _ _); refine halt ?_)
  k_with "binaryOp Add ref ref" => ((with_reducible show wpAny _ _ (binaryOp Operator.Add (Value.ref _) (Value.ref _)) _ _ _); refine halt ?_)
  k_with "my tabat" => first | assumption | exact ab0 (by assumption) | exact ab1 (by assumption) | (refine ab_trans (by assumption) ?_; k_tabat)
  k_with "my updF" => first | exact Fresh.nil | assumption | (refine Fresh.allLt ?_ ?_; k_tabat; k_updF) | (refine Fresh.append ?_ ?_; k_updF; k_updF)
  k_with "getMethod ref" => (k_here; (with_reducible show wpAny _ _ (getMethod (Value.ref _) (Str.ofString "get") _) _ _ _); k_dflt (refine kdg_method (knd := PySem.strKind _ _) (by k_asm) (by k_mem) (by assumption) ?_))
  k_with "call builtin:dict.get" => (k_here; k_dflt (refine kdg_get2 (knd := PySem.strKind _ _) (by k_asm) (by k_mem) (by assumption) (by assumption) (strKind_is _ _ _ _) _ rfl ?_))
  k_with "compareOp NotEq ref ref" => (k_here; k_dflt (first | (refine' led_ne_nil ?k1w390 ?k2w390 ?k3w390 ?k4w390 ?_; (case k1w390 => k_asm); (case k2w390 => k_mem); (case k3w390 => k_mem); (case k4w390 => ke_room)) | (refine' led_ne_snoc ?k1w390 ?k2w390 ?k3w390 ?k4w390 ?_; (case k1w390 => k_asm); (case k2w390 => k_mem); (case k3w390 => k_mem); (case k4w390 => ke_room))))
  k_with "compareOp Eq ref ref" => (k_here; k_dflt (first | (refine' led_eq_nil ?k1w391 ?k2w391 ?k3w391 ?k4w391 ?_; (case k1w391 => k_asm); (case k2w391 => k_mem); (case k3w391 => k_mem); (case k4w391 => ke_room)) | (refine' led_eq_cons ?k1w391 ?k2w391 ?k3w391 ?k4w391 ?_; (case k1w391 => k_asm); (case k2w391 => k_mem); (case k3w391 => k_mem); (case k4w391 => ke_room))))
  trivial
theorem kw_C_step_0 : True := by
  k_with "call ref" => ((with_reducible show wpAny _ _ (call (Value.ref 45) _) _ _ _); refine halt ?_)
  k_with "exec Raise some none" => (refine mine_raise (C := 45) rfl ?_)
  k_with "subscriptTail" => (k_here; (with_reducible show wpAny _ _ (subscriptTail _ _ (Value.ref _) (Value.str _ _)) _ _ _); k_dflt (refine kda_item (knd := PySem.strKind _ _) (by k_asm) (by k_mem) (by assumption) (strKind_is _ _ _ _) (by assumption) ?_))
  k_with "call builtin:len" => (k_here; k_dflt (refine' led_len ?k1w395 ?k2w395 ?k3w395 ?_; (case k1w395 => k_asm); (case k2w395 => k_mem); (case k3w395 => (first | assumption | omega)); k_whole))
  k_with "binaryOp Add str str" => (k_here; (with_reducible show wpAny _ _ (binaryOp Operator.Add (Value.str _ _) (Value.str _ _)) _ _ _); (refine PyProof.Rows.add_str (hsz := ?hszw396) ?_; (case hszw396 => first | exact kstr_fit (by assumption)); intro _ _))
  trivial
theorem kstr_fit {h : Str} (hs : h.length < 1000) : (Str.ofString "a synonym without all of its arguments: ").length + h.length ≤ sizeLine := by
  have : (Str.ofString "a synonym without all of its arguments: ").length = 40 := by decide
  rw [this, sizeLine_eq]; omega
set_option maxRecDepth 100000 in
set_option maxHeartbeats 8000000 in
theorem step_short {w : World} {mean : ExcName → Option Value} {mg mb : Str → Option Value} {nd : List (Addr × Obj)} {T : Str → Option Def} {rk : Str → Nat} {z : Nat} (ok : TOk T rk z) {sf sd sy al : Addr} {kd q1 q2 q3 : Tok} {c dpt : Nat} {hv : Value} {h : Str} {d : Def} {avs : List Value} {as : List Ty} {ka : Nat}
    (hsf : (sf, instObj 232 sd) ∈ nd) (hsy : SynV w nd sy T) (hh : NodeV w nd hv (.leaf h)) (hal : (al, listOf avs.toArray ka) ∈ nd) (has : NodeVs w nd avs as) (hT : T h = some d) (hlt : as.length < d.ps.length) :
    Tell w mean mg mb 229 [.ref sf, hv, .ref al, .int (dpt : Int) kd] 20 [sd] ((sd, selfDict w q1 q2 q3 sy c) :: nd) (fun _ _ _ => False) True nd := by
  refine cps fun GX hGX => ?_
  obtain ⟨oy, kvs, hoy, hky, hys, hysome, hynone⟩ := hsy
  refine hGX ?_
  clear hGX GX
  cases e3 : valueAt kvs h with
  | none => rw [hynone h e3] at hT; cases hT
  | some sv =>
    refine cps fun GX hGX => ?_
    obtain ⟨df, sx, sdd, pl, k1, k2, k3, nv, pvs, bv, kp, a1, a2, a3, a4, a5, a6, a7⟩ := hysome h sv e3
    refine hGX ?_
    clear hGX GX
    subst a2
    rw [hT] at a1; cases a1
    have hp2 := ok.two h d hT
    have hlen := has.1
    have hpl : pvs.length = d.ps.length := by rw [← a6, List.length_map]
    have hsm : (pvs.map fun p : Str × Tok => Value.str p.1 p.2).toArray.size < 100000 := by rw [List.size_toArray, List.length_map]; omega
    have hshort := ok.short h d hT
    have hsm2 : avs.toArray.size < 100000 := by rw [List.size_toArray]; omega
    cases hh with
    | var hv' _ _ => rw [ok.var h d hT] at hv'; cases hv'
    | @con x dd k4 k5 k6 _ hv' hx hdd =>
      unfold Tell
      k_fill
      intro dp un gd cn cs a ccd cl outer A₀ base h₀ L m s fr Q E B F X N hmu T' hk hd hu hret hfail
      refine wpAny_call ?_
      walk_at "enter cells"
      intro g L1 h1 tk1 cells FG F1 N1 Y B1 X1 T1 l1
      refine cps fun GX hGX => ?_
      obtain ⟨c1, c2, c3, hE, d1, d2, d3⟩ := CellsAre.three Y
      refine hGX ?_
      clear hGX GX
      subst hE; clear Y
      simp only [List.cons_append, List.nil_append] at N1
      try dsimp only
      try k_fold
      k_steps
      · refine unhalt ?_
        refine' tell_use ((L1 + 1 + 1 + 1, c1) :: (L1 + 1 + 1, c2) :: (L1 + 1, c3) :: (fr ++ [(sd, selfDict w q1 q2 q3 sy c)])) (kmake (nd := nd)) ?k1 ?k2 ?k3 ?k4 ?sub ?hm ?k5 ?kk ?kd ?ku ?_ (fun h => h.elim)
        walk_at "tell sides"
        intro r2 tl led' h' tk' F' N' hfr hq30
        refine cps fun GX hGX => ?_
        obtain ⟨hl', e, dx, TT, hr, htl⟩ := hq30
        refine hGX ?_
        clear hGX GX
        subst led'
        subst htl hr
        try k_fold
        refine raises_of F' X1 N' (by k_mem) ?_
        refine blow_raise2 (news := fr ++ nd) B1 F' (news_sub N' (by lcg_sub)) (fun p hp => Nat.ne_of_lt (hfr p ((by lcg_sub : ∀ p ∈ fr ++ nd, p ∈ _) p hp) _ List.mem_cons_self)) rfl rfl FG (by lcg_src) fun h9 X9 => ?_
        trace_state
        exact hfail trivial _ _ _ X9
      · exfalso
        rename ¬ _ => hnl
        rw [List.size_toArray, List.size_toArray, List.length_map] at hnl
        omega
end

section
/- part C_app -/
theorem kw_C_app_s_0 : True := by
  w_top off
  k_with_none
  k_with "my path" => first | with_reducible exact And.left | with_reducible exact And.right | (refine path_r ?_; k_extra "my path")
  k_with "my ne" => ((try dsimp only); first | (refine' Nat.ne_of_gt (lt_pick ?neA ?neB); (case neA => with_reducible assumption); (case neB => k_extra "my path")) | (refine' Nat.ne_of_lt (lt_pick ?neA ?neB); (case neA => with_reducible assumption); (case neB => k_extra "my path")) | exact Nat.ne_of_gt (by with_reducible assumption) | exact Nat.ne_of_lt (by with_reducible assumption) | fail)
  k_with "my om" => first | exact Nat.le_of_ble_eq_true rfl | with_reducible assumption | lia
  k_with "eval Name" => (k_here; k_dflt (first | (refine' nameX_L ?Fw397 ?vw397 ?_ ?aw397 ?bw397; (case Fw397 => k_asm); (case aw397 => rfl); (case bw397 => rfl); (case vw397 => rfl); k_whole) | (refine' nameX_C ?Nw397 ?cw397 ?mw397 ?dw397 ?_ ?aw397 ?bw397; (case aw397 => rfl); (case bw397 => rfl); (case Nw397 => k_asm); (case cw397 => rfl); (case mw397 => k_mem); (case dw397 => k_asm); k_whole) | (refine' nameX_K ?Fw397 ?Xw397 ?Tw397 ?ew397 ?_ ?aw397 ?bw397; (case Fw397 => k_asm); (case Xw397 => k_asm); (case Tw397 => k_asm); (case aw397 => rfl); (case bw397 => rfl); (case ew397 => k_is); k_whole) | (refine' nameX_B ?Fw397 ?Xw397 ?Tw397 ?ew397 ?vw397 ?nw397 ?_ ?aw397 ?bw397; (case Fw397 => k_asm); (case Xw397 => k_asm); (case Tw397 => k_asm); (case aw397 => rfl); (case bw397 => rfl); (case ew397 => k_is); (case vw397 => boot_fast); (case nw397 => decide); k_whole)))
  k_with "call builtin:isinstance" => (k_here; (with_reducible show wpAny _ _ (call _ [Value.ref _, Value.ref _]) _ _ _); k_dflt (first | (refine' isi_call ?k1w398 ?k2w398 ?k3w398 ?k4w398 ?_; (case k1w398 => k_in); (case k2w398 => k_types); (case k3w398 => k_is); (case k4w398 => intro e; cases e); k_whole) | (refine' kin_callC ?k1w398 ?k2w398 ?k3w398 ?k4w398 ?k5w398 ?k6w398 ?k7w398 ?k8w398 ?k9w398 ?_; (case k1w398 => k_in); (case k2w398 => k_inst); (case k3w398 => kin_no); (case k4w398 => k_is); (case k5w398 => k_is); (case k6w398 => k_is); (case k7w398 => k_is); (case k8w398 => k_is); (case k9w398 => k_is); k_whole)))
  k_with "getAttr ref" => (k_here; k_dflt (refine' get_own ?k1w399 ?k2w399 ?k3w399 ?k4w399 ?k5w399 ?k6w399 ?k7w399 ?k8w399 ?k9w399 ?_; (case k1w399 => k_asm); (case k2w399 => k_asm); (case k3w399 => k_inst); (case k4w399 => k_is); (case k5w399 => k_is); (case k6w399 => k_is); (case k7w399 => k_is); (case k8w399 => k_get); (case k9w399 => k_handed); k_whole))
  k_with "exec For Name Name cons nil" => refine halt ?_
  k_with "my src" => first | exact fun _ h => h | with_reducible assumption | (refine sub_t ?_; lcg_src) | (refine sub_l ?_; lcg_src) | (refine sub_r ?_; lcg_src)
  k_with "my sub" => first | exact sub_n | (refine sub_c ?_ ?_; k_mem; lcg_sub) | (refine sub_a ?_ ?_; lcg_sub; lcg_sub) | lcg_src
  k_with "my all" => first | assumption | (refine List.forall_mem_append.mpr ⟨?_, ?_⟩ <;> k_all)
  k_with "my mem" => first | with_reducible assumption | exact List.Mem.head _ | (refine List.mem_cons_of_mem _ ?_; k_mem) | (refine List.mem_append_left _ ?_; k_mem) | (refine List.mem_append_right _ ?_; k_mem)
  k_with "tell sides" => ((case k1 => k_asm); (case k2 => k_asm); (case k3 => k_asm); (case k4 => k_asm); (case k5 => k_asm); (try (case sub => lcg_sub)); (try (case hm => first | exact mu_nil | assumption | (refine mu_one ?_; k_all))); (case kk => first | exact rfl | assumption); (case kd => ktr_room); (case ku => ktr_units))
  k_with "enter" => (k_dflt (refine' code_def ?k1w406 ?k2w406 ?k3w406 ?k4w406 ?k5w406 ?kAw406 ?kFw406 ?kKw406 ?k6w406 ?k7w406 ?k8w406 ?k9w406 ?kBw406 ?_ ?c2w406 ?c3w406 ?c4w406 ?c5w406; (case kAw406 => exact rfl); (case kFw406 => exact rfl); (case kKw406 => assumption); (case k1w406 => k_asm); (case k2w406 => k_asm); (case k3w406 => k_asm); (case k4w406 => k_asm); (case k5w406 => k_asm); (case k6w406 => k_is); (case k7w406 => k_is); (case k8w406 => ktr_room); (case k9w406 => exact BindsTo.of_eq rfl); (case c5w406 => decide); (case kBw406 => exact locs rfl); (case c2w406 => exact rfl); (case c3w406 => exact rfl); (case c4w406 => exact rfl); k_whole))
  k_with "enter cells" => (k_dflt (refine' code_defC ?k1w407 ?k2w407 ?k3w407 ?k4w407 ?k5w407 ?kAw407 ?kFw407 ?kKw407 ?k6w407 ?k7w407 ?k8w407 ?k9w407 ?kBw407 ?kDw407 ?_ ?c2w407 ?c3w407 ?c4w407; (case kAw407 => exact rfl); (case kFw407 => exact rfl); (case kKw407 => assumption); (case k1w407 => k_asm); (case k2w407 => k_asm); (case k3w407 => k_asm); (case k4w407 => k_asm); (case k5w407 => k_asm); (case k6w407 => k_is); (case k7w407 => k_is); (case k8w407 => ktr_room); (case k9w407 => exact BindsTo.of_eq rfl); (case kBw407 => exact rfl); (case kDw407 => decide +kernel); (case c2w407 => exact rfl); (case c3w407 => exact rfl); (case c4w407 => exact rfl); k_whole))
  k_with "enter own" => (refine' code_def ?k1w408 ?k2w408 ?k3w408 ?k4w408 ?k5w408 ?kAw408 ?kFw408 ?kKw408 ?k6w408 ?k7w408 ?k8w408 ?k9w408 ?kBw408 ?_ ?c2w408 ?c3w408 ?c4w408 ?c5w408; (case kAw408 => exact rfl); (case kFw408 => exact rfl); (case kKw408 => exact rfl); (case k1w408 => k_asm); (case k2w408 => k_asm); (case k3w408 => k_asm); (case k4w408 => k_asm); (case k5w408 => k_asm); (case k6w408 => k_is); (case k7w408 => k_is); (case k8w408 => ktr_room); (case k9w408 => first | exact BindsTo.of_eq rfl | exact binds_K (by k_in) rfl (by k_is) rfl rfl rfl | fail "k_enter: no rule for these arguments"); (case c5w408 => decide); (case kBw408 => exact locs rfl); (case c2w408 => exact rfl); (case c3w408 => exact rfl); (case c4w408 => exact rfl); k_whole; intro g' L' h' FG' F' N' B' X' T'; (try dsimp only); (try k_lift B'); (try k_fold))
  k_with "call ref" => (k_here; k_dflt (first
    | (refine' call_cls ?k1w409 ?k2w409 ?k3w409 ?k4w409 ?k5w409 ?k6w409 ?_; (case k1w409 => k_asm); (case k2w409 => k_asm); (case k3w409 => k_asm); (case k4w409 => k_is); (case k5w409 => k_is); (case k6w409 => k_is); k_whole; intro x' d' h' F' N' l1 l2; (try k_lt l1); (try k_lt2 l2); (try k_sweep); walk_at "enter own")
    | (refine wpAny_call ?_; walk_at "enter own")))
  k_with "subscriptTail" => (k_here; (with_reducible show wpAny _ _ (subscriptTail _ _ (Value.ref _) (Value.int 0 _)) _ _ _); k_dflt (refine' led_tup0 ?k1w410 ?k2w410 ?k3w410 ?_; (case k1w410 => k_asm); (case k2w410 => k_mem); (case k3w410 => (first | assumption | omega)); k_whole))
  k_with "subscriptTail Name Slice ref ref" => (k_here; (with_reducible show wpAny _ _ (subscriptTail _ (PySem.Expr.Slice _ _ none _) (Value.ref _) (Value.ref _)) _ _ _); k_dflt (refine' led_tupTail ?k1w411 ?k2w411 ?k3w411 ?k4w411 ?_; (case k1w411 => k_asm); (case k2w411 => k_asm); (case k3w411 => k_mem); (case k4w411 => (first | assumption | omega)); k_whole); intro D' h' F' N' l1; (try k_lt l1); (try k_sweep))
  k_with "call ref" => ((with_reducible first | show wpAny _ _ (call (Value.ref 191) _) _ _ _ | show wpAny _ _ (call (Value.ref 198) _) _ _ _ | show wpAny _ _ (call (Value.ref 205) _) _ _ _ | show wpAny _ _ (call (Value.ref 224) _) _ _ _ | show wpAny _ _ (call (Value.ref 229) _) _ _ _ | show wpAny _ _ (call (Value.ref 243) _) _ _ _ | show wpAny _ _ (call (Value.ref 257) _) _ _ _ | show wpAny _ _ (call (Value.ref 264) _) _ _ _ | show wpAny _ _ (call (Value.ref 276) _) _ _ _ | show wpAny _ _ (call (Value.ref 283) _) _ _ _ | show wpAny _ _ (call (Value.ref 290) _) _ _ _ | show wpAny _ _ (call (Value.ref 295) _) _ _ _ | show wpAny _ _ (call (Value.ref 302) _) _ _ _ | show wpAny _ _ (call (Value.ref 309) _) _ _ _); refine halt ?_)
  k_with "eval ListComp" => refine halt ?_
  k_with "exec Assign cons ListComp" => refine halt ?_
  k_with "exec For" => refine halt ?_
  k_with "exec While" => refine halt ?_
  k_with "call type:tuple" => ((with_reducible show wpAny _ _ (call (Value.type "tuple") [Value.ref _]) _ _ _); refine halt ?_)
  k_with "binaryOp Add ref ref" => ((with_reducible show wpAny _ _ (binaryOp Operator.Add (Value.ref _) (Value.ref _)) _ _ _); refine halt ?_)
  k_with "my tabat" => first | assumption | exact ab0 (by assumption) | exact ab1 (by assumption) | (refine ab_trans (by assumption) ?_; k_tabat)
  k_with "my updF" => first | exact Fresh.nil | assumption | (refine Fresh.allLt ?_ ?_; k_tabat; k_updF) | (refine Fresh.append ?_ ?_; k_updF; k_updF)
  k_with "getMethod ref" => (k_here; (with_reducible show wpAny _ _ (getMethod (Value.ref _) (Str.ofString "get") _) _ _ _); k_dflt (refine kdg_method (knd := PySem.strKind _ _) (by k_asm) (by k_mem) (by assumption) ?_))
  k_with "call builtin:dict.get" => (k_here; k_dflt (refine kdg_get2 (knd := PySem.strKind _ _) (by k_asm) (by k_mem) (by assumption) (by assumption) (strKind_is _ _ _ _) _ rfl ?_))
  k_with "compareOp NotEq ref ref" => (k_here; k_dflt (first | (refine' led_ne_nil ?k1w423 ?k2w423 ?k3w423 ?k4w423 ?_; (case k1w423 => k_asm); (case k2w423 => k_mem); (case k3w423 => k_mem); (case k4w423 => ke_room)) | (refine' led_ne_snoc ?k1w423 ?k2w423 ?k3w423 ?k4w423 ?_; (case k1w423 => k_asm); (case k2w423 => k_mem); (case k3w423 => k_mem); (case k4w423 => ke_room))))
  k_with "compareOp Eq ref ref" => (k_here; k_dflt (first | (refine' led_eq_nil ?k1w424 ?k2w424 ?k3w424 ?k4w424 ?_; (case k1w424 => k_asm); (case k2w424 => k_mem); (case k3w424 => k_mem); (case k4w424 => ke_room)) | (refine' led_eq_cons ?k1w424 ?k2w424 ?k3w424 ?k4w424 ?_; (case k1w424 => k_asm); (case k2w424 => k_mem); (case k3w424 => k_mem); (case k4w424 => ke_room))))
  trivial
theorem kw_C_app_0 : True := by
  k_with "enter own2" => (refine' code_def ?k1w425 ?k2w425 ?k3w425 ?k4w425 ?k5w425 ?kAw425 ?kFw425 ?kKw425 ?k6w425 ?k7w425 ?k8w425 ?k9w425 ?kBw425 ?_ ?c2w425 ?c3w425 ?c4w425 ?c5w425; (case kAw425 => exact rfl); (case kFw425 => exact rfl); (case kKw425 => assumption); (case k1w425 => k_asm); (case k2w425 => k_asm); (case k3w425 => k_asm); (case k4w425 => k_asm); (case k5w425 => k_asm); (case k6w425 => k_is); (case k7w425 => k_is); (case k8w425 => ktr_room); (case k9w425 => first | exact BindsTo.of_eq rfl | exact binds_K (by k_in) rfl (by k_is) rfl rfl rfl | fail "k_enter: no rule for these arguments"); (case c5w425 => decide); (case kBw425 => exact locs rfl); (case c2w425 => exact rfl); (case c3w425 => exact rfl); (case c4w425 => exact rfl); k_whole; intro g' L' h' FG' F' N' B' X' T'; (try dsimp only); (try k_lift B'); (try k_fold))
  trivial
/-- the dict of a TyApp -/
noncomputable abbrev appDict (w : World) (k1 k2 k3 : Tok) (f a : Value) : Obj :=
  dictOf [{ hash := PyData.keyHash w.params (Str.ofString "place"), key := .str (Str.ofString "place") k1, val := .none }, { hash := PyData.keyHash w.params (Str.ofString "fun"), key := .str (Str.ofString "fun") k2, val := f }, { hash := PyData.keyHash w.params (Str.ofString "arg"), key := .str (Str.ofString "arg") k3, val := a }] 3
set_option maxRecDepth 100000 in
set_option maxHeartbeats 8000000 in
theorem app_makes {w : World} {mean : ExcName → Option Value} {mg mb : Str → Option Value} {nd : List (Addr × Obj)} {f a : Value} :
    Tell w mean mg mb 154 [f, a] 10 [] nd
      (fun r tl led' => led' = nd ∧ ∃ x d k1 k2 k3, r = .ref x ∧ tl = [(x, instObj 154 d), (d, appDict w k1 k2 k3 f a)] ∧ @LT.lt Nat _ d x) False [] := by
  unfold Tell
  k_fill
  intro dp un gd cn cs aa ccd cl outer A₀ base h₀ L m s fr Q E B F X N hmu T hk hd hu hret hfail
  k_dflt (refine' call_cls ?k1 ?k2 ?k3 ?k4 ?k5 ?k6 ?_; (case k1 => k_asm); (case k2 => k_asm); (case k3 => k_asm); (case k4 => k_is); (case k5 => k_is); (case k6 => k_is); k_whole)
  intro x' d' h' F' N' l1 l2
  have l3 := l1
  have l4 : @LT.lt Nat _ d' x' := l2
  (try k_lt l1)
  (try k_lt2 l2)
  (try k_sweep)
  try k_fold
  walk_at "enter own2"
  k_steps
  rename News _ _ _ _ => N9
  exact hret _ [(x', _), (d', _)] nd _ _ (by assumption) (news_sub N9 (by lcg_sub)) (Fresh.allLt (ab_trans l4 l3) (Fresh.allLt l3 Fresh.nil)) ⟨rfl, x', d', _, _, _, rfl, rfl, l4⟩

set_option maxRecDepth 100000 in
set_option maxHeartbeats 8000000 in
theorem placed_tells {w : World} {mean : ExcName → Option Value} {mg mb : Str → Option Value} {nd : List (Addr × Obj)} {x dx : Addr} {k1 k2 k3 : Tok} {f a : Value} (hx : (x, instObj 154 dx) ∈ nd) (hnd : ∀ p ∈ nd, p.1 ≠ dx) :
    Tell w mean mg mb 184 [.ref x, .none] 6 [dx] ((dx, appDict w k1 k2 k3 f a) :: nd)
      (fun r tl led' => r = .ref x ∧ tl = [] ∧ ∃ k1 k2 k3, led' = (dx, appDict w k1 k2 k3 f a) :: nd) False [] := by
  unfold Tell
  k_fill
  intro dp un gd cn cs aa ccd cl outer A₀ base h₀ L m s fr Q E B F X N hmu T hk hd hu hret hfail
  have hap := mu_ne hmu
  have hoff : ∀ p ∈ fr ++ nd, p.1 ≠ dx := off_a hap hnd
  replace N : News h₀ L s.heap ((dx, appDict w k1 k2 k3 f a) :: (fr ++ nd)) := news_sub N (by lcg_sub)
  refine wpAny_call ?_
  walk_at "enter"
  intro g' L' h' FG' F' N' B' X' T'
  try dsimp only
  try k_fold
  k_steps
  rename News _ _ _ _ => N9
  refine cps fun GX hGX => ?_
  obtain ⟨t1, t2, t3, N10⟩ : ∃ t1 t2 t3, News h₀ L _ ((dx, appDict w t1 t2 t3 f a) :: (fr ++ nd)) := ⟨_, _, _, N9⟩
  refine hGX ?_
  clear hGX GX
  exact hret _ [] ((dx, appDict w t1 t2 t3 f a) :: nd) _ _ (by assumption) (news_sub N10 (by lcg_sub)) Fresh.nil ⟨rfl, rfl, _, _, _, rfl⟩
end

section
/- part C_whole -/
theorem kw_C_whole_s_0 : True := by
  w_top off
  k_with_none
  k_with "my path" => first | with_reducible exact And.left | with_reducible exact And.right | (refine path_r ?_; k_extra "my path")
  k_with "my ne" => ((try dsimp only); first | (refine' Nat.ne_of_gt (lt_pick ?neA ?neB); (case neA => with_reducible assumption); (case neB => k_extra "my path")) | (refine' Nat.ne_of_lt (lt_pick ?neA ?neB); (case neA => with_reducible assumption); (case neB => k_extra "my path")) | exact Nat.ne_of_gt (by with_reducible assumption) | exact Nat.ne_of_lt (by with_reducible assumption) | fail)
  k_with "my om" => first | exact Nat.le_of_ble_eq_true rfl | with_reducible assumption | lia
  k_with "eval Name" => (k_here; k_dflt (first | (refine' nameX_L ?Fw426 ?vw426 ?_ ?aw426 ?bw426; (case Fw426 => k_asm); (case aw426 => rfl); (case bw426 => rfl); (case vw426 => rfl); k_whole) | (refine' nameX_C ?Nw426 ?cw426 ?mw426 ?dw426 ?_ ?aw426 ?bw426; (case aw426 => rfl); (case bw426 => rfl); (case Nw426 => k_asm); (case cw426 => rfl); (case mw426 => k_mem); (case dw426 => k_asm); k_whole) | (refine' nameX_K ?Fw426 ?Xw426 ?Tw426 ?ew426 ?_ ?aw426 ?bw426; (case Fw426 => k_asm); (case Xw426 => k_asm); (case Tw426 => k_asm); (case aw426 => rfl); (case bw426 => rfl); (case ew426 => k_is); k_whole) | (refine' nameX_B ?Fw426 ?Xw426 ?Tw426 ?ew426 ?vw426 ?nw426 ?_ ?aw426 ?bw426; (case Fw426 => k_asm); (case Xw426 => k_asm); (case Tw426 => k_asm); (case aw426 => rfl); (case bw426 => rfl); (case ew426 => k_is); (case vw426 => boot_fast); (case nw426 => decide); k_whole)))
  k_with "call builtin:isinstance" => (k_here; (with_reducible show wpAny _ _ (call _ [Value.ref _, Value.ref _]) _ _ _); k_dflt (first | (refine' isi_call ?k1w427 ?k2w427 ?k3w427 ?k4w427 ?_; (case k1w427 => k_in); (case k2w427 => k_types); (case k3w427 => k_is); (case k4w427 => intro e; cases e); k_whole) | (refine' kin_callC ?k1w427 ?k2w427 ?k3w427 ?k4w427 ?k5w427 ?k6w427 ?k7w427 ?k8w427 ?k9w427 ?_; (case k1w427 => k_in); (case k2w427 => k_inst); (case k3w427 => kin_no); (case k4w427 => k_is); (case k5w427 => k_is); (case k6w427 => k_is); (case k7w427 => k_is); (case k8w427 => k_is); (case k9w427 => k_is); k_whole)))
  k_with "getAttr ref" => (k_here; k_dflt (refine' get_own ?k1w428 ?k2w428 ?k3w428 ?k4w428 ?k5w428 ?k6w428 ?k7w428 ?k8w428 ?k9w428 ?_; (case k1w428 => k_asm); (case k2w428 => k_asm); (case k3w428 => k_inst); (case k4w428 => k_is); (case k5w428 => k_is); (case k6w428 => k_is); (case k7w428 => k_is); (case k8w428 => k_get); (case k9w428 => k_handed); k_whole))
  k_with "exec For Name Name cons nil" => refine halt ?_
  k_with "my src" => first | exact fun _ h => h | with_reducible assumption | (refine sub_t ?_; lcg_src) | (refine sub_l ?_; lcg_src) | (refine sub_r ?_; lcg_src)
  k_with "my sub" => first | exact sub_n | (refine sub_c ?_ ?_; k_mem; lcg_sub) | (refine sub_a ?_ ?_; lcg_sub; lcg_sub) | lcg_src
  k_with "my all" => first | assumption | (refine List.forall_mem_append.mpr ⟨?_, ?_⟩ <;> k_all)
  k_with "my mem" => first | with_reducible assumption | exact List.Mem.head _ | (refine List.mem_cons_of_mem _ ?_; k_mem) | (refine List.mem_append_left _ ?_; k_mem) | (refine List.mem_append_right _ ?_; k_mem)
  k_with "tell sides" => ((case k1 => k_asm); (case k2 => k_asm); (case k3 => k_asm); (case k4 => k_asm); (case k5 => k_asm); (try (case sub => lcg_sub)); (try (case hm => first | exact mu_nil | assumption | (refine mu_one ?_; k_all))); (case kk => first | exact rfl | assumption); (case kd => ktr_room); (case ku => ktr_units))
  k_with "enter" => (k_dflt (refine' code_def ?k1w435 ?k2w435 ?k3w435 ?k4w435 ?k5w435 ?kAw435 ?kFw435 ?kKw435 ?k6w435 ?k7w435 ?k8w435 ?k9w435 ?kBw435 ?_ ?c2w435 ?c3w435 ?c4w435 ?c5w435; (case kAw435 => exact rfl); (case kFw435 => exact rfl); (case kKw435 => assumption); (case k1w435 => k_asm); (case k2w435 => k_asm); (case k3w435 => k_asm); (case k4w435 => k_asm); (case k5w435 => k_asm); (case k6w435 => k_is); (case k7w435 => k_is); (case k8w435 => ktr_room); (case k9w435 => exact BindsTo.of_eq rfl); (case c5w435 => decide); (case kBw435 => exact locs rfl); (case c2w435 => exact rfl); (case c3w435 => exact rfl); (case c4w435 => exact rfl); k_whole))
  k_with "enter cells" => (k_dflt (refine' code_defC ?k1w436 ?k2w436 ?k3w436 ?k4w436 ?k5w436 ?kAw436 ?kFw436 ?kKw436 ?k6w436 ?k7w436 ?k8w436 ?k9w436 ?kBw436 ?kDw436 ?_ ?c2w436 ?c3w436 ?c4w436; (case kAw436 => exact rfl); (case kFw436 => exact rfl); (case kKw436 => assumption); (case k1w436 => k_asm); (case k2w436 => k_asm); (case k3w436 => k_asm); (case k4w436 => k_asm); (case k5w436 => k_asm); (case k6w436 => k_is); (case k7w436 => k_is); (case k8w436 => ktr_room); (case k9w436 => exact BindsTo.of_eq rfl); (case kBw436 => exact rfl); (case kDw436 => decide +kernel); (case c2w436 => exact rfl); (case c3w436 => exact rfl); (case c4w436 => exact rfl); k_whole))
  k_with "enter own" => (refine' code_def ?k1w437 ?k2w437 ?k3w437 ?k4w437 ?k5w437 ?kAw437 ?kFw437 ?kKw437 ?k6w437 ?k7w437 ?k8w437 ?k9w437 ?kBw437 ?_ ?c2w437 ?c3w437 ?c4w437 ?c5w437; (case kAw437 => exact rfl); (case kFw437 => exact rfl); (case kKw437 => exact rfl); (case k1w437 => k_asm); (case k2w437 => k_asm); (case k3w437 => k_asm); (case k4w437 => k_asm); (case k5w437 => k_asm); (case k6w437 => k_is); (case k7w437 => k_is); (case k8w437 => ktr_room); (case k9w437 => first | exact BindsTo.of_eq rfl | exact binds_K (by k_in) rfl (by k_is) rfl rfl rfl | fail "k_enter: no rule for these arguments"); (case c5w437 => decide); (case kBw437 => exact locs rfl); (case c2w437 => exact rfl); (case c3w437 => exact rfl); (case c4w437 => exact rfl); k_whole; intro g' L' h' FG' F' N' B' X' T'; (try dsimp only); (try k_lift B'); (try k_fold))
  k_with "call ref" => (k_here; k_dflt (first
    | (refine' call_cls ?k1w438 ?k2w438 ?k3w438 ?k4w438 ?k5w438 ?k6w438 ?_; (case k1w438 => k_asm); (case k2w438 => k_asm); (case k3w438 => k_asm); (case k4w438 => k_is); (case k5w438 => k_is); (case k6w438 => k_is); k_whole; intro x' d' h' F' N' l1 l2; (try k_lt l1); (try k_lt2 l2); (try k_sweep); walk_at "enter own")
    | (refine wpAny_call ?_; walk_at "enter own")))
  k_with "subscriptTail" => (k_here; (with_reducible show wpAny _ _ (subscriptTail _ _ (Value.ref _) (Value.int 0 _)) _ _ _); k_dflt (refine' led_tup0 ?k1w439 ?k2w439 ?k3w439 ?_; (case k1w439 => k_asm); (case k2w439 => k_mem); (case k3w439 => (first | assumption | omega)); k_whole))
  k_with "subscriptTail Name Slice ref ref" => (k_here; (with_reducible show wpAny _ _ (subscriptTail _ (PySem.Expr.Slice _ _ none _) (Value.ref _) (Value.ref _)) _ _ _); k_dflt (refine' led_tupTail ?k1w440 ?k2w440 ?k3w440 ?k4w440 ?_; (case k1w440 => k_asm); (case k2w440 => k_asm); (case k3w440 => k_mem); (case k4w440 => (first | assumption | omega)); k_whole); intro D' h' F' N' l1; (try k_lt l1); (try k_sweep))
  k_with "call ref" => ((with_reducible first | show wpAny _ _ (call (Value.ref 191) _) _ _ _ | show wpAny _ _ (call (Value.ref 198) _) _ _ _ | show wpAny _ _ (call (Value.ref 205) _) _ _ _ | show wpAny _ _ (call (Value.ref 224) _) _ _ _ | show wpAny _ _ (call (Value.ref 229) _) _ _ _ | show wpAny _ _ (call (Value.ref 243) _) _ _ _ | show wpAny _ _ (call (Value.ref 257) _) _ _ _ | show wpAny _ _ (call (Value.ref 264) _) _ _ _ | show wpAny _ _ (call (Value.ref 276) _) _ _ _ | show wpAny _ _ (call (Value.ref 283) _) _ _ _ | show wpAny _ _ (call (Value.ref 290) _) _ _ _ | show wpAny _ _ (call (Value.ref 295) _) _ _ _ | show wpAny _ _ (call (Value.ref 302) _) _ _ _ | show wpAny _ _ (call (Value.ref 309) _) _ _ _); refine halt ?_)
  k_with "eval ListComp" => refine halt ?_
  k_with "exec Assign cons ListComp" => refine halt ?_
  k_with "exec For" => refine halt ?_
  k_with "exec While" => refine halt ?_
  k_with "call type:tuple" => ((with_reducible show wpAny _ _ (call (Value.type "tuple") [Value.ref _]) _ _ _); refine halt ?_)
  k_with "binaryOp Add ref ref" => ((with_reducible show wpAny _ _ (binaryOp Operator.Add (Value.ref _) (Value.ref _)) _ _ _); refine halt ?_)
  k_with "my tabat" => first | assumption | exact ab0 (by assumption) | exact ab1 (by assumption) | (refine ab_trans (by assumption) ?_; k_tabat)
  k_with "my updF" => first | exact Fresh.nil | assumption | (refine Fresh.allLt ?_ ?_; k_tabat; k_updF) | (refine Fresh.append ?_ ?_; k_updF; k_updF)
  k_with "getMethod ref" => (k_here; (with_reducible show wpAny _ _ (getMethod (Value.ref _) (Str.ofString "get") _) _ _ _); k_dflt (refine kdg_method (knd := PySem.strKind _ _) (by k_asm) (by k_mem) (by assumption) ?_))
  k_with "call builtin:dict.get" => (k_here; k_dflt (refine kdg_get2 (knd := PySem.strKind _ _) (by k_asm) (by k_mem) (by assumption) (by assumption) (strKind_is _ _ _ _) _ rfl ?_))
  k_with "compareOp NotEq ref ref" => (k_here; k_dflt (first | (refine' led_ne_nil ?k1w452 ?k2w452 ?k3w452 ?k4w452 ?_; (case k1w452 => k_asm); (case k2w452 => k_mem); (case k3w452 => k_mem); (case k4w452 => ke_room)) | (refine' led_ne_snoc ?k1w452 ?k2w452 ?k3w452 ?k4w452 ?_; (case k1w452 => k_asm); (case k2w452 => k_mem); (case k3w452 => k_mem); (case k4w452 => ke_room))))
  k_with "compareOp Eq ref ref" => (k_here; k_dflt (first | (refine' led_eq_nil ?k1w453 ?k2w453 ?k3w453 ?k4w453 ?_; (case k1w453 => k_asm); (case k2w453 => k_mem); (case k3w453 => k_mem); (case k4w453 => ke_room)) | (refine' led_eq_cons ?k1w453 ?k2w453 ?k3w453 ?k4w453 ?_; (case k1w453 => k_asm); (case k2w453 => k_mem); (case k3w453 => k_mem); (case k4w453 => ke_room))))
  trivial
theorem wsome {α : Type} {o : Option α} {v : α} (h : o = some v) : o.isSome = true := by rw [h]; rfl
theorem wnone {α : Type} {o : Option α} (h : o = none) : o.isSome = false := by rw [h]; rfl
noncomputable def GoOn : Prop := True

theorem kw_C_whole_0 : True := by
  k_with "call ref" => ((with_reducible show wpAny _ _ (call (Value.ref 45) _) _ _ _); refine halt ?_)
  k_with "call ref" => ((with_reducible first | show wpAny _ _ (call (Value.ref 154) _) _ _ _ | show wpAny _ _ (call (Value.ref 184) _) _ _ _); refine halt ?_)
  k_with "exec Raise some none" => (refine mine_raise (C := 45) rfl ?_)
  k_with "compareOp In str ref" => (k_here; k_dflt (first
    | refine kda_in (knd := PySem.strKind _ _) (by k_asm) (by k_mem) (by assumption) (by assumption) (strKind_is _ _ _ _) true (wsome (by assumption)) ?_
    | refine kda_in (knd := PySem.strKind _ _) (by k_asm) (by k_mem) (by assumption) (by assumption) (strKind_is _ _ _ _) false (wnone (by assumption)) ?_))
  k_with "compareOp NotIn str ref" => (k_here; k_dflt (first
    | refine kdg_notin (knd := PySem.strKind _ _) (by k_asm) (by k_mem) (by assumption) (by assumption) (strKind_is _ _ _ _) true (wsome (by assumption)) ?_
    | refine kdg_notin (knd := PySem.strKind _ _) (by k_asm) (by k_mem) (by assumption) (by assumption) (strKind_is _ _ _ _) false (wnone (by assumption)) ?_); (try dsimp only [Bool.not_true, Bool.not_false]))
  k_with "exec Assign" => ((fail_if_success (have : GoOn := by assumption)); (with_reducible show wpAny _ _ (exec (Stmt.Assign [Expr.Name _ _] (Expr.BoolOp _ _ _) _) _) _ _ _); refine halt ?_)
  trivial
theorem fr_see4 {h₀ h : Heap} {L : Addr} {m : Str → Option Value} {x y z t : Str} {a b c d : Value} (F : Fr h₀ L h m) (e : m x = some a) (f : m y = some b) (k : m z = some c) (l : m t = some d) : Fr h₀ L h (fun u => if u = x then some a else if u = y then some b else if u = z then some c else if u = t then some d else m u) := by
  have : m = fun u => if u = x then some a else if u = y then some b else if u = z then some c else if u = t then some d else m u := by
    funext u
    by_cases g : u = x
    · subst g; simp [e]
    · by_cases g' : u = y
      · subst g'; simp [f, g]
      · by_cases g2 : u = z
        · subst g2; simp [k, g, g']
        · by_cases g3 : u = t
          · subst g3; simp [l, g, g', g2]
          · simp [g, g', g2, g3]
  rw [this] at F; exact F

/-- what whole gives -/
noncomputable def WholePost (w : World) (T : Str → Option Def) (sd sy : Addr) (nd : List (Addr × Obj)) (cmax : Nat) (ev : Option Ty) (r : Value) (tl led' : List (Addr × Obj)) : Prop :=
  ∃ q1 q2 q3 c' t', led' = (sd, selfDict w q1 q2 q3 sy c') :: nd ∧ c' ≤ cmax ∧ ev = some t' ∧ Free T t' ∧ NodeV w (tl ++ nd) r t'
/-- the contract of whole at a node -/
noncomputable def Whole (w : World) (mean : ExcName → Option Value) (mg mb : Str → Option Value) (T : Str → Option Def) (sf sd sy : Addr) (nd : List (Addr × Obj)) (v : Value) (ev : Option Ty) (cost sz dpt c : Nat) : Prop :=
  ∀ kd q1 q2 q3 : Tok, Tell w mean mg mb 224 [.ref sf, v, .int (dpt : Int) kd] sz [sd] ((sd, selfDict w q1 q2 q3 sy c) :: nd) (WholePost w T sd sy nd (c + cost) ev) (ev = none) nd
/-- what step gives -/
noncomputable def StepPost (w : World) (T : Str → Option Def) (sd sy : Addr) (nd : List (Addr × Obj)) (cmax : Nat) (ev : Option (Str × List Ty)) (r : Value) (tl led' : List (Addr × Obj)) : Prop :=
  ∃ q1 q2 q3 c' tu hv al avs k p, led' = (sd, selfDict w q1 q2 q3 sy c') :: nd ∧ c' ≤ cmax ∧ ev = some p ∧ r = .ref tu ∧ (tu, tupOf [hv, .ref al] 0) ∈ tl ∧ (al, listOf avs.toArray k) ∈ tl ∧ NodeV w (tl ++ nd) hv (.leaf p.1) ∧ NodeVs w (tl ++ nd) avs p.2
/-- the contract of step -/
noncomputable def Step (w : World) (mean : ExcName → Option Value) (mg mb : Str → Option Value) (T : Str → Option Def) (sf sd sy : Addr) (nd : List (Addr × Obj)) (hv : Value) (al : Addr) (d : Def) (ms : List Ty) (sz dpt c : Nat) : Prop :=
  ∀ kd q1 q2 q3 : Tok, Tell w mean mg mb 229 [.ref sf, hv, .ref al, .int (dpt : Int) kd] sz [sd] ((sd, selfDict w q1 q2 q3 sy c) :: nd) (StepPost w T sd sy nd (c + 12) (stepEv T d ms)) (stepEv T d ms = none) nd

set_option maxRecDepth 100000 in
set_option maxHeartbeats 8000000 in
theorem whole_gen {w : World} {mean : ExcName → Option Value} {mg mb : Str → Option Value} {nd : List (Addr × Obj)} {T : Str → Option Def} {rk : Str → Nat} {z : Nat} (ok : TOk T rk z) {sf sd sy : Addr} {c dpt r cost1 sz1 szS bud : Nat} {v : Value} {h : Str} {as : List Ty} (P : Nat → Str → List Ty → Prop)
    (hnd : ∀ p ∈ nd, p.1 ≠ sd) (hsf : (sf, instObj 232 sd) ∈ nd) (hsy : SynV w nd sy T) (hv : NodeV w nd v ((Ty.leaf h).on as)) (hal : ((Ty.leaf h).on as).size < 4000) (hdp : dpt ≤ 100) (hc : c + 1 + as.length * cost1 + 12 * r + bud ≤ 4000)
    (hargs : ∀ i a, as[i]? = some a → ∀ v c', NodeV w nd v a → c' ≤ c + 1 + i * cost1 → Whole w mean mg mb T sf sd sy nd v (tyEv T r (fun _ => none) a []) cost1 sz1 (dpt + 1) c')
    (hstep : ∀ ndx r' hv' h' d al avs ms k c', (∀ p ∈ nd, p ∈ ndx) → (∀ p ∈ ndx, p.1 ≠ sd) → T h' = some d → P (r' + 1) h' ms → NodeV w ndx hv' (.leaf h') → (al, listOf avs.toArray k) ∈ ndx → NodeVs w ndx avs ms → c' + bud ≤ 4000 → Step w mean mg mb T sf sd sy ndx hv' al d ms szS dpt c')
    (hPf : ∀ r' h' ms, T h' ≠ none → P r' h' ms → (∀ m ∈ ms, Free T m) ∧ ms.length < 9000 ∧ r' ≠ 0)
    (hP0 : ∀ as', tyAll T r (fun _ => none) as = some as' → (∀ m ∈ as', Free T m) → as'.length = as.length → T h ≠ none → P r h as')
    (hPs : ∀ r' h' d ms p, T h' = some d → P (r' + 1) h' ms → stepEv T d ms = some p → T p.1 ≠ none → P r' p.1 p.2)
    (hsize : ∀ as' t', tyAll T r (fun _ => none) as = some as' → headEv T r (fun _ => none) h as' = some t' → t'.size ≤ 4000) :
    Whole w mean mg mb T sf sd sy nd v (tyEv T r (fun _ => none) ((Ty.leaf h).on as) []) (1 + as.length * cost1 + 12 * r) (sz1 + szS + 20) dpt c := by
  intro kd q1 q2 q3
  refine cps fun GX hGX => ?_
  obtain ⟨oy, kvs, hoy, hky, hys, hysome, hynone⟩ := id hsy
  refine hGX ?_
  clear hGX GX
  have hevt : tyEv T r (fun _ => none) ((Ty.leaf h).on as) [] = match tyAll T r (fun _ => none) as with | none => none | some as' => headEv T r (fun _ => none) h as' := by
    rw [tyEv_on]
    cases tyAll T r (fun _ => none) as with
    | none => rfl
    | some as' => show headEv T r _ h (as' ++ []) = _; rw [List.append_nil]
  have hcc : ¬ (4000 : Int) < (c : Int) + 1 := by omega
  have hdd : ¬ (100 : Int) < (dpt : Int) := by omega
  unfold Tell
  k_fill
  intro dp un gd cn cs a ccd cl outer A₀ base h₀ L m s fr Q E B F X N hmu T' hk hd hu hret hfail
  refine wpAny_call ?_
  walk_at "enter cells"
  intro g L1 h1 tk1 cells FG F1 N1 Y B1 X1 T1 l1
  refine cps fun GX hGX => ?_
  obtain ⟨c1, c2, hE, d1, d2⟩ := CellsAre.two Y
  refine hGX ?_
  clear hGX GX
  subst hE; clear Y
  simp only [List.cons_append, List.nil_append] at N1
  have hap := mu_ne hmu
  have lsd : @LT.lt Nat _ sd L1 := l1 (sd, selfDict w q1 q2 q3 sy c) (by k_mem)
  have hoff : ∀ p ∈ (L1 + 1 + 1, c1) :: (L1 + 1, c2) :: (fr ++ nd), p.1 ≠ sd := off_c (by show @Ne Nat _ _; omega) (off_c (by show @Ne Nat _ _; omega) (off_a hap hnd))
  replace N1 : News g L1 h1 ((sd, selfDict w q1 q2 q3 sy c) :: (L1 + 1 + 1, c1) :: (L1 + 1, c2) :: (fr ++ nd)) := news_sub N1 (by lcg_sub)
  try dsimp only
  try k_fold
  k_steps
  refine unhalt ?_
  rename News _ _ _ _ => N9
  refine cps fun GX hGX => ?_
  obtain ⟨p1, p2, p3, N10⟩ : ∃ p1 p2 p3, News g L1 _ ((sd, selfDict w p1 p2 p3 sy (c + 1)) :: (L1 + 1 + 1, c1) :: (L1 + 1, c2) :: (fr ++ nd)) := ⟨_, _, _, N9⟩
  refine hGX ?_
  clear hGX GX
  clear N9
  refine' tell_use ((sd, selfDict w p1 p2 p3 sy (c + 1)) :: (L1 + 1 + 1, c1) :: (L1 + 1, c2) :: fr) (hna_tells hv (by omega)) ?k1 ?k2 ?k3 ?k4 ?sub ?hm ?k5 ?kk ?kd ?ku ?_ (fun h => h.elim)
  walk_at "tell sides"
  intro r1 tl1 led' h' tk' F' N' hfr1 hq31
  refine cps fun GX hGX => ?_
  obtain ⟨hl', TT, A1, hv1, hk1, avs, as1, ka, hr1, hT1, hA1, hn1, hns1, heq⟩ := hq31
  refine hGX ?_
  clear hGX GX
  subst led' hr1
  obtain ⟨e1, e2⟩ := Ty.on_inj heq
  subst e1 e2
  clear heq
  try k_fold
  k_steps
  refine unhalt ?_
  rename Fr _ _ _ _ => F9
  rename News _ _ _ _ => N9
  have hfr1' : Fresh (fr ++ (sd, selfDict w q1 q2 q3 sy c) :: nd) tl1 := hfr1.addr fun p hp => by
    rcases List.mem_append.mp hp with hp | hp
    · exact ⟨p, (by lcg_sub : ∀ p ∈ fr, p ∈ (sd, selfDict w p1 p2 p3 sy (c + 1)) :: (L1 + 1 + 1, c1) :: (L1 + 1, c2) :: fr ++ nd) p hp, rfl⟩
    · rcases List.mem_cons.mp hp with rfl | hp
      · exact ⟨(sd, selfDict w p1 p2 p3 sy (c + 1)), by k_mem, rfl⟩
      · exact ⟨p, (by lcg_sub : ∀ p ∈ nd, p ∈ (sd, selfDict w p1 p2 p3 sy (c + 1)) :: (L1 + 1 + 1, c1) :: (L1 + 1, c2) :: fr ++ nd) p hp, rfl⟩
  have hB1 : ∀ p ∈ (tl1 ++ (L1 + 1 + 1, c1) :: (L1 + 1, c2) :: (fr ++ nd)), p.1 ≠ sd := off_a (hfr1.ne (a := sd) (o := selfDict w p1 p2 p3 sy (c + 1)) (by k_mem)) hoff
  k_dflt (refine comp_assign F9 rfl (by with_unfolding_all rfl) rfl rfl B1.stays rfl (by decide) rfl (by decide) rfl (by rfl) (by rfl) ?_)
  try k_fold
  k_steps
  rename Fr _ _ _ _ => F10
  rename News _ _ _ _ => N10
  replace N10 : News g L1 _ ((sd, selfDict w p1 p2 p3 sy (c + 1)) :: (tl1 ++ (L1 + 1 + 1, c1) :: (L1 + 1, c2) :: (fr ++ nd))) := news_sub N10 (by lcg_sub)
  refine src_list (k := ka) (keep := fr ++ nd) (Fl := tyAll T r (fun _ => none) as = none) (S := fun i ys nw => ∃ o1 o2 o3 c' tl ts, c' ≤ c + 1 + i * cost1 ∧ nw = (sd, selfDict w o1 o2 o3 sy c') :: (tl ++ (tl1 ++ (L1 + 1 + 1, c1) :: (L1 + 1, c2) :: (fr ++ nd))) ∧ tyAll T r (fun _ => none) (as.take i) = some ts ∧ (∀ m ∈ ts, Free T m) ∧ NodeVs w (tl ++ nd) ys ts ∧ Fresh (fr ++ (sd, selfDict w q1 q2 q3 sy c) :: nd) tl) rfl F10 N10 (by k_mem) ?_ ?_ ?_ ?_ ?_ ?_ ?_
  · have := hns1.1
    have h2 := (Ty.size_on as (.leaf h)).1
    rw [sizeLine_eq, List.size_toArray]; omega
  · exact ⟨p1, p2, p3, c + 1, [], [], by omega, rfl, by rw [List.take_zero]; rfl, fun m h => (nomatch h), NodeVs.nil, Fresh.nil⟩
  · intro i ys nw hq32
    refine cps fun GX hGX => ?_
    obtain ⟨o1, o2, o3, c', tl, ts, _, e, _⟩ := hq32
    refine hGX ?_
    clear hGX GX
    rw [e]; k_mem
  · intro i ys nw v2 I oI oC C D m₂ h11 tk11 hv2 hyl hq33 hC hx F11 N11 off11 ne11
    refine cps fun GX hGX => ?_
    obtain ⟨o1, o2, o3, c', tl, ts, hc', hnw, hts, hfree, hys, hfrt⟩ := hq33
    refine hGX ?_
    clear hGX GX
    subst hnw
    k_steps
    refine unhalt ?_
    have hi : i < as.length := by have := (List.getElem?_eq_some_iff.mp (by simpa using hv2 : avs[i]? = some v2)).1; rw [← hns1.1]; exact this
    obtain ⟨a1, ha1⟩ : ∃ a1, as[i]? = some a1 := ⟨_, List.getElem?_eq_getElem hi⟩
    have ha1m := List.mem_of_getElem? ha1
    have hnv := hns1.2 i v2 a1 (by simpa using hv2) ha1
    have e3 := off11.mem
    have htr := e3 (sd, selfDict w o1 o2 o3 sy c') List.mem_cons_self
    have htl : ∀ p ∈ tl, p.1 ≠ sd := hfrt.ne (a := sd) (o := selfDict w q1 q2 q3 sy c) (by k_mem)
    rw [show (dpt : Int) + 1 = ((dpt + 1 : Nat) : Int) from rfl]
    refine' tell_use ((I, oI) :: (C, oC) :: (D, LCg.lst ys) :: (tl ++ (tl1 ++ (L1 + 1 + 1, c1) :: (L1 + 1, c2) :: fr))) (hargs i a1 ha1 v2 c' hnv hc' _ o1 o2 o3) ?k1 ?k2 ?k3 ?k4 ?sub ?hm ?k5 ?kk ?kd ?ku ?_ ?_
    walk_at "tell sides"
    case hm => exact mu_one (off_c (Ne.symm htr.1) (off_c (Ne.symm htr.2.1) (off_c (Ne.symm htr.2.2) (off_a htl (off_s hB1 (by lcg_sub))))))
    · intro r2 tl2 led' h' tk' F' N' hfr' hq34
      refine cps fun GX hGX => ?_
      obtain ⟨s1, s2, s3, c2', t', hl', hc2, het, hft, hnt⟩ := hq34
      refine hGX ?_
      clear hGX GX
      subst led'
      have hI := hfr'.ne (a := I) (o := oI) (by k_mem)
      have hCC := hfr'.ne (a := C) (o := oC) (by k_mem)
      have hDD := hfr'.ne (a := D) (o := LCg.lst ys) (by k_mem)
      try k_fold
      k_steps
      refine ⟨h', tk', (sd, selfDict w s1 s2 s3 sy c2') :: ((tl2 ++ tl) ++ (tl1 ++ (L1 + 1 + 1, c1) :: (L1 + 1, c2) :: (fr ++ nd))), rfl, F', news_sub N' (by lcg_sub), LCg.Off3.of fun p hp => ?_, s1, s2, s3, c2', tl2 ++ tl, ts ++ [t'], ?_, rfl, ?_, ?_, NodeVs.snoc (hnt.mono (by lcg_sub)) (hys.mono (by lcg_sub)), Fresh.append (hfr'.addr fun p hp => ?_) hfrt⟩
      · rcases List.mem_cons.mp hp with rfl | hp
        · exact htr
        · rcases List.mem_append.mp hp with hp | hp
          · rcases List.mem_append.mp hp with hp | hp
            · exact ⟨hI p hp, hCC p hp, hDD p hp⟩
            · exact e3 p (List.mem_cons_of_mem _ (List.mem_append_left _ hp))
          · exact e3 p (List.mem_cons_of_mem _ (List.mem_append_right _ hp))
      · rw [Nat.add_mul, Nat.one_mul]; omega
      · rw [List.take_add_one, ha1]; exact tyAll_snoc hts het
      · intro m hm
        rcases List.mem_append.mp hm with hm | hm
        · exact hfree m hm
        · rw [List.mem_singleton.mp hm]; exact hft
      · rcases List.mem_append.mp hp with hp | hp
        · exact ⟨p, (by lcg_sub : ∀ p ∈ fr, p ∈ (I, oI) :: (C, oC) :: (D, LCg.lst ys) :: (tl ++ (tl1 ++ (L1 + 1 + 1, c1) :: (L1 + 1, c2) :: fr)) ++ (sd, selfDict w o1 o2 o3 sy c') :: nd) p hp, rfl⟩
        · rcases List.mem_cons.mp hp with rfl | hp
          · exact ⟨(sd, selfDict w o1 o2 o3 sy c'), by k_mem, rfl⟩
          · exact ⟨p, (by lcg_sub : ∀ p ∈ nd, p ∈ (I, oI) :: (C, oC) :: (D, LCg.lst ys) :: (tl ++ (tl1 ++ (L1 + 1 + 1, c1) :: (L1 + 1, c2) :: fr)) ++ (sd, selfDict w o1 o2 o3 sy c') :: nd) p hp, rfl⟩
    · intro hnone e9 h9 tk9 X9
      exact ⟨tyAll_none hnone ha1m, e9, h9, tk9, rfl, rfl, X9.sub (by lcg_sub)⟩
  · intro i ys nw hq35
    refine cps fun GX hGX => ?_
    obtain ⟨o1, o2, o3, c', tl, ts, _, e, _⟩ := hq35
    refine hGX ?_
    clear hGX GX
    rw [e]; lcg_src
  · intro hnone e9 h9 tk9 X9
    refine blow_leave X9 rfl rfl FG (fr_none F10) (by lcg_src) fun h' X' => hfail (by rw [hevt, hnone]) _ _ _ X'
  · intro D h12 tk12 ys nw lD F12 N12 off12 hyl hq36
    refine cps fun GX hGX => ?_
    obtain ⟨o1, o2, o3, c', tl, ts, hc', hnw, hts, hfree, hys, hfrt⟩ := hq36
    refine hGX ?_
    clear hGX GX
    subst hnw
    rw [show avs.toArray.size = as.length by rw [List.size_toArray]; exact hns1.1, List.take_of_length_le (Nat.le_refl _)] at hts
    rw [show avs.toArray.size = as.length by rw [List.size_toArray]; exact hns1.1] at hc'
    rw [hts] at hevt
    replace hevt : tyEv T r (fun _ => none) ((Ty.leaf h).on as) [] = headEv T r (fun _ => none) h ts := hevt
    rw [hevt] at hfail hret
    have hDsd : ∀ p ∈ (tl1 ++ (L1 + 1 + 1, c1) :: (L1 + 1, c2) :: (fr ++ nd)), p.1 ≠ sd := hB1
    have htl : ∀ p ∈ tl, p.1 ≠ sd := hfrt.ne (a := sd) (o := selfDict w q1 q2 q3 sy c) (by k_mem)
    try k_fold
    k_steps
    refine unhalt ?_
    rename Fr _ _ _ _ => F13
    rename News _ _ _ _ => N13
    refine cps fun GX hGX => ?_
    obtain ⟨M, F14, m1, m2, m3⟩ : ∃ M, Fr g L1 _ M ∧ M (Str.ofString "head") = some hv1 ∧ M (Str.ofString "args") = some (.ref D) ∧ M (Str.ofString "node") = some v := ⟨_, F13, rfl, rfl, rfl⟩
    refine hGX ?_
    clear hGX GX
    clear F13
    refine wpAny_mono (Q := fun f s' => f = .next ∧ ∃ h' tk', s' = { s with heap := h', toks := tk' } ∧ Fr g L1 h' (fun z => if z = Str.ofString "is_plain" then some (.bool (T h).isNone) else if z = Str.ofString "head" then some hv1 else if z = Str.ofString "args" then some (.ref D) else if z = Str.ofString "node" then some v else M z) ∧ News g L1 h' ((D, LCg.lst ys) :: (sd, selfDict w o1 o2 o3 sy c') :: (tl ++ (tl1 ++ (L1 + 1 + 1, c1) :: (L1 + 1, c2) :: (fr ++ nd))))) ?_ ?_ (fun _ _ e => e)
    · have F15 := fr_see3 F14 m1 m2 m3
      clear F14 m1 m2 m3
      have goOn : GoOn := trivial
      cases hn1 with
      | @var x dd k4 k5 k6 _ hv' hx hdd =>
        have hb : (T h).isNone = true := by
          cases hT : T h with
          | none => rfl
          | some d => rw [ok.var h d hT] at hv'; cases hv'
        rw [hb]
        k_steps
        all_goals first | assumption | trivial
      | @con x dd k4 k5 k6 _ hv' hx hdd =>
        cases hva : valueAt kvs h with
        | none =>
          have hb : (T h).isNone = true := by rw [hynone h hva]; rfl
          rw [hb]
          k_steps
          all_goals first | assumption | trivial
        | some sv =>
          have hb : (T h).isNone = false := by obtain ⟨df, _, _, _, _, _, _, _, _, _, _, e, _⟩ := hysome h sv hva; rw [e]; rfl
          rw [hb]
          k_steps
          all_goals first | assumption | trivial
    · rintro f s9 ⟨rfl, h15, tk15, rfl, F15, N15⟩
      clear F14 N13
      k_steps
      have hP0' := hP0 ts hts hfree (tyAll_len hts)
      have hsz' := hsize ts
      refine unhalt ?_
      k_dflt (refine While_inv (n₀ := r) (fun n m₁ nw => ∃ (hv' : Value) (h' : Str) (al : Addr) (avs : List Value) (ms : List Ty) (k : Nat) (o1 o2 o3 : Tok) (c' : Nat) (tl : List (Addr × Obj)), m₁ (Str.ofString "head") = some hv' ∧ m₁ (Str.ofString "args") = some (.ref al) ∧ m₁ (Str.ofString "node") = some v ∧ m₁ (Str.ofString "is_plain") = some (.bool (T h).isNone) ∧
        nw = (sd, selfDict w o1 o2 o3 sy c') :: (L1 + 1 + 1, c1) :: (L1 + 1, c2) :: (fr ++ (tl ++ nd)) ∧ (al, listOf avs.toArray k) ∈ tl ∧ NodeV w (tl ++ nd) hv' (.leaf h') ∧ NodeVs w (tl ++ nd) avs ms ∧ headEv T r (fun _ => none) h ts = headEv T n (fun _ => none) h' ms ∧ (T h' ≠ none → P n h' ms) ∧ Fresh (fr ++ (sd, selfDict w q1 q2 q3 sy c) :: nd) tl ∧ n ≤ r ∧ c' ≤ c + 1 + as.length * cost1 + 12 * (r - n) ∧ (T h = none → T h' = none)) F15 (news_sub N15 (by lcg_sub : ∀ p ∈ (sd, selfDict w o1 o2 o3 sy c') :: (L1 + 1 + 1, c1) :: (L1 + 1, c2) :: (fr ++ (((D, LCg.lst ys) :: (tl ++ tl1)) ++ nd)), p ∈ _)) ?_ ?_)
      · refine ⟨hv1, h, D, ys, ts, _, o1, o2, o3, c', (D, LCg.lst ys) :: (tl ++ tl1), rfl, rfl, rfl, rfl, rfl, List.Mem.head _, hn1.mono (by lcg_sub), hys.mono (by lcg_sub), rfl, hP0', Fresh.allLt (lt_addr lD fun p hp => ?_) (Fresh.append hfrt hfr1'), Nat.le_refl _, by omega, fun e => e⟩
        rcases List.mem_append.mp hp with hp | hp
        · exact ⟨p, (by lcg_sub : ∀ p ∈ fr, p ∈ (sd, selfDict w p1 p2 p3 sy (c + 1)) :: (tl1 ++ (L1 + 1 + 1, c1) :: (L1 + 1, c2) :: (fr ++ nd))) p hp, rfl⟩
        · rcases List.mem_cons.mp hp with rfl | hp
          · exact ⟨(sd, selfDict w p1 p2 p3 sy (c + 1)), by k_mem, rfl⟩
          · exact ⟨p, (by lcg_sub : ∀ p ∈ nd, p ∈ (sd, selfDict w p1 p2 p3 sy (c + 1)) :: (tl1 ++ (L1 + 1 + 1, c1) :: (L1 + 1, c2) :: (fr ++ nd))) p hp, rfl⟩
      · intro n m₁ nw h16 tk16 F16 N16 hq37
        refine cps fun GX hGX => ?_
        obtain ⟨hv', h', al, avs2, ms, k2, o1', o2', o3', c2', tl', w1, w2, w3, w4, hnw, hal', hnv', hns', hev', hP', hfr', hnr, hcb, hTT⟩ := hq37
        refine hGX ?_
        clear hGX GX
        subst hnw
        replace F16 := fr_see4 F16 w1 w2 w3 w4
        clear w1 w2 w3 w4
        have htl' : ∀ p ∈ tl', p.1 ≠ sd := hfr'.ne (a := sd) (o := selfDict w q1 q2 q3 sy c) (by k_mem)
        cases hT' : T h' with
        | some d =>
          have hne : T h' ≠ none := by rw [hT']; exact fun e => nomatch e
          obtain ⟨hf1, hf2, hf3⟩ := hPf n h' ms hne (hP' hne)
          obtain ⟨n, rfl⟩ : ∃ n', n = n' + 1 := ⟨n - 1, by omega⟩
          cases hnv' with
          | var hv9 _ _ => rw [ok.var h' d hT'] at hv9; cases hv9
          | @con x dd k4 k5 k6 _ hv9 hx hdd =>
            obtain ⟨sv, hsv⟩ : ∃ sv, valueAt kvs h' = some sv := by
              cases e : valueAt kvs h' with
              | none => rw [hynone h' e] at hT'; cases hT'
              | some sv => exact ⟨sv, rfl⟩
            k_steps
            refine unhalt ?_
            refine' tell_use ((L1 + 1 + 1, c1) :: (L1 + 1, c2) :: fr) (hstep (tl' ++ nd) n (.ref x) h' d al avs2 ms k2 c2' (by lcg_sub) (off_a htl' hnd) hT' (hP' hne) (.con hv9 (by k_mem) (by k_mem)) (by k_mem) hns' (by omega) _ o1' o2' o3') ?k1 ?k2 ?k3 ?k4 ?sub ?hm ?k5 ?kk ?kd ?ku ?_ ?_
            walk_at "tell sides"
            · intro r3 tl3 led' h18 tk18 F18 N18 hfr3 hq38
              refine cps fun GX hGX => ?_
              obtain ⟨s1, s2, s3, c3, tu, hv3, al3, avs3, k3, p, hl3, hc3, hpe, hr3, htu, hal3, hn3, hns3⟩ := hq38
              refine hGX ?_
              clear hGX GX
              subst led' hr3
              try k_fold
              k_steps
              rename News _ _ _ _ => N19
              rename Fr _ _ _ _ => F19
              have hP3 : T p.1 ≠ none → P n p.1 p.2 := fun q => hPs n h' d ms p hT' (hP' hne) hpe q
              refine WhileStep.intro (n' := n) F19 (news_sub N19 (by lcg_sub : ∀ p ∈ (sd, selfDict w s1 s2 s3 sy c3) :: (L1 + 1 + 1, c1) :: (L1 + 1, c2) :: (fr ++ ((tl3 ++ tl') ++ nd)), p ∈ _)) (Nat.lt_succ_self _) ⟨hv3, p.1, al3, avs3, p.2, k3, s1, s2, s3, c3, tl3 ++ tl', rfl, rfl, rfl, rfl, rfl, List.mem_append_left _ hal3, hn3.mono (by lcg_sub), hns3.mono (by lcg_sub), ?_, hP3, Fresh.append (hfr3.addr fun p hp => ?_) hfr', by omega, by omega, fun e => ?_⟩
              · rw [hev', headEv_step hT' hf1, hpe]
              · rcases List.mem_append.mp hp with hp | hp
                · exact ⟨p, (by lcg_sub : ∀ p ∈ fr, p ∈ (L1 + 1 + 1, c1) :: (L1 + 1, c2) :: fr ++ (sd, selfDict w o1' o2' o3' sy c2') :: (tl' ++ nd)) p hp, rfl⟩
                · rcases List.mem_cons.mp hp with rfl | hp
                  · exact ⟨(sd, selfDict w o1' o2' o3' sy c2'), by k_mem, rfl⟩
                  · exact ⟨p, (by lcg_sub : ∀ p ∈ nd, p ∈ (L1 + 1 + 1, c1) :: (L1 + 1, c2) :: fr ++ (sd, selfDict w o1' o2' o3' sy c2') :: (tl' ++ nd)) p hp, rfl⟩
              · rw [hTT e] at hT'; cases hT'
            · intro hnone e9 h9 tk9 X9
              refine blow_leave (keep := fr ++ nd) X9 rfl rfl FG (fr_none F16) (by lcg_sub) fun h' X' => hfail (by rw [hev', headEv_step hT' hf1, hnone]) _ _ _ X'
        | none =>
          obtain ⟨hfree1, hfree2⟩ := free_head (r := n) (ms := ms) hT'
          rw [hev', hfree1] at hret
          have hsz2 := hsz' _ hts (by rw [hev', hfree1])
          have hlen2 := hns'.1
          have hszm := (Ty.size_on ms (.leaf h')).1
          cases hnv' with
          | @var x dd k4 k5 k6 _ hv9 hx hdd =>
            k_steps
            refine unhalt ?_
            k_dflt (refine For_invU g (by rfl) (by rfl) ?_)
            k_steps
            rename News _ _ _ _ => N20
            rename Fr _ _ _ _ => F20
            refine cps fun GX hGX => ?_
            obtain ⟨M, F21, m1, m2, m3⟩ : ∃ M, Fr g L1 _ M ∧ M (Str.ofString "found") = some (.ref x) ∧ M (Str.ofString "node") = some v ∧ M (Str.ofString "is_plain") = some (.bool (T h).isNone) := ⟨_, F20, rfl, rfl, rfl⟩
            refine hGX ?_
            clear hGX GX
            clear F20
            refine for_list (k := k2) (fun i m₁ nw => ∃ (fv : Value) (tl2 : List (Addr × Obj)), m₁ (Str.ofString "found") = some fv ∧ m₁ (Str.ofString "node") = some v ∧ m₁ (Str.ofString "is_plain") = some (.bool (T h).isNone) ∧ nw = (sd, selfDict w o1' o2' o3' sy c2') :: (L1 + 1 + 1, c1) :: (L1 + 1, c2) :: (fr ++ (tl2 ++ (tl' ++ nd))) ∧ NodeV w (tl2 ++ (tl' ++ nd)) fv ((Ty.leaf h').on (ms.take i)) ∧ Fresh (fr ++ (sd, selfDict w q1 q2 q3 sy c) :: nd) tl2) rfl F21 (news_sub N20 (by lcg_sub : ∀ p ∈ (sd, selfDict w o1' o2' o3' sy c2') :: (L1 + 1 + 1, c1) :: (L1 + 1, c2) :: (fr ++ ([] ++ (tl' ++ nd))), p ∈ _)) (by k_mem) ?_ ?_ ?_ ?_
            · intro i m₁ nw hq39
              refine cps fun GX hGX => ?_
              obtain ⟨fv, tl2, _, _, _, e, _⟩ := hq39
              refine hGX ?_
              clear hGX GX
              rw [e]; k_mem
            · exact ⟨.ref x, [], m1, m2, m3, rfl, by rw [List.take_zero]; exact .var hv9 (by k_mem) (by k_mem), Fresh.nil⟩
            · intro i v3 m₁ nw I oI s₁ hv3 hq40 F22 N22 off22
              refine cps fun GX hGX => ?_
              obtain ⟨fv, tl2, w1, w2, w3, hnw, hfv, hfr2⟩ := hq40
              refine hGX ?_
              clear hGX GX
              subst hnw
              replace F22 := fr_see4 F22 (x := Str.ofString "arg") (y := Str.ofString "found") (z := Str.ofString "node") (t := Str.ofString "is_plain") (if_pos rfl) ((if_neg (by decide)).trans w1) ((if_neg (by decide)).trans w2) ((if_neg (by decide)).trans w3)
              have him : i < ms.length := by have := (List.getElem?_eq_some_iff.mp (by simpa using hv3 : avs2[i]? = some v3)).1; omega
              obtain ⟨a1, ha1⟩ : ∃ a1, ms[i]? = some a1 := ⟨_, List.getElem?_eq_getElem him⟩
              have hna := hns'.2 i v3 a1 (by simpa using hv3) ha1
              have hoff2 := off_s off22 (by lcg_sub : ∀ p ∈ (sd, selfDict w o1' o2' o3' sy c2') :: (L1 + 1 + 1, c1) :: (L1 + 1, c2) :: (fr ++ (tl2 ++ (tl' ++ nd))), p ∈ _)
              k_steps
              refine unhalt ?_
              refine' tell_use ((I, oI) :: (sd, selfDict w o1' o2' o3' sy c2') :: (L1 + 1 + 1, c1) :: (L1 + 1, c2) :: (fr ++ (tl2 ++ tl'))) (app_makes (nd := nd)) ?k1 ?k2 ?k3 ?k4 ?sub ?hm ?k5 ?kk ?kd ?ku ?_ (fun h => h.elim)
              walk_at "tell sides"
              intro r5 tl5 led' h25 tk25 F25 N25 hfr5 hq41
              refine cps fun GX hGX => ?_
              obtain ⟨hl5, x5, d5, t1, t2, t3, hr5, htl5, l5⟩ := hq41
              refine hGX ?_
              clear hGX GX
              subst led' hr5 htl5
              have hI5 := hfr5.ne (a := I) (o := oI) (by k_mem)
              have hd5 : ∀ p ∈ (I, oI) :: (sd, selfDict w o1' o2' o3' sy c2') :: (L1 + 1 + 1, c1) :: (L1 + 1, c2) :: (fr ++ (tl2 ++ (tl' ++ nd))), @LT.lt Nat _ p.1 d5 := fun p hp => hfr5 p ((by lcg_sub : ∀ p ∈ (I, oI) :: (sd, selfDict w o1' o2' o3' sy c2') :: (L1 + 1 + 1, c1) :: (L1 + 1, c2) :: (fr ++ (tl2 ++ (tl' ++ nd))), p ∈ (I, oI) :: (sd, selfDict w o1' o2' o3' sy c2') :: (L1 + 1 + 1, c1) :: (L1 + 1, c2) :: (fr ++ (tl2 ++ tl')) ++ nd) p hp) (d5, appDict w t1 t2 t3 fv v3) (List.mem_cons_of_mem _ List.mem_cons_self)
              try k_fold
              obtain ⟨t0, hv0⟩ : ∃ t0, NodeV w nd v t0 := ⟨_, hv⟩
              cases hv0
              all_goals
                k_steps
                refine unhalt ?_
                refine' tell_use ((I, oI) :: (sd, selfDict w o1' o2' o3' sy c2') :: (L1 + 1 + 1, c1) :: (L1 + 1, c2) :: (fr ++ (tl2 ++ (tl' ++ nd)))) (placed_tells (nd := [(x5, instObj 154 d5)]) (k1 := t1) (k2 := t2) (k3 := t3) (f := fv) (a := v3) (List.Mem.head _) (by intro p hp; rw [List.mem_singleton.mp hp]; exact Ne.symm (Nat.ne_of_lt l5))) ?k1 ?k2 ?k3 ?k4 ?sub ?hm ?k5 ?kk ?kd ?ku ?_ (fun h => h.elim)
                (case k1 => k_asm); (case k2 => k_asm); (case k3 => k_asm); (case k4 => k_asm); (case k5 => k_asm); (case sub => lcg_sub); (case hm => exact mu_one fun p hp => Nat.ne_of_lt (hd5 p hp)); (case kk => first | exact rfl | assumption); (case kd => ktr_room); (case ku => ktr_units)
                intro r6 tl6 led' h26 tk26 F26 N26 hfr6 hq42
                refine cps fun GX hGX => ?_
                obtain ⟨hr6, htl6, t4, t5, t6, hl6⟩ := hq42
                refine hGX ?_
                clear hGX GX
                subst hr6 htl6 hl6
                try k_fold
                k_steps
                rename News _ _ _ _ => N27
                rename Fr _ _ _ _ => F27
                refine ⟨rfl, _, _, _, (sd, selfDict w o1' o2' o3' sy c2') :: (L1 + 1 + 1, c1) :: (L1 + 1, c2) :: (fr ++ (((x5, instObj 154 d5) :: (d5, appDict w t4 t5 t6 fv v3) :: tl2) ++ (tl' ++ nd))), rfl, F27, news_sub N27 (by lcg_sub), ?_, .ref x5, (x5, instObj 154 d5) :: (d5, appDict w t4 t5 t6 fv v3) :: tl2, rfl, rfl, rfl, rfl, ?_, ?_⟩
                · exact off_s (off_a hoff2 (off_c (hI5 (x5, _) List.mem_cons_self) (off_c (x := (d5, appDict w t4 t5 t6 fv v3)) (l := []) (hI5 (d5, appDict w t1 t2 t3 fv v3) (List.mem_cons_of_mem _ List.mem_cons_self)) (fun p hp => nomatch hp)))) (by lcg_sub)
                · rw [List.take_add_one, ha1]
                  show NodeV w _ _ ((Ty.leaf h').on (ms.take i ++ [a1]))
                  rw [Ty.on_snoc]
                  exact .app (List.Mem.head _) (List.mem_cons_of_mem _ (List.Mem.head _)) (hfv.mono (by lcg_sub)) (hna.mono (by lcg_sub))
                · have q0 : Fresh (fr ++ (sd, selfDict w q1 q2 q3 sy c) :: nd) [(x5, instObj 154 d5), (d5, appDict w t1 t2 t3 fv v3)] := hfr5.addr fun p hp => by
                    rcases List.mem_append.mp hp with hp | hp
                    · exact ⟨p, (by lcg_sub : ∀ p ∈ fr, p ∈ (I, oI) :: (sd, selfDict w o1' o2' o3' sy c2') :: (L1 + 1 + 1, c1) :: (L1 + 1, c2) :: (fr ++ (tl2 ++ tl')) ++ nd) p hp, rfl⟩
                    · rcases List.mem_cons.mp hp with rfl | hp
                      · exact ⟨(sd, selfDict w o1' o2' o3' sy c2'), by k_mem, rfl⟩
                      · exact ⟨p, List.mem_append_right _ hp, rfl⟩
                  exact Fresh.allLt (fun q hq => q0 q hq _ List.mem_cons_self) (Fresh.allLt (fun q hq => q0 q hq (d5, appDict w t1 t2 t3 fv v3) (List.mem_cons_of_mem _ List.mem_cons_self)) hfr2)
            · intro h23 tk23 m23 nw F23 N23 hq43
              refine cps fun GX hGX => ?_
              obtain ⟨fv, tl2, w1, w2, w3, hnw, hfv, hfr2⟩ := hq43
              refine hGX ?_
              clear hGX GX
              subst hnw
              replace F23 := fr_see3 F23 w1 w2 w3
              rw [show avs2.toArray.size = ms.length by rw [List.size_toArray]; exact hlen2, List.take_of_length_le (Nat.le_refl _)] at hfv
              cases hb : (T h).isNone with
              | true =>
                rw [hb] at F23
                k_steps
                rename News _ _ _ _ => N25
                exact hret _ (tl2 ++ tl') _ _ _ (by assumption) (news_sub N25 (by lcg_sub : ∀ p ∈ fr ++ ((tl2 ++ tl') ++ (sd, selfDict w o1' o2' o3' sy c2') :: nd), p ∈ _)) (Fresh.append hfr2 hfr') ⟨o1', o2', o3', c2', _, rfl, by omega, rfl, hfree2, hfv.mono (by lcg_sub)⟩
              | false =>
                rw [hb] at F23
                k_steps
                refine unhalt ?_
                refine' tell_use ((sd, selfDict w o1' o2' o3' sy c2') :: (L1 + 1 + 1, c1) :: (L1 + 1, c2) :: fr) (most_tells hfv hsz2) ?k1 ?k2 ?k3 ?k4 ?sub ?hm ?k5 ?kk ?kd ?ku ?_ (fun h => h.elim)
                walk_at "tell sides"
                intro r5 tl5 led' h25 tk25 F25 N25 hfr5 hq44
                obtain ⟨hl5, hr5⟩ := hq44
                subst led' hr5
                try k_fold
                k_steps
                rename News _ _ _ _ => N26
                exact hret _ (tl2 ++ tl') _ _ _ (by assumption) (news_sub N26 (by lcg_sub : ∀ p ∈ fr ++ ((tl2 ++ tl') ++ (sd, selfDict w o1' o2' o3' sy c2') :: nd), p ∈ _)) (Fresh.append hfr2 hfr') ⟨o1', o2', o3', c2', _, rfl, by omega, rfl, hfree2, hfv.mono (by lcg_sub)⟩
          | @con x dd k4 k5 k6 _ hv9 hx hdd =>
            have hsv : valueAt kvs h' = none := by
              cases e : valueAt kvs h' with
              | none => rfl
              | some sv => obtain ⟨df, _, _, _, _, _, _, _, _, _, _, e, _⟩ := hysome h' sv e; rw [hT'] at e; cases e
            k_steps
            refine unhalt ?_
            k_dflt (refine For_invU g (by rfl) (by rfl) ?_)
            k_steps
            rename News _ _ _ _ => N20
            rename Fr _ _ _ _ => F20
            refine cps fun GX hGX => ?_
            obtain ⟨M, F21, m1, m2, m3⟩ : ∃ M, Fr g L1 _ M ∧ M (Str.ofString "found") = some (.ref x) ∧ M (Str.ofString "node") = some v ∧ M (Str.ofString "is_plain") = some (.bool (T h).isNone) := ⟨_, F20, rfl, rfl, rfl⟩
            refine hGX ?_
            clear hGX GX
            clear F20
            refine for_list (k := k2) (fun i m₁ nw => ∃ (fv : Value) (tl2 : List (Addr × Obj)), m₁ (Str.ofString "found") = some fv ∧ m₁ (Str.ofString "node") = some v ∧ m₁ (Str.ofString "is_plain") = some (.bool (T h).isNone) ∧ nw = (sd, selfDict w o1' o2' o3' sy c2') :: (L1 + 1 + 1, c1) :: (L1 + 1, c2) :: (fr ++ (tl2 ++ (tl' ++ nd))) ∧ NodeV w (tl2 ++ (tl' ++ nd)) fv ((Ty.leaf h').on (ms.take i)) ∧ Fresh (fr ++ (sd, selfDict w q1 q2 q3 sy c) :: nd) tl2) rfl F21 (news_sub N20 (by lcg_sub : ∀ p ∈ (sd, selfDict w o1' o2' o3' sy c2') :: (L1 + 1 + 1, c1) :: (L1 + 1, c2) :: (fr ++ ([] ++ (tl' ++ nd))), p ∈ _)) (by k_mem) ?_ ?_ ?_ ?_
            · intro i m₁ nw hq45
              refine cps fun GX hGX => ?_
              obtain ⟨fv, tl2, _, _, _, e, _⟩ := hq45
              refine hGX ?_
              clear hGX GX
              rw [e]; k_mem
            · exact ⟨.ref x, [], m1, m2, m3, rfl, by rw [List.take_zero]; exact .con hv9 (by k_mem) (by k_mem), Fresh.nil⟩
            · intro i v3 m₁ nw I oI s₁ hv3 hq46 F22 N22 off22
              refine cps fun GX hGX => ?_
              obtain ⟨fv, tl2, w1, w2, w3, hnw, hfv, hfr2⟩ := hq46
              refine hGX ?_
              clear hGX GX
              subst hnw
              replace F22 := fr_see4 F22 (x := Str.ofString "arg") (y := Str.ofString "found") (z := Str.ofString "node") (t := Str.ofString "is_plain") (if_pos rfl) ((if_neg (by decide)).trans w1) ((if_neg (by decide)).trans w2) ((if_neg (by decide)).trans w3)
              have him : i < ms.length := by have := (List.getElem?_eq_some_iff.mp (by simpa using hv3 : avs2[i]? = some v3)).1; omega
              obtain ⟨a1, ha1⟩ : ∃ a1, ms[i]? = some a1 := ⟨_, List.getElem?_eq_getElem him⟩
              have hna := hns'.2 i v3 a1 (by simpa using hv3) ha1
              have hoff2 := off_s off22 (by lcg_sub : ∀ p ∈ (sd, selfDict w o1' o2' o3' sy c2') :: (L1 + 1 + 1, c1) :: (L1 + 1, c2) :: (fr ++ (tl2 ++ (tl' ++ nd))), p ∈ _)
              k_steps
              refine unhalt ?_
              refine' tell_use ((I, oI) :: (sd, selfDict w o1' o2' o3' sy c2') :: (L1 + 1 + 1, c1) :: (L1 + 1, c2) :: (fr ++ (tl2 ++ tl'))) (app_makes (nd := nd)) ?k1 ?k2 ?k3 ?k4 ?sub ?hm ?k5 ?kk ?kd ?ku ?_ (fun h => h.elim)
              walk_at "tell sides"
              intro r5 tl5 led' h25 tk25 F25 N25 hfr5 hq47
              refine cps fun GX hGX => ?_
              obtain ⟨hl5, x5, d5, t1, t2, t3, hr5, htl5, l5⟩ := hq47
              refine hGX ?_
              clear hGX GX
              subst led' hr5 htl5
              have hI5 := hfr5.ne (a := I) (o := oI) (by k_mem)
              have hd5 : ∀ p ∈ (I, oI) :: (sd, selfDict w o1' o2' o3' sy c2') :: (L1 + 1 + 1, c1) :: (L1 + 1, c2) :: (fr ++ (tl2 ++ (tl' ++ nd))), @LT.lt Nat _ p.1 d5 := fun p hp => hfr5 p ((by lcg_sub : ∀ p ∈ (I, oI) :: (sd, selfDict w o1' o2' o3' sy c2') :: (L1 + 1 + 1, c1) :: (L1 + 1, c2) :: (fr ++ (tl2 ++ (tl' ++ nd))), p ∈ (I, oI) :: (sd, selfDict w o1' o2' o3' sy c2') :: (L1 + 1 + 1, c1) :: (L1 + 1, c2) :: (fr ++ (tl2 ++ tl')) ++ nd) p hp) (d5, appDict w t1 t2 t3 fv v3) (List.mem_cons_of_mem _ List.mem_cons_self)
              try k_fold
              obtain ⟨t0, hv0⟩ : ∃ t0, NodeV w nd v t0 := ⟨_, hv⟩
              cases hv0
              all_goals
                k_steps
                refine unhalt ?_
                refine' tell_use ((I, oI) :: (sd, selfDict w o1' o2' o3' sy c2') :: (L1 + 1 + 1, c1) :: (L1 + 1, c2) :: (fr ++ (tl2 ++ (tl' ++ nd)))) (placed_tells (nd := [(x5, instObj 154 d5)]) (k1 := t1) (k2 := t2) (k3 := t3) (f := fv) (a := v3) (List.Mem.head _) (by intro p hp; rw [List.mem_singleton.mp hp]; exact Ne.symm (Nat.ne_of_lt l5))) ?k1 ?k2 ?k3 ?k4 ?sub ?hm ?k5 ?kk ?kd ?ku ?_ (fun h => h.elim)
                (case k1 => k_asm); (case k2 => k_asm); (case k3 => k_asm); (case k4 => k_asm); (case k5 => k_asm); (case sub => lcg_sub); (case hm => exact mu_one fun p hp => Nat.ne_of_lt (hd5 p hp)); (case kk => first | exact rfl | assumption); (case kd => ktr_room); (case ku => ktr_units)
                intro r6 tl6 led' h26 tk26 F26 N26 hfr6 hq48
                refine cps fun GX hGX => ?_
                obtain ⟨hr6, htl6, t4, t5, t6, hl6⟩ := hq48
                refine hGX ?_
                clear hGX GX
                subst hr6 htl6 hl6
                try k_fold
                k_steps
                rename News _ _ _ _ => N27
                rename Fr _ _ _ _ => F27
                refine ⟨rfl, _, _, _, (sd, selfDict w o1' o2' o3' sy c2') :: (L1 + 1 + 1, c1) :: (L1 + 1, c2) :: (fr ++ (((x5, instObj 154 d5) :: (d5, appDict w t4 t5 t6 fv v3) :: tl2) ++ (tl' ++ nd))), rfl, F27, news_sub N27 (by lcg_sub), ?_, .ref x5, (x5, instObj 154 d5) :: (d5, appDict w t4 t5 t6 fv v3) :: tl2, rfl, rfl, rfl, rfl, ?_, ?_⟩
                · exact off_s (off_a hoff2 (off_c (hI5 (x5, _) List.mem_cons_self) (off_c (x := (d5, appDict w t4 t5 t6 fv v3)) (l := []) (hI5 (d5, appDict w t1 t2 t3 fv v3) (List.mem_cons_of_mem _ List.mem_cons_self)) (fun p hp => nomatch hp)))) (by lcg_sub)
                · rw [List.take_add_one, ha1]
                  show NodeV w _ _ ((Ty.leaf h').on (ms.take i ++ [a1]))
                  rw [Ty.on_snoc]
                  exact .app (List.Mem.head _) (List.mem_cons_of_mem _ (List.Mem.head _)) (hfv.mono (by lcg_sub)) (hna.mono (by lcg_sub))
                · have q0 : Fresh (fr ++ (sd, selfDict w q1 q2 q3 sy c) :: nd) [(x5, instObj 154 d5), (d5, appDict w t1 t2 t3 fv v3)] := hfr5.addr fun p hp => by
                    rcases List.mem_append.mp hp with hp | hp
                    · exact ⟨p, (by lcg_sub : ∀ p ∈ fr, p ∈ (I, oI) :: (sd, selfDict w o1' o2' o3' sy c2') :: (L1 + 1 + 1, c1) :: (L1 + 1, c2) :: (fr ++ (tl2 ++ tl')) ++ nd) p hp, rfl⟩
                    · rcases List.mem_cons.mp hp with rfl | hp
                      · exact ⟨(sd, selfDict w o1' o2' o3' sy c2'), by k_mem, rfl⟩
                      · exact ⟨p, List.mem_append_right _ hp, rfl⟩
                  exact Fresh.allLt (fun q hq => q0 q hq _ List.mem_cons_self) (Fresh.allLt (fun q hq => q0 q hq (d5, appDict w t1 t2 t3 fv v3) (List.mem_cons_of_mem _ List.mem_cons_self)) hfr2)
            · intro h23 tk23 m23 nw F23 N23 hq49
              refine cps fun GX hGX => ?_
              obtain ⟨fv, tl2, w1, w2, w3, hnw, hfv, hfr2⟩ := hq49
              refine hGX ?_
              clear hGX GX
              subst hnw
              replace F23 := fr_see3 F23 w1 w2 w3
              rw [show avs2.toArray.size = ms.length by rw [List.size_toArray]; exact hlen2, List.take_of_length_le (Nat.le_refl _)] at hfv
              cases hb : (T h).isNone with
              | true =>
                rw [hb] at F23
                k_steps
                rename News _ _ _ _ => N25
                exact hret _ (tl2 ++ tl') _ _ _ (by assumption) (news_sub N25 (by lcg_sub : ∀ p ∈ fr ++ ((tl2 ++ tl') ++ (sd, selfDict w o1' o2' o3' sy c2') :: nd), p ∈ _)) (Fresh.append hfr2 hfr') ⟨o1', o2', o3', c2', _, rfl, by omega, rfl, hfree2, hfv.mono (by lcg_sub)⟩
              | false =>
                rw [hb] at F23
                k_steps
                refine unhalt ?_
                refine' tell_use ((sd, selfDict w o1' o2' o3' sy c2') :: (L1 + 1 + 1, c1) :: (L1 + 1, c2) :: fr) (most_tells hfv hsz2) ?k1 ?k2 ?k3 ?k4 ?sub ?hm ?k5 ?kk ?kd ?ku ?_ (fun h => h.elim)
                walk_at "tell sides"
                intro r5 tl5 led' h25 tk25 F25 N25 hfr5 hq50
                obtain ⟨hl5, hr5⟩ := hq50
                subst led' hr5
                try k_fold
                k_steps
                rename News _ _ _ _ => N26
                exact hret _ (tl2 ++ tl') _ _ _ (by assumption) (news_sub N26 (by lcg_sub : ∀ p ∈ fr ++ ((tl2 ++ tl') ++ (sd, selfDict w o1' o2' o3' sy c2') :: nd), p ∈ _)) (Fresh.append hfr2 hfr') ⟨o1', o2', o3', c2', _, rfl, by omega, rfl, hfree2, hfv.mono (by lcg_sub)⟩
end

section
/- part C_step2 -/
theorem kw_C_step2_s_0 : True := by
  w_top off
  k_with_none
  k_with "my path" => first | with_reducible exact And.left | with_reducible exact And.right | (refine path_r ?_; k_extra "my path")
  k_with "my ne" => ((try dsimp only); first | (refine' Nat.ne_of_gt (lt_pick ?neA ?neB); (case neA => with_reducible assumption); (case neB => k_extra "my path")) | (refine' Nat.ne_of_lt (lt_pick ?neA ?neB); (case neA => with_reducible assumption); (case neB => k_extra "my path")) | exact Nat.ne_of_gt (by with_reducible assumption) | exact Nat.ne_of_lt (by with_reducible assumption) | fail)
  k_with "my om" => first | exact Nat.le_of_ble_eq_true rfl | with_reducible assumption | lia
  k_with "eval Name" => (k_here; k_dflt (first | (refine' nameX_L ?Fw460 ?vw460 ?_ ?aw460 ?bw460; (case Fw460 => k_asm); (case aw460 => rfl); (case bw460 => rfl); (case vw460 => rfl); k_whole) | (refine' nameX_C ?Nw460 ?cw460 ?mw460 ?dw460 ?_ ?aw460 ?bw460; (case aw460 => rfl); (case bw460 => rfl); (case Nw460 => k_asm); (case cw460 => rfl); (case mw460 => k_mem); (case dw460 => k_asm); k_whole) | (refine' nameX_K ?Fw460 ?Xw460 ?Tw460 ?ew460 ?_ ?aw460 ?bw460; (case Fw460 => k_asm); (case Xw460 => k_asm); (case Tw460 => k_asm); (case aw460 => rfl); (case bw460 => rfl); (case ew460 => k_is); k_whole) | (refine' nameX_B ?Fw460 ?Xw460 ?Tw460 ?ew460 ?vw460 ?nw460 ?_ ?aw460 ?bw460; (case Fw460 => k_asm); (case Xw460 => k_asm); (case Tw460 => k_asm); (case aw460 => rfl); (case bw460 => rfl); (case ew460 => k_is); (case vw460 => boot_fast); (case nw460 => decide); k_whole)))
  k_with "call builtin:isinstance" => (k_here; (with_reducible show wpAny _ _ (call _ [Value.ref _, Value.ref _]) _ _ _); k_dflt (first | (refine' isi_call ?k1w461 ?k2w461 ?k3w461 ?k4w461 ?_; (case k1w461 => k_in); (case k2w461 => k_types); (case k3w461 => k_is); (case k4w461 => intro e; cases e); k_whole) | (refine' kin_callC ?k1w461 ?k2w461 ?k3w461 ?k4w461 ?k5w461 ?k6w461 ?k7w461 ?k8w461 ?k9w461 ?_; (case k1w461 => k_in); (case k2w461 => k_inst); (case k3w461 => kin_no); (case k4w461 => k_is); (case k5w461 => k_is); (case k6w461 => k_is); (case k7w461 => k_is); (case k8w461 => k_is); (case k9w461 => k_is); k_whole)))
  k_with "getAttr ref" => (k_here; k_dflt (refine' get_own ?k1w462 ?k2w462 ?k3w462 ?k4w462 ?k5w462 ?k6w462 ?k7w462 ?k8w462 ?k9w462 ?_; (case k1w462 => k_asm); (case k2w462 => k_asm); (case k3w462 => k_inst); (case k4w462 => k_is); (case k5w462 => k_is); (case k6w462 => k_is); (case k7w462 => k_is); (case k8w462 => k_get); (case k9w462 => k_handed); k_whole))
  k_with "exec For Name Name cons nil" => refine halt ?_
  k_with "my src" => first | exact fun _ h => h | with_reducible assumption | (refine sub_t ?_; lcg_src) | (refine sub_l ?_; lcg_src) | (refine sub_r ?_; lcg_src)
  k_with "my sub" => first | exact sub_n | (refine sub_c ?_ ?_; k_mem; lcg_sub) | (refine sub_a ?_ ?_; lcg_sub; lcg_sub) | lcg_src
  k_with "my all" => first | assumption | (refine List.forall_mem_append.mpr ⟨?_, ?_⟩ <;> k_all)
  k_with "my mem" => first | with_reducible assumption | exact List.Mem.head _ | (refine List.mem_cons_of_mem _ ?_; k_mem) | (refine List.mem_append_left _ ?_; k_mem) | (refine List.mem_append_right _ ?_; k_mem)
  k_with "tell sides" => ((case k1 => k_asm); (case k2 => k_asm); (case k3 => k_asm); (case k4 => k_asm); (case k5 => k_asm); (try (case sub => lcg_sub)); (try (case hm => first | exact mu_nil | assumption | (refine mu_one ?_; k_all))); (case kk => first | exact rfl | assumption); (case kd => ktr_room); (case ku => ktr_units))
  k_with "enter" => (k_dflt (refine' code_def ?k1w469 ?k2w469 ?k3w469 ?k4w469 ?k5w469 ?kAw469 ?kFw469 ?kKw469 ?k6w469 ?k7w469 ?k8w469 ?k9w469 ?kBw469 ?_ ?c2w469 ?c3w469 ?c4w469 ?c5w469; (case kAw469 => exact rfl); (case kFw469 => exact rfl); (case kKw469 => assumption); (case k1w469 => k_asm); (case k2w469 => k_asm); (case k3w469 => k_asm); (case k4w469 => k_asm); (case k5w469 => k_asm); (case k6w469 => k_is); (case k7w469 => k_is); (case k8w469 => ktr_room); (case k9w469 => exact BindsTo.of_eq rfl); (case c5w469 => decide); (case kBw469 => exact locs rfl); (case c2w469 => exact rfl); (case c3w469 => exact rfl); (case c4w469 => exact rfl); k_whole))
  k_with "enter cells" => (k_dflt (refine' code_defC ?k1w470 ?k2w470 ?k3w470 ?k4w470 ?k5w470 ?kAw470 ?kFw470 ?kKw470 ?k6w470 ?k7w470 ?k8w470 ?k9w470 ?kBw470 ?kDw470 ?_ ?c2w470 ?c3w470 ?c4w470; (case kAw470 => exact rfl); (case kFw470 => exact rfl); (case kKw470 => assumption); (case k1w470 => k_asm); (case k2w470 => k_asm); (case k3w470 => k_asm); (case k4w470 => k_asm); (case k5w470 => k_asm); (case k6w470 => k_is); (case k7w470 => k_is); (case k8w470 => ktr_room); (case k9w470 => exact BindsTo.of_eq rfl); (case kBw470 => exact rfl); (case kDw470 => decide +kernel); (case c2w470 => exact rfl); (case c3w470 => exact rfl); (case c4w470 => exact rfl); k_whole))
  k_with "enter own" => (refine' code_def ?k1w471 ?k2w471 ?k3w471 ?k4w471 ?k5w471 ?kAw471 ?kFw471 ?kKw471 ?k6w471 ?k7w471 ?k8w471 ?k9w471 ?kBw471 ?_ ?c2w471 ?c3w471 ?c4w471 ?c5w471; (case kAw471 => exact rfl); (case kFw471 => exact rfl); (case kKw471 => exact rfl); (case k1w471 => k_asm); (case k2w471 => k_asm); (case k3w471 => k_asm); (case k4w471 => k_asm); (case k5w471 => k_asm); (case k6w471 => k_is); (case k7w471 => k_is); (case k8w471 => ktr_room); (case k9w471 => first | exact BindsTo.of_eq rfl | exact binds_K (by k_in) rfl (by k_is) rfl rfl rfl | fail "k_enter: no rule for these arguments"); (case c5w471 => decide); (case kBw471 => exact locs rfl); (case c2w471 => exact rfl); (case c3w471 => exact rfl); (case c4w471 => exact rfl); k_whole; intro g' L' h' FG' F' N' B' X' T'; (try dsimp only); (try k_lift B'); (try k_fold))
  k_with "call ref" => (k_here; k_dflt (first
    | (refine' call_cls ?k1w472 ?k2w472 ?k3w472 ?k4w472 ?k5w472 ?k6w472 ?_; (case k1w472 => k_asm); (case k2w472 => k_asm); (case k3w472 => k_asm); (case k4w472 => k_is); (case k5w472 => k_is); (case k6w472 => k_is); k_whole; intro x' d' h' F' N' l1 l2; (try k_lt l1); (try k_lt2 l2); (try k_sweep); walk_at "enter own")
    | (refine wpAny_call ?_; walk_at "enter own")))
  k_with "subscriptTail" => (k_here; (with_reducible show wpAny _ _ (subscriptTail _ _ (Value.ref _) (Value.int 0 _)) _ _ _); k_dflt (refine' led_tup0 ?k1w473 ?k2w473 ?k3w473 ?_; (case k1w473 => k_asm); (case k2w473 => k_mem); (case k3w473 => (first | assumption | omega)); k_whole))
  k_with "subscriptTail Name Slice ref ref" => (k_here; (with_reducible show wpAny _ _ (subscriptTail _ (PySem.Expr.Slice _ _ none _) (Value.ref _) (Value.ref _)) _ _ _); k_dflt (refine' led_tupTail ?k1w474 ?k2w474 ?k3w474 ?k4w474 ?_; (case k1w474 => k_asm); (case k2w474 => k_asm); (case k3w474 => k_mem); (case k4w474 => (first | assumption | omega)); k_whole); intro D' h' F' N' l1; (try k_lt l1); (try k_sweep))
  k_with "call ref" => ((with_reducible first | show wpAny _ _ (call (Value.ref 191) _) _ _ _ | show wpAny _ _ (call (Value.ref 198) _) _ _ _ | show wpAny _ _ (call (Value.ref 205) _) _ _ _ | show wpAny _ _ (call (Value.ref 224) _) _ _ _ | show wpAny _ _ (call (Value.ref 229) _) _ _ _ | show wpAny _ _ (call (Value.ref 243) _) _ _ _ | show wpAny _ _ (call (Value.ref 257) _) _ _ _ | show wpAny _ _ (call (Value.ref 264) _) _ _ _ | show wpAny _ _ (call (Value.ref 276) _) _ _ _ | show wpAny _ _ (call (Value.ref 283) _) _ _ _ | show wpAny _ _ (call (Value.ref 290) _) _ _ _ | show wpAny _ _ (call (Value.ref 295) _) _ _ _ | show wpAny _ _ (call (Value.ref 302) _) _ _ _ | show wpAny _ _ (call (Value.ref 309) _) _ _ _); refine halt ?_)
  k_with "eval ListComp" => refine halt ?_
  k_with "exec Assign cons ListComp" => refine halt ?_
  k_with "exec For" => refine halt ?_
  k_with "exec While" => refine halt ?_
  k_with "call type:tuple" => ((with_reducible show wpAny _ _ (call (Value.type "tuple") [Value.ref _]) _ _ _); refine halt ?_)
  k_with "binaryOp Add ref ref" => ((with_reducible show wpAny _ _ (binaryOp Operator.Add (Value.ref _) (Value.ref _)) _ _ _); refine halt ?_)
  k_with "my tabat" => first | assumption | exact ab0 (by assumption) | exact ab1 (by assumption) | (refine ab_trans (by assumption) ?_; k_tabat)
  k_with "my updF" => first | exact Fresh.nil | assumption | (refine Fresh.allLt ?_ ?_; k_tabat; k_updF) | (refine Fresh.append ?_ ?_; k_updF; k_updF)
  k_with "getMethod ref" => (k_here; (with_reducible show wpAny _ _ (getMethod (Value.ref _) (Str.ofString "get") _) _ _ _); k_dflt (refine kdg_method (knd := PySem.strKind _ _) (by k_asm) (by k_mem) (by assumption) ?_))
  k_with "call builtin:dict.get" => (k_here; k_dflt (refine kdg_get2 (knd := PySem.strKind _ _) (by k_asm) (by k_mem) (by assumption) (by assumption) (strKind_is _ _ _ _) _ rfl ?_))
  k_with "compareOp NotEq ref ref" => (k_here; k_dflt (first | (refine' led_ne_nil ?k1w486 ?k2w486 ?k3w486 ?k4w486 ?_; (case k1w486 => k_asm); (case k2w486 => k_mem); (case k3w486 => k_mem); (case k4w486 => ke_room)) | (refine' led_ne_snoc ?k1w486 ?k2w486 ?k3w486 ?k4w486 ?_; (case k1w486 => k_asm); (case k2w486 => k_mem); (case k3w486 => k_mem); (case k4w486 => ke_room))))
  k_with "compareOp Eq ref ref" => (k_here; k_dflt (first | (refine' led_eq_nil ?k1w487 ?k2w487 ?k3w487 ?k4w487 ?_; (case k1w487 => k_asm); (case k2w487 => k_mem); (case k3w487 => k_mem); (case k4w487 => ke_room)) | (refine' led_eq_cons ?k1w487 ?k2w487 ?k3w487 ?k4w487 ?_; (case k1w487 => k_asm); (case k2w487 => k_mem); (case k3w487 => k_mem); (case k4w487 => ke_room))))
  trivial
theorem kw_C_step2_0 : True := by
  k_with "call ref" => ((with_reducible show wpAny _ _ (call (Value.ref 45) _) _ _ _); refine halt ?_)
  k_with "exec Raise some none" => (refine mine_raise (C := 45) rfl ?_)
  k_with "subscriptTail" => (k_here; (with_reducible show wpAny _ _ (subscriptTail _ _ (Value.ref _) (Value.str _ _)) _ _ _); k_dflt (refine kda_item (knd := PySem.strKind _ _) (by k_asm) (by k_mem) (by assumption) (strKind_is _ _ _ _) (by assumption) ?_))
  k_with "call builtin:len" => (k_here; k_dflt (refine' led_len ?k1w491 ?k2w491 ?k3w491 ?_; (case k1w491 => k_asm); (case k2w491 => k_mem); (case k3w491 => (first | assumption | omega)); k_whole))
  k_with "binaryOp Add str str" => (k_here; (with_reducible show wpAny _ _ (binaryOp Operator.Add (Value.str _ _) (Value.str _ _)) _ _ _); (refine PyProof.Rows.add_str (hsz := ?hszw492) ?_; (case hszw492 => first | exact kstr_fit (by assumption)); intro _ _))
  k_with "subscriptTail Name Slice ref ref" => (k_here; k_dflt (first
    | (refine' led_take ?k1w493 ?k2w493 ?k3w493 ?k4w493 ?k5w493 ?_; (case k1w493 => k_asm); (case k2w493 => k_asm); (case k3w493 => k_mem); (case k4w493 => assumption); (case k5w493 => assumption); k_whole)
    | (refine' led_drop ?k1w493 ?k2w493 ?k3w493 ?k4w493 ?k5w493 ?_; (case k1w493 => k_asm); (case k2w493 => k_asm); (case k3w493 => k_mem); (case k4w493 => assumption); (case k5w493 => assumption); k_whole)); intro D' h' F' N' l1; (try k_lt l1); (try k_sweep))
  k_with "call type:zip" => (refine halt ?_)
  k_with "call type:dict" => (refine halt ?_)
  trivial
set_option maxRecDepth 100000 in
set_option maxHeartbeats 8000000 in
theorem step_full {w : World} {mean : ExcName → Option Value} {mg mb : Str → Option Value} {nd : List (Addr × Obj)} {T : Str → Option Def} {rk : Str → Nat} {z : Nat} (ok : TOk T rk z) {sf sd sy al : Addr} {c dpt szW : Nat} {hv : Value} {h : Str} {d : Def} {avs : List Value} {as : List Ty} {ka : Nat}
    (hnd : ∀ p ∈ nd, p.1 ≠ sd) (hsf : (sf, instObj 232 sd) ∈ nd) (hsy : SynV w nd sy T) (hh : NodeV w nd hv (.leaf h)) (hal : (al, listOf avs.toArray ka) ∈ nd) (has : NodeVs w nd avs as) (hT : T h = some d) (hge : ¬ as.length < d.ps.length)
    (hsz : ∀ m ∈ as, m.size ≤ 4000) (hlen : as.length < 4000) (hz : z ≤ 100) (hc : c + 40 ≤ 4000)
    (hwp : ∀ v p c', p ∈ d.parts → NodeV w nd v p → c' + 16 ≤ 4000 → Whole w mean mg mb T sf sd sy nd v (if plain T p then some p else none) 4 szW (dpt + 1) c') :
    Step w mean mg mb T sf sd sy nd hv al d as (10 * z + szW + 60) dpt c := by
  intro kd q1 q2 q3
  refine cps fun GX hGX => ?_
  obtain ⟨oy, kvs, hoy, hky, hys, hysome, hynone⟩ := id hsy
  refine hGX ?_
  clear hGX GX
  cases e3 : valueAt kvs h with
  | none => rw [hynone h e3] at hT; cases hT
  | some sv =>
    refine cps fun GX hGX => ?_
    obtain ⟨df, sx, sdd, pl, k1, k2, k3, nv, pvs, bv, kp, a1, a2, a3, a4, a5, a6, a7⟩ := hysome h sv e3
    refine hGX ?_
    clear hGX GX
    subst a2
    rw [hT] at a1; cases a1
    obtain ⟨bx, rfl⟩ : ∃ bx, bv = .ref bx := (fun t h => by cases h <;> exact ⟨_, rfl⟩ : ∀ t, NodeV w nd bv t → ∃ bx, bv = .ref bx) _ a7
    have hp2 := ok.two h d hT
    have hlen' := has.1
    have hpl : pvs.length = d.ps.length := by rw [← a6, List.length_map]
    have hsm : (pvs.map fun p : Str × Tok => Value.str p.1 p.2).toArray.size < 100000 := by rw [List.size_toArray, List.length_map]; omega
    have hsm2 : avs.toArray.size < 100000 := by rw [List.size_toArray]; omega
    have hsz1 : avs.length < 10000 := by omega
    have hndp : (pvs.map (·.1)).Nodup := by rw [a6]; exact ok.nodup h d hT
    have hsz2 : (pvs.map fun p : Str × Tok => Value.str p.1 p.2).toArray.size ≤ avs.length := by rw [List.size_toArray, List.length_map]; omega
    have esz : (pvs.map fun p : Str × Tok => Value.str p.1 p.2).toArray.size = d.ps.length := by rw [List.size_toArray, List.length_map]; exact hpl
    have hnl : ¬ (avs.toArray.size : Int) < ((pvs.map fun p : Str × Tok => Value.str p.1 p.2).toArray.size : Int) := by rw [esz, List.size_toArray]; omega
    cases hh with
    | var hv' _ _ => rw [ok.var h d hT] at hv'; cases hv'
    | @con x dd k4 k5 k6 _ hv' hx hdd =>
      unfold Tell
      k_fill
      intro dp un gd cn cs a ccd cl outer A₀ base h₀ L m s fr Q E B F X N hmu T' hk hd hu hret hfail
      refine wpAny_call ?_
      walk_at "enter cells"
      intro g L1 h1 tk1 cells FG F1 N1 Y B1 X1 T1 l1
      refine cps fun GX hGX => ?_
      obtain ⟨c1, c2, c3, hE, d1, d2, d3⟩ := CellsAre.three Y
      refine hGX ?_
      clear hGX GX
      subst hE; clear Y
      simp only [List.cons_append, List.nil_append] at N1
      have hap := mu_ne hmu
      have lsd : @LT.lt Nat _ sd L1 := l1 (sd, selfDict w q1 q2 q3 sy c) (by k_mem)
      try dsimp only
      try k_fold
      k_steps
      refine unhalt ?_
      rename News _ _ _ _ => N9
      rename Fr _ _ _ _ => F9
      rename Addr => DT
      rename (_ ∧ _ ∧ _) => l9
      refine led_zip F9 N9 (by k_mem) (by k_mem) fun zz h10 F10 N10 Z10 => ?_
      try k_fold
      k_steps
      refine unhalt ?_
      rename News _ _ _ _ => N11
      rename Fr _ _ _ _ => F11
      refine led_dictZip F11 N11 T1.nolimit rfl Z10 ?len ?sz hndp fun DD oD h12 tk12 F12 N12 l12 hsys hDict => ?_
      case len => rw [List.length_take]; omega
      case sz => omega
      try k_fold
      k_steps
      refine storeX_C F12 N12 (c := L1 + 1 + 1 + 1) rfl (UpdF.tail ?u1 (UpdF.tail ?u2 (UpdF.head ?u3))) d1 (fun h13 c4 F13 N13 d4 => ?_)
      case u1 => exact Ne.symm (Nat.ne_of_lt (l12 (L1 + 1 + 1 + 1, c1) (by k_mem)))
      case u2 => exact Ne.symm (Nat.ne_of_lt l9.1)
      case u3 =>
        refine off_c (by show @Ne Nat _ _; omega) (off_c (by show @Ne Nat _ _; omega) fun p hp => ?_)
        exact Nat.ne_of_lt (Nat.lt_of_lt_of_le (l1 p hp) (Nat.le_add_right L1 3))
      clear F12 N12
      try dsimp only at N13
      try k_fold
      k_steps
      refine unhalt ?_
      rename News _ _ _ _ => N14
      have hbody := ok.body h d hT
      have hparts := ok.parts h d hT
      have hbsz : ((Ty.leaf d.bh).on d.parts).size < 10000 := by
        have := size_on_le (M := z) d.parts (.leaf d.bh) (fun p hp => (ok.part h d hT p hp).1)
        have h2 : d.parts.length * (z + 1) ≤ 3 * (z + 1) := Nat.mul_le_mul_right _ hparts
        have h3 : (Ty.leaf d.bh).size = 1 := rfl
        omega
      refine' tell_use ((DD, oD) :: (DT, listOf (avs.take (pvs.map fun p : Str × Tok => Value.str p.1 p.2).toArray.size).toArray 0) :: (L1 + 1 + 1 + 1, c4) :: (L1 + 1 + 1, c2) :: (L1 + 1, c3) :: (fr ++ [(sd, selfDict w q1 q2 q3 sy c)])) (hna_tells a7 hbsz) ?k1 ?k2 ?k3 ?k4 ?sub ?hm ?k5 ?kk ?kd ?ku ?_ (fun h => h.elim)
      walk_at "tell sides"
      intro r1 tl1 led' h' tk' F' N' hfr1 hq51
      refine cps fun GX hGX => ?_
      obtain ⟨hl', TT, A1, hv1, hk1, avs1, as1, ka1, hr1, hT1, hA1, hn1, hns1, heq⟩ := hq51
      refine hGX ?_
      clear hGX GX
      subst led' hr1
      obtain ⟨e1, e2⟩ := Ty.on_inj heq
      subst hk1 as1
      clear heq
      try k_fold
      k_steps
      refine unhalt ?_
      rename Fr _ _ _ _ => F15
      rename News _ _ _ _ => N15
      k_dflt (refine comp_assign F15 rfl (by with_unfolding_all rfl) rfl rfl B1.stays rfl (by decide) rfl (by decide) rfl (by rfl) (by rfl) ?_)
      try k_fold
      k_steps
      rename Fr _ _ _ _ => F16
      rename News _ _ _ _ => N16
      replace N16 : News g L1 _ ((sd, selfDict w q1 q2 q3 sy c) :: (tl1 ++ (DD, oD) :: (DT, listOf (avs.take (pvs.map fun p : Str × Tok => Value.str p.1 p.2).toArray.size).toArray 0) :: (L1 + 1 + 1 + 1, c4) :: (L1 + 1 + 1, c2) :: (L1 + 1, c3) :: (fr ++ nd))) := news_sub N16 (by lcg_sub)
      have hfr1' : Fresh (fr ++ (sd, selfDict w q1 q2 q3 sy c) :: nd) tl1 := hfr1.sub (by lcg_sub)
      have hB1 : ∀ p ∈ (tl1 ++ (DD, oD) :: (DT, listOf (avs.take (pvs.map fun p : Str × Tok => Value.str p.1 p.2).toArray.size).toArray 0) :: (L1 + 1 + 1 + 1, c4) :: (L1 + 1 + 1, c2) :: (L1 + 1, c3) :: (fr ++ nd)), p.1 ≠ sd := off_a (hfr1.ne (a := sd) (o := selfDict w q1 q2 q3 sy c) (by k_mem)) (off_c (Ne.symm (Nat.ne_of_lt (l12 (sd, selfDict w q1 q2 q3 sy c) (by k_mem)))) (off_c (Ne.symm (Nat.ne_of_lt (allLt_mem l9.2.2.2 (sd, selfDict w q1 q2 q3 sy c) (by k_mem)))) (off_c (by show @Ne Nat _ _; omega) (off_c (by show @Ne Nat _ _; omega) (off_c (by show @Ne Nat _ _; omega) (off_a hap hnd))))))
      have hσ := zipped_vars (ts := as.take d.ps.length) (ok.vars h d hT)
      have hSub : SubV w ((DD, oD) :: nd) DD (bound0 d as) := by
        obtain ⟨z1, z2⟩ := zip_at (R := NodeV w ((DD, oD) :: nd)) (ps := d.ps) ((has.take d.ps.length).1) (fun i v t a b => ((has.take d.ps.length).2 i v t a b).mono (by lcg_sub))
        rw [a6, show List.take (pvs.map fun p : Str × Tok => Value.str p.1 p.2).toArray.size avs = List.take d.ps.length avs by rw [esz]] at hDict
        exact ⟨oD, _, by k_mem, hDict, hsys, z1, z2⟩
      have hpz : ∀ p ∈ d.parts, p.size ≤ z := fun p hp => (ok.part h d hT p hp).1
      have hstep1 : stepEv T d as = if d.parts.all (plain T) then some (((Ty.leaf d.bh).sub (bound0 d as)).spine.1, ((Ty.leaf d.bh).sub (bound0 d as)).spine.2 ++ (d.parts.map (Ty.sub (bound0 d as)) ++ as.drop d.ps.length)) else none := by unfold stepEv; rw [if_neg hge]
      refine src_list (k := ka1) (keep := fr ++ nd) (Fl := stepEv T d as = none) (S := fun i ys nw => ∃ o1 o2 o3 c' tl, c' ≤ c + 4 * i ∧ nw = (sd, selfDict w o1 o2 o3 sy c') :: (tl ++ (tl1 ++ (DD, oD) :: (DT, listOf (avs.take (pvs.map fun p : Str × Tok => Value.str p.1 p.2).toArray.size).toArray 0) :: (L1 + 1 + 1 + 1, c4) :: (L1 + 1 + 1, c2) :: (L1 + 1, c3) :: (fr ++ nd))) ∧ (d.parts.take i).all (plain T) = true ∧ NodeVs w (tl ++ (DD, oD) :: nd) ys ((d.parts.take i).map (Ty.sub (bound0 d as))) ∧ Fresh (fr ++ (sd, selfDict w q1 q2 q3 sy c) :: nd) tl) rfl F16 N16 (by k_mem) ?_ ?_ ?_ ?_ ?_ ?_ ?_
      · have := hns1.1
        rw [sizeLine_eq, List.size_toArray]; omega
      · exact ⟨q1, q2, q3, c, [], by omega, rfl, by rw [List.take_zero]; rfl, by rw [List.take_zero]; exact NodeVs.nil, Fresh.nil⟩
      · intro i ys nw hq52
        refine cps fun GX hGX => ?_
        obtain ⟨o1, o2, o3, c', tl, _, e, _⟩ := hq52
        refine hGX ?_
        clear hGX GX
        rw [e]; k_mem
      · intro i ys nw v2 I oI oC C D m₂ h11 tk11 hv2 hyl hq53 hC hx2 F11 N11 off11 ne11
        refine cps fun GX hGX => ?_
        obtain ⟨o1, o2, o3, c', tl, hc', hnw, hall, hys, hfrt⟩ := hq53
        refine hGX ?_
        clear hGX GX
        subst hnw
        k_steps
        refine unhalt ?_
        have hi : i < d.parts.length := by have := (List.getElem?_eq_some_iff.mp (by simpa using hv2 : avs1[i]? = some v2)).1; rw [← hns1.1]; exact this
        obtain ⟨p1, hp1⟩ : ∃ p1, d.parts[i]? = some p1 := ⟨_, List.getElem?_eq_getElem hi⟩
        have hp1m := List.mem_of_getElem? hp1
        have hnv := hns1.2 i v2 p1 (by simpa using hv2) hp1
        have e3 := off11.mem
        have htr := e3 (sd, selfDict w o1 o2 o3 sy c') List.mem_cons_self
        have htl : ∀ p ∈ tl, p.1 ≠ sd := hfrt.ne (a := sd) (o := selfDict w q1 q2 q3 sy c) (by k_mem)
        rw [show (dpt : Int) + 1 = ((dpt + 1 : Nat) : Int) from rfl]
        refine' tell_use ((I, oI) :: (C, oC) :: (D, LCg.lst ys) :: (tl ++ (tl1 ++ (DD, oD) :: (DT, listOf (avs.take (pvs.map fun p : Str × Tok => Value.str p.1 p.2).toArray.size).toArray 0) :: (L1 + 1 + 1 + 1, c4) :: (L1 + 1 + 1, c2) :: (L1 + 1, c3) :: fr))) (hwp v2 p1 c' hp1m hnv (by omega) _ o1 o2 o3) ?k1 ?k2 ?k3 ?k4 ?sub ?hm ?k5 ?kk ?kd ?ku ?_ ?_
        (case k1 => k_asm); (case k2 => k_asm); (case k3 => k_asm); (case k4 => k_asm); (case k5 => k_asm); (case sub => lcg_sub); (case hm => exact mu_one (off_c (Ne.symm htr.1) (off_c (Ne.symm htr.2.1) (off_c (Ne.symm htr.2.2) (off_a htl (off_s hB1 (by lcg_sub))))))); (case kk => first | exact rfl | assumption); (case kd => ktr_room); (case ku => ktr_units)
        · intro r2 tl2 led' h' tk' F' N' hfr' hq54
          refine cps fun GX hGX => ?_
          obtain ⟨s1, s2, s3, c2', t', hl', hc2, het, hft, hnt⟩ := hq54
          refine hGX ?_
          clear hGX GX
          subst led'
          by_cases hpl1 : plain T p1 = true
          · rw [if_pos hpl1] at het
            cases het
            have hI := hfr'.ne (a := I) (o := oI) (by k_mem)
            have hCC := hfr'.ne (a := C) (o := oC) (by k_mem)
            have hDD := hfr'.ne (a := D) (o := LCg.lst ys) (by k_mem)
            try k_fold
            k_steps
            refine unhalt ?_
            have hpz1 := hpz p1 hp1m
            refine' tell_use ((I, oI) :: (C, oC) :: (D, LCg.lst ys) :: (sd, selfDict w s1 s2 s3 sy c2') :: (tl ++ (tl1 ++ (DT, listOf (avs.take (pvs.map fun p : Str × Tok => Value.str p.1 p.2).toArray.size).toArray 0) :: (L1 + 1 + 1 + 1, c4) :: (L1 + 1 + 1, c2) :: (L1 + 1, c3) :: fr))) (tell_size (repl_tells (nd := tl2 ++ (DD, oD) :: nd) hσ (hSub.mono (by lcg_sub)) (hnt.mono (by lcg_sub))) (by omega : 10 * p1.size + 10 ≤ 10 * z + 10)) ?k1 ?k2 ?k3 ?k4 ?sub ?hm ?k5 ?kk ?kd ?ku ?_ (fun h => h.elim)
            walk_at "tell sides"
            intro r3 tl3 led' h'' tk'' F'' N'' hfr3 hq55
            obtain ⟨hl3, hn3⟩ := hq55
            subst led'
            have hI3 := hfr3.ne (a := I) (o := oI) (by k_mem)
            have hCC3 := hfr3.ne (a := C) (o := oC) (by k_mem)
            have hDD3 := hfr3.ne (a := D) (o := LCg.lst ys) (by k_mem)
            try k_fold
            k_steps
            have q1' : Fresh (fr ++ (sd, selfDict w q1 q2 q3 sy c) :: nd) tl2 := hfr'.addr fun p hp => by
              rcases List.mem_append.mp hp with hp | hp
              · exact ⟨p, (by lcg_sub : ∀ p ∈ fr, p ∈ (I, oI) :: (C, oC) :: (D, LCg.lst ys) :: (tl ++ (tl1 ++ (DD, oD) :: (DT, listOf (avs.take (pvs.map fun p : Str × Tok => Value.str p.1 p.2).toArray.size).toArray 0) :: (L1 + 1 + 1 + 1, c4) :: (L1 + 1 + 1, c2) :: (L1 + 1, c3) :: fr)) ++ (sd, selfDict w o1 o2 o3 sy c') :: nd) p hp, rfl⟩
              · rcases List.mem_cons.mp hp with rfl | hp
                · exact ⟨(sd, selfDict w o1 o2 o3 sy c'), by k_mem, rfl⟩
                · exact ⟨p, (by lcg_sub : ∀ p ∈ nd, p ∈ (I, oI) :: (C, oC) :: (D, LCg.lst ys) :: (tl ++ (tl1 ++ (DD, oD) :: (DT, listOf (avs.take (pvs.map fun p : Str × Tok => Value.str p.1 p.2).toArray.size).toArray 0) :: (L1 + 1 + 1 + 1, c4) :: (L1 + 1 + 1, c2) :: (L1 + 1, c3) :: fr)) ++ (sd, selfDict w o1 o2 o3 sy c') :: nd) p hp, rfl⟩
            have q2' : Fresh (fr ++ (sd, selfDict w q1 q2 q3 sy c) :: nd) tl3 := hfr3.addr fun p hp => by
              rcases List.mem_append.mp hp with hp | hp
              · exact ⟨p, (by lcg_sub : ∀ p ∈ fr, p ∈ (I, oI) :: (C, oC) :: (D, LCg.lst ys) :: (sd, selfDict w s1 s2 s3 sy c2') :: (tl ++ (tl1 ++ (DT, listOf (avs.take (pvs.map fun p : Str × Tok => Value.str p.1 p.2).toArray.size).toArray 0) :: (L1 + 1 + 1 + 1, c4) :: (L1 + 1 + 1, c2) :: (L1 + 1, c3) :: fr)) ++ (tl2 ++ (DD, oD) :: nd)) p hp, rfl⟩
              · rcases List.mem_cons.mp hp with rfl | hp
                · exact ⟨(sd, selfDict w s1 s2 s3 sy c2'), by k_mem, rfl⟩
                · exact ⟨p, (by lcg_sub : ∀ p ∈ nd, p ∈ (I, oI) :: (C, oC) :: (D, LCg.lst ys) :: (sd, selfDict w s1 s2 s3 sy c2') :: (tl ++ (tl1 ++ (DT, listOf (avs.take (pvs.map fun p : Str × Tok => Value.str p.1 p.2).toArray.size).toArray 0) :: (L1 + 1 + 1 + 1, c4) :: (L1 + 1 + 1, c2) :: (L1 + 1, c3) :: fr)) ++ (tl2 ++ (DD, oD) :: nd)) p hp, rfl⟩
            refine ⟨h'', tk'', (sd, selfDict w s1 s2 s3 sy c2') :: ((tl3 ++ (tl2 ++ tl)) ++ (tl1 ++ (DD, oD) :: (DT, listOf (avs.take (pvs.map fun p : Str × Tok => Value.str p.1 p.2).toArray.size).toArray 0) :: (L1 + 1 + 1 + 1, c4) :: (L1 + 1 + 1, c2) :: (L1 + 1, c3) :: (fr ++ nd))), rfl, F'', news_sub N'' (by lcg_sub), LCg.Off3.of fun p hp => ?_, s1, s2, s3, c2', tl3 ++ (tl2 ++ tl), by omega, rfl, ?_, ?_, Fresh.append q2' (Fresh.append q1' hfrt)⟩
            · rcases List.mem_cons.mp hp with rfl | hp
              · exact htr
              · rcases List.mem_append.mp hp with hp | hp
                · rcases List.mem_append.mp hp with hp | hp
                  · exact ⟨hI3 p hp, hCC3 p hp, hDD3 p hp⟩
                  · rcases List.mem_append.mp hp with hp | hp
                    · exact ⟨hI p hp, hCC p hp, hDD p hp⟩
                    · exact e3 p (List.mem_cons_of_mem _ (List.mem_append_left _ hp))
                · exact e3 p (List.mem_cons_of_mem _ (List.mem_append_right _ hp))
            · rw [List.take_add_one, hp1, List.all_append, hall]
              simp [hpl1]
            · rw [List.take_add_one, hp1, List.map_append]
              exact NodeVs.snoc (hn3.mono (by lcg_sub)) (hys.mono (by lcg_sub))
          · rw [if_neg hpl1] at het; cases het
        · intro hnone e9 h9 tk9 X9
          have hpl1 : ¬ plain T p1 = true := fun q => by rw [if_pos q] at hnone; cases hnone
          refine ⟨?_, e9, h9, tk9, rfl, rfl, X9.sub (by lcg_sub)⟩
          rw [hstep1, if_neg (fun q => hpl1 (List.all_eq_true.mp q p1 hp1m))]
      · intro i ys nw hq56
        refine cps fun GX hGX => ?_
        obtain ⟨o1, o2, o3, c', tl, _, e, _⟩ := hq56
        refine hGX ?_
        clear hGX GX
        rw [e]; lcg_src
      · intro hnone e9 h9 tk9 X9
        refine blow_leave (keep := fr ++ nd) X9 rfl rfl FG (fr_none F16) (by lcg_src) fun h' X' => hfail hnone _ _ _ X'
      · intro D h12 tk12 ys nw lD F12 N12 off12 hyl hq57
        refine cps fun GX hGX => ?_
        obtain ⟨o1, o2, o3, c', tl, hc', hnw, hall, hys, hfrt⟩ := hq57
        refine hGX ?_
        clear hGX GX
        subst hnw
        rw [show avs1.toArray.size = d.parts.length by rw [List.size_toArray]; exact hns1.1, List.take_of_length_le (Nat.le_refl _)] at hall hys
        rw [show avs1.toArray.size = d.parts.length by rw [List.size_toArray]; exact hns1.1] at hc'
        rw [hstep1, if_pos hall] at hret
        try k_fold
        k_steps
        refine unhalt ?_
        refine' tell_use ((D, LCg.lst ys) :: (sd, selfDict w o1 o2 o3 sy c') :: (tl ++ (tl1 ++ (DT, listOf (avs.take (pvs.map fun p : Str × Tok => Value.str p.1 p.2).toArray.size).toArray 0) :: (L1 + 1 + 1 + 1, c4) :: (L1 + 1 + 1, c2) :: (L1 + 1, c3) :: fr))) (tell_size (repl_tells (nd := (DD, oD) :: nd) hσ hSub (hn1.mono (by lcg_sub))) (by show 10 * 1 + 10 ≤ 10 * z + 40; omega)) ?k1 ?k2 ?k3 ?k4 ?sub ?hm ?k5 ?kk ?kd ?ku ?_ (fun h => h.elim)
        walk_at "tell sides"
        intro r4 tl4 led' h13 tk13 F13' N13' hfr4 hq58
        obtain ⟨hl4, hn4⟩ := hq58
        subst led'
        have hs4 : ((Ty.leaf d.bh).sub (bound0 d as)).size ≤ 4000 := by
          show ((bound0 d as d.bh).getD (.leaf d.bh)).size ≤ 4000
          cases e : bound0 d as d.bh with
          | none => show 1 ≤ 4000; omega
          | some t => exact hsz t (List.mem_of_mem_take (zipped_mem e).1)
        try k_fold
        k_steps
        refine unhalt ?_
        refine' tell_use ((D, LCg.lst ys) :: (sd, selfDict w o1 o2 o3 sy c') :: (tl ++ (tl1 ++ (DT, listOf (avs.take (pvs.map fun p : Str × Tok => Value.str p.1 p.2).toArray.size).toArray 0) :: (L1 + 1 + 1 + 1, c4) :: (L1 + 1 + 1, c2) :: (L1 + 1, c3) :: fr))) (hna_tells (nd := tl4 ++ (DD, oD) :: nd) hn4 (Nat.lt_of_le_of_lt hs4 (by decide))) ?k1 ?k2 ?k3 ?k4 ?sub ?hm ?k5 ?kk ?kd ?ku ?_ (fun h => h.elim)
        walk_at "tell sides"
        intro r5 tl5 led' h14 tk14 F14' N14' hfr5 hq59
        refine cps fun GX hGX => ?_
        obtain ⟨hl5, T5, A5, hv5, hk5, avs5, as5, ka5, hr5, hT5, hA5, hn5, hns5, heq5⟩ := hq59
        refine hGX ?_
        clear hGX GX
        subst led' hr5
        have hsp : ((Ty.leaf d.bh).sub (bound0 d as)).spine = (hk5, as5) := by rw [heq5, Ty.spine_on]; rfl
        have hs5 : as5.length ≤ 4000 := by
          have := (Ty.size_on as5 (.leaf hk5)).1
          rw [← heq5] at this
          exact Nat.le_trans (Nat.le_trans (Nat.le_add_left _ _) this) hs4
        have hl5' := hns5.1
        have hly := hys.1
        rw [List.length_map] at hly
        rw [hsp] at hret
        try k_fold
        k_steps
        refine unhalt ?_
        rename Fr _ _ _ _ => F15'
        rename News _ _ _ _ => N15'
        refine led_addLists (vs := avs5) (k := ka5) (ws := ys) F15' N15' (by k_mem) (by k_mem) (by omega) fun E1 h15 F17 N17 l17 => ?_
        clear F15' N15'
        try k_fold
        k_steps
        refine unhalt ?_
        rename Fr _ _ _ _ => F18
        rename News _ _ _ _ => N18
        rename Addr => DR
        refine led_addLists (vs := avs5 ++ ys) (k := 0) (ws := avs.drop (pvs.map fun p : Str × Tok => Value.str p.1 p.2).toArray.size) (k' := 0) F18 N18 (by k_mem) (by k_mem) (by rw [List.length_append, List.length_drop]; omega) fun E2 h18 F19 N19 l19 => ?_
        clear F18 N18
        try k_fold
        k_steps
        rename Addr => TF
        rename News _ _ _ _ => N20
        rename (E2 < TF ∧ _) => lTF
        have hin : ∀ p ∈ (fr ++ (sd, selfDict w q1 q2 q3 sy c) :: nd), ∃ q ∈ ((D, LCg.lst ys) :: (sd, selfDict w o1 o2 o3 sy c') :: (tl ++ (tl1 ++ (DT, listOf (avs.take (pvs.map fun p : Str × Tok => Value.str p.1 p.2).toArray.size).toArray 0) :: (L1 + 1 + 1 + 1, c4) :: (L1 + 1 + 1, c2) :: (L1 + 1, c3) :: fr)) ++ (tl5 ++ (tl4 ++ (DD, oD) :: nd))), q.1 = p.1 := fun p hp => by
          rcases List.mem_append.mp hp with hp | hp
          · exact ⟨p, (by lcg_sub : ∀ p ∈ fr, p ∈ ((D, LCg.lst ys) :: (sd, selfDict w o1 o2 o3 sy c') :: (tl ++ (tl1 ++ (DT, listOf (avs.take (pvs.map fun p : Str × Tok => Value.str p.1 p.2).toArray.size).toArray 0) :: (L1 + 1 + 1 + 1, c4) :: (L1 + 1 + 1, c2) :: (L1 + 1, c3) :: fr)) ++ (tl5 ++ (tl4 ++ (DD, oD) :: nd)))) p hp, rfl⟩
          · rcases List.mem_cons.mp hp with rfl | hp
            · exact ⟨(sd, selfDict w o1 o2 o3 sy c'), by k_mem, rfl⟩
            · exact ⟨p, (by lcg_sub : ∀ p ∈ nd, p ∈ ((D, LCg.lst ys) :: (sd, selfDict w o1 o2 o3 sy c') :: (tl ++ (tl1 ++ (DT, listOf (avs.take (pvs.map fun p : Str × Tok => Value.str p.1 p.2).toArray.size).toArray 0) :: (L1 + 1 + 1 + 1, c4) :: (L1 + 1 + 1, c2) :: (L1 + 1, c3) :: fr)) ++ (tl5 ++ (tl4 ++ (DD, oD) :: nd)))) p hp, rfl⟩
        have q4' : Fresh (fr ++ (sd, selfDict w q1 q2 q3 sy c) :: nd) tl4 := hfr4.addr fun p hp => by
          rcases List.mem_append.mp hp with hp | hp
          · exact ⟨p, (by lcg_sub : ∀ p ∈ fr, p ∈ (D, LCg.lst ys) :: (sd, selfDict w o1 o2 o3 sy c') :: (tl ++ (tl1 ++ (DT, listOf (avs.take (pvs.map fun p : Str × Tok => Value.str p.1 p.2).toArray.size).toArray 0) :: (L1 + 1 + 1 + 1, c4) :: (L1 + 1 + 1, c2) :: (L1 + 1, c3) :: fr)) ++ (DD, oD) :: nd) p hp, rfl⟩
          · rcases List.mem_cons.mp hp with rfl | hp
            · exact ⟨(sd, selfDict w o1 o2 o3 sy c'), by k_mem, rfl⟩
            · exact ⟨p, (by lcg_sub : ∀ p ∈ nd, p ∈ (D, LCg.lst ys) :: (sd, selfDict w o1 o2 o3 sy c') :: (tl ++ (tl1 ++ (DT, listOf (avs.take (pvs.map fun p : Str × Tok => Value.str p.1 p.2).toArray.size).toArray 0) :: (L1 + 1 + 1 + 1, c4) :: (L1 + 1 + 1, c2) :: (L1 + 1, c3) :: fr)) ++ (DD, oD) :: nd) p hp, rfl⟩
        refine hret _ ((TF, tupOf [hv5, .ref E2] 0) :: (E2, listOf (avs5 ++ ys ++ avs.drop (pvs.map fun p : Str × Tok => Value.str p.1 p.2).toArray.size).toArray 0) :: (tl4 ++ (tl ++ [(DD, oD)]))) ((sd, selfDict w o1 o2 o3 sy c') :: nd) _ _ (by assumption) (news_sub N20 (by lcg_sub)) ?_ ⟨o1, o2, o3, c', TF, hv5, E2, _, 0, (hk5, as5 ++ (d.parts.map (Ty.sub (bound0 d as)) ++ as.drop d.ps.length)), rfl, by omega, rfl, rfl, List.Mem.head _, List.mem_cons_of_mem _ (List.Mem.head _), hn5.mono (by lcg_sub), ?_⟩
        · exact Fresh.allLt (lt_addr (allLt_mem lTF.2.2.2) hin) (Fresh.allLt (lt_addr l19 fun p hp => by obtain ⟨q, a, b⟩ := hin p hp; exact ⟨q, List.mem_cons_of_mem _ (List.mem_cons_of_mem _ a), b⟩) (Fresh.append q4' (Fresh.append hfrt (Fresh.allLt (ab2 l12 (by lcg_sub)) Fresh.nil))))
        · rw [← List.append_assoc as5, esz]
          refine NodeVs.append (NodeVs.append (hns5.mono ?_) (hys.mono ?_)) ((has.drop d.ps.length).mono ?_)
          · lcg_sub
          · lcg_sub
          · lcg_sub
end

section
/- part C_levels -/
theorem kw_C_levels_s_0 : True := by
  w_top off
  k_with_none
  k_with "my path" => first | with_reducible exact And.left | with_reducible exact And.right | (refine path_r ?_; k_extra "my path")
  k_with "my ne" => ((try dsimp only); first | (refine' Nat.ne_of_gt (lt_pick ?neA ?neB); (case neA => with_reducible assumption); (case neB => k_extra "my path")) | (refine' Nat.ne_of_lt (lt_pick ?neA ?neB); (case neA => with_reducible assumption); (case neB => k_extra "my path")) | exact Nat.ne_of_gt (by with_reducible assumption) | exact Nat.ne_of_lt (by with_reducible assumption) | fail)
  k_with "my om" => first | exact Nat.le_of_ble_eq_true rfl | with_reducible assumption | lia
  k_with "eval Name" => (k_here; k_dflt (first | (refine' nameX_L ?Fw496 ?vw496 ?_ ?aw496 ?bw496; (case Fw496 => k_asm); (case aw496 => rfl); (case bw496 => rfl); (case vw496 => rfl); k_whole) | (refine' nameX_C ?Nw496 ?cw496 ?mw496 ?dw496 ?_ ?aw496 ?bw496; (case aw496 => rfl); (case bw496 => rfl); (case Nw496 => k_asm); (case cw496 => rfl); (case mw496 => k_mem); (case dw496 => k_asm); k_whole) | (refine' nameX_K ?Fw496 ?Xw496 ?Tw496 ?ew496 ?_ ?aw496 ?bw496; (case Fw496 => k_asm); (case Xw496 => k_asm); (case Tw496 => k_asm); (case aw496 => rfl); (case bw496 => rfl); (case ew496 => k_is); k_whole) | (refine' nameX_B ?Fw496 ?Xw496 ?Tw496 ?ew496 ?vw496 ?nw496 ?_ ?aw496 ?bw496; (case Fw496 => k_asm); (case Xw496 => k_asm); (case Tw496 => k_asm); (case aw496 => rfl); (case bw496 => rfl); (case ew496 => k_is); (case vw496 => boot_fast); (case nw496 => decide); k_whole)))
  k_with "call builtin:isinstance" => (k_here; (with_reducible show wpAny _ _ (call _ [Value.ref _, Value.ref _]) _ _ _); k_dflt (first | (refine' isi_call ?k1w497 ?k2w497 ?k3w497 ?k4w497 ?_; (case k1w497 => k_in); (case k2w497 => k_types); (case k3w497 => k_is); (case k4w497 => intro e; cases e); k_whole) | (refine' kin_callC ?k1w497 ?k2w497 ?k3w497 ?k4w497 ?k5w497 ?k6w497 ?k7w497 ?k8w497 ?k9w497 ?_; (case k1w497 => k_in); (case k2w497 => k_inst); (case k3w497 => kin_no); (case k4w497 => k_is); (case k5w497 => k_is); (case k6w497 => k_is); (case k7w497 => k_is); (case k8w497 => k_is); (case k9w497 => k_is); k_whole)))
  k_with "getAttr ref" => (k_here; k_dflt (refine' get_own ?k1w498 ?k2w498 ?k3w498 ?k4w498 ?k5w498 ?k6w498 ?k7w498 ?k8w498 ?k9w498 ?_; (case k1w498 => k_asm); (case k2w498 => k_asm); (case k3w498 => k_inst); (case k4w498 => k_is); (case k5w498 => k_is); (case k6w498 => k_is); (case k7w498 => k_is); (case k8w498 => k_get); (case k9w498 => k_handed); k_whole))
  k_with "exec For Name Name cons nil" => refine halt ?_
  k_with "my src" => first | exact fun _ h => h | with_reducible assumption | (refine sub_t ?_; lcg_src) | (refine sub_l ?_; lcg_src) | (refine sub_r ?_; lcg_src)
  k_with "my sub" => first | exact sub_n | (refine sub_c ?_ ?_; k_mem; lcg_sub) | (refine sub_a ?_ ?_; lcg_sub; lcg_sub) | lcg_src
  k_with "my all" => first | assumption | (refine List.forall_mem_append.mpr ⟨?_, ?_⟩ <;> k_all)
  k_with "my mem" => first | with_reducible assumption | exact List.Mem.head _ | (refine List.mem_cons_of_mem _ ?_; k_mem) | (refine List.mem_append_left _ ?_; k_mem) | (refine List.mem_append_right _ ?_; k_mem)
  k_with "tell sides" => ((case k1 => k_asm); (case k2 => k_asm); (case k3 => k_asm); (case k4 => k_asm); (case k5 => k_asm); (try (case sub => lcg_sub)); (try (case hm => first | exact mu_nil | assumption | (refine mu_one ?_; k_all))); (case kk => first | exact rfl | assumption); (case kd => ktr_room); (case ku => ktr_units))
  k_with "enter" => (k_dflt (refine' code_def ?k1w505 ?k2w505 ?k3w505 ?k4w505 ?k5w505 ?kAw505 ?kFw505 ?kKw505 ?k6w505 ?k7w505 ?k8w505 ?k9w505 ?kBw505 ?_ ?c2w505 ?c3w505 ?c4w505 ?c5w505; (case kAw505 => exact rfl); (case kFw505 => exact rfl); (case kKw505 => assumption); (case k1w505 => k_asm); (case k2w505 => k_asm); (case k3w505 => k_asm); (case k4w505 => k_asm); (case k5w505 => k_asm); (case k6w505 => k_is); (case k7w505 => k_is); (case k8w505 => ktr_room); (case k9w505 => exact BindsTo.of_eq rfl); (case c5w505 => decide); (case kBw505 => exact locs rfl); (case c2w505 => exact rfl); (case c3w505 => exact rfl); (case c4w505 => exact rfl); k_whole))
  k_with "enter cells" => (k_dflt (refine' code_defC ?k1w506 ?k2w506 ?k3w506 ?k4w506 ?k5w506 ?kAw506 ?kFw506 ?kKw506 ?k6w506 ?k7w506 ?k8w506 ?k9w506 ?kBw506 ?kDw506 ?_ ?c2w506 ?c3w506 ?c4w506; (case kAw506 => exact rfl); (case kFw506 => exact rfl); (case kKw506 => assumption); (case k1w506 => k_asm); (case k2w506 => k_asm); (case k3w506 => k_asm); (case k4w506 => k_asm); (case k5w506 => k_asm); (case k6w506 => k_is); (case k7w506 => k_is); (case k8w506 => ktr_room); (case k9w506 => exact BindsTo.of_eq rfl); (case kBw506 => exact rfl); (case kDw506 => decide +kernel); (case c2w506 => exact rfl); (case c3w506 => exact rfl); (case c4w506 => exact rfl); k_whole))
  k_with "enter own" => (refine' code_def ?k1w507 ?k2w507 ?k3w507 ?k4w507 ?k5w507 ?kAw507 ?kFw507 ?kKw507 ?k6w507 ?k7w507 ?k8w507 ?k9w507 ?kBw507 ?_ ?c2w507 ?c3w507 ?c4w507 ?c5w507; (case kAw507 => exact rfl); (case kFw507 => exact rfl); (case kKw507 => exact rfl); (case k1w507 => k_asm); (case k2w507 => k_asm); (case k3w507 => k_asm); (case k4w507 => k_asm); (case k5w507 => k_asm); (case k6w507 => k_is); (case k7w507 => k_is); (case k8w507 => ktr_room); (case k9w507 => first | exact BindsTo.of_eq rfl | exact binds_K (by k_in) rfl (by k_is) rfl rfl rfl | fail "k_enter: no rule for these arguments"); (case c5w507 => decide); (case kBw507 => exact locs rfl); (case c2w507 => exact rfl); (case c3w507 => exact rfl); (case c4w507 => exact rfl); k_whole; intro g' L' h' FG' F' N' B' X' T'; (try dsimp only); (try k_lift B'); (try k_fold))
  k_with "call ref" => (k_here; k_dflt (first
    | (refine' call_cls ?k1w508 ?k2w508 ?k3w508 ?k4w508 ?k5w508 ?k6w508 ?_; (case k1w508 => k_asm); (case k2w508 => k_asm); (case k3w508 => k_asm); (case k4w508 => k_is); (case k5w508 => k_is); (case k6w508 => k_is); k_whole; intro x' d' h' F' N' l1 l2; (try k_lt l1); (try k_lt2 l2); (try k_sweep); walk_at "enter own")
    | (refine wpAny_call ?_; walk_at "enter own")))
  k_with "subscriptTail" => (k_here; (with_reducible show wpAny _ _ (subscriptTail _ _ (Value.ref _) (Value.int 0 _)) _ _ _); k_dflt (refine' led_tup0 ?k1w509 ?k2w509 ?k3w509 ?_; (case k1w509 => k_asm); (case k2w509 => k_mem); (case k3w509 => (first | assumption | omega)); k_whole))
  k_with "subscriptTail Name Slice ref ref" => (k_here; (with_reducible show wpAny _ _ (subscriptTail _ (PySem.Expr.Slice _ _ none _) (Value.ref _) (Value.ref _)) _ _ _); k_dflt (refine' led_tupTail ?k1w510 ?k2w510 ?k3w510 ?k4w510 ?_; (case k1w510 => k_asm); (case k2w510 => k_asm); (case k3w510 => k_mem); (case k4w510 => (first | assumption | omega)); k_whole); intro D' h' F' N' l1; (try k_lt l1); (try k_sweep))
  k_with "call ref" => ((with_reducible first | show wpAny _ _ (call (Value.ref 191) _) _ _ _ | show wpAny _ _ (call (Value.ref 198) _) _ _ _ | show wpAny _ _ (call (Value.ref 205) _) _ _ _ | show wpAny _ _ (call (Value.ref 224) _) _ _ _ | show wpAny _ _ (call (Value.ref 229) _) _ _ _ | show wpAny _ _ (call (Value.ref 243) _) _ _ _ | show wpAny _ _ (call (Value.ref 257) _) _ _ _ | show wpAny _ _ (call (Value.ref 264) _) _ _ _ | show wpAny _ _ (call (Value.ref 276) _) _ _ _ | show wpAny _ _ (call (Value.ref 283) _) _ _ _ | show wpAny _ _ (call (Value.ref 290) _) _ _ _ | show wpAny _ _ (call (Value.ref 295) _) _ _ _ | show wpAny _ _ (call (Value.ref 302) _) _ _ _ | show wpAny _ _ (call (Value.ref 309) _) _ _ _); refine halt ?_)
  k_with "eval ListComp" => refine halt ?_
  k_with "exec Assign cons ListComp" => refine halt ?_
  k_with "exec For" => refine halt ?_
  k_with "exec While" => refine halt ?_
  k_with "call type:tuple" => ((with_reducible show wpAny _ _ (call (Value.type "tuple") [Value.ref _]) _ _ _); refine halt ?_)
  k_with "binaryOp Add ref ref" => ((with_reducible show wpAny _ _ (binaryOp Operator.Add (Value.ref _) (Value.ref _)) _ _ _); refine halt ?_)
  k_with "my tabat" => first | assumption | exact ab0 (by assumption) | exact ab1 (by assumption) | (refine ab_trans (by assumption) ?_; k_tabat)
  k_with "my updF" => first | exact Fresh.nil | assumption | (refine Fresh.allLt ?_ ?_; k_tabat; k_updF) | (refine Fresh.append ?_ ?_; k_updF; k_updF)
  k_with "getMethod ref" => (k_here; (with_reducible show wpAny _ _ (getMethod (Value.ref _) (Str.ofString "get") _) _ _ _); k_dflt (refine kdg_method (knd := PySem.strKind _ _) (by k_asm) (by k_mem) (by assumption) ?_))
  k_with "call builtin:dict.get" => (k_here; k_dflt (refine kdg_get2 (knd := PySem.strKind _ _) (by k_asm) (by k_mem) (by assumption) (by assumption) (strKind_is _ _ _ _) _ rfl ?_))
  k_with "compareOp NotEq ref ref" => (k_here; k_dflt (first | (refine' led_ne_nil ?k1w522 ?k2w522 ?k3w522 ?k4w522 ?_; (case k1w522 => k_asm); (case k2w522 => k_mem); (case k3w522 => k_mem); (case k4w522 => ke_room)) | (refine' led_ne_snoc ?k1w522 ?k2w522 ?k3w522 ?k4w522 ?_; (case k1w522 => k_asm); (case k2w522 => k_mem); (case k3w522 => k_mem); (case k4w522 => ke_room))))
  k_with "compareOp Eq ref ref" => (k_here; k_dflt (first | (refine' led_eq_nil ?k1w523 ?k2w523 ?k3w523 ?k4w523 ?_; (case k1w523 => k_asm); (case k2w523 => k_mem); (case k3w523 => k_mem); (case k4w523 => ke_room)) | (refine' led_eq_cons ?k1w523 ?k2w523 ?k3w523 ?k4w523 ?_; (case k1w523 => k_asm); (case k2w523 => k_mem); (case k3w523 => k_mem); (case k4w523 => ke_room))))
  trivial
theorem tell_weak {w : World} {mean : ExcName → Option Value} {mg mb : Str → Option Value} {f : Addr} {vs : List Value} {sz : Nat} {mu : List Addr} {led keep : List (Addr × Obj)} {Post Post' : Value → List (Addr × Obj) → List (Addr × Obj) → Prop} {Fail Fail' : Prop}
    (C : Tell w mean mg mb f vs sz mu led Post Fail keep) (hp : ∀ r tl led', Post r tl led' → Post' r tl led') (hf : Fail → Fail') : Tell w mean mg mb f vs sz mu led Post' Fail' keep := by
  unfold Tell at C ⊢
  intro dp un gd cn cs a ccd cl outer A₀ base h₀ L m s fr Q E B F X N hmu T hk hd hu hret hfail
  exact C dp un gd cn cs a ccd cl outer A₀ base h₀ L m s fr Q E B F X N hmu T hk hd hu (fun r tl led' h' tk' a b c d => hret r tl led' h' tk' a b c (hp _ _ _ d)) (fun q => hfail (hf q))

theorem plain_under {T : Str → Option Def} {rk : Str → Nat} : ∀ p : Ty, plain T p = true → p.all (Under T rk 0)
  | .leaf h, hp => by
    intro d hd
    have : T h = none := by simpa [plain] using hp
    rw [this] at hd; cases hd
  | .app f a, hp => by
    simp only [plain, Bool.and_eq_true] at hp
    exact ⟨plain_under f hp.1, plain_under a hp.2⟩

section
variable {w : World} {mean : ExcName → Option Value} {mg mb : Str → Option Value} {nd : List (Addr × Obj)} {T : Str → Option Def} {rk : Str → Nat} {z : Nat} {sf sd sy : Addr}

/-- whole at a told name alone -/
theorem whole_told (ok : TOk T rk z) (hnd : ∀ p ∈ nd, p.1 ≠ sd) (hsf : (sf, instObj 232 sd) ∈ nd) (hsy : SynV w nd sy T) {dpt c : Nat} {v : Value} {h : Str} {d : Def} (hT : T h = some d) (hv : NodeV w nd v (.leaf h)) (hdp : dpt ≤ 100) (hc : c + 16 ≤ 4000) :
    Whole w mean mg mb T sf sd sy nd v none 4 40 dpt c := by
  have hne : T h ≠ none := by rw [hT]; exact fun e => nomatch e
  have h0 : headEv T 1 (fun _ => none) h [] = none := by rw [headEv_told rfl hT, if_pos (show [].length < d.ps.length from ok.one h d hT)]
  have := whole_gen (mean := mean) (mg := mg) (mb := mb) ok (c := c) (dpt := dpt) (r := 1) (cost1 := 0) (sz1 := 0) (szS := 20) (bud := 0) (h := h) (as := []) (fun r' _ ms => ms = [] ∧ r' = 1) hnd hsf hsy hv (by show 1 < 4000; omega) hdp (by show c + 1 + 0 * 0 + 12 * 1 + 0 ≤ 4000; omega)
    (fun i a e => by simp at e)
    (fun ndx r' hv' h' d' al avs ms k c' hs hnd' hT' hP hnv hal hns _ kd q1 q2 q3 => by
      obtain ⟨rfl, _⟩ := hP
      exact tell_weak (step_short ok (hs _ hsf) (hsy.mono hs) hnv hal hns hT' (show [].length < d'.ps.length from ok.one h' d' hT')) (fun _ _ _ q => q.elim) (fun _ => stepEv_len (show [].length < d'.ps.length from ok.one h' d' hT')))
    (fun r' h' ms _ hP => by obtain ⟨rfl, rfl⟩ := hP; exact ⟨(fun m hm => nomatch hm), by show 0 < 9000; omega, by omega⟩)
    (fun as' e _ _ _ => by cases e; exact ⟨rfl, rfl⟩)
    (fun r' h' d' ms p hT' hP hp _ => by obtain ⟨rfl, _⟩ := hP; rw [stepEv_len (show [].length < d'.ps.length from ok.one h' d' hT')] at hp; cases hp)
    (fun as' t' e1 e2 => by cases e1; rw [h0] at e2; cases e2)
  intro kd q1 q2 q3
  refine tell_weak (tell_size (this kd q1 q2 q3) (by omega)) (fun r tl led' q => ?_) (fun _ => rfl)
  refine cps fun GX hGX => ?_
  obtain ⟨_, _, _, _, _, _, _, e, _⟩ := q
  refine hGX ?_
  clear hGX GX
  have e' : headEv T 1 (fun _ => none) h [] = some _ := e
  rw [h0] at e'; cases e'

/-- what a step does, for all ledgers -/
noncomputable def StepAll (w : World) (mean : ExcName → Option Value) (mg mb : Str → Option Value) (T : Str → Option Def) (sf sd sy : Addr) (szS : Nat) : Prop :=
  ∀ {nd : List (Addr × Obj)}, (∀ p ∈ nd, p.1 ≠ sd) → (sf, instObj 232 sd) ∈ nd → SynV w nd sy T → ∀ {hv : Value} {h : Str} {d : Def} {al : Addr} {avs : List Value} {ms : List Ty} {k c dpt : Nat}, T h = some d → NodeV w nd hv (.leaf h) → (al, listOf avs.toArray k) ∈ nd → NodeVs w nd avs ms →
      (∀ m ∈ ms, m.size ≤ 4000) → ms.length < 4000 → dpt ≤ 96 → c + 40 ≤ 4000 → Step w mean mg mb T sf sd sy nd hv al d ms szS dpt c

theorem whole_ty1 (ok : TOk T rk z) (hz : 1 ≤ z) {r szS : Nat} (hr : r ≤ 100) (hS : r ≠ 0 → StepAll w mean mg mb T sf sd sy szS) {bud : Nat} (hbud : r ≠ 0 → 40 ≤ bud) {dpt c cost1 sz1 M : Nat} {v : Value} {h : Str} {as : List Ty}
    (hnd : ∀ p ∈ nd, p.1 ≠ sd) (hsf : (sf, instObj 232 sd) ∈ nd) (hsy : SynV w nd sy T) (hv : NodeV w nd v ((Ty.leaf h).on as)) (hsz : ((Ty.leaf h).on as).size < 4000) (hun : Under T rk r h) (hlen : as.length ≤ 3) (hdp : dpt ≤ 98) (hdp2 : r ≠ 0 → dpt ≤ 96)
    (hc : c + 1 + as.length * cost1 + 12 * r + bud ≤ 4000) (hargs : ∀ i a, as[i]? = some a → ∀ v c', NodeV w nd v a → c' ≤ c + 1 + i * cost1 → Whole w mean mg mb T sf sd sy nd v (tyEv T r (fun _ => none) a []) cost1 sz1 (dpt + 1) c')
    (hM : 1 ≤ M) (hMs : ∀ as', tyAll T r (fun _ => none) as = some as' → ∀ m ∈ as', m.size ≤ M) (hB : (2 * r + 4) * (z ^ r * M + 1) ≤ 4000) :
    Whole w mean mg mb T sf sd sy nd v (tyEv T r (fun _ => none) ((Ty.leaf h).on as) []) (1 + as.length * cost1 + 12 * r) (sz1 + szS + 20) dpt c := by
  have hzM : z ^ r * M ≤ 4000 := by
    have : 1 * (z ^ r * M + 1) ≤ (2 * r + 4) * (z ^ r * M + 1) := Nat.mul_le_mul_right _ (by omega)
    omega
  have hpow : ∀ j, j ≤ r → z ^ j * M ≤ z ^ r * M := fun j hj => Nat.mul_le_mul_right _ (Nat.pow_le_pow_right hz hj)
  refine whole_gen (bud := bud) (szS := szS) ok (fun r' h' ms => Under T rk r' h' ∧ (∀ m ∈ ms, Free T m) ∧ ms.length ≤ 3 + 3 * (r - r') ∧ r' ≤ r ∧ ∀ m ∈ ms, m.size ≤ z ^ (r - r') * M) hnd hsf hsy hv hsz (by omega) hc hargs ?_ ?_ ?_ ?_ ?_
  · intro ndx r' hv' h' d al avs ms k c' hs hnd' hT' hq60 hnv hal hns hc'
    refine cps fun GX hGX => ?_
    obtain ⟨p1, p2, p3, p4, p5⟩ := hq60
    refine hGX ?_
    clear hGX GX
    have hb := hbud (by omega)
    exact hS (by omega) hnd' (hs _ hsf) (hsy.mono hs) hT' hnv hal hns (fun m hm => Nat.le_trans (p5 m hm) (Nat.le_trans (hpow _ (Nat.sub_le _ _)) hzM)) (by omega) (hdp2 (by omega)) (by omega)
  · intro r' h' ms hne hq61
    refine cps fun GX hGX => ?_
    obtain ⟨p1, p2, p3, p4, p5⟩ := hq61
    refine hGX ?_
    clear hGX GX
    refine ⟨p2, by omega, fun e => ?_⟩
    subst e
    cases hT : T h' with
    | none => exact hne hT
    | some d => exact absurd (p1 d hT) (Nat.not_lt_zero _)
  · intro as' e hf hl hne
    exact ⟨hun, hf, by omega, Nat.le_refl _, fun m hm => by rw [Nat.sub_self, Nat.pow_zero, Nat.one_mul]; exact hMs as' e m hm⟩
  · intro r' h' d ms p hT' hq62 hp ht
    refine cps fun GX hGX => ?_
    obtain ⟨p1, p2, p3, p4, p5⟩ := hq62
    refine hGX ?_
    clear hGX GX
    refine cps fun GX hGX => ?_
    obtain ⟨e1, e2, e3, e4⟩ := stepEv_told hT' p2 hp ht
    refine hGX ?_
    clear hGX GX
    have e5 := stepEv_told2 p2 hp ht
    have hone := ok.one h' d hT'
    have hparts := ok.parts h' d hT'
    have hjm : r - r' = (r - (r' + 1)) + 1 := by omega
    refine ⟨?_, e2, by omega, by omega, ?_⟩
    · rw [e1]
      have hb : Under T rk (rk h') d.bh := (Ty.all_on _ _ (ok.body h' d hT').2.1).1
      intro d2 hd2
      have a1 := hb d2 hd2
      have a2 := p1 d hT'
      omega
    · intro m hm
      rw [e5] at hm
      have hq : 1 ≤ z ^ (r - (r' + 1)) * M := Nat.mul_le_mul (Nat.one_le_pow _ _ hz) hM
      rw [hjm, Nat.pow_succ, Nat.mul_comm (z ^ (r - (r' + 1))) z, Nat.mul_assoc]
      rcases List.mem_append.mp hm with hm | hm
      · obtain ⟨q, hq1, rfl⟩ := List.mem_map.mp hm
        exact Nat.le_trans (size_sub hq (fun h t e => p5 t (List.mem_of_mem_take (zipped_mem e).1)) q) (Nat.mul_le_mul_right _ (ok.part h' d hT' q hq1).1)
      · exact Nat.le_trans (p5 m (List.mem_of_mem_drop hm)) (Nat.le_mul_of_pos_left _ hz)
  · intro as' t' e1 e2
    have hl := tyAll_len e1
    have := size_head ok hz r (fun _ => none) h as' M 3 t' hM (fun _ _ q => nomatch q) (hMs as' e1) (by omega) e2
    rw [show 3 + 2 * r + 1 = 2 * r + 4 by omega] at this
    omega

/-- whole, from what a step is -/
theorem whole_ty (ok : TOk T rk z) (hz : 1 ≤ z) {r szS : Nat} (hr : r ≤ 100) (hS : r ≠ 0 → StepAll w mean mg mb T sf sd sy szS) {bud : Nat} (hbud : r ≠ 0 → 40 ≤ bud) :
    ∀ (n : Nat) {nd : List (Addr × Obj)} {dpt c : Nat} {v : Value} {t : Ty}, (∀ p ∈ nd, p.1 ≠ sd) → (sf, instObj 232 sd) ∈ nd → SynV w nd sy T → NodeV w nd v t → t.size < 4000 → t.dep ≤ n → dpt + n ≤ 98 → (r ≠ 0 → dpt + n ≤ 96) → t.nar → t.all (Under T rk r) → c + cst r n + bud ≤ 4000 → rsz r z n ≤ 4000 → rsz r z 1 ≤ 4000 →
    Whole w mean mg mb T sf sd sy nd v (tyEv T r (fun _ => none) t []) (cst r n) ((szS + 30) * (n + 1)) dpt c := by
  intro n
  induction n with
  | zero =>
    intro nd dpt c v t hnd hsf hsy hv hsz hdep hdp hdp2 hnar hall hc hR hR1
    obtain ⟨h, as, rfl⟩ : ∃ h as, t = (Ty.leaf h).on as := ⟨_, _, (Ty.of_spine t).symm⟩
    have has : as = [] := by
      cases as with
      | nil => rfl
      | cons a as => have := (Ty.dep_on (a :: as) (.leaf h)).2 a List.mem_cons_self; omega
    subst has
    have hcz : cst r 0 = 1 + 12 * r := rfl
    have := whole_ty1 (mean := mean) (mg := mg) (mb := mb) (cost1 := 0) (sz1 := 0) (M := 1) (dpt := dpt) (c := c) (h := h) (as := []) ok hz hr hS hbud hnd hsf hsy hv hsz (Ty.all_on _ _ hall).1 (Nat.zero_le _) (by omega) (fun q => by have := hdp2 q; omega) (by show c + 1 + 0 * 0 + 12 * r + bud ≤ 4000; omega) (fun i a e => by simp at e) (Nat.le_refl _) (fun as' e m hm => by cases e; cases hm) hR1
    intro kd q1 q2 q3
    refine tell_weak (tell_size (this kd q1 q2 q3) (by omega)) (fun rr tl led' q => ?_) id
    refine cps fun GX hGX => ?_
    obtain ⟨a1, a2, a3, a4, a5, a6, a7, a8⟩ := q
    refine hGX ?_
    clear hGX GX
    exact ⟨a1, a2, a3, a4, a5, a6, (by have : a4 ≤ c + (1 + 0 * 0 + 12 * r) := a7; omega), a8⟩
  | succ n ih =>
    intro nd dpt c v t hnd hsf hsy hv hsz hdep hdp hdp2 hnar hall hc hR hR1
    obtain ⟨h, as, rfl⟩ : ∃ h as, t = (Ty.leaf h).on as := ⟨_, _, (Ty.of_spine t).symm⟩
    have hw := Ty.nar_wid hnar
    rw [Ty.wid_on] at hw
    have hw0 : (Ty.leaf h).wid = 0 := rfl
    have hcz : cst r (n + 1) = 1 + 3 * cst r n + 12 * r := rfl
    have hmul : as.length * cst r n ≤ 3 * cst r n := Nat.mul_le_mul_right _ (by omega)
    have hRn := rsz_mono (r := r) hz n
    have := whole_ty1 (mean := mean) (mg := mg) (mb := mb) (cost1 := cst r n) (sz1 := (szS + 30) * (n + 1)) (M := rsz r z n) (dpt := dpt) (c := c) ok hz hr hS hbud hnd hsf hsy hv hsz (Ty.all_on _ _ hall).1 (by omega) (by omega) (fun q => by have := hdp2 q; omega) (by omega)
      (fun i a ha v' c' hv' hc' => by
        have ham := List.mem_of_getElem? ha
        have hi := (List.getElem?_eq_some_iff.mp ha).1
        have hmi : i * cst r n ≤ 2 * cst r n := Nat.mul_le_mul_right _ (by omega)
        exact ih hnd hsf hsy hv' (by have := (Ty.size_on as (.leaf h)).2 a ham; omega) (by have := (Ty.dep_on as (.leaf h)).2 a ham; omega) (by omega) (fun q => by have := hdp2 q; omega) ((Ty.nar_on as _ hnar).2 a ham) ((Ty.all_on as _ hall).2 a ham) (by omega) (by omega) hR1)
      (rsz_pos r z n) (fun as' e m hm => by
        obtain ⟨a, ha, he⟩ := tyAll_mem e m hm
        exact size_tyEv ok hz n a m (by have := (Ty.dep_on as (.leaf h)).2 a ha; omega) ((Ty.nar_on as _ hnar).2 a ha) he) hR
    intro kd q1 q2 q3
    refine tell_weak (tell_size (this kd q1 q2 q3) (by rw [Nat.mul_succ (szS + 30) (n + 1)]; omega)) (fun rr tl led' q => ?_) id
    refine cps fun GX hGX => ?_
    obtain ⟨a1, a2, a3, a4, a5, a6, a7, a8⟩ := q
    refine hGX ?_
    clear hGX GX
    exact ⟨a1, a2, a3, a4, a5, a6, by omega, a8⟩

/-- a step -/
theorem step_all (ok : TOk T rk z) (hz : 1 ≤ z) (hz2 : z ≤ 100) : StepAll w mean mg mb T sf sd sy (10 * z + 60 + 60) := by
  intro nd hnd hsf hsy hv h d al avs ms k c dpt hT hnv hal hns hsz hlen hdp hc
  by_cases hge : ms.length < d.ps.length
  · intro kd q1 q2 q3
    exact tell_weak (tell_size (step_short ok hsf hsy hnv hal hns hT hge) (by omega)) (fun _ _ _ q => q.elim) (fun _ => stepEv_len hge)
  · refine step_full ok (szW := 60) hnd hsf hsy hnv hal hns hT hge hsz hlen hz2 hc fun v p c' hp hv' hc' => ?_
    by_cases hpl : plain T p = true
    · rw [if_pos hpl]
      have hdp' : p.dep ≤ 1 := by
        have := (ok.body h d hT).2.2
        have := (Ty.dep_on d.parts (.leaf d.bh)).2 p hp
        omega
      have hps : p.size ≤ z := (ok.part h d hT p hp).1
      have hnar := (Ty.nar_on d.parts _ (ok.body h d hT).1).2 p hp
      have hev : tyEv T 0 (fun _ => none) p [] = some p := by rw [tyEv_plain p [] hpl, Ty.sub_none]; rfl
      have := whole_ty (mean := mean) (mg := mg) (mb := mb) (sf := sf) (sd := sd) (sy := sy) (szS := 0) ok hz (r := 0) (Nat.zero_le _) (fun q => (q rfl).elim) (bud := 0) (fun q => (q rfl).elim) 1 (dpt := dpt + 1) (c := c') hnd hsf hsy hv' (by omega) hdp' (by omega) (fun q => (q rfl).elim) hnar ?_ ?_ ?_ ?_
      · rw [hev] at this
        intro kd q1 q2 q3
        exact tell_size (this kd q1 q2 q3) (by omega)
      · exact plain_under p hpl
      · show c' + 4 + 0 ≤ 4000
        omega
      · show (2 * 0 + 4) * (z ^ 0 * 1 + 1) ≤ 4000; rw [Nat.pow_zero]; omega
      · show (2 * 0 + 4) * (z ^ 0 * 1 + 1) ≤ 4000; rw [Nat.pow_zero]; omega
    · rw [if_neg hpl]
      rcases (ok.part h d hT p hp).2 with q | ⟨h', rfl⟩
      · exact (hpl q).elim
      · cases hT' : T h' with
        | none => exact (hpl (by simp [plain, hT'])).elim
        | some d' =>
          intro kd q1 q2 q3
          exact tell_size (whole_told ok hnd hsf hsy hT' hv' (by omega) (by omega) kd q1 q2 q3) (by omega)
end
end

section
/- part C_exp -/
theorem kw_C_exp_s_0 : True := by
  w_top off
  k_with_none
  k_with "my path" => first | with_reducible exact And.left | with_reducible exact And.right | (refine path_r ?_; k_extra "my path")
  k_with "my ne" => ((try dsimp only); first | (refine' Nat.ne_of_gt (lt_pick ?neA ?neB); (case neA => with_reducible assumption); (case neB => k_extra "my path")) | (refine' Nat.ne_of_lt (lt_pick ?neA ?neB); (case neA => with_reducible assumption); (case neB => k_extra "my path")) | exact Nat.ne_of_gt (by with_reducible assumption) | exact Nat.ne_of_lt (by with_reducible assumption) | fail)
  k_with "my om" => first | exact Nat.le_of_ble_eq_true rfl | with_reducible assumption | lia
  k_with "eval Name" => (k_here; k_dflt (first | (refine' nameX_L ?Fw524 ?vw524 ?_ ?aw524 ?bw524; (case Fw524 => k_asm); (case aw524 => rfl); (case bw524 => rfl); (case vw524 => rfl); k_whole) | (refine' nameX_C ?Nw524 ?cw524 ?mw524 ?dw524 ?_ ?aw524 ?bw524; (case aw524 => rfl); (case bw524 => rfl); (case Nw524 => k_asm); (case cw524 => rfl); (case mw524 => k_mem); (case dw524 => k_asm); k_whole) | (refine' nameX_K ?Fw524 ?Xw524 ?Tw524 ?ew524 ?_ ?aw524 ?bw524; (case Fw524 => k_asm); (case Xw524 => k_asm); (case Tw524 => k_asm); (case aw524 => rfl); (case bw524 => rfl); (case ew524 => k_is); k_whole) | (refine' nameX_B ?Fw524 ?Xw524 ?Tw524 ?ew524 ?vw524 ?nw524 ?_ ?aw524 ?bw524; (case Fw524 => k_asm); (case Xw524 => k_asm); (case Tw524 => k_asm); (case aw524 => rfl); (case bw524 => rfl); (case ew524 => k_is); (case vw524 => boot_fast); (case nw524 => decide); k_whole)))
  k_with "call builtin:isinstance" => (k_here; (with_reducible show wpAny _ _ (call _ [Value.ref _, Value.ref _]) _ _ _); k_dflt (first | (refine' isi_call ?k1w525 ?k2w525 ?k3w525 ?k4w525 ?_; (case k1w525 => k_in); (case k2w525 => k_types); (case k3w525 => k_is); (case k4w525 => intro e; cases e); k_whole) | (refine' kin_callC ?k1w525 ?k2w525 ?k3w525 ?k4w525 ?k5w525 ?k6w525 ?k7w525 ?k8w525 ?k9w525 ?_; (case k1w525 => k_in); (case k2w525 => k_inst); (case k3w525 => kin_no); (case k4w525 => k_is); (case k5w525 => k_is); (case k6w525 => k_is); (case k7w525 => k_is); (case k8w525 => k_is); (case k9w525 => k_is); k_whole)))
  k_with "getAttr ref" => (k_here; k_dflt (refine' get_own ?k1w526 ?k2w526 ?k3w526 ?k4w526 ?k5w526 ?k6w526 ?k7w526 ?k8w526 ?k9w526 ?_; (case k1w526 => k_asm); (case k2w526 => k_asm); (case k3w526 => k_inst); (case k4w526 => k_is); (case k5w526 => k_is); (case k6w526 => k_is); (case k7w526 => k_is); (case k8w526 => k_get); (case k9w526 => k_handed); k_whole))
  k_with "exec For Name Name cons nil" => refine halt ?_
  k_with "my src" => first | exact fun _ h => h | with_reducible assumption | (refine sub_t ?_; lcg_src) | (refine sub_l ?_; lcg_src) | (refine sub_r ?_; lcg_src)
  k_with "my sub" => first | exact sub_n | (refine sub_c ?_ ?_; k_mem; lcg_sub) | (refine sub_a ?_ ?_; lcg_sub; lcg_sub) | lcg_src
  k_with "my all" => first | assumption | (refine List.forall_mem_append.mpr ⟨?_, ?_⟩ <;> k_all)
  k_with "my mem" => first | with_reducible assumption | exact List.Mem.head _ | (refine List.mem_cons_of_mem _ ?_; k_mem) | (refine List.mem_append_left _ ?_; k_mem) | (refine List.mem_append_right _ ?_; k_mem)
  k_with "tell sides" => ((case k1 => k_asm); (case k2 => k_asm); (case k3 => k_asm); (case k4 => k_asm); (case k5 => k_asm); (try (case sub => lcg_sub)); (try (case hm => first | exact mu_nil | assumption | (refine mu_one ?_; k_all))); (case kk => first | exact rfl | assumption); (case kd => ktr_room); (case ku => ktr_units))
  k_with "enter" => (k_dflt (refine' code_def ?k1w533 ?k2w533 ?k3w533 ?k4w533 ?k5w533 ?kAw533 ?kFw533 ?kKw533 ?k6w533 ?k7w533 ?k8w533 ?k9w533 ?kBw533 ?_ ?c2w533 ?c3w533 ?c4w533 ?c5w533; (case kAw533 => exact rfl); (case kFw533 => exact rfl); (case kKw533 => assumption); (case k1w533 => k_asm); (case k2w533 => k_asm); (case k3w533 => k_asm); (case k4w533 => k_asm); (case k5w533 => k_asm); (case k6w533 => k_is); (case k7w533 => k_is); (case k8w533 => ktr_room); (case k9w533 => exact BindsTo.of_eq rfl); (case c5w533 => decide); (case kBw533 => exact locs rfl); (case c2w533 => exact rfl); (case c3w533 => exact rfl); (case c4w533 => exact rfl); k_whole))
  k_with "enter cells" => (k_dflt (refine' code_defC ?k1w534 ?k2w534 ?k3w534 ?k4w534 ?k5w534 ?kAw534 ?kFw534 ?kKw534 ?k6w534 ?k7w534 ?k8w534 ?k9w534 ?kBw534 ?kDw534 ?_ ?c2w534 ?c3w534 ?c4w534; (case kAw534 => exact rfl); (case kFw534 => exact rfl); (case kKw534 => assumption); (case k1w534 => k_asm); (case k2w534 => k_asm); (case k3w534 => k_asm); (case k4w534 => k_asm); (case k5w534 => k_asm); (case k6w534 => k_is); (case k7w534 => k_is); (case k8w534 => ktr_room); (case k9w534 => exact BindsTo.of_eq rfl); (case kBw534 => exact rfl); (case kDw534 => decide +kernel); (case c2w534 => exact rfl); (case c3w534 => exact rfl); (case c4w534 => exact rfl); k_whole))
  k_with "enter own" => (refine' code_def ?k1w535 ?k2w535 ?k3w535 ?k4w535 ?k5w535 ?kAw535 ?kFw535 ?kKw535 ?k6w535 ?k7w535 ?k8w535 ?k9w535 ?kBw535 ?_ ?c2w535 ?c3w535 ?c4w535 ?c5w535; (case kAw535 => exact rfl); (case kFw535 => exact rfl); (case kKw535 => exact rfl); (case k1w535 => k_asm); (case k2w535 => k_asm); (case k3w535 => k_asm); (case k4w535 => k_asm); (case k5w535 => k_asm); (case k6w535 => k_is); (case k7w535 => k_is); (case k8w535 => ktr_room); (case k9w535 => first | exact BindsTo.of_eq rfl | exact binds_K (by k_in) rfl (by k_is) rfl rfl rfl | fail "k_enter: no rule for these arguments"); (case c5w535 => decide); (case kBw535 => exact locs rfl); (case c2w535 => exact rfl); (case c3w535 => exact rfl); (case c4w535 => exact rfl); k_whole; intro g' L' h' FG' F' N' B' X' T'; (try dsimp only); (try k_lift B'); (try k_fold))
  k_with "call ref" => (k_here; k_dflt (first
    | (refine' call_cls ?k1w536 ?k2w536 ?k3w536 ?k4w536 ?k5w536 ?k6w536 ?_; (case k1w536 => k_asm); (case k2w536 => k_asm); (case k3w536 => k_asm); (case k4w536 => k_is); (case k5w536 => k_is); (case k6w536 => k_is); k_whole; intro x' d' h' F' N' l1 l2; (try k_lt l1); (try k_lt2 l2); (try k_sweep); walk_at "enter own")
    | (refine wpAny_call ?_; walk_at "enter own")))
  k_with "subscriptTail" => (k_here; (with_reducible show wpAny _ _ (subscriptTail _ _ (Value.ref _) (Value.int 0 _)) _ _ _); k_dflt (refine' led_tup0 ?k1w537 ?k2w537 ?k3w537 ?_; (case k1w537 => k_asm); (case k2w537 => k_mem); (case k3w537 => (first | assumption | omega)); k_whole))
  k_with "subscriptTail Name Slice ref ref" => (k_here; (with_reducible show wpAny _ _ (subscriptTail _ (PySem.Expr.Slice _ _ none _) (Value.ref _) (Value.ref _)) _ _ _); k_dflt (refine' led_tupTail ?k1w538 ?k2w538 ?k3w538 ?k4w538 ?_; (case k1w538 => k_asm); (case k2w538 => k_asm); (case k3w538 => k_mem); (case k4w538 => (first | assumption | omega)); k_whole); intro D' h' F' N' l1; (try k_lt l1); (try k_sweep))
  k_with "call ref" => ((with_reducible first | show wpAny _ _ (call (Value.ref 191) _) _ _ _ | show wpAny _ _ (call (Value.ref 198) _) _ _ _ | show wpAny _ _ (call (Value.ref 205) _) _ _ _ | show wpAny _ _ (call (Value.ref 224) _) _ _ _ | show wpAny _ _ (call (Value.ref 229) _) _ _ _ | show wpAny _ _ (call (Value.ref 243) _) _ _ _ | show wpAny _ _ (call (Value.ref 257) _) _ _ _ | show wpAny _ _ (call (Value.ref 264) _) _ _ _ | show wpAny _ _ (call (Value.ref 276) _) _ _ _ | show wpAny _ _ (call (Value.ref 283) _) _ _ _ | show wpAny _ _ (call (Value.ref 290) _) _ _ _ | show wpAny _ _ (call (Value.ref 295) _) _ _ _ | show wpAny _ _ (call (Value.ref 302) _) _ _ _ | show wpAny _ _ (call (Value.ref 309) _) _ _ _); refine halt ?_)
  k_with "eval ListComp" => refine halt ?_
  k_with "exec Assign cons ListComp" => refine halt ?_
  k_with "exec For" => refine halt ?_
  k_with "exec While" => refine halt ?_
  k_with "call type:tuple" => ((with_reducible show wpAny _ _ (call (Value.type "tuple") [Value.ref _]) _ _ _); refine halt ?_)
  k_with "binaryOp Add ref ref" => ((with_reducible show wpAny _ _ (binaryOp Operator.Add (Value.ref _) (Value.ref _)) _ _ _); refine halt ?_)
  k_with "my tabat" => first | assumption | exact ab0 (by assumption) | exact ab1 (by assumption) | (refine ab_trans (by assumption) ?_; k_tabat)
  k_with "my updF" => first | exact Fresh.nil | assumption | (refine Fresh.allLt ?_ ?_; k_tabat; k_updF) | (refine Fresh.append ?_ ?_; k_updF; k_updF)
  k_with "getMethod ref" => (k_here; (with_reducible show wpAny _ _ (getMethod (Value.ref _) (Str.ofString "get") _) _ _ _); k_dflt (refine kdg_method (knd := PySem.strKind _ _) (by k_asm) (by k_mem) (by assumption) ?_))
  k_with "call builtin:dict.get" => (k_here; k_dflt (refine kdg_get2 (knd := PySem.strKind _ _) (by k_asm) (by k_mem) (by assumption) (by assumption) (strKind_is _ _ _ _) _ rfl ?_))
  k_with "compareOp NotEq ref ref" => (k_here; k_dflt (first | (refine' led_ne_nil ?k1w550 ?k2w550 ?k3w550 ?k4w550 ?_; (case k1w550 => k_asm); (case k2w550 => k_mem); (case k3w550 => k_mem); (case k4w550 => ke_room)) | (refine' led_ne_snoc ?k1w550 ?k2w550 ?k3w550 ?k4w550 ?_; (case k1w550 => k_asm); (case k2w550 => k_mem); (case k3w550 => k_mem); (case k4w550 => ke_room))))
  k_with "compareOp Eq ref ref" => (k_here; k_dflt (first | (refine' led_eq_nil ?k1w551 ?k2w551 ?k3w551 ?k4w551 ?_; (case k1w551 => k_asm); (case k2w551 => k_mem); (case k3w551 => k_mem); (case k4w551 => ke_room)) | (refine' led_eq_cons ?k1w551 ?k2w551 ?k3w551 ?k4w551 ?_; (case k1w551 => k_asm); (case k2w551 => k_mem); (case k3w551 => k_mem); (case k4w551 => ke_room))))
  trivial
theorem kw_C_exp_0 : True := by
  k_with "enter own2" => (refine' code_def ?k1w552 ?k2w552 ?k3w552 ?k4w552 ?k5w552 ?kAw552 ?kFw552 ?kKw552 ?k6w552 ?k7w552 ?k8w552 ?k9w552 ?kBw552 ?_ ?c2w552 ?c3w552 ?c4w552 ?c5w552; (case kAw552 => exact rfl); (case kFw552 => exact rfl); (case kKw552 => assumption); (case k1w552 => k_asm); (case k2w552 => k_asm); (case k3w552 => k_asm); (case k4w552 => k_asm); (case k5w552 => k_asm); (case k6w552 => k_is); (case k7w552 => k_is); (case k8w552 => ktr_room); (case k9w552 => first | exact BindsTo.of_eq rfl | exact binds_K (by k_in) rfl (by k_is) rfl rfl rfl | fail "k_enter: no rule for these arguments"); (case c5w552 => decide); (case kBw552 => exact locs rfl); (case c2w552 => exact rfl); (case c3w552 => exact rfl); (case c4w552 => exact rfl); k_whole; intro g' L' h' FG' F' N' B' X' T'; (try dsimp only); (try k_lift B'); (try k_fold))
  k_with "call ref" => ((with_reducible show wpAny _ _ (call (Value.ref 232) _) _ _ _); refine halt ?_)
  trivial
set_option maxRecDepth 100000 in
set_option maxHeartbeats 8000000 in
theorem exp_makes {w : World} {mean : ExcName → Option Value} {mg mb : Str → Option Value} {nd : List (Addr × Obj)} {sy : Addr} :
    Tell w mean mg mb 232 [.ref sy] 10 [] nd
      (fun r tl led' => led' = nd ∧ ∃ x d k1 k2 k3, r = .ref x ∧ tl = [(x, instObj 232 d), (d, selfDict w k1 k2 k3 sy 0)] ∧ @LT.lt Nat _ d x) False [] := by
  unfold Tell
  k_fill
  intro dp un gd cn cs aa ccd cl outer A₀ base h₀ L m s fr Q E B F X N hmu T hk hd hu hret hfail
  k_dflt (refine' call_cls ?k1 ?k2 ?k3 ?k4 ?k5 ?k6 ?_; (case k1 => k_asm); (case k2 => k_asm); (case k3 => k_asm); (case k4 => k_is); (case k5 => k_is); (case k6 => k_is); k_whole)
  intro x' d' h' F' N' l1 l2
  have l3 := l1
  have l4 : @LT.lt Nat _ d' x' := l2
  (try k_lt l1)
  (try k_lt2 l2)
  (try k_sweep)
  try k_fold
  walk_at "enter own2"
  k_steps
  rename News _ _ _ _ => N9
  refine cps fun GX hGX => ?_
  obtain ⟨t1, t2, t3, N10⟩ : ∃ t1 t2 t3, News h₀ L _ ((x', instObj 232 d') :: (d', selfDict w t1 t2 t3 sy 0) :: (fr ++ nd)) := ⟨_, _, _, N9⟩
  refine hGX ?_
  clear hGX GX
  exact hret _ [(x', _), (d', selfDict w t1 t2 t3 sy 0)] nd _ _ (by assumption) (news_sub N10 (by lcg_sub)) (Fresh.allLt (ab_trans l4 l3) (Fresh.allLt l3 Fresh.nil)) ⟨rfl, x', d', _, _, _, rfl, rfl, l4⟩

set_option maxRecDepth 100000 in
set_option maxHeartbeats 8000000 in
theorem expanded_tells {w : World} {mean : ExcName → Option Value} {mg mb : Str → Option Value} {nd : List (Addr × Obj)} {T : Str → Option Def} {rk : Str → Nat} {z : Nat} (ok : TOk T rk z) (hz : 1 ≤ z) (hz2 : z ≤ 100) {sy : Addr} (hsy : SynV w nd sy T) {v : Value} {t : Ty} {r : Nat} (hr : r ≤ 100)
    (hv : NodeV w nd v t) (hsz : t.size < 4000) (hdep : t.dep ≤ 2) (hnar : t.nar) (hall : t.all (Under T rk r)) (hc : cst r 2 + 40 ≤ 4000) (hR : rsz r z 2 ≤ 4000) (hR1 : rsz r z 1 ≤ 4000) :
    Tell w mean mg mb 243 [v, .ref sy] ((10 * z + 150) * 3 + 10) [] nd
      (fun rv tl led' => led' = nd ∧ ∃ t', tyEv T r (fun _ => none) t [] = some t' ∧ NodeV w (tl ++ nd) rv t') (tyEv T r (fun _ => none) t [] = none) nd := by
  unfold Tell
  k_fill
  intro dp un gd cn cs a ccd cl outer A₀ base h₀ L m s fr Q E B F X N hmu T' hk hd hu hret hfail
  refine wpAny_call ?_
  walk_at "enter"
  intro g' L' h' FG' F' N' B' X' T1
  try dsimp only
  try k_fold
  k_steps
  refine unhalt ?_
  refine' tell_use fr (exp_makes (nd := nd)) ?k1 ?k2 ?k3 ?k4 ?sub ?hm ?k5 ?kk ?kd ?ku ?_ (fun h => h.elim)
  walk_at "tell sides"
  intro r1 tl1 led1 h1 tk1 F1 N1 hfr1 hq63
  refine cps fun GX hGX => ?_
  obtain ⟨hl1, x, d, k1, k2, k3, hr1, htl1, lx⟩ := hq63
  refine hGX ?_
  clear hGX GX
  subst led1 hr1 htl1
  try k_fold
  k_steps
  refine unhalt ?_
  have hd0 : ∀ p ∈ fr ++ nd, @LT.lt Nat _ p.1 d := fun p hp => hfr1 p hp (d, selfDict w k1 k2 k3 sy 0) (List.mem_cons_of_mem _ List.mem_cons_self)
  have hsd : ∀ p ∈ (x, instObj 232 d) :: nd, p.1 ≠ d := off_c (Ne.symm (Nat.ne_of_lt lx)) fun p hp => Nat.ne_of_lt (hd0 p (List.mem_append_right _ hp))
  refine' tell_use fr (whole_ty ok hz hr (fun _ => step_all ok hz hz2) (bud := 40) (fun _ => Nat.le_refl _) 2 (nd := (x, instObj 232 d) :: nd) (dpt := 0) (c := 0) hsd (List.Mem.head _) (hsy.mono (by lcg_sub)) (hv.mono (by lcg_sub)) hsz hdep (by omega) (fun _ => by omega) hnar hall (by omega) hR hR1 _ k1 k2 k3) ?k1 ?k2 ?k3 ?k4 ?sub ?hm ?k5 ?kk ?kd ?ku ?_ ?_
  (case k1 => k_asm); (case k2 => k_asm); (case k3 => k_asm); (case k4 => k_asm); (case k5 => k_asm); (case sub => lcg_sub); (case hm => exact mu_one fun p hp => Nat.ne_of_lt (hd0 p (List.mem_append_left _ hp))); (case kk => first | exact rfl | assumption); (case kd => ktr_room); (case ku => ktr_units)
  · intro r2 tl2 led2 h2 tk2 F2 N2 hfr2 hq64
    refine cps fun GX hGX => ?_
    obtain ⟨s1, s2, s3, c2, t', hl2, hc2, het, hft, hnt⟩ := hq64
    refine hGX ?_
    clear hGX GX
    subst led2
    try k_fold
    k_steps
    rename News _ _ _ _ => N9
    exact hret _ (tl2 ++ [(x, instObj 232 d)]) nd _ _ (by assumption) (news_sub N9 (by lcg_sub)) (Fresh.append (hfr2.sub (by lcg_sub)) (Fresh.allLt (ab_trans lx hd0) Fresh.nil)) ⟨rfl, t', het, hnt.mono (by lcg_sub)⟩
  · intro hnone e9 h9 tk9 X9
    refine blow_leave (keep := fr ++ nd) X9 rfl rfl FG' (fr_none F1) (by lcg_sub) fun h' X' => hfail hnone _ _ _ X'
end

section
/- part C_syn -/
theorem kw_C_syn_s_0 : True := by
  w_top off
  k_with_none
  k_with "my path" => first | with_reducible exact And.left | with_reducible exact And.right | (refine path_r ?_; k_extra "my path")
  k_with "my ne" => ((try dsimp only); first | (refine' Nat.ne_of_gt (lt_pick ?neA ?neB); (case neA => with_reducible assumption); (case neB => k_extra "my path")) | (refine' Nat.ne_of_lt (lt_pick ?neA ?neB); (case neA => with_reducible assumption); (case neB => k_extra "my path")) | exact Nat.ne_of_gt (by with_reducible assumption) | exact Nat.ne_of_lt (by with_reducible assumption) | fail)
  k_with "my om" => first | exact Nat.le_of_ble_eq_true rfl | with_reducible assumption | lia
  k_with "eval Name" => (k_here; k_dflt (first | (refine' nameX_L ?Fw554 ?vw554 ?_ ?aw554 ?bw554; (case Fw554 => k_asm); (case aw554 => rfl); (case bw554 => rfl); (case vw554 => rfl); k_whole) | (refine' nameX_C ?Nw554 ?cw554 ?mw554 ?dw554 ?_ ?aw554 ?bw554; (case aw554 => rfl); (case bw554 => rfl); (case Nw554 => k_asm); (case cw554 => rfl); (case mw554 => k_mem); (case dw554 => k_asm); k_whole) | (refine' nameX_K ?Fw554 ?Xw554 ?Tw554 ?ew554 ?_ ?aw554 ?bw554; (case Fw554 => k_asm); (case Xw554 => k_asm); (case Tw554 => k_asm); (case aw554 => rfl); (case bw554 => rfl); (case ew554 => k_is); k_whole) | (refine' nameX_B ?Fw554 ?Xw554 ?Tw554 ?ew554 ?vw554 ?nw554 ?_ ?aw554 ?bw554; (case Fw554 => k_asm); (case Xw554 => k_asm); (case Tw554 => k_asm); (case aw554 => rfl); (case bw554 => rfl); (case ew554 => k_is); (case vw554 => boot_fast); (case nw554 => decide); k_whole)))
  k_with "call builtin:isinstance" => (k_here; (with_reducible show wpAny _ _ (call _ [Value.ref _, Value.ref _]) _ _ _); k_dflt (first | (refine' isi_call ?k1w555 ?k2w555 ?k3w555 ?k4w555 ?_; (case k1w555 => k_in); (case k2w555 => k_types); (case k3w555 => k_is); (case k4w555 => intro e; cases e); k_whole) | (refine' kin_callC ?k1w555 ?k2w555 ?k3w555 ?k4w555 ?k5w555 ?k6w555 ?k7w555 ?k8w555 ?k9w555 ?_; (case k1w555 => k_in); (case k2w555 => k_inst); (case k3w555 => kin_no); (case k4w555 => k_is); (case k5w555 => k_is); (case k6w555 => k_is); (case k7w555 => k_is); (case k8w555 => k_is); (case k9w555 => k_is); k_whole)))
  k_with "getAttr ref" => (k_here; k_dflt (refine' get_own ?k1w556 ?k2w556 ?k3w556 ?k4w556 ?k5w556 ?k6w556 ?k7w556 ?k8w556 ?k9w556 ?_; (case k1w556 => k_asm); (case k2w556 => k_asm); (case k3w556 => k_inst); (case k4w556 => k_is); (case k5w556 => k_is); (case k6w556 => k_is); (case k7w556 => k_is); (case k8w556 => k_get); (case k9w556 => k_handed); k_whole))
  k_with "exec For Name Name cons nil" => refine halt ?_
  k_with "my src" => first | exact fun _ h => h | with_reducible assumption | (refine sub_t ?_; lcg_src) | (refine sub_l ?_; lcg_src) | (refine sub_r ?_; lcg_src)
  k_with "my sub" => first | exact sub_n | (refine sub_c ?_ ?_; k_mem; lcg_sub) | (refine sub_a ?_ ?_; lcg_sub; lcg_sub) | lcg_src
  k_with "my all" => first | assumption | (refine List.forall_mem_append.mpr ⟨?_, ?_⟩ <;> k_all)
  k_with "my mem" => first | with_reducible assumption | exact List.Mem.head _ | (refine List.mem_cons_of_mem _ ?_; k_mem) | (refine List.mem_append_left _ ?_; k_mem) | (refine List.mem_append_right _ ?_; k_mem)
  k_with "tell sides" => ((case k1 => k_asm); (case k2 => k_asm); (case k3 => k_asm); (case k4 => k_asm); (case k5 => k_asm); (try (case sub => lcg_sub)); (try (case hm => first | exact mu_nil | assumption | (refine mu_one ?_; k_all))); (case kk => first | exact rfl | assumption); (case kd => ktr_room); (case ku => ktr_units))
  k_with "enter" => (k_dflt (refine' code_def ?k1w563 ?k2w563 ?k3w563 ?k4w563 ?k5w563 ?kAw563 ?kFw563 ?kKw563 ?k6w563 ?k7w563 ?k8w563 ?k9w563 ?kBw563 ?_ ?c2w563 ?c3w563 ?c4w563 ?c5w563; (case kAw563 => exact rfl); (case kFw563 => exact rfl); (case kKw563 => assumption); (case k1w563 => k_asm); (case k2w563 => k_asm); (case k3w563 => k_asm); (case k4w563 => k_asm); (case k5w563 => k_asm); (case k6w563 => k_is); (case k7w563 => k_is); (case k8w563 => ktr_room); (case k9w563 => exact BindsTo.of_eq rfl); (case c5w563 => decide); (case kBw563 => exact locs rfl); (case c2w563 => exact rfl); (case c3w563 => exact rfl); (case c4w563 => exact rfl); k_whole))
  k_with "enter cells" => (k_dflt (refine' code_defC ?k1w564 ?k2w564 ?k3w564 ?k4w564 ?k5w564 ?kAw564 ?kFw564 ?kKw564 ?k6w564 ?k7w564 ?k8w564 ?k9w564 ?kBw564 ?kDw564 ?_ ?c2w564 ?c3w564 ?c4w564; (case kAw564 => exact rfl); (case kFw564 => exact rfl); (case kKw564 => assumption); (case k1w564 => k_asm); (case k2w564 => k_asm); (case k3w564 => k_asm); (case k4w564 => k_asm); (case k5w564 => k_asm); (case k6w564 => k_is); (case k7w564 => k_is); (case k8w564 => ktr_room); (case k9w564 => exact BindsTo.of_eq rfl); (case kBw564 => exact rfl); (case kDw564 => decide +kernel); (case c2w564 => exact rfl); (case c3w564 => exact rfl); (case c4w564 => exact rfl); k_whole))
  k_with "enter own" => (refine' code_def ?k1w565 ?k2w565 ?k3w565 ?k4w565 ?k5w565 ?kAw565 ?kFw565 ?kKw565 ?k6w565 ?k7w565 ?k8w565 ?k9w565 ?kBw565 ?_ ?c2w565 ?c3w565 ?c4w565 ?c5w565; (case kAw565 => exact rfl); (case kFw565 => exact rfl); (case kKw565 => exact rfl); (case k1w565 => k_asm); (case k2w565 => k_asm); (case k3w565 => k_asm); (case k4w565 => k_asm); (case k5w565 => k_asm); (case k6w565 => k_is); (case k7w565 => k_is); (case k8w565 => ktr_room); (case k9w565 => first | exact BindsTo.of_eq rfl | exact binds_K (by k_in) rfl (by k_is) rfl rfl rfl | fail "k_enter: no rule for these arguments"); (case c5w565 => decide); (case kBw565 => exact locs rfl); (case c2w565 => exact rfl); (case c3w565 => exact rfl); (case c4w565 => exact rfl); k_whole; intro g' L' h' FG' F' N' B' X' T'; (try dsimp only); (try k_lift B'); (try k_fold))
  k_with "call ref" => (k_here; k_dflt (first
    | (refine' call_cls ?k1w566 ?k2w566 ?k3w566 ?k4w566 ?k5w566 ?k6w566 ?_; (case k1w566 => k_asm); (case k2w566 => k_asm); (case k3w566 => k_asm); (case k4w566 => k_is); (case k5w566 => k_is); (case k6w566 => k_is); k_whole; intro x' d' h' F' N' l1 l2; (try k_lt l1); (try k_lt2 l2); (try k_sweep); walk_at "enter own")
    | (refine wpAny_call ?_; walk_at "enter own")))
  k_with "subscriptTail" => (k_here; (with_reducible show wpAny _ _ (subscriptTail _ _ (Value.ref _) (Value.int 0 _)) _ _ _); k_dflt (refine' led_tup0 ?k1w567 ?k2w567 ?k3w567 ?_; (case k1w567 => k_asm); (case k2w567 => k_mem); (case k3w567 => (first | assumption | omega)); k_whole))
  k_with "subscriptTail Name Slice ref ref" => (k_here; (with_reducible show wpAny _ _ (subscriptTail _ (PySem.Expr.Slice _ _ none _) (Value.ref _) (Value.ref _)) _ _ _); k_dflt (refine' led_tupTail ?k1w568 ?k2w568 ?k3w568 ?k4w568 ?_; (case k1w568 => k_asm); (case k2w568 => k_asm); (case k3w568 => k_mem); (case k4w568 => (first | assumption | omega)); k_whole); intro D' h' F' N' l1; (try k_lt l1); (try k_sweep))
  k_with "call ref" => ((with_reducible first | show wpAny _ _ (call (Value.ref 191) _) _ _ _ | show wpAny _ _ (call (Value.ref 198) _) _ _ _ | show wpAny _ _ (call (Value.ref 205) _) _ _ _ | show wpAny _ _ (call (Value.ref 224) _) _ _ _ | show wpAny _ _ (call (Value.ref 229) _) _ _ _ | show wpAny _ _ (call (Value.ref 243) _) _ _ _ | show wpAny _ _ (call (Value.ref 257) _) _ _ _ | show wpAny _ _ (call (Value.ref 264) _) _ _ _ | show wpAny _ _ (call (Value.ref 276) _) _ _ _ | show wpAny _ _ (call (Value.ref 283) _) _ _ _ | show wpAny _ _ (call (Value.ref 290) _) _ _ _ | show wpAny _ _ (call (Value.ref 295) _) _ _ _ | show wpAny _ _ (call (Value.ref 302) _) _ _ _ | show wpAny _ _ (call (Value.ref 309) _) _ _ _); refine halt ?_)
  k_with "eval ListComp" => refine halt ?_
  k_with "exec Assign cons ListComp" => refine halt ?_
  k_with "exec For" => refine halt ?_
  k_with "exec While" => refine halt ?_
  k_with "call type:tuple" => ((with_reducible show wpAny _ _ (call (Value.type "tuple") [Value.ref _]) _ _ _); refine halt ?_)
  k_with "binaryOp Add ref ref" => ((with_reducible show wpAny _ _ (binaryOp Operator.Add (Value.ref _) (Value.ref _)) _ _ _); refine halt ?_)
  k_with "my tabat" => first | assumption | exact ab0 (by assumption) | exact ab1 (by assumption) | (refine ab_trans (by assumption) ?_; k_tabat)
  k_with "my updF" => first | exact Fresh.nil | assumption | (refine Fresh.allLt ?_ ?_; k_tabat; k_updF) | (refine Fresh.append ?_ ?_; k_updF; k_updF)
  k_with "getMethod ref" => (k_here; (with_reducible show wpAny _ _ (getMethod (Value.ref _) (Str.ofString "get") _) _ _ _); k_dflt (refine kdg_method (knd := PySem.strKind _ _) (by k_asm) (by k_mem) (by assumption) ?_))
  k_with "call builtin:dict.get" => (k_here; k_dflt (refine kdg_get2 (knd := PySem.strKind _ _) (by k_asm) (by k_mem) (by assumption) (by assumption) (strKind_is _ _ _ _) _ rfl ?_))
  k_with "compareOp NotEq ref ref" => (k_here; k_dflt (first | (refine' led_ne_nil ?k1w580 ?k2w580 ?k3w580 ?k4w580 ?_; (case k1w580 => k_asm); (case k2w580 => k_mem); (case k3w580 => k_mem); (case k4w580 => ke_room)) | (refine' led_ne_snoc ?k1w580 ?k2w580 ?k3w580 ?k4w580 ?_; (case k1w580 => k_asm); (case k2w580 => k_mem); (case k3w580 => k_mem); (case k4w580 => ke_room))))
  k_with "compareOp Eq ref ref" => (k_here; k_dflt (first | (refine' led_eq_nil ?k1w581 ?k2w581 ?k3w581 ?k4w581 ?_; (case k1w581 => k_asm); (case k2w581 => k_mem); (case k3w581 => k_mem); (case k4w581 => ke_room)) | (refine' led_eq_cons ?k1w581 ?k2w581 ?k3w581 ?k4w581 ?_; (case k1w581 => k_asm); (case k2w581 => k_mem); (case k3w581 => k_mem); (case k4w581 => ke_room))))
  trivial
theorem kw_C_syn_0 : True := by
  k_with "enter own2" => (refine' code_def ?k1w582 ?k2w582 ?k3w582 ?k4w582 ?k5w582 ?kAw582 ?kFw582 ?kKw582 ?k6w582 ?k7w582 ?k8w582 ?k9w582 ?kBw582 ?_ ?c2w582 ?c3w582 ?c4w582 ?c5w582; (case kAw582 => exact rfl); (case kFw582 => exact rfl); (case kKw582 => assumption); (case k1w582 => k_asm); (case k2w582 => k_asm); (case k3w582 => k_asm); (case k4w582 => k_asm); (case k5w582 => k_asm); (case k6w582 => k_is); (case k7w582 => k_is); (case k8w582 => ktr_room); (case k9w582 => first | exact BindsTo.of_eq rfl | exact binds_K (by k_in) rfl (by k_is) rfl rfl rfl | fail "k_enter: no rule for these arguments"); (case c5w582 => decide); (case kBw582 => exact locs rfl); (case c2w582 => exact rfl); (case c3w582 => exact rfl); (case c4w582 => exact rfl); k_whole; intro g' L' h' FG' F' N' B' X' T'; (try dsimp only); (try k_lift B'); (try k_fold))
  trivial
set_option maxRecDepth 100000 in
set_option maxHeartbeats 8000000 in
theorem syn_makes {w : World} {mean : ExcName → Option Value} {mg mb : Str → Option Value} {nd : List (Addr × Obj)} {nv bv : Value} {pl : Addr} :
    Tell w mean mg mb 173 [nv, .ref pl, bv] 10 [] nd
      (fun r tl led' => led' = nd ∧ ∃ x d k1 k2 k3, r = .ref x ∧ tl = [(x, instObj 173 d), (d, synDict w k1 k2 k3 nv pl bv)]) False [] := by
  unfold Tell
  k_fill
  intro dp un gd cn cs aa ccd cl outer A₀ base h₀ L m s fr Q E B F X N hmu T hk hd hu hret hfail
  k_dflt (refine' call_cls ?k1 ?k2 ?k3 ?k4 ?k5 ?k6 ?_; (case k1 => k_asm); (case k2 => k_asm); (case k3 => k_asm); (case k4 => k_is); (case k5 => k_is); (case k6 => k_is); k_whole)
  intro x' d' h' F' N' l1 l2
  have l3 := l1
  have l4 : @LT.lt Nat _ d' x' := l2
  (try k_lt l1)
  (try k_lt2 l2)
  (try k_sweep)
  try k_fold
  walk_at "enter own2"
  k_steps
  rename News _ _ _ _ => N9
  refine cps fun GX hGX => ?_
  obtain ⟨t1, t2, t3, N10⟩ : ∃ t1 t2 t3, News h₀ L _ ((x', instObj 173 d') :: (d', synDict w t1 t2 t3 nv pl bv) :: (fr ++ nd)) := ⟨_, _, _, N9⟩
  refine hGX ?_
  clear hGX GX
  exact hret _ [(x', _), (d', synDict w t1 t2 t3 nv pl bv)] nd _ _ (by assumption) (news_sub N10 (by lcg_sub)) (Fresh.allLt (ab_trans l4 l3) (Fresh.allLt l3 Fresh.nil)) ⟨rfl, x', d', _, _, _, rfl, rfl⟩
end

section
/- part C_caught -/
theorem kw_C_caught_s_0 : True := by
  w_top off
  k_with_none
  k_with "my path" => first | with_reducible exact And.left | with_reducible exact And.right | (refine path_r ?_; k_extra "my path")
  k_with "my ne" => ((try dsimp only); first | (refine' Nat.ne_of_gt (lt_pick ?neA ?neB); (case neA => with_reducible assumption); (case neB => k_extra "my path")) | (refine' Nat.ne_of_lt (lt_pick ?neA ?neB); (case neA => with_reducible assumption); (case neB => k_extra "my path")) | exact Nat.ne_of_gt (by with_reducible assumption) | exact Nat.ne_of_lt (by with_reducible assumption) | fail)
  k_with "my om" => first | exact Nat.le_of_ble_eq_true rfl | with_reducible assumption | lia
  k_with "eval Name" => (k_here; k_dflt (first | (refine' nameX_L ?Fw583 ?vw583 ?_ ?aw583 ?bw583; (case Fw583 => k_asm); (case aw583 => rfl); (case bw583 => rfl); (case vw583 => rfl); k_whole) | (refine' nameX_C ?Nw583 ?cw583 ?mw583 ?dw583 ?_ ?aw583 ?bw583; (case aw583 => rfl); (case bw583 => rfl); (case Nw583 => k_asm); (case cw583 => rfl); (case mw583 => k_mem); (case dw583 => k_asm); k_whole) | (refine' nameX_K ?Fw583 ?Xw583 ?Tw583 ?ew583 ?_ ?aw583 ?bw583; (case Fw583 => k_asm); (case Xw583 => k_asm); (case Tw583 => k_asm); (case aw583 => rfl); (case bw583 => rfl); (case ew583 => k_is); k_whole) | (refine' nameX_B ?Fw583 ?Xw583 ?Tw583 ?ew583 ?vw583 ?nw583 ?_ ?aw583 ?bw583; (case Fw583 => k_asm); (case Xw583 => k_asm); (case Tw583 => k_asm); (case aw583 => rfl); (case bw583 => rfl); (case ew583 => k_is); (case vw583 => boot_fast); (case nw583 => decide); k_whole)))
  k_with "call builtin:isinstance" => (k_here; (with_reducible show wpAny _ _ (call _ [Value.ref _, Value.ref _]) _ _ _); k_dflt (first | (refine' isi_call ?k1w584 ?k2w584 ?k3w584 ?k4w584 ?_; (case k1w584 => k_in); (case k2w584 => k_types); (case k3w584 => k_is); (case k4w584 => intro e; cases e); k_whole) | (refine' kin_callC ?k1w584 ?k2w584 ?k3w584 ?k4w584 ?k5w584 ?k6w584 ?k7w584 ?k8w584 ?k9w584 ?_; (case k1w584 => k_in); (case k2w584 => k_inst); (case k3w584 => kin_no); (case k4w584 => k_is); (case k5w584 => k_is); (case k6w584 => k_is); (case k7w584 => k_is); (case k8w584 => k_is); (case k9w584 => k_is); k_whole)))
  k_with "getAttr ref" => (k_here; k_dflt (refine' get_own ?k1w585 ?k2w585 ?k3w585 ?k4w585 ?k5w585 ?k6w585 ?k7w585 ?k8w585 ?k9w585 ?_; (case k1w585 => k_asm); (case k2w585 => k_asm); (case k3w585 => k_inst); (case k4w585 => k_is); (case k5w585 => k_is); (case k6w585 => k_is); (case k7w585 => k_is); (case k8w585 => k_get); (case k9w585 => k_handed); k_whole))
  k_with "exec For Name Name cons nil" => refine halt ?_
  k_with "my src" => first | exact fun _ h => h | with_reducible assumption | (refine sub_t ?_; lcg_src) | (refine sub_l ?_; lcg_src) | (refine sub_r ?_; lcg_src)
  k_with "my sub" => first | exact sub_n | (refine sub_c ?_ ?_; k_mem; lcg_sub) | (refine sub_a ?_ ?_; lcg_sub; lcg_sub) | lcg_src
  k_with "my all" => first | assumption | (refine List.forall_mem_append.mpr ⟨?_, ?_⟩ <;> k_all)
  k_with "my mem" => first | with_reducible assumption | exact List.Mem.head _ | (refine List.mem_cons_of_mem _ ?_; k_mem) | (refine List.mem_append_left _ ?_; k_mem) | (refine List.mem_append_right _ ?_; k_mem)
  k_with "tell sides" => ((case k1 => k_asm); (case k2 => k_asm); (case k3 => k_asm); (case k4 => k_asm); (case k5 => k_asm); (try (case sub => lcg_sub)); (try (case hm => first | exact mu_nil | assumption | (refine mu_one ?_; k_all))); (case kk => first | exact rfl | assumption); (case kd => ktr_room); (case ku => ktr_units))
  k_with "enter" => (k_dflt (refine' code_def ?k1w592 ?k2w592 ?k3w592 ?k4w592 ?k5w592 ?kAw592 ?kFw592 ?kKw592 ?k6w592 ?k7w592 ?k8w592 ?k9w592 ?kBw592 ?_ ?c2w592 ?c3w592 ?c4w592 ?c5w592; (case kAw592 => exact rfl); (case kFw592 => exact rfl); (case kKw592 => assumption); (case k1w592 => k_asm); (case k2w592 => k_asm); (case k3w592 => k_asm); (case k4w592 => k_asm); (case k5w592 => k_asm); (case k6w592 => k_is); (case k7w592 => k_is); (case k8w592 => ktr_room); (case k9w592 => exact BindsTo.of_eq rfl); (case c5w592 => decide); (case kBw592 => exact locs rfl); (case c2w592 => exact rfl); (case c3w592 => exact rfl); (case c4w592 => exact rfl); k_whole))
  k_with "enter cells" => (k_dflt (refine' code_defC ?k1w593 ?k2w593 ?k3w593 ?k4w593 ?k5w593 ?kAw593 ?kFw593 ?kKw593 ?k6w593 ?k7w593 ?k8w593 ?k9w593 ?kBw593 ?kDw593 ?_ ?c2w593 ?c3w593 ?c4w593; (case kAw593 => exact rfl); (case kFw593 => exact rfl); (case kKw593 => assumption); (case k1w593 => k_asm); (case k2w593 => k_asm); (case k3w593 => k_asm); (case k4w593 => k_asm); (case k5w593 => k_asm); (case k6w593 => k_is); (case k7w593 => k_is); (case k8w593 => ktr_room); (case k9w593 => exact BindsTo.of_eq rfl); (case kBw593 => exact rfl); (case kDw593 => decide +kernel); (case c2w593 => exact rfl); (case c3w593 => exact rfl); (case c4w593 => exact rfl); k_whole))
  k_with "enter own" => (refine' code_def ?k1w594 ?k2w594 ?k3w594 ?k4w594 ?k5w594 ?kAw594 ?kFw594 ?kKw594 ?k6w594 ?k7w594 ?k8w594 ?k9w594 ?kBw594 ?_ ?c2w594 ?c3w594 ?c4w594 ?c5w594; (case kAw594 => exact rfl); (case kFw594 => exact rfl); (case kKw594 => exact rfl); (case k1w594 => k_asm); (case k2w594 => k_asm); (case k3w594 => k_asm); (case k4w594 => k_asm); (case k5w594 => k_asm); (case k6w594 => k_is); (case k7w594 => k_is); (case k8w594 => ktr_room); (case k9w594 => first | exact BindsTo.of_eq rfl | exact binds_K (by k_in) rfl (by k_is) rfl rfl rfl | fail "k_enter: no rule for these arguments"); (case c5w594 => decide); (case kBw594 => exact locs rfl); (case c2w594 => exact rfl); (case c3w594 => exact rfl); (case c4w594 => exact rfl); k_whole; intro g' L' h' FG' F' N' B' X' T'; (try dsimp only); (try k_lift B'); (try k_fold))
  k_with "call ref" => (k_here; k_dflt (first
    | (refine' call_cls ?k1w595 ?k2w595 ?k3w595 ?k4w595 ?k5w595 ?k6w595 ?_; (case k1w595 => k_asm); (case k2w595 => k_asm); (case k3w595 => k_asm); (case k4w595 => k_is); (case k5w595 => k_is); (case k6w595 => k_is); k_whole; intro x' d' h' F' N' l1 l2; (try k_lt l1); (try k_lt2 l2); (try k_sweep); walk_at "enter own")
    | (refine wpAny_call ?_; walk_at "enter own")))
  k_with "subscriptTail" => (k_here; (with_reducible show wpAny _ _ (subscriptTail _ _ (Value.ref _) (Value.int 0 _)) _ _ _); k_dflt (refine' led_tup0 ?k1w596 ?k2w596 ?k3w596 ?_; (case k1w596 => k_asm); (case k2w596 => k_mem); (case k3w596 => (first | assumption | omega)); k_whole))
  k_with "subscriptTail Name Slice ref ref" => (k_here; (with_reducible show wpAny _ _ (subscriptTail _ (PySem.Expr.Slice _ _ none _) (Value.ref _) (Value.ref _)) _ _ _); k_dflt (refine' led_tupTail ?k1w597 ?k2w597 ?k3w597 ?k4w597 ?_; (case k1w597 => k_asm); (case k2w597 => k_asm); (case k3w597 => k_mem); (case k4w597 => (first | assumption | omega)); k_whole); intro D' h' F' N' l1; (try k_lt l1); (try k_sweep))
  k_with "call ref" => ((with_reducible first | show wpAny _ _ (call (Value.ref 191) _) _ _ _ | show wpAny _ _ (call (Value.ref 198) _) _ _ _ | show wpAny _ _ (call (Value.ref 205) _) _ _ _ | show wpAny _ _ (call (Value.ref 224) _) _ _ _ | show wpAny _ _ (call (Value.ref 229) _) _ _ _ | show wpAny _ _ (call (Value.ref 243) _) _ _ _ | show wpAny _ _ (call (Value.ref 257) _) _ _ _ | show wpAny _ _ (call (Value.ref 264) _) _ _ _ | show wpAny _ _ (call (Value.ref 276) _) _ _ _ | show wpAny _ _ (call (Value.ref 283) _) _ _ _ | show wpAny _ _ (call (Value.ref 290) _) _ _ _ | show wpAny _ _ (call (Value.ref 295) _) _ _ _ | show wpAny _ _ (call (Value.ref 302) _) _ _ _ | show wpAny _ _ (call (Value.ref 309) _) _ _ _); refine halt ?_)
  k_with "eval ListComp" => refine halt ?_
  k_with "exec Assign cons ListComp" => refine halt ?_
  k_with "exec For" => refine halt ?_
  k_with "exec While" => refine halt ?_
  k_with "call type:tuple" => ((with_reducible show wpAny _ _ (call (Value.type "tuple") [Value.ref _]) _ _ _); refine halt ?_)
  k_with "binaryOp Add ref ref" => ((with_reducible show wpAny _ _ (binaryOp Operator.Add (Value.ref _) (Value.ref _)) _ _ _); refine halt ?_)
  k_with "my tabat" => first | assumption | exact ab0 (by assumption) | exact ab1 (by assumption) | (refine ab_trans (by assumption) ?_; k_tabat)
  k_with "my updF" => first | exact Fresh.nil | assumption | (refine Fresh.allLt ?_ ?_; k_tabat; k_updF) | (refine Fresh.append ?_ ?_; k_updF; k_updF)
  k_with "getMethod ref" => (k_here; (with_reducible show wpAny _ _ (getMethod (Value.ref _) (Str.ofString "get") _) _ _ _); k_dflt (refine kdg_method (knd := PySem.strKind _ _) (by k_asm) (by k_mem) (by assumption) ?_))
  k_with "call builtin:dict.get" => (k_here; k_dflt (refine kdg_get2 (knd := PySem.strKind _ _) (by k_asm) (by k_mem) (by assumption) (by assumption) (strKind_is _ _ _ _) _ rfl ?_))
  k_with "compareOp NotEq ref ref" => (k_here; k_dflt (first | (refine' led_ne_nil ?k1w609 ?k2w609 ?k3w609 ?k4w609 ?_; (case k1w609 => k_asm); (case k2w609 => k_mem); (case k3w609 => k_mem); (case k4w609 => ke_room)) | (refine' led_ne_snoc ?k1w609 ?k2w609 ?k3w609 ?k4w609 ?_; (case k1w609 => k_asm); (case k2w609 => k_mem); (case k3w609 => k_mem); (case k4w609 => ke_room))))
  k_with "compareOp Eq ref ref" => (k_here; k_dflt (first | (refine' led_eq_nil ?k1w610 ?k2w610 ?k3w610 ?k4w610 ?_; (case k1w610 => k_asm); (case k2w610 => k_mem); (case k3w610 => k_mem); (case k4w610 => ke_room)) | (refine' led_eq_cons ?k1w610 ?k2w610 ?k3w610 ?k4w610 ?_; (case k1w610 => k_asm); (case k2w610 => k_mem); (case k3w610 => k_mem); (case k4w610 => ke_room))))
  trivial
section
variable {A₀ : Around} {base g h : Heap} {outer : List Env} {L a e : Addr} {m : Str → Option Value} {name : Str} {scope : Scope} {cd : Value} {keep : List (Addr × Obj)}
theorem blow_ground (K : Below A₀ base outer g) (hab : g.objs.size ≤ L) (X : Blow base g L m keep (envOf name scope L a cd) outer e h) :
    ∃ g', KtsTurn (outer.filterMap (·.frame)) g g' ∧ Fr g' L h m ∧ Below A₀ base outer g' := by
  refine cps fun GX hGX => ?_
  obtain ⟨x1, x2, B, a0, fl, y1, y2, y3, y4, y5, y6, y7⟩ := X
  refine hGX ?_
  clear hGX GX
  have hgL : g.get? L = none := by
    cases q : g.get? L with
    | none => rfl
    | some o => exact absurd (Nat.lt_of_lt_of_le (Heap.lt_size q) hab) (Nat.lt_irrefl _)
  obtain ⟨T, S⟩ := kts_turn_at (h := h) (fs := outer.filterMap (·.frame)) (g := g)
    (fun b hb => by
      refine cps fun GX hGX => ?_
      obtain ⟨_, o, ho, _⟩ := K.frames.mem hb
      refine hGX ?_
      clear hGX GX
      exact ⟨o, ho⟩)
    (fun b o e nm => y4 b o (y2 b o e (fun hm => by
      rcases kts_mem hm with z | z
      · rw [z, hgL] at e
        cases e
      · exact nm z)))
    (fun b o e hm => by
      refine cps fun GX hGX => ?_
      obtain ⟨_, o', ho', hd⟩ := K.frames.mem hm
      refine hGX ?_
      clear hGX GX
      rw [e] at ho'
      cases ho'
      exact x2 b o e hd)
  refine ⟨_, T, ⟨x1, S, by rw [T.size]; exact hab⟩, ⟨K.stack, fun b o e => T.other b o (K.stays b o e) (fun hm => by
    rw [(K.frames.mem hm).1] at e
    cases e), K.frames.of_keeps fun b o e _ => ?_⟩⟩
  obtain ⟨sl, hs⟩ := T.up e
  exact ⟨_, hs, rfl⟩
end
theorem blow_keep {h : Heap} {base g : Heap} {L e : Addr} {m : Str → Option Value} {keep : List (Addr × Obj)} {env : Env} {outer : List Env} (hf : env.frame = some L) (X : Blow base g L m keep env outer e h) : ∀ p ∈ keep, h.get? p.1 = some p.2 ∧ p.1 ≠ L := fun p hp => by
  refine ⟨X.at hp, fun q => ?_⟩
  refine cps fun GX hGX => ?_
  obtain ⟨x1, x2, B, a0, fl, y1, y2, y3, y4, y5, y6, y7⟩ := X
  refine hGX ?_
  clear hGX GX
  refine cps fun GX hGX => ?_
  obtain ⟨_, ⟨L', _, hf', hn', _⟩, _⟩ := y6
  refine hGX ?_
  clear hGX GX
  rw [hf] at hf'
  cases hf'
  have := y3 p hp
  rw [q, hn'] at this
  cases this
theorem blow_cls {h : Heap} {base g : Heap} {L e : Addr} {m : Str → Option Value} {keep : List (Addr × Obj)} {env : Env} {outer : List Env} (X : Blow base g L m keep env outer e h) : ∃ oe, h.get? e = some oe ∧ oe.cls = .ref 45 := by
  refine cps fun GX hGX => ?_
  obtain ⟨_, _, _, _, _, _, _, _, _, _, _, oe, vs, T, _, _, a1, a2, _⟩ := X
  refine hGX ?_
  clear hGX GX
  exact ⟨oe, a1, a2.1⟩

theorem blow_caught {w : World} {A₀ : Around} {base H g : Heap} {outer : List Env} {L a e : Addr} {m : Str → Option Value} {name : Str} {scope : Scope} {cd : Value} {keep : List (Addr × Obj)} {s' : Shared} {Q : Flow → Shared → Prop} {E : Value → Shared → Prop} {b₀ : Stmt} {suite : List Stmt} {pos np : Pos} {rest : List ExceptHandler}
    {mean : ExcName → Option Value} {mg mb : Str → Option Value}
    (K : Below A₀ base outer g) (hab : g.objs.size ≤ L) (X : Blow base g L m keep (envOf name scope L a cd) outer e s'.heap) (XH : (Mine.hdHeap w.params).In H)
    (TH : Top Mine.hdView (looseW Mine.hdView [Str.ofString "LazyError", Str.ofString "TyVar", Str.ofString "TyCon", Str.ofString "TyApp"]) mean mg mb H)
    (hH : ∀ b o, H.get? b = some o → g.get? b = some o) (hHf : ∀ b ∈ outer.filterMap (·.frame), H.get? b = none) (hk0 : ∀ p ∈ keep, g.get? p.1 = none)
    (k : ∀ h' g', KtsTurn (outer.filterMap (·.frame)) g g' → Fr g' L h' m → News g' L h' keep → Below A₀ base outer g' → (Mine.hdHeap w.params).In g' → Top Mine.hdView (looseW Mine.hdView [Str.ofString "LazyError", Str.ofString "TyVar", Str.ofString "TyCon", Str.ofString "TyApp"]) mean mg mb g' →
      wpAny (model PySem.Challenge.rw_xw0149_01.row.prog w) ((A₀.deeper (envOf name scope L a cd)).mark (some (.ref e))) (execs (b₀ :: suite) (envOf name scope L a cd)) Q E { s' with heap := h' })
    (hk : scope.kind = .function := by rfl) (hx : (envOf name scope L a cd).kindOf (Str.ofString "KindError") = some .globalImplicit := by rfl)
    (hE : PassesOwnAt (model PySem.Challenge.rw_xw0149_01.row.prog w) ((A₀.deeper (envOf name scope L a cd)).mark (some (.ref e))) (A₀.deeper (envOf name scope L a cd)) (envOf name scope L a cd) E := by passes_own) :
    wpAny (model PySem.Challenge.rw_xw0149_01.row.prog w) (A₀.deeper (envOf name scope L a cd)) (noteFrame (.ref e) (envOf name scope L a cd))
      (fun _ s₂ => wpAny (model PySem.Challenge.rw_xw0149_01.row.prog w) (A₀.deeper (envOf name scope L a cd)) (setFlight (.ref e) none) (fun _ s₃ =>
        wpAny (model PySem.Challenge.rw_xw0149_01.row.prog w) (A₀.deeper (envOf name scope L a cd)) (handleBy (.ref e) (envOf name scope L a cd) (.ExceptHandler (some (.Name (Str.ofString "KindError") np)) none (b₀ :: suite) pos :: rest)) Q E s₃) E s₂) E s' := by
  refine blow_note X (Around.frames_deeper K.stack) rfl rfl fun h1 X1 => ?_
  refine blow_flight (s := { s' with heap := h1 }) X1 fun h2 X2 => ?_
  refine cps fun GX hGX => ?_
  obtain ⟨g2, T2, F2, K2⟩ := blow_ground K hab X2
  refine hGX ?_
  clear hGX GX
  have st2 : ∀ b o, H.get? b = some o → g2.get? b = some o := fun b o e => T2.other b o (hH b o e) fun hm => by rw [hHf b hm] at e; cases e
  have Xg2 := XH.keeps st2
  have Tg2 := TH.keeps st2
  obtain ⟨oe, he, hec⟩ := blow_cls X2
  refine cps fun GX hGX => ?_
  obtain ⟨nm, q, N1, bs, hdct, sn, sub, ab, col, dd, k0, k1, k2, k3, k5, hC⟩ := k45 w
  refine hGX ?_
  clear hGX GX
  refine wpAny_handleBy_cons (codeAny_handlers_test (name_K (s := { s' with heap := h2 }) F2 Xg2 (topRead_of Tg2) (v := .ref 45) (by with_unfolding_all rfl) ?_ hk hx)) (by intro q; cases q)
  refine wpAny_excMatches_sub_self (F2.keep _ _ (Xg2 _ _ hC)) he hec rfl (codeAny_handlers_suite ?_)
  refine blow_flight (s := { s' with heap := h2 }) X2 fun h3 X3 => ?_
  refine cps fun GX hGX => ?_
  obtain ⟨g3, T3, F3, K3⟩ := blow_ground K hab X3
  refine hGX ?_
  clear hGX GX
  have st3 : ∀ b o, H.get? b = some o → g3.get? b = some o := fun b o e => T3.other b o (hH b o e) fun hm => by rw [hHf b hm] at e; cases e
  exact wpAny_passesOwnAt hE (k h3 g3 T3 F3 (fun p hp => ⟨(blow_keep rfl X3 p hp).1, (blow_keep rfl X3 p hp).2, T3.none_ _ (hk0 p hp)⟩) K3 (XH.keeps st3) (TH.keeps st3))
end

section
/- part C_right -/
theorem kw_C_right_s_0 : True := by
  w_top off
  k_with_none
  k_with "my path" => first | with_reducible exact And.left | with_reducible exact And.right | (refine path_r ?_; k_extra "my path")
  k_with "my ne" => ((try dsimp only); first | (refine' Nat.ne_of_gt (lt_pick ?neA ?neB); (case neA => with_reducible assumption); (case neB => k_extra "my path")) | (refine' Nat.ne_of_lt (lt_pick ?neA ?neB); (case neA => with_reducible assumption); (case neB => k_extra "my path")) | exact Nat.ne_of_gt (by with_reducible assumption) | exact Nat.ne_of_lt (by with_reducible assumption) | fail)
  k_with "my om" => first | exact Nat.le_of_ble_eq_true rfl | with_reducible assumption | lia
  k_with "eval Name" => (k_here; k_dflt (first | (refine' nameX_L ?Fw611 ?vw611 ?_ ?aw611 ?bw611; (case Fw611 => k_asm); (case aw611 => rfl); (case bw611 => rfl); (case vw611 => rfl); k_whole) | (refine' nameX_C ?Nw611 ?cw611 ?mw611 ?dw611 ?_ ?aw611 ?bw611; (case aw611 => rfl); (case bw611 => rfl); (case Nw611 => k_asm); (case cw611 => rfl); (case mw611 => k_mem); (case dw611 => k_asm); k_whole) | (refine' nameX_K ?Fw611 ?Xw611 ?Tw611 ?ew611 ?_ ?aw611 ?bw611; (case Fw611 => k_asm); (case Xw611 => k_asm); (case Tw611 => k_asm); (case aw611 => rfl); (case bw611 => rfl); (case ew611 => k_is); k_whole) | (refine' nameX_B ?Fw611 ?Xw611 ?Tw611 ?ew611 ?vw611 ?nw611 ?_ ?aw611 ?bw611; (case Fw611 => k_asm); (case Xw611 => k_asm); (case Tw611 => k_asm); (case aw611 => rfl); (case bw611 => rfl); (case ew611 => k_is); (case vw611 => boot_fast); (case nw611 => decide); k_whole)))
  k_with "call builtin:isinstance" => (k_here; (with_reducible show wpAny _ _ (call _ [Value.ref _, Value.ref _]) _ _ _); k_dflt (first | (refine' isi_call ?k1w612 ?k2w612 ?k3w612 ?k4w612 ?_; (case k1w612 => k_in); (case k2w612 => k_types); (case k3w612 => k_is); (case k4w612 => intro e; cases e); k_whole) | (refine' kin_callC ?k1w612 ?k2w612 ?k3w612 ?k4w612 ?k5w612 ?k6w612 ?k7w612 ?k8w612 ?k9w612 ?_; (case k1w612 => k_in); (case k2w612 => k_inst); (case k3w612 => kin_no); (case k4w612 => k_is); (case k5w612 => k_is); (case k6w612 => k_is); (case k7w612 => k_is); (case k8w612 => k_is); (case k9w612 => k_is); k_whole)))
  k_with "getAttr ref" => (k_here; k_dflt (refine' get_own ?k1w613 ?k2w613 ?k3w613 ?k4w613 ?k5w613 ?k6w613 ?k7w613 ?k8w613 ?k9w613 ?_; (case k1w613 => k_asm); (case k2w613 => k_asm); (case k3w613 => k_inst); (case k4w613 => k_is); (case k5w613 => k_is); (case k6w613 => k_is); (case k7w613 => k_is); (case k8w613 => k_get); (case k9w613 => k_handed); k_whole))
  k_with "exec For Name Name cons nil" => refine halt ?_
  k_with "my src" => first | exact fun _ h => h | with_reducible assumption | (refine sub_t ?_; lcg_src) | (refine sub_l ?_; lcg_src) | (refine sub_r ?_; lcg_src)
  k_with "my sub" => first | exact sub_n | (refine sub_c ?_ ?_; k_mem; lcg_sub) | (refine sub_a ?_ ?_; lcg_sub; lcg_sub) | lcg_src
  k_with "my all" => first | assumption | (refine List.forall_mem_append.mpr ⟨?_, ?_⟩ <;> k_all)
  k_with "my mem" => first | with_reducible assumption | exact List.Mem.head _ | (refine List.mem_cons_of_mem _ ?_; k_mem) | (refine List.mem_append_left _ ?_; k_mem) | (refine List.mem_append_right _ ?_; k_mem)
  k_with "tell sides" => ((case k1 => k_asm); (case k2 => k_asm); (case k3 => k_asm); (case k4 => k_asm); (case k5 => k_asm); (try (case sub => lcg_sub)); (try (case hm => first | exact mu_nil | assumption | (refine mu_one ?_; k_all))); (case kk => first | exact rfl | assumption); (case kd => ktr_room); (case ku => ktr_units))
  k_with "enter" => (k_dflt (refine' code_def ?k1w620 ?k2w620 ?k3w620 ?k4w620 ?k5w620 ?kAw620 ?kFw620 ?kKw620 ?k6w620 ?k7w620 ?k8w620 ?k9w620 ?kBw620 ?_ ?c2w620 ?c3w620 ?c4w620 ?c5w620; (case kAw620 => exact rfl); (case kFw620 => exact rfl); (case kKw620 => assumption); (case k1w620 => k_asm); (case k2w620 => k_asm); (case k3w620 => k_asm); (case k4w620 => k_asm); (case k5w620 => k_asm); (case k6w620 => k_is); (case k7w620 => k_is); (case k8w620 => ktr_room); (case k9w620 => exact BindsTo.of_eq rfl); (case c5w620 => decide); (case kBw620 => exact locs rfl); (case c2w620 => exact rfl); (case c3w620 => exact rfl); (case c4w620 => exact rfl); k_whole))
  k_with "enter cells" => (k_dflt (refine' code_defC ?k1w621 ?k2w621 ?k3w621 ?k4w621 ?k5w621 ?kAw621 ?kFw621 ?kKw621 ?k6w621 ?k7w621 ?k8w621 ?k9w621 ?kBw621 ?kDw621 ?_ ?c2w621 ?c3w621 ?c4w621; (case kAw621 => exact rfl); (case kFw621 => exact rfl); (case kKw621 => assumption); (case k1w621 => k_asm); (case k2w621 => k_asm); (case k3w621 => k_asm); (case k4w621 => k_asm); (case k5w621 => k_asm); (case k6w621 => k_is); (case k7w621 => k_is); (case k8w621 => ktr_room); (case k9w621 => exact BindsTo.of_eq rfl); (case kBw621 => exact rfl); (case kDw621 => decide +kernel); (case c2w621 => exact rfl); (case c3w621 => exact rfl); (case c4w621 => exact rfl); k_whole))
  k_with "enter own" => (refine' code_def ?k1w622 ?k2w622 ?k3w622 ?k4w622 ?k5w622 ?kAw622 ?kFw622 ?kKw622 ?k6w622 ?k7w622 ?k8w622 ?k9w622 ?kBw622 ?_ ?c2w622 ?c3w622 ?c4w622 ?c5w622; (case kAw622 => exact rfl); (case kFw622 => exact rfl); (case kKw622 => exact rfl); (case k1w622 => k_asm); (case k2w622 => k_asm); (case k3w622 => k_asm); (case k4w622 => k_asm); (case k5w622 => k_asm); (case k6w622 => k_is); (case k7w622 => k_is); (case k8w622 => ktr_room); (case k9w622 => first | exact BindsTo.of_eq rfl | exact binds_K (by k_in) rfl (by k_is) rfl rfl rfl | fail "k_enter: no rule for these arguments"); (case c5w622 => decide); (case kBw622 => exact locs rfl); (case c2w622 => exact rfl); (case c3w622 => exact rfl); (case c4w622 => exact rfl); k_whole; intro g' L' h' FG' F' N' B' X' T'; (try dsimp only); (try k_lift B'); (try k_fold))
  k_with "call ref" => (k_here; k_dflt (first
    | (refine' call_cls ?k1w623 ?k2w623 ?k3w623 ?k4w623 ?k5w623 ?k6w623 ?_; (case k1w623 => k_asm); (case k2w623 => k_asm); (case k3w623 => k_asm); (case k4w623 => k_is); (case k5w623 => k_is); (case k6w623 => k_is); k_whole; intro x' d' h' F' N' l1 l2; (try k_lt l1); (try k_lt2 l2); (try k_sweep); walk_at "enter own")
    | (refine wpAny_call ?_; walk_at "enter own")))
  k_with "subscriptTail" => (k_here; (with_reducible show wpAny _ _ (subscriptTail _ _ (Value.ref _) (Value.int 0 _)) _ _ _); k_dflt (refine' led_tup0 ?k1w624 ?k2w624 ?k3w624 ?_; (case k1w624 => k_asm); (case k2w624 => k_mem); (case k3w624 => (first | assumption | omega)); k_whole))
  k_with "subscriptTail Name Slice ref ref" => (k_here; (with_reducible show wpAny _ _ (subscriptTail _ (PySem.Expr.Slice _ _ none _) (Value.ref _) (Value.ref _)) _ _ _); k_dflt (refine' led_tupTail ?k1w625 ?k2w625 ?k3w625 ?k4w625 ?_; (case k1w625 => k_asm); (case k2w625 => k_asm); (case k3w625 => k_mem); (case k4w625 => (first | assumption | omega)); k_whole); intro D' h' F' N' l1; (try k_lt l1); (try k_sweep))
  k_with "call ref" => ((with_reducible first | show wpAny _ _ (call (Value.ref 191) _) _ _ _ | show wpAny _ _ (call (Value.ref 198) _) _ _ _ | show wpAny _ _ (call (Value.ref 205) _) _ _ _ | show wpAny _ _ (call (Value.ref 224) _) _ _ _ | show wpAny _ _ (call (Value.ref 229) _) _ _ _ | show wpAny _ _ (call (Value.ref 243) _) _ _ _ | show wpAny _ _ (call (Value.ref 257) _) _ _ _ | show wpAny _ _ (call (Value.ref 264) _) _ _ _ | show wpAny _ _ (call (Value.ref 276) _) _ _ _ | show wpAny _ _ (call (Value.ref 283) _) _ _ _ | show wpAny _ _ (call (Value.ref 290) _) _ _ _ | show wpAny _ _ (call (Value.ref 295) _) _ _ _ | show wpAny _ _ (call (Value.ref 302) _) _ _ _ | show wpAny _ _ (call (Value.ref 309) _) _ _ _); refine halt ?_)
  k_with "eval ListComp" => refine halt ?_
  k_with "exec Assign cons ListComp" => refine halt ?_
  k_with "exec For" => refine halt ?_
  k_with "exec While" => refine halt ?_
  k_with "call type:tuple" => ((with_reducible show wpAny _ _ (call (Value.type "tuple") [Value.ref _]) _ _ _); refine halt ?_)
  k_with "binaryOp Add ref ref" => ((with_reducible show wpAny _ _ (binaryOp Operator.Add (Value.ref _) (Value.ref _)) _ _ _); refine halt ?_)
  k_with "my tabat" => first | assumption | exact ab0 (by assumption) | exact ab1 (by assumption) | (refine ab_trans (by assumption) ?_; k_tabat)
  k_with "my updF" => first | exact Fresh.nil | assumption | (refine Fresh.allLt ?_ ?_; k_tabat; k_updF) | (refine Fresh.append ?_ ?_; k_updF; k_updF)
  k_with "getMethod ref" => (k_here; (with_reducible show wpAny _ _ (getMethod (Value.ref _) (Str.ofString "get") _) _ _ _); k_dflt (refine kdg_method (knd := PySem.strKind _ _) (by k_asm) (by k_mem) (by assumption) ?_))
  k_with "call builtin:dict.get" => (k_here; k_dflt (refine kdg_get2 (knd := PySem.strKind _ _) (by k_asm) (by k_mem) (by assumption) (by assumption) (strKind_is _ _ _ _) _ rfl ?_))
  k_with "compareOp NotEq ref ref" => (k_here; k_dflt (first | (refine' led_ne_nil ?k1w637 ?k2w637 ?k3w637 ?k4w637 ?_; (case k1w637 => k_asm); (case k2w637 => k_mem); (case k3w637 => k_mem); (case k4w637 => ke_room)) | (refine' led_ne_snoc ?k1w637 ?k2w637 ?k3w637 ?k4w637 ?_; (case k1w637 => k_asm); (case k2w637 => k_mem); (case k3w637 => k_mem); (case k4w637 => ke_room))))
  k_with "compareOp Eq ref ref" => (k_here; k_dflt (first | (refine' led_eq_nil ?k1w638 ?k2w638 ?k3w638 ?k4w638 ?_; (case k1w638 => k_asm); (case k2w638 => k_mem); (case k3w638 => k_mem); (case k4w638 => ke_room)) | (refine' led_eq_cons ?k1w638 ?k2w638 ?k3w638 ?k4w638 ?_; (case k1w638 => k_asm); (case k2w638 => k_mem); (case k3w638 => k_mem); (case k4w638 => ke_room))))
  trivial
theorem kw_C_right_0 : True := by
  k_with "subscriptTail" => (k_here; (with_reducible show wpAny _ _ (subscriptTail _ _ (Value.ref _) (Value.str _ _)) _ _ _); k_dflt (refine kda_item (knd := PySem.strKind _ _) (by k_asm) (by k_mem) (by assumption) (strKind_is _ _ _ _) (by assumption) ?_))
  k_with "call ref" => ((with_reducible show wpAny _ _ (call (Value.ref 173) _) _ _ _); refine halt ?_)
  k_with "setItem ref" => (refine halt ?_)
  k_with "compareOp Eq str str" => refine halt ?_
  k_with "compareOp Eq ref ref" => refine halt ?_
  trivial
/-- what a call of f tells in the frame of law -/
noncomputable def Tell0 (w : World) (mean : ExcName → Option Value) (mg mb : Str → Option Value) (f : Addr) (vs : List Value) (sz : Nat) (led : List (Addr × Obj)) (Post : Value → List (Addr × Obj) → List (Addr × Obj) → Prop) : Prop :=
  ∀ (dp un : Nat) (gd : Option (List Code)) (cn : Str) (cs : Scope) (a : Addr) (ccd : Value) (A₀ : Around) (base h₀ : Heap) (L : Addr) (m : Str → Option Value) (s : Shared) (fr : List (Addr × Obj)) (Q E : Value → Shared → Prop),
    Below A₀ base [] h₀ → Fr h₀ L s.heap m → (hdHeap w.params).In h₀ → News h₀ L s.heap (fr ++ led) →
    Top hdView (looseW hdView [Str.ofString "LazyError", Str.ofString "TyVar", Str.ofString "TyCon", Str.ofString "TyApp"]) mean mg mb h₀ →
    cs.kind = .function → dp + sz < recursionLimit → un + 8 * sz < cLine →
    (∀ r tl led' h' tk', Fr h₀ L h' m → News h₀ L h' (fr ++ (tl ++ led')) → Fresh (fr ++ led) tl → Post r tl led' → Q r { s with heap := h', toks := tk' }) →
    wpAny (model PySem.Challenge.rw_xw0149_01.row.prog w) (ktrTop dp un gd cn cs L a ccd [] []) (call (.ref f) vs) Q E s

theorem ty_shape {news : List (Addr × Obj)} {v : Value} {t : Ty} (h : TyV news v t) : (∃ x k, v = .str x k) ∨ ∃ a, v = .ref a := by
  cases h with
  | leaf => exact .inl ⟨_, _, rfl⟩
  | app => exact .inr ⟨_, rfl⟩
theorem dep_size : ∀ t : Ty, t.dep ≤ t.size
  | .leaf _ => Nat.zero_le _
  | .app f a => by
    have h1 := dep_size f
    have h2 := dep_size a
    show max f.dep (a.dep + 1) ≤ f.size + a.size + 1
    omega
/-- an entry of synonyms -/
noncomputable def SynEnt (w : World) (news : List (Addr × Obj)) (T : Str → Option Def) (h : Str) (v : Value) : Prop :=
  ∃ (df : Def) (sx sdd pl : Addr) (k1 k2 k3 : Tok) (nv : Value) (pvs : List (Str × Tok)) (bv : Value) (kp : Nat), T h = some df ∧ v = .ref sx ∧ (sx, instObj 173 sdd) ∈ news ∧ (sdd, synDict w k1 k2 k3 nv pl bv) ∈ news ∧
      (pl, listOf (pvs.map fun p : Str × Tok => Value.str p.1 p.2).toArray kp) ∈ news ∧ pvs.map (·.1) = df.ps ∧ NodeV w news bv ((Ty.leaf df.bh).on df.parts)
theorem SynEnt.mono {w : World} {news news' : List (Addr × Obj)} {T : Str → Option Def} {h : Str} {v : Value} (hs : ∀ p ∈ news, p ∈ news') (x : SynEnt w news T h v) : SynEnt w news' T h v := by
  refine cps fun GX hGX => ?_
  obtain ⟨df, sx, sdd, pl, k1, k2, k3, nv, pvs, bv, kp, a1, a2, a3, a4, a5, a6, a7⟩ := x
  refine hGX ?_
  clear hGX GX
  exact ⟨df, sx, sdd, pl, k1, k2, k3, nv, pvs, bv, kp, a1, a2, hs _ a3, hs _ a4, hs _ a5, a6, a7.mono hs⟩
set_option maxRecDepth 100000 in
set_option maxHeartbeats 8000000 in
theorem right_tells {w : World} {mean : ExcName → Option Value} {mg mb : Str → Option Value} {nd : List (Addr × Obj)} {T : Str → Option Def} {rk : Str → Nat} {z : Nat} (ok : TOk T rk z) (hz : 1 ≤ z) (hz2 : z ≤ 3) {td : Addr} {ot : Obj} {tkv : List (Str × Value)} (hot : (td, ot) ∈ nd) (htk : ot.IsDictOf (PySem.strKind PySem.Challenge.rw_xw0149_01.row.prog w) tkv) (hts : (td == sysModules) = false) (hlen : tkv.length ≤ 100)
    (htsome : ∀ h v, valueAt tkv h = some v → ∃ (df : Def) (tu pl : Addr) (pvs : List (Str × Tok)) (bv : Value) (n k : Nat), T h = some df ∧ v = .ref tu ∧ (tu, tupOf [.ref pl, bv] n) ∈ nd ∧ (pl, listOf (pvs.map fun p : Str × Tok => Value.str p.1 p.2).toArray k) ∈ nd ∧ pvs.map (·.1) = df.ps ∧ TyV nd bv ((Ty.leaf df.bh).on df.parts))
    (htnone : ∀ h, valueAt tkv h = none → T h = none) {v : Value} {t : Ty} {r : Nat} (hr : r ≤ 10)
    (hv : TyV nd v t) (hsz : t.size < 1000) (hdep : t.dep ≤ 2) (hnar : t.nar) (hall : t.all (Under T rk r)) (hc : cst r 2 + 40 ≤ 4000) (hR : rsz r z 2 ≤ 500) (hR1 : rsz r z 1 ≤ 4000) :
    Tell0 w mean mg mb 309 [v, .ref td] 560 nd
      (fun rv _ led' => led' = nd ∧ rv = .bool true) := by
  have ht : ToldV w nd td T := ⟨ot, tkv, hot, htk, hts, htsome, htnone⟩
  unfold Tell0
  k_fill
  intro dp un gd cn cs a ccd A₀ base h₀ L m s fr Q E B F X N T' hk hd hu hret
  refine wpAny_call ?_
  (k_dflt (refine' code_defS0 ?k1 ?k2 ?k3 ?k4 ?k5 ?kA ?k6 ?k7 ?k8 ?k9 ?kB ?_ ?cK ?c2 ?c3 ?c4 ?c5; (case kA => exact rfl); (case k1 => k_asm); (case k2 => k_asm); (case k3 => k_asm); (case k4 => k_asm); (case k5 => k_asm); (case k6 => k_is); (case k7 => k_is); (case k8 => ktr_room); (case k9 => exact BindsTo.of_eq rfl); (case kB => exact locs rfl); (case cK => assumption); (case c2 => exact rfl); (case c3 => exact rfl); (case c4 => exact rfl); (case c5 => decide); k_whole))
  intro g' L' h' FG' F' N' B' X' T1 D1
  try dsimp only
  try k_fold
  k_steps
  refine unhalt ?_
  rename (∀ p, p ∈ fr ++ nd → _) => l9
  rename Addr => SD
  rename Obj => so
  rename (Obj.IsDictOf (PySem.strKind _ _) _ _) => hsd0
  rename ((SD == sysModules) = false) => hsd1
  rename News _ _ _ _ => N9
  rename Fr _ _ _ _ => F9
  have hSD : ∀ p ∈ fr ++ nd, @LT.lt Nat _ p.1 SD := l9
  k_dflt (refine For_invU g' (by rfl) (by rfl) ?_)
  k_steps
  refine cps fun GX hGX => ?_
  obtain ⟨M, F10, m1, m2, m3⟩ : ∃ M, Fr g' L' _ M ∧ M (Str.ofString "synonyms") = some (.ref SD) ∧ M (Str.ofString "told") = some (.ref td) ∧ M (Str.ofString "a_type") = some v := ⟨_, F9, rfl, rfl, rfl⟩
  refine hGX ?_
  clear hGX GX
  refine for_dict (kvs := tkv) (fun i m₁ nw => ∃ (o' : Obj) (kS : List (Str × Value)) (tl' : List (Addr × Obj)), m₁ (Str.ofString "synonyms") = some (.ref SD) ∧ m₁ (Str.ofString "told") = some (.ref td) ∧ m₁ (Str.ofString "a_type") = some v ∧ nw = (SD, o') :: (fr ++ (tl' ++ nd)) ∧ o'.IsDictOf (PySem.strKind PySem.Challenge.rw_xw0149_01.row.prog w) kS ∧ kS.length ≤ i ∧
    (∀ h v, valueAt kS h = some v → SynEnt w (tl' ++ nd) T h v) ∧ (∀ j k x, j < i → tkv[j]? = some (k, x) → ∃ y, valueAt kS k = some y) ∧ Fresh (fr ++ nd) tl' ∧ (∀ p ∈ tl', p.1 ≠ SD)) (news := (SD, so) :: (fr ++ ([] ++ nd))) (m := M) rfl ?hF ?hN (by k_mem) htk hts ?_ ?_ ?_ ?_
  case hF => exact F10
  case hN => exact news_sub N9 (by lcg_sub)
  · intro i m₁ nw hq65
    refine cps fun GX hGX => ?_
    obtain ⟨o', kS, tl', _, _, _, e, _⟩ := hq65
    refine hGX ?_
    clear hGX GX
    rw [e]; k_mem
  · exact ⟨so, [], [], m1, m2, m3, rfl, hsd0, Nat.le_refl _, fun h v e => by simp [valueAt] at e, fun j k x hj => absurd hj (Nat.not_lt_zero _), Fresh.nil, fun p hp => nomatch hp⟩
  · intro i k2 v2 t2 m₁ nw I oI s₁ hk2 hq66 F11 N11 off11
    refine cps fun GX hGX => ?_
    obtain ⟨o', kS, tl', w1, w2, w3, hnw, hkS, hlS, hent, hhas, hfrt, htS⟩ := hq66
    refine hGX ?_
    clear hGX GX
    subst hnw
    replace F11 := fr_see4 F11 (x := Str.ofString "name") (y := Str.ofString "synonyms") (z := Str.ofString "told") (t := Str.ofString "a_type") (if_pos rfl) ((if_neg (by decide)).trans w1) ((if_neg (by decide)).trans w2) ((if_neg (by decide)).trans w3)
    obtain ⟨tv, htv⟩ := va_mem hk2
    refine cps fun GX hGX => ?_
    obtain ⟨df, tu, pl, pvs, bv, n, kp, e4, hv4, hmt, hmp, hps, hbv⟩ := htsome k2 tv htv
    refine hGX ?_
    clear hGX GX
    subst hv4
    have hb1 : [bv].length < 10000 := by simp
    have hbody := ok.body k2 df e4
    have hbsz : ((Ty.leaf df.bh).on df.parts).size < 1000 := by
      have := size_on_le (M := z) df.parts (.leaf df.bh) (fun p hp => (ok.part k2 df e4 p hp).1)
      have h1 := ok.parts k2 df e4
      have h2 : df.parts.length * (z + 1) ≤ 3 * (z + 1) := Nat.mul_le_mul_right _ h1
      have h3 : (Ty.leaf df.bh).size = 1 := rfl
      omega
    k_steps
    refine unhalt ?_
    refine' tell_use ((I, oI) :: (SD, o') :: (fr ++ tl')) (node_tells 2 hbody.2.2 hbsz hbv) ?k1 ?k2 ?k3 ?k4 ?sub ?hm ?k5 ?kk ?kd ?ku ?_ (fun h => h.elim)
    walk_at "tell sides"
    intro r1 tl1 led1 h1 tk1 F1 N1 hfr1 hq67
    obtain ⟨hl1, hn1⟩ := hq67
    subst led1
    have hI1 := hfr1.ne (a := I) (o := oI) (by k_mem)
    have hS1 := hfr1.ne (a := SD) (o := o') (by k_mem)
    try k_fold
    k_steps
    refine unhalt ?_
    refine' tell_use ((I, oI) :: (SD, o') :: (fr ++ (tl1 ++ tl'))) (syn_makes (nd := nd)) ?k1 ?k2 ?k3 ?k4 ?sub ?hm ?k5 ?kk ?kd ?ku ?_ (fun h => h.elim)
    walk_at "tell sides"
    intro r3 tl3 led3 h3 tk3 F3 N3 hfr3 hq68
    refine cps fun GX hGX => ?_
    obtain ⟨hl3, x3, d3, s1, s2, s3, hr3, htl3⟩ := hq68
    refine hGX ?_
    clear hGX GX
    subst led3 hr3 htl3
    have hI3 := hfr3.ne (a := I) (o := oI) (by k_mem)
    have hS3 := hfr3.ne (a := SD) (o := o') (by k_mem)
    try k_fold
    k_steps
    refine unhalt ?_
    rename News _ _ _ _ => N4
    rename Fr _ _ _ _ => F4
    have hi := (List.getElem?_eq_some_iff.mp hk2).1
    have hIS : I ≠ SD := Ne.symm (off11 (SD, o') List.mem_cons_self)
    refine kda_set (knd := PySem.strKind _ _) (v := .ref x3) F4 (news_sub N4 (by lcg_sub : ∀ p ∈ (SD, o') :: (I, oI) :: (fr ++ (((x3, instObj 173 d3) :: (d3, synDict w s1 s2 s3 (.str k2 t2) pl r1) :: (tl1 ++ tl')) ++ nd)), p ∈ _))
      (UpdF.head (off_c hIS (off_a (fun p hp => Nat.ne_of_lt (hSD p (List.mem_append_left _ hp))) (off_a (off_c (hS3 (x3, _) List.mem_cons_self) (off_c (x := (d3, synDict w s1 s2 s3 (.str k2 t2) pl r1)) (hS3 (d3, synDict w s1 s2 s3 (.str k2 t2) pl r1) (List.mem_cons_of_mem _ List.mem_cons_self)) (off_a hS1 htS))) (fun p hp => Nat.ne_of_lt (hSD p (List.mem_append_right _ hp))))))) hkS (strKind_is _ _ _ _) (by rw [sizeLine_eq]; omega) (fun h5 o5 F5 N5 hd5 => ?_)
    clear F4 N4
    try dsimp only at N5
    try k_fold
    k_steps
    rename News _ _ _ _ => N6
    rename Fr _ _ _ _ => F6
    refine ⟨rfl, _, _, _, (SD, o5) :: (fr ++ (((x3, instObj 173 d3) :: (d3, synDict w s1 s2 s3 (.str k2 t2) pl r1) :: (tl1 ++ tl')) ++ nd)), rfl, F6, news_sub N6 (by lcg_sub), ?_, o5, stored kS k2 (.ref x3), (x3, instObj 173 d3) :: (d3, synDict w s1 s2 s3 (.str k2 t2) pl r1) :: (tl1 ++ tl'), rfl, rfl, rfl, rfl, hd5, Nat.le_trans va_len (by omega), ?_, ?_, ?_, ?_⟩
    · exact off_c (Ne.symm hIS) (off_a (off_s off11 (by lcg_sub)) (off_a (off_c (hI3 (x3, _) List.mem_cons_self) (off_c (x := (d3, synDict w s1 s2 s3 (.str k2 t2) pl r1)) (hI3 (d3, synDict w s1 s2 s3 (.str k2 t2) pl r1) (List.mem_cons_of_mem _ List.mem_cons_self)) (off_a hI1 (off_s off11 (by lcg_sub))))) (off_s off11 (by lcg_sub))))
    · intro h v e
      rw [va_stored] at e
      by_cases hh : h = k2
      · rw [if_pos hh] at e
        cases e
        subst hh
        exact ⟨df, x3, d3, pl, s1, s2, s3, _, pvs, r1, kp, e4, rfl, by k_mem, by k_mem, by k_mem, hps, hn1.mono (by lcg_sub)⟩
      · rw [if_neg hh] at e
        exact (hent h v e).mono (by lcg_sub)
    · intro j k x hj hjk
      rw [va_stored]
      by_cases hh : k = k2
      · exact ⟨_, if_pos hh⟩
      · rw [if_neg hh]
        by_cases hji : j = i
        · subst hji; rw [hk2] at hjk; cases hjk; exact (hh rfl).elim
        · exact hhas j k x (by omega) hjk
    · exact Fresh.append (tl := [(x3, instObj 173 d3), (d3, synDict w s1 s2 s3 (.str k2 t2) pl r1)]) (hfr3.sub (by lcg_sub)) (Fresh.append (hfr1.sub (by lcg_sub)) hfrt)
    · exact off_c (hS3 (x3, _) List.mem_cons_self) (off_c (x := (d3, synDict w s1 s2 s3 (.str k2 t2) pl r1)) (hS3 (d3, synDict w s1 s2 s3 (.str k2 t2) pl r1) (List.mem_cons_of_mem _ List.mem_cons_self)) (off_a hS1 htS))
  · intro h11 tk11 m11 nw F11 N11 hq69
    refine cps fun GX hGX => ?_
    obtain ⟨o', kS, tl', w1, w2, w3, hnw, hkS, hlS, hent, hhas, hfrt, htS⟩ := hq69
    refine hGX ?_
    clear hGX GX
    subst hnw
    replace F11 := fr_see3 F11 w1 w2 w3
    have hsyn : SynV w ((SD, o') :: (tl' ++ nd)) SD T := by
      refine ⟨o', kS, List.Mem.head _, hkS, hsd1, fun h v e => (hent h v e).mono (by lcg_sub), fun h e => ?_⟩
      cases e1 : valueAt tkv h with
      | none => exact htnone h e1
      | some y =>
        refine cps fun GX hGX => ?_
        obtain ⟨j, x, hj, hjk⟩ := va_get e1
        refine hGX ?_
        clear hGX GX
        obtain ⟨y', hy'⟩ := hhas j h x hj hjk
        rw [hy'] at e; cases e
    k_steps
    refine unhalt ?_
    rename_i ED _ eo hED1 hED2 _ _ _ lED ML _ FA NA lML
    have hrr : r * r ≤ 100 := Nat.mul_le_mul hr hr
    have hEnv : EnvV w ((ML, listOf #[] 0) :: (ED, eo) :: nd) ED (fun _ => none) := ⟨eo, [], by k_mem, hED2, hED1, fun h v e => by simp [valueAt] at e, fun h _ => rfl⟩
    refine' tell_use ((SD, o') :: (fr ++ tl')) (out_all ok r 2 (nd := (ML, listOf #[] 0) :: (ED, eo) :: nd) (σ := fun _ => none) (mv := []) (ms := []) (kk := 0) (W := 0) (K := 0) (ht.mono (by lcg_sub)) hEnv (List.Mem.head _) TyVs.nil (fun _ _ q => nomatch q) (fun m q => nomatch q) (Nat.le_refl _) (by rw [Nat.mul_assoc]; omega) (hv.mono (by lcg_sub)) hdep hnar hall) ?k1 ?k2 ?k3 ?k4 ?sub ?hm ?k5 ?kk ?kd ?ku ?_ (fun h => h.elim)
    walk_at "tell sides"
    intro rd tl2 led2 h2 tk2 F2 N2 hfr2 hq70
    obtain ⟨hl2, hdue⟩ := hq70
    subst led2
    try k_fold
    k_steps
    refine unhalt ?_
    refine' tell_use ((SD, o') :: (ML, listOf #[] 0) :: (ED, eo) :: (fr ++ (tl2 ++ tl'))) (node_tells 2 hdep hsz hv) ?k1 ?k2 ?k3 ?k4 ?sub ?hm ?k5 ?kk ?kd ?ku ?_ (fun h => h.elim)
    walk_at "tell sides"
    intro r5 tl5 led5 h5 tk5 F5 N5 hfr5 hq71
    obtain ⟨hl5, hn5⟩ := hq71
    subst led5
    try k_fold
    k_steps
    refine unhalt ?_
    refine' tell_use ((ML, listOf #[] 0) :: (ED, eo) :: (fr ++ tl2)) (expanded_tells ok hz (by omega) (nd := (SD, o') :: (tl5 ++ (tl' ++ nd))) (hsyn.mono (by lcg_sub)) (by omega) (hn5.mono (by lcg_sub)) (by omega) hdep hnar hall hc (by omega) hR1) ?k1 ?k2 ?k3 ?k4 ?sub ?hm ?k5 ?kk ?kd ?ku ?_ ?_
    walk_at "tell sides"
    · intro r6 tl6 led6 h6 tk6 F6 N6 hfr6 hq72
      refine cps fun GX hGX => ?_
      obtain ⟨hl6, t', het, hn6⟩ := hq72
      refine hGX ?_
      clear hGX GX
      subst led6
      have hsz6 : t'.size ≤ 500 := Nat.le_trans (size_tyEv ok hz 2 t t' hdep hnar het) hR
      have hds6 := dep_size t'
      rw [het] at hdue
      replace hdue : TyV (tl2 ++ (ML, listOf #[] 0) :: (ED, eo) :: nd) rd t' := hdue
      try k_fold
      k_steps
      refine unhalt ?_
      refine' tell_use ((ML, listOf #[] 0) :: (ED, eo) :: (fr ++ tl2)) (tell_size (seen_tells hn6 (by omega)) (by omega : t'.size + 8 ≤ 510)) ?k1 ?k2 ?k3 ?k4 ?sub ?hm ?k5 ?kk ?kd ?ku ?_ (fun h => h.elim)
      walk_at "tell sides"
      intro r7 tl7 led7 h7 tk7 F7 N7 hfr7 hq73
      obtain ⟨hl7, hn7⟩ := hq73
      subst led7
      have hdue2 : TyV ((ML, listOf #[] 0) :: (ED, eo) :: (fr ++ tl2) ++ (tl7 ++ (tl6 ++ (SD, o') :: (tl5 ++ (tl' ++ nd))))) rd t' := hdue.mono (by lcg_sub)
      have hseen2 : TyV ((ML, listOf #[] 0) :: (ED, eo) :: (fr ++ tl2) ++ (tl7 ++ (tl6 ++ (SD, o') :: (tl5 ++ (tl' ++ nd))))) r7 t' := hn7.mono (by lcg_sub)
      rcases ty_shape hdue with ⟨xx, kx, rfl⟩ | ⟨ax, rfl⟩
      all_goals
        try k_fold
        k_steps
        rename News _ _ _ _ => N8
        refine led_tyEq (news := (ML, listOf #[] 0) :: (ED, eo) :: (fr ++ tl2) ++ (tl7 ++ (tl6 ++ (SD, o') :: (tl5 ++ (tl' ++ nd))))) (news_sub N8 (by lcg_sub)) hseen2 hdue2 ?hu ?_
        case hu =>
          show un + _ + t'.dep < cLine
          omega
        try k_fold
        k_steps
        rename News _ _ _ _ => N9
        exact hret _ [] nd _ _ (by assumption) (news_sub N9 (by lcg_sub)) Fresh.nil ⟨rfl, rfl⟩
    · intro hnone e9 h9 tk9 X9
      rw [hnone] at hdue
      replace hdue : rd = .none := hdue
      subst hdue
      refine blow_caught (keep := fr ++ nd) (H := h₀) B' F5.above (X9.sub (by lcg_sub)) X T' FG'.keep (fun b hb => ?_) (fun p hp => (N5 p ((by lcg_sub : ∀ p ∈ fr ++ nd, p ∈ _) p hp)).2.2) (fun h9' g9 T9 F9 N9 B9 X9' T9' => ?_)
      · rcases kts_mem hb with rfl | z
        · exact kts_self FG'
        · simp at z
      · try k_fold
        k_steps
        rename News _ _ _ _ => N10
        exact hret _ [] nd _ _ (by assumption) (news_sub N10 (by lcg_sub)) Fresh.nil ⟨rfl, rfl⟩
end

section
/- part C_told1 -/
theorem kw_C_told1_s_0 : True := by
  w_top off
  k_with_none
  k_with "my path" => first | with_reducible exact And.left | with_reducible exact And.right | (refine path_r ?_; k_extra "my path")
  k_with "my ne" => ((try dsimp only); first | (refine' Nat.ne_of_gt (lt_pick ?neA ?neB); (case neA => with_reducible assumption); (case neB => k_extra "my path")) | (refine' Nat.ne_of_lt (lt_pick ?neA ?neB); (case neA => with_reducible assumption); (case neB => k_extra "my path")) | exact Nat.ne_of_gt (by with_reducible assumption) | exact Nat.ne_of_lt (by with_reducible assumption) | fail)
  k_with "my om" => first | exact Nat.le_of_ble_eq_true rfl | with_reducible assumption | lia
  k_with "eval Name" => (k_here; k_dflt (first | (refine' nameX_L ?Fw644 ?vw644 ?_ ?aw644 ?bw644; (case Fw644 => k_asm); (case aw644 => rfl); (case bw644 => rfl); (case vw644 => rfl); k_whole) | (refine' nameX_C ?Nw644 ?cw644 ?mw644 ?dw644 ?_ ?aw644 ?bw644; (case aw644 => rfl); (case bw644 => rfl); (case Nw644 => k_asm); (case cw644 => rfl); (case mw644 => k_mem); (case dw644 => k_asm); k_whole) | (refine' nameX_K ?Fw644 ?Xw644 ?Tw644 ?ew644 ?_ ?aw644 ?bw644; (case Fw644 => k_asm); (case Xw644 => k_asm); (case Tw644 => k_asm); (case aw644 => rfl); (case bw644 => rfl); (case ew644 => k_is); k_whole) | (refine' nameX_B ?Fw644 ?Xw644 ?Tw644 ?ew644 ?vw644 ?nw644 ?_ ?aw644 ?bw644; (case Fw644 => k_asm); (case Xw644 => k_asm); (case Tw644 => k_asm); (case aw644 => rfl); (case bw644 => rfl); (case ew644 => k_is); (case vw644 => boot_fast); (case nw644 => decide); k_whole)))
  k_with "call builtin:isinstance" => (k_here; (with_reducible show wpAny _ _ (call _ [Value.ref _, Value.ref _]) _ _ _); k_dflt (first | (refine' isi_call ?k1w645 ?k2w645 ?k3w645 ?k4w645 ?_; (case k1w645 => k_in); (case k2w645 => k_types); (case k3w645 => k_is); (case k4w645 => intro e; cases e); k_whole) | (refine' kin_callC ?k1w645 ?k2w645 ?k3w645 ?k4w645 ?k5w645 ?k6w645 ?k7w645 ?k8w645 ?k9w645 ?_; (case k1w645 => k_in); (case k2w645 => k_inst); (case k3w645 => kin_no); (case k4w645 => k_is); (case k5w645 => k_is); (case k6w645 => k_is); (case k7w645 => k_is); (case k8w645 => k_is); (case k9w645 => k_is); k_whole)))
  k_with "getAttr ref" => (k_here; k_dflt (refine' get_own ?k1w646 ?k2w646 ?k3w646 ?k4w646 ?k5w646 ?k6w646 ?k7w646 ?k8w646 ?k9w646 ?_; (case k1w646 => k_asm); (case k2w646 => k_asm); (case k3w646 => k_inst); (case k4w646 => k_is); (case k5w646 => k_is); (case k6w646 => k_is); (case k7w646 => k_is); (case k8w646 => k_get); (case k9w646 => k_handed); k_whole))
  k_with "exec For Name Name cons nil" => refine halt ?_
  k_with "my src" => first | exact fun _ h => h | with_reducible assumption | (refine sub_t ?_; lcg_src) | (refine sub_l ?_; lcg_src) | (refine sub_r ?_; lcg_src)
  k_with "my sub" => first | exact sub_n | (refine sub_c ?_ ?_; k_mem; lcg_sub) | (refine sub_a ?_ ?_; lcg_sub; lcg_sub) | lcg_src
  k_with "my all" => first | assumption | (refine List.forall_mem_append.mpr ⟨?_, ?_⟩ <;> k_all)
  k_with "my mem" => first | with_reducible assumption | exact List.Mem.head _ | (refine List.mem_cons_of_mem _ ?_; k_mem) | (refine List.mem_append_left _ ?_; k_mem) | (refine List.mem_append_right _ ?_; k_mem)
  k_with "tell sides" => ((case k1 => k_asm); (case k2 => k_asm); (case k3 => k_asm); (case k4 => k_asm); (case k5 => k_asm); (try (case sub => lcg_sub)); (try (case hm => first | exact mu_nil | assumption | (refine mu_one ?_; k_all))); (case kk => first | exact rfl | assumption); (case kd => ktr_room); (case ku => ktr_units))
  k_with "enter" => (k_dflt (refine' code_def ?k1w653 ?k2w653 ?k3w653 ?k4w653 ?k5w653 ?kAw653 ?kFw653 ?kKw653 ?k6w653 ?k7w653 ?k8w653 ?k9w653 ?kBw653 ?_ ?c2w653 ?c3w653 ?c4w653 ?c5w653; (case kAw653 => exact rfl); (case kFw653 => exact rfl); (case kKw653 => assumption); (case k1w653 => k_asm); (case k2w653 => k_asm); (case k3w653 => k_asm); (case k4w653 => k_asm); (case k5w653 => k_asm); (case k6w653 => k_is); (case k7w653 => k_is); (case k8w653 => ktr_room); (case k9w653 => exact BindsTo.of_eq rfl); (case c5w653 => decide); (case kBw653 => exact locs rfl); (case c2w653 => exact rfl); (case c3w653 => exact rfl); (case c4w653 => exact rfl); k_whole))
  k_with "enter cells" => (k_dflt (refine' code_defC ?k1w654 ?k2w654 ?k3w654 ?k4w654 ?k5w654 ?kAw654 ?kFw654 ?kKw654 ?k6w654 ?k7w654 ?k8w654 ?k9w654 ?kBw654 ?kDw654 ?_ ?c2w654 ?c3w654 ?c4w654; (case kAw654 => exact rfl); (case kFw654 => exact rfl); (case kKw654 => assumption); (case k1w654 => k_asm); (case k2w654 => k_asm); (case k3w654 => k_asm); (case k4w654 => k_asm); (case k5w654 => k_asm); (case k6w654 => k_is); (case k7w654 => k_is); (case k8w654 => ktr_room); (case k9w654 => exact BindsTo.of_eq rfl); (case kBw654 => exact rfl); (case kDw654 => decide +kernel); (case c2w654 => exact rfl); (case c3w654 => exact rfl); (case c4w654 => exact rfl); k_whole))
  k_with "enter own" => (refine' code_def ?k1w655 ?k2w655 ?k3w655 ?k4w655 ?k5w655 ?kAw655 ?kFw655 ?kKw655 ?k6w655 ?k7w655 ?k8w655 ?k9w655 ?kBw655 ?_ ?c2w655 ?c3w655 ?c4w655 ?c5w655; (case kAw655 => exact rfl); (case kFw655 => exact rfl); (case kKw655 => exact rfl); (case k1w655 => k_asm); (case k2w655 => k_asm); (case k3w655 => k_asm); (case k4w655 => k_asm); (case k5w655 => k_asm); (case k6w655 => k_is); (case k7w655 => k_is); (case k8w655 => ktr_room); (case k9w655 => first | exact BindsTo.of_eq rfl | exact binds_K (by k_in) rfl (by k_is) rfl rfl rfl | fail "k_enter: no rule for these arguments"); (case c5w655 => decide); (case kBw655 => exact locs rfl); (case c2w655 => exact rfl); (case c3w655 => exact rfl); (case c4w655 => exact rfl); k_whole; intro g' L' h' FG' F' N' B' X' T'; (try dsimp only); (try k_lift B'); (try k_fold))
  k_with "call ref" => (k_here; k_dflt (first
    | (refine' call_cls ?k1w656 ?k2w656 ?k3w656 ?k4w656 ?k5w656 ?k6w656 ?_; (case k1w656 => k_asm); (case k2w656 => k_asm); (case k3w656 => k_asm); (case k4w656 => k_is); (case k5w656 => k_is); (case k6w656 => k_is); k_whole; intro x' d' h' F' N' l1 l2; (try k_lt l1); (try k_lt2 l2); (try k_sweep); walk_at "enter own")
    | (refine wpAny_call ?_; walk_at "enter own")))
  k_with "subscriptTail" => (k_here; (with_reducible show wpAny _ _ (subscriptTail _ _ (Value.ref _) (Value.int 0 _)) _ _ _); k_dflt (refine' led_tup0 ?k1w657 ?k2w657 ?k3w657 ?_; (case k1w657 => k_asm); (case k2w657 => k_mem); (case k3w657 => (first | assumption | omega)); k_whole))
  k_with "subscriptTail Name Slice ref ref" => (k_here; (with_reducible show wpAny _ _ (subscriptTail _ (PySem.Expr.Slice _ _ none _) (Value.ref _) (Value.ref _)) _ _ _); k_dflt (refine' led_tupTail ?k1w658 ?k2w658 ?k3w658 ?k4w658 ?_; (case k1w658 => k_asm); (case k2w658 => k_asm); (case k3w658 => k_mem); (case k4w658 => (first | assumption | omega)); k_whole); intro D' h' F' N' l1; (try k_lt l1); (try k_sweep))
  k_with "call ref" => ((with_reducible first | show wpAny _ _ (call (Value.ref 191) _) _ _ _ | show wpAny _ _ (call (Value.ref 198) _) _ _ _ | show wpAny _ _ (call (Value.ref 205) _) _ _ _ | show wpAny _ _ (call (Value.ref 224) _) _ _ _ | show wpAny _ _ (call (Value.ref 229) _) _ _ _ | show wpAny _ _ (call (Value.ref 243) _) _ _ _ | show wpAny _ _ (call (Value.ref 257) _) _ _ _ | show wpAny _ _ (call (Value.ref 264) _) _ _ _ | show wpAny _ _ (call (Value.ref 276) _) _ _ _ | show wpAny _ _ (call (Value.ref 283) _) _ _ _ | show wpAny _ _ (call (Value.ref 290) _) _ _ _ | show wpAny _ _ (call (Value.ref 295) _) _ _ _ | show wpAny _ _ (call (Value.ref 302) _) _ _ _ | show wpAny _ _ (call (Value.ref 309) _) _ _ _); refine halt ?_)
  k_with "eval ListComp" => refine halt ?_
  k_with "exec Assign cons ListComp" => refine halt ?_
  k_with "exec For" => refine halt ?_
  k_with "exec While" => refine halt ?_
  k_with "call type:tuple" => ((with_reducible show wpAny _ _ (call (Value.type "tuple") [Value.ref _]) _ _ _); refine halt ?_)
  k_with "binaryOp Add ref ref" => ((with_reducible show wpAny _ _ (binaryOp Operator.Add (Value.ref _) (Value.ref _)) _ _ _); refine halt ?_)
  k_with "my tabat" => first | assumption | exact ab0 (by assumption) | exact ab1 (by assumption) | (refine ab_trans (by assumption) ?_; k_tabat)
  k_with "my updF" => first | exact Fresh.nil | assumption | (refine Fresh.allLt ?_ ?_; k_tabat; k_updF) | (refine Fresh.append ?_ ?_; k_updF; k_updF)
  k_with "getMethod ref" => (k_here; (with_reducible show wpAny _ _ (getMethod (Value.ref _) (Str.ofString "get") _) _ _ _); k_dflt (refine kdg_method (knd := PySem.strKind _ _) (by k_asm) (by k_mem) (by assumption) ?_))
  k_with "call builtin:dict.get" => (k_here; k_dflt (refine kdg_get2 (knd := PySem.strKind _ _) (by k_asm) (by k_mem) (by assumption) (by assumption) (strKind_is _ _ _ _) _ rfl ?_))
  k_with "compareOp NotEq ref ref" => (k_here; k_dflt (first | (refine' led_ne_nil ?k1w670 ?k2w670 ?k3w670 ?k4w670 ?_; (case k1w670 => k_asm); (case k2w670 => k_mem); (case k3w670 => k_mem); (case k4w670 => ke_room)) | (refine' led_ne_snoc ?k1w670 ?k2w670 ?k3w670 ?k4w670 ?_; (case k1w670 => k_asm); (case k2w670 => k_mem); (case k3w670 => k_mem); (case k4w670 => ke_room))))
  k_with "compareOp Eq ref ref" => (k_here; k_dflt (first | (refine' led_eq_nil ?k1w671 ?k2w671 ?k3w671 ?k4w671 ?_; (case k1w671 => k_asm); (case k2w671 => k_mem); (case k3w671 => k_mem); (case k4w671 => ke_room)) | (refine' led_eq_cons ?k1w671 ?k2w671 ?k3w671 ?k4w671 ?_; (case k1w671 => k_asm); (case k2w671 => k_mem); (case k3w671 => k_mem); (case k4w671 => ke_room))))
  trivial
noncomputable def T1 : Str → Option Def := fun h => if h = Str.ofString "S" then some ⟨[Str.ofString "x", Str.ofString "y"], Str.ofString "->", [.leaf (Str.ofString "x"), .app (.leaf (Str.ofString "[]")) (.leaf (Str.ofString "y"))]⟩ else none
theorem T1_some {h : Str} {d : Def} (e : T1 h = some d) : h = Str.ofString "S" ∧ d = ⟨[Str.ofString "x", Str.ofString "y"], Str.ofString "->", [.leaf (Str.ofString "x"), .app (.leaf (Str.ofString "[]")) (.leaf (Str.ofString "y"))]⟩ := by
  unfold T1 at e
  split at e
  · rename_i hh; cases e; exact ⟨hh, rfl⟩
  · cases e
theorem T1_ok : TOk T1 (fun _ => 0) 3 := by
  have hS : ∀ x : Str, x ≠ Str.ofString "S" → T1 x = none := fun x hx => by unfold T1; rw [if_neg hx]
  refine ⟨?_, ?_, ?_, ?_, ?_, ?_, ?_, ?_, ?_⟩ <;> intro h d e <;> obtain ⟨rfl, rfl⟩ := T1_some e
  · decide
  · decide
  · decide
  · decide
  · decide
  · intro p hp
    simp only [List.mem_cons, List.not_mem_nil, or_false] at hp
    rcases hp with rfl | rfl
    · exact ⟨by decide, .inl (by simp [plain, hS (Str.ofString "x") (by decide)])⟩
    · exact ⟨by decide, .inl (by simp [plain, hS (Str.ofString "[]") (by decide), hS (Str.ofString "y") (by decide)])⟩
  · decide
  · decide
  · have hU : ∀ x : Str, x ≠ Str.ofString "S" → Under T1 (fun _ => 0) 0 x := fun x hx d e => absurd (T1_some e).1 hx
    exact ⟨by simp [Ty.on, Ty.nar, Ty.wid], ⟨⟨hU _ (by decide), hU _ (by decide)⟩, hU _ (by decide), hU _ (by decide)⟩, by decide⟩
end

section
/- part C_cut -/
theorem kw_C_cut_s_0 : True := by
  w_top off
  k_with_none
  k_with "my path" => first | with_reducible exact And.left | with_reducible exact And.right | (refine path_r ?_; k_extra "my path")
  k_with "my ne" => ((try dsimp only); first | (refine' Nat.ne_of_gt (lt_pick ?neA ?neB); (case neA => with_reducible assumption); (case neB => k_extra "my path")) | (refine' Nat.ne_of_lt (lt_pick ?neA ?neB); (case neA => with_reducible assumption); (case neB => k_extra "my path")) | exact Nat.ne_of_gt (by with_reducible assumption) | exact Nat.ne_of_lt (by with_reducible assumption) | fail)
  k_with "my om" => first | exact Nat.le_of_ble_eq_true rfl | with_reducible assumption | lia
  k_with "my src" => first | exact fun _ h => h | with_reducible assumption | (refine sub_t ?_; lcg_src) | (refine sub_l ?_; lcg_src) | (refine sub_r ?_; lcg_src)
  k_with "my sub" => first | exact sub_n | (refine sub_c ?_ ?_; k_mem; lcg_sub) | (refine sub_a ?_ ?_; lcg_sub; lcg_sub) | lcg_src
  k_with "my all" => first | assumption | (refine List.forall_mem_append.mpr ⟨?_, ?_⟩ <;> k_all)
  k_with "my mem" => first | with_reducible assumption | exact List.Mem.head _ | (refine List.mem_cons_of_mem _ ?_; k_mem) | (refine List.mem_append_left _ ?_; k_mem) | (refine List.mem_append_right _ ?_; k_mem)
  k_with "tell sides" => ((case k1 => k_asm); (case k2 => k_asm); (case k3 => k_asm); (case k4 => k_asm); (case k5 => k_asm); (try (case sub => lcg_sub)); (try (case hm => first | exact mu_nil | assumption | (refine mu_one ?_; k_all))); (case kk => first | exact rfl | assumption); (case kd => ktr_room); (case ku => ktr_units))
  k_with "call ref" => ((with_reducible first | show wpAny _ _ (call (Value.ref 191) _) _ _ _ | show wpAny _ _ (call (Value.ref 198) _) _ _ _ | show wpAny _ _ (call (Value.ref 205) _) _ _ _ | show wpAny _ _ (call (Value.ref 224) _) _ _ _ | show wpAny _ _ (call (Value.ref 229) _) _ _ _ | show wpAny _ _ (call (Value.ref 243) _) _ _ _ | show wpAny _ _ (call (Value.ref 257) _) _ _ _ | show wpAny _ _ (call (Value.ref 264) _) _ _ _ | show wpAny _ _ (call (Value.ref 276) _) _ _ _ | show wpAny _ _ (call (Value.ref 283) _) _ _ _ | show wpAny _ _ (call (Value.ref 290) _) _ _ _ | show wpAny _ _ (call (Value.ref 295) _) _ _ _ | show wpAny _ _ (call (Value.ref 302) _) _ _ _ | show wpAny _ _ (call (Value.ref 309) _) _ _ _); refine halt ?_)
  trivial
noncomputable def Cut (a : Addr) (news fr : List (Addr × Obj)) : Prop := ∀ p ∈ fr, p ∈ news ∧ p.1 ≠ a
theorem cut_nil {a : Addr} {news : List (Addr × Obj)} : Cut a news [] := fun _ h => nomatch h
theorem cut_keep {a : Addr} {p : Addr × Obj} {r fr : List (Addr × Obj)} (h : p.1 ≠ a) (c : Cut a r fr) : Cut a (p :: r) (p :: fr) := fun q hq => by
  rcases List.mem_cons.mp hq with rfl | hq
  · exact ⟨List.mem_cons_self .., h⟩
  · exact ⟨List.mem_cons_of_mem _ (c q hq).1, (c q hq).2⟩
theorem cut_drop {a : Addr} {p : Addr × Obj} {r fr : List (Addr × Obj)} (c : Cut a r fr) : Cut a (p :: r) fr := fun q hq => ⟨List.mem_cons_of_mem _ (c q hq).1, (c q hq).2⟩
theorem cut_app {a : Addr} {l r fr : List (Addr × Obj)} (h : ∀ p ∈ l, p.1 ≠ a) (c : Cut a r fr) : Cut a (l ++ r) (l ++ fr) := fun q hq => by
  rcases List.mem_append.mp hq with hq | hq
  · exact ⟨List.mem_append_left _ hq, h q hq⟩
  · exact ⟨List.mem_append_right _ (c q hq).1, (c q hq).2⟩
theorem cut_left {a : Addr} {l r : List (Addr × Obj)} (h : ∀ p ∈ l, p.1 ≠ a) : Cut a (l ++ r) l := fun q hq => ⟨List.mem_append_left _ hq, h q hq⟩
theorem cut_all {a : Addr} {l : List (Addr × Obj)} (h : ∀ p ∈ l, p.1 ≠ a) : Cut a l l := fun q hq => ⟨hq, h q hq⟩
theorem unr_end {h₀ : Heap} {L I : Addr} {o : Obj} {rest : (Str → Option Value) → List (Addr × Obj) → Prop} {s₁ : Shared} {h' : Heap} {tk : Nat} {m' : Str → Option Value} {all fr : List (Addr × Obj)} (F : Fr h₀ L h' m') (N : News h₀ L h' all)
    (hI : (I, o) ∈ all) (c : Cut I all fr) (r : rest m' fr) : UnrEndW h₀ L s₁ [(I, o)] rest { s₁ with heap := h', toks := tk } :=
  ⟨h', tk, m', fr, rfl, F, fun p hp => (List.mem_cons.mp hp).elim (fun e => e ▸ N _ hI) fun hp => N p (c p hp).1, fun p hp q hq => List.mem_singleton.mp hq ▸ (c p hp).2, r⟩
theorem tell_use_cut {w : World} {mean : ExcName → Option Value} {mg mb : Str → Option Value} {f : Addr} {vs : List Value} {sz : Nat} {tr : Addr} {news fr led keep : List (Addr × Obj)} {Post : Value → List (Addr × Obj) → List (Addr × Obj) → Prop}
    {dp un : Nat} {gd : Option (List Code)} {cn : Str} {cs : Scope} {a : Addr} {ccd : Value} {cl : List (Str × Addr)} {outer : List Env} {A₀ : Around} {base h₀ : Heap} {L : Addr} {m : Str → Option Value} {s : Shared}
    {Q E : Value → Shared → Prop}
    (C : Tell w mean mg mb f vs sz [tr] led Post False keep) (B : Below A₀ base outer h₀) (F : Fr h₀ L s.heap m) (X : (hdHeap w.params).In h₀) (N : News h₀ L s.heap news) (sub : ∀ p ∈ led, p ∈ news) (hm : Cut tr news fr)
    (T : Top hdView (looseW hdView [Str.ofString "LazyError", Str.ofString "TyVar", Str.ofString "TyCon", Str.ofString "TyApp"]) mean mg mb h₀)
    (hk : cs.kind = .function) (hd : dp + sz < recursionLimit) (hu : un + 8 * sz < cLine)
    (ret : ∀ r tl led' h' tk', Fr h₀ L h' m → News h₀ L h' (fr ++ (tl ++ led')) → Fresh (fr ++ led) tl → Post r tl led' → Q r { s with heap := h', toks := tk' }) :
    wpAny (model PySem.Challenge.rw_xw0149_01.row.prog w) (ktrTop dp un gd cn cs L a ccd cl outer) (call (.ref f) vs) Q E s :=
  tell_use fr C B F X N (fun p hp => (List.mem_append.mp hp).elim (fun q => (hm p q).1) (sub p)) (fun p hp hx => (hm p hp).2 (List.mem_singleton.mp hx)) T hk hd hu ret (fun h => h.elim)
end

section
/- part C_lawG -/
theorem kw_C_lawG_s_0 : True := by
  w_top off
  k_with_none
  k_with "my path" => first | with_reducible exact And.left | with_reducible exact And.right | (refine path_r ?_; k_extra "my path")
  k_with "my ne" => ((try dsimp only); first | (refine' Nat.ne_of_gt (lt_pick ?neA ?neB); (case neA => with_reducible assumption); (case neB => k_extra "my path")) | (refine' Nat.ne_of_lt (lt_pick ?neA ?neB); (case neA => with_reducible assumption); (case neB => k_extra "my path")) | exact Nat.ne_of_gt (by with_reducible assumption) | exact Nat.ne_of_lt (by with_reducible assumption) | fail)
  k_with "eval Name" => (k_here; k_dflt (first | (refine' nameX_L ?Fw678 ?vw678 ?_ ?aw678 ?bw678; (case Fw678 => k_asm); (case aw678 => rfl); (case bw678 => rfl); (case vw678 => rfl); k_whole) | (refine' nameX_C ?Nw678 ?cw678 ?mw678 ?dw678 ?_ ?aw678 ?bw678; (case aw678 => rfl); (case bw678 => rfl); (case Nw678 => k_asm); (case cw678 => rfl); (case mw678 => k_mem); (case dw678 => k_asm); k_whole) | (refine' nameX_K ?Fw678 ?Xw678 ?Tw678 ?ew678 ?_ ?aw678 ?bw678; (case Fw678 => k_asm); (case Xw678 => k_asm); (case Tw678 => k_asm); (case aw678 => rfl); (case bw678 => rfl); (case ew678 => k_is); k_whole) | (refine' nameX_B ?Fw678 ?Xw678 ?Tw678 ?ew678 ?vw678 ?nw678 ?_ ?aw678 ?bw678; (case Fw678 => k_asm); (case Xw678 => k_asm); (case Tw678 => k_asm); (case aw678 => rfl); (case bw678 => rfl); (case ew678 => k_is); (case vw678 => boot_fast); (case nw678 => decide); k_whole)))
  k_with "call builtin:isinstance" => (k_here; (with_reducible show wpAny _ _ (call _ [Value.ref _, Value.ref _]) _ _ _); k_dflt (first | (refine' isi_call ?k1w679 ?k2w679 ?k3w679 ?k4w679 ?_; (case k1w679 => k_in); (case k2w679 => k_types); (case k3w679 => k_is); (case k4w679 => intro e; cases e); k_whole) | (refine' kin_callC ?k1w679 ?k2w679 ?k3w679 ?k4w679 ?k5w679 ?k6w679 ?k7w679 ?k8w679 ?k9w679 ?_; (case k1w679 => k_in); (case k2w679 => k_inst); (case k3w679 => kin_no); (case k4w679 => k_is); (case k5w679 => k_is); (case k6w679 => k_is); (case k7w679 => k_is); (case k8w679 => k_is); (case k9w679 => k_is); k_whole)))
  k_with "getAttr ref" => (k_here; k_dflt (refine' get_own ?k1w680 ?k2w680 ?k3w680 ?k4w680 ?k5w680 ?k6w680 ?k7w680 ?k8w680 ?k9w680 ?_; (case k1w680 => k_asm); (case k2w680 => k_asm); (case k3w680 => k_inst); (case k4w680 => k_is); (case k5w680 => k_is); (case k6w680 => k_is); (case k7w680 => k_is); (case k8w680 => k_get); (case k9w680 => k_handed); k_whole))
  k_with "exec For Name Name cons nil" => refine halt ?_
  k_with "my src" => first | exact fun _ h => h | with_reducible assumption | (refine sub_t ?_; lcg_src) | (refine sub_l ?_; lcg_src) | (refine sub_r ?_; lcg_src)
  k_with "my sub" => first | exact sub_n | (refine sub_c ?_ ?_; k_mem; lcg_sub) | (refine sub_a ?_ ?_; lcg_sub; lcg_sub) | lcg_src
  k_with "my all" => first | assumption | (refine List.forall_mem_append.mpr ⟨?_, ?_⟩ <;> k_all)
  k_with "my mem" => first | with_reducible assumption | exact List.Mem.head _ | (refine List.mem_cons_of_mem _ ?_; k_mem) | (refine List.mem_append_left _ ?_; k_mem) | (refine List.mem_append_right _ ?_; k_mem)
  k_with "tell sides" => ((case k1 => k_asm); (case k2 => k_asm); (case k3 => k_asm); (case k4 => k_asm); (case k5 => k_asm); (try (case sub => lcg_sub)); (try (case hm => first | exact mu_nil | assumption | (refine mu_one ?_; k_all))); (case kk => first | exact rfl | assumption); (case kd => ktr_room); (case ku => ktr_units))
  k_with "call ref" => ((with_reducible first | show wpAny _ _ (call (Value.ref 191) _) _ _ _ | show wpAny _ _ (call (Value.ref 198) _) _ _ _ | show wpAny _ _ (call (Value.ref 205) _) _ _ _ | show wpAny _ _ (call (Value.ref 224) _) _ _ _ | show wpAny _ _ (call (Value.ref 229) _) _ _ _ | show wpAny _ _ (call (Value.ref 243) _) _ _ _ | show wpAny _ _ (call (Value.ref 257) _) _ _ _ | show wpAny _ _ (call (Value.ref 264) _) _ _ _ | show wpAny _ _ (call (Value.ref 276) _) _ _ _ | show wpAny _ _ (call (Value.ref 283) _) _ _ _ | show wpAny _ _ (call (Value.ref 290) _) _ _ _ | show wpAny _ _ (call (Value.ref 295) _) _ _ _ | show wpAny _ _ (call (Value.ref 302) _) _ _ _ | show wpAny _ _ (call (Value.ref 309) _) _ _ _); refine halt ?_)
  trivial
theorem tell0_use {w : World} {mean : ExcName → Option Value} {mg mb : Str → Option Value} {f : Addr} {vs : List Value} {sz : Nat} {news led : List (Addr × Obj)} {Post : Value → List (Addr × Obj) → List (Addr × Obj) → Prop}
    {dp un : Nat} {gd : Option (List Code)} {cn : Str} {cs : Scope} {a : Addr} {ccd : Value} {A₀ : Around} {base h₀ : Heap} {L : Addr} {m : Str → Option Value} {s : Shared}
    {Q E : Value → Shared → Prop} (fr : List (Addr × Obj))
    (C : Tell0 w mean mg mb f vs sz led Post) (B : Below A₀ base [] h₀) (F : Fr h₀ L s.heap m) (X : (hdHeap w.params).In h₀) (N : News h₀ L s.heap news) (sub : ∀ p ∈ fr ++ led, p ∈ news)
    (T : Top hdView (looseW hdView [Str.ofString "LazyError", Str.ofString "TyVar", Str.ofString "TyCon", Str.ofString "TyApp"]) mean mg mb h₀)
    (hk : cs.kind = .function) (hd : dp + sz < recursionLimit) (hu : un + 8 * sz < cLine)
    (ret : ∀ r tl led' h' tk', Fr h₀ L h' m → News h₀ L h' (fr ++ (tl ++ led')) → Fresh (fr ++ led) tl → Post r tl led' → Q r { s with heap := h', toks := tk' }) :
    wpAny (model PySem.Challenge.rw_xw0149_01.row.prog w) (ktrTop dp un gd cn cs L a ccd [] []) (call (.ref f) vs) Q E s :=
  C _ _ _ _ _ _ _ _ _ _ _ _ _ fr _ _ B F X (fun p hp => N p (sub p hp)) T hk hd hu ret

noncomputable def GoOn2 : Prop := True
theorem kw_C_lawG_0 : True := by
  k_with "call ref" => ((fail_if_success (have : GoOn2 := by assumption)); (with_reducible first | show wpAny _ _ (call (Value.ref 250) _) _ _ _); refine halt ?_)
  trivial
theorem app2 {news : List (Addr × Obj)} {a : Addr} {h : Str} {k : Tok} {vs : List Value} {n : Nat} {as : List Ty} (hm : (a, tupOf (.str h k :: vs) n) ∈ news) (hne : as ≠ []) (hv : TyVs news vs as) : TyV news (.ref a) ((Ty.leaf h).on as) := .app hm hne hv.1 hv.2 rfl
theorem trunk_mono {M : Model} {A : Around} {E : Value → Shared → Prop} {t : Sem Value} {s : Shared} {g : Heap} {L : Addr} {m : Str → Option Value} {Q : Value → Shared → Prop} (F : Fr g L s.heap m)
    (h1 : wpAny M A t (fun r s' => ∃ tr o h' tk', r = .ref tr ∧ TrunkOk o ∧ s' = { s with heap := h', toks := tk' } ∧ Fr g L h' m ∧ News g L h' [(tr, o)]) E s)
    (h2 : ∀ tr o h' tk', TrunkOk o → Fr g L h' m → News g L h' [(tr, o)] → Q (.ref tr) { s with heap := h', toks := tk' }) : wpAny M A t Q E s :=
  wpAny_mono h1 (fun r s' h => by obtain ⟨tr, o, h', tk', rfl, ho, rfl, F', N'⟩ := h; exact h2 tr o h' tk' ho F' N') fun _ _ e => e
theorem tell_use_last {w : World} {mean : ExcName → Option Value} {mg mb : Str → Option Value} {f : Addr} {vs : List Value} {sz : Nat} {mu : List Addr} {news led keep : List (Addr × Obj)} {Post : Value → List (Addr × Obj) → List (Addr × Obj) → Prop}
    {dp un : Nat} {gd : Option (List Code)} {cn : Str} {cs : Scope} {a : Addr} {ccd : Value} {cl : List (Str × Addr)} {outer : List Env} {A₀ : Around} {base h₀ : Heap} {L : Addr} {m : Str → Option Value} {s : Shared}
    {Q E : Value → Shared → Prop}
    (C : Tell w mean mg mb f vs sz mu led Post False keep) (B : Below A₀ base outer h₀) (F : Fr h₀ L s.heap m) (X : (hdHeap w.params).In h₀) (N : News h₀ L s.heap news) (sub : ∀ p ∈ led, p ∈ news) (hm : ∀ p ∈ news.dropLast, p.1 ∉ mu)
    (T : Top hdView (looseW hdView [Str.ofString "LazyError", Str.ofString "TyVar", Str.ofString "TyCon", Str.ofString "TyApp"]) mean mg mb h₀)
    (hk : cs.kind = .function) (hd : dp + sz < recursionLimit) (hu : un + 8 * sz < cLine)
    (ret : ∀ r tl led' h' tk', Fr h₀ L h' m → News h₀ L h' (news.dropLast ++ (tl ++ led')) → Fresh (news.dropLast ++ led) tl → Post r tl led' → Q r { s with heap := h', toks := tk' }) :
    wpAny (model PySem.Challenge.rw_xw0149_01.row.prog w) (ktrTop dp un gd cn cs L a ccd cl outer) (call (.ref f) vs) Q E s :=
  tell_use news.dropLast C B F X N (fun p hp => (List.mem_append.mp hp).elim (fun q => (List.dropLast_sublist _).subset q) (sub p)) hm T hk hd hu ret (fun h => h.elim)
theorem off_n {a : Addr} : ∀ p ∈ ([] : List (Addr × Obj)), p.1 ≠ a := fun _ h => nomatch h
theorem kw_C_lawG_1 : True := by
  k_with "my tailoff" => first | exact off_n | assumption | (refine off_c ?_ ?_; k_ne; walk_at "my tailoff") | (refine off_a ?_ ?_; walk_at "my tailoff"; walk_at "my tailoff")
  k_with "my updf" => first | (refine' UpdF.head ?aw690; (case aw690 => walk_at "my tailoff")) | (refine' UpdF.tail ?aw690 ?bw690; (case aw690 => k_ne); (case bw690 => walk_at "my updf"))
  k_with "my apart" => repeat' (first | exact (fun p hp => nomatch hp) | (refine off_c ?_ ?_; k_ne))
  k_with "my names" => (refine ⟨Nat.le_of_ble_eq_true rfl, Nat.le_of_ble_eq_true rfl, fun v hv => ?_⟩; simp only [List.mem_cons, List.not_mem_nil, or_false] at hv; rcases hv with rfl | rfl | rfl | rfl <;> exact ⟨_, _, rfl, by simp⟩)
  trivial
theorem va_one {k h : Str} {x v : Value} (e : valueAt [(k, x)] h = some v) : h = k ∧ v = x := by
  rw [valueAt_cons] at e
  by_cases hh : h = k
  · rw [if_pos hh] at e; cases e; exact ⟨hh, rfl⟩
  · rw [if_neg hh] at e; simp [valueAt] at e
theorem T1_none {h : Str} {x : Value} (e : valueAt [(Str.ofString "S", x)] h = none) : T1 h = none := by
  rw [valueAt_cons] at e
  by_cases hh : h = Str.ofString "S"
  · rw [if_pos hh] at e; cases e
  · unfold T1; rw [if_neg hh]
theorem T1_S : T1 (Str.ofString "S") = some ⟨[Str.ofString "x", Str.ofString "y"], Str.ofString "->", [.leaf (Str.ofString "x"), .app (.leaf (Str.ofString "[]")) (.leaf (Str.ofString "y"))]⟩ := by unfold T1; rw [if_pos rfl]
theorem under1 (x : Str) : Under T1 (fun _ => 0) 1 x := fun _ _ => Nat.zero_lt_one
theorem told1 {news : List (Addr × Obj)} {D1 D2 D3 l1 : Addr} {n1 n2 n3 nl : Nat} {t1 t2 t3 t4 t5 t6 : Tok} (h1 : (D1, tupOf [.ref l1, .ref D2] n1) ∈ news) (h2 : (D2, tupOf [.str (Str.ofString "->") t1, .str (Str.ofString "x") t2, .ref D3] n2) ∈ news)
    (h3 : (D3, tupOf [.str (Str.ofString "[]") t3, .str (Str.ofString "y") t4] n3) ∈ news) (hl : (l1, listOf #[.str (Str.ofString "x") t5, .str (Str.ofString "y") t6] nl) ∈ news) :
    ∀ h v, valueAt [(Str.ofString "S", .ref D1)] h = some v → ∃ (df : Def) (tu pl : Addr) (pvs : List (Str × Tok)) (bv : Value) (n k : Nat), T1 h = some df ∧ v = .ref tu ∧ (tu, tupOf [.ref pl, bv] n) ∈ news ∧ (pl, listOf (pvs.map fun p : Str × Tok => Value.str p.1 p.2).toArray k) ∈ news ∧ pvs.map (·.1) = df.ps ∧ TyV news bv ((Ty.leaf df.bh).on df.parts) := fun h v e => by
  obtain ⟨rfl, rfl⟩ := va_one e
  refine ⟨_, D1, l1, [(Str.ofString "x", t5), (Str.ofString "y", t6)], .ref D2, n1, nl, T1_S, rfl, h1, hl, rfl, app2 h2 (by simp) (.cons .leaf (.cons ?_ .nil))⟩
  exact app2 (as := [.leaf (Str.ofString "y")]) h3 (by simp) (.cons .leaf .nil)
theorem kw_C_lawG_2 : True := by
  k_with "newTuple" => (k_here; k_dflt (refine' kup_newTuple ?Fw693 ?Nw693 ?_ ?zw693; (case Fw693 => k_asm); (case Nw693 => k_asm); (case zw693 => kmk_size)); intro _ _ _ _ l1; (try k_lt l1); (try (revert l1; intro _)); (try k_sweep))
  k_with "call type:list" => (k_here; (with_reducible show wpAny _ _ (call (Value.type "list") [Value.ref _]) _ _ _); k_dflt (refine' kdl_list_keysS ?hhw694 ?Fw694 ?Nw694 ?pw694 ?dw694 ?low694 ?nw694 ?_; (case hhw694 => rfl); (case Fw694 => k_asm); (case Nw694 => k_asm); (case pw694 => k_mem); (case dw694 => assumption); (case low694 => assumption); (case nw694 => exact Nat.le_of_ble_eq_true rfl)); intro _ _ _ _; kdl_open)
  k_with "my names5" => (refine ⟨Nat.le_of_ble_eq_true rfl, Nat.le_of_ble_eq_true rfl, fun v hv => ?_⟩; simp only [List.mem_cons, List.not_mem_nil, or_false] at hv; rcases hv with rfl | rfl | rfl | rfl | rfl <;> exact ⟨_, _, rfl, by simp⟩)
  k_with "my names6" => (refine ⟨Nat.le_of_ble_eq_true rfl, Nat.le_of_ble_eq_true rfl, fun v hv => ?_⟩; simp only [List.mem_cons, List.not_mem_nil, or_false] at hv; rcases hv with rfl | rfl | rfl | rfl | rfl | rfl <;> exact ⟨_, _, rfl, by simp⟩)
  k_with "exec For Tuple Call cons nil" => refine halt ?_
  k_with "call builtin:len" => (k_here; (with_reducible show wpAny _ _ (call (Value.builtin _) [Value.ref _]) _ _ _); (with_unfolding_all refine' len_ints_fit ?k1w698 ?k2w698 ?k3w698 ?_; (case k1w698 => is_list); (case k2w698 => l_ints); (case k3w698 => l_fit); k_whole); (try simp only [List.length_append, List.length_cons, List.length_nil, Nat.zero_add]))
  trivial
set_option maxRecDepth 100000 in
set_option maxHeartbeats 8000000 in
theorem lawT : PySem.Challenge.rw_xw0149_01.Holds := by
 refine holds_law (by decide +kernel) fun said => ?_
 refine holds_open (q := hdView) (loose := kL) (Xt := fun s => xlAt hdView [] s && recOk (RowW.records PySem.Challenge.rw_xw0149_01.row.toRowW) s) (XP := XL hdView []) (Yf := Hook.obs kH) (Ya := Hook.val kH) (YP := Hook.says kH) (N := 5276) kLeft (Hook.of kH) (Hook.keeps kH) (fun s e => xl_of s (Bool.and_eq_true_iff.mp e).1) XL.keeps (by rfl) (by rfl) (by rfl) (fun s e => recFacts_of (Bool.and_eq_true_iff.mp e).2) (by rfl) (by first | assumption | decide +kernel) (by decide +kernel) ⟨rfl, rfl, rfl, rfl, rfl, by decide +kernel⟩ ?hw ?hc
 case hw => w_witness2
 case hc =>
  clear said
  unfold kH kAs
  k_fill
  k_go0
  k_steps
  refine unhalt ?_
  rename_i d1 _ _ lo1 _ _ l1 _ _ D3 _ _ D2 _ _ D1 _ _ _ o1 hd1 _ D0 _ F1 N1 ll1
  refine' tell0_use [] (right_tells (z := 3) (r := 1) (ot := o1) (tkv := [(Str.ofString "S", .ref D1)]) (t := (Ty.leaf (Str.ofString "S")).on [.leaf (Str.ofString "y"), .leaf (Str.ofString "a")]) (nd := [(D0, _), (D1, _), (D2, _), (D3, _), (l1, _), (d1, o1)]) T1_ok (by decide) (by decide) (by k_mem) hd1 lo1 (by simp) (told1 (by k_mem) (by k_mem) (by k_mem) (by k_mem)) (fun h e => T1_none e) (by decide) (app2 (List.Mem.head _) (by simp) (.cons .leaf (.cons .leaf .nil))) (by decide) (by decide) (by simp [Ty.on, Ty.nar, Ty.wid]) ⟨⟨under1 _, under1 _⟩, under1 _⟩ (by decide) (by decide) (by decide)) ?k1 ?k2 ?k3 ?k4 ?sub ?k5 ?kk ?kd ?ku ?_
  case k2 => exact F1
  case k4 => exact N1
  (case k1 => k_asm); (case k3 => k_asm); (case k5 => k_asm); (case kk => rfl)
  case kd => decide
  case ku => decide
  case sub => exact fun _ h => h
  intro r1 tl1 led1 h1 tk1 F2 N2 hfr1 hq74
  obtain ⟨hl1, hr1⟩ := hq74
  subst hl1 hr1
  try k_fold
  k_steps
  refine unhalt ?_
  rename_i D5 _ _ D6 _ F6 N6 l6
  refine' tell0_use [] (right_tells (z := 3) (r := 1) (ot := o1) (tkv := [(Str.ofString "S", .ref D1)]) (t := (Ty.leaf (Str.ofString "[]")).on [(Ty.leaf (Str.ofString "S")).on [.leaf (Str.ofString "y")]]) (nd := [(D6, _), (D5, _), (D1, _), (D2, _), (D3, _), (l1, _), (d1, o1)]) T1_ok (by decide) (by decide) (by k_mem) hd1 lo1 (by simp) (told1 (by k_mem) (by k_mem) (by k_mem) (by k_mem)) (fun h e => T1_none e) (by decide) (app2 (List.Mem.head _) (by simp) (.cons (app2 (as := [.leaf (Str.ofString "y")]) (List.Mem.tail _ (List.Mem.head _)) (by simp) (.cons .leaf .nil)) .nil)) (by decide) (by decide) (by simp [Ty.on, Ty.nar, Ty.wid]) ⟨under1 _, under1 _, under1 _⟩ (by decide) (by decide) (by decide)) ?k1 ?k2 ?k3 ?k4 ?sub ?k5 ?kk ?kd ?ku ?_
  case k2 => exact F6
  case k4 => exact N6
  (case k1 => k_asm); (case k3 => k_asm); (case k5 => k_asm); (case kk => rfl)
  case kd => decide
  case ku => decide
  case sub => lcg_sub
  intro r2 tl2 led2 h2 tk2 F7 N7 hfr2 hq75
  obtain ⟨hl2, hr2⟩ := hq75
  subst hl2 hr2
  try k_fold
  k_steps
  refine unhalt ?_
  rename Fr _ _ _ _ => F8
  rename News _ _ _ _ => N8
  refine trunk_mono F8 ?_ ?_
  · have goOn : GoOn2 := trivial
    k_steps
    any_goals (rename News _ _ _ _ => N9; have N10 := news_sub N9 (sub_c (List.Mem.head _) sub_n : ∀ p ∈ [_], p ∈ _); exact N10)
    any_goals assumption
    all_goals (refine ⟨_, _, _, _, _, rfl, ?_, ?_, ?_⟩ <;> first | omega | exact Int.fmod_nonneg_of_pos _ (by omega) | exact Int.fmod_lt_of_pos _ (by omega))
  · intro tr o h3 tk3 ho F10 N10
    try k_fold
    k_steps
    refine unhalt ?_
    rename_i d2 _ o2 lo2 hs2 _ hi2 _ l2 DT2 _ _ _ _ _ F11 N11
    clear hi2
    k_here
    with_unfolding_all refine' For_turns F11 ?_
    k_whole
    k_steps
    refine unhalt ?_
    rename_i HE _ _ _ _ _ _ _ _ _ _ _ _ _ _ LA _ F12 N12 l12
    refine' tell_use_last (type_tells (tr := tr) (la := LA) (he := HE) (o := o) (LS := [Str.ofString "x", Str.ofString "y", Str.ofString "Int", Str.ofString "[]"]) (HS := [Str.ofString "[]", Str.ofString "->", Str.ofString "x", Str.ofString "y"]) (vL := [.str _ _, .str _ _, .str _ _, .str _ _]) (vH := [.str _ _, .str _ _, .str _ _, .str _ _]) (nL := 0) (nH := 0) ?hL ?hH ?hla ?hhe 1 ho) ?k1 ?k2 ?k3 N12 ?sub ?hm ?k5 ?kk ?kd ?ku ?_
    case k2 => exact F12
    (case k1 => k_asm); (case k3 => k_asm); (case k5 => k_asm); (case kk => rfl)
    case kd => decide
    case ku => decide
    case sub => exact sub_c (by k_mem) (sub_c (by k_mem) (sub_c (by k_mem) sub_n))
    case hla => k_ne
    case hhe => k_ne
    case hL => walk_at "my names"
    case hH => walk_at "my names"
    case hm => exact mu_one (by walk_at "my tailoff")
    intro r5 tl5 led5 h5 tk5 F13 N13 hfr5 hq76
    refine cps fun GX hGX => ?_
    obtain ⟨o5, t5, ho5, hl5, htv5, hgt5⟩ := hq76
    refine hGX ?_
    clear hGX GX
    subst hl5
    have hd5 : ∀ p ∈ tl5, p.1 ≠ d2 := hfr5.ne (a := d2) (o := o2) (by k_mem)
    dsimp only [List.dropLast, List.cons_append, List.nil_append] at N13
    try k_fold
    iterate 4 (first | (k_unfold; (try dsimp only)) | (k_end; wrow_close) | walk1 | (dsimp only; walk1) | (leave1; walk_say "STEP leave1"; try dsimp only))
    rename News _ _ _ _ => N14
    rename Fr _ _ _ _ => F14
    k_here
    k_dflt (refine' kda_set (knd := PySem.strKind _ _) F14 N14 ?U hs2 (strKind_is _ _ _ _) (Nat.zero_le _) ?_)
    case U => walk_at "my updf"
    intro h6 o6 F15 N15 hd6
    clear F14 N14
    try dsimp only at N15
    replace hd6 : o6.IsDictOf (PySem.strKind PySem.Challenge.rw_xw0149_01.row.prog _) [(Str.ofString "S", _)] := hd6
    try k_fold
    iterate 2 (first | (k_unfold; (try dsimp only)) | (k_end; wrow_close) | walk1 | (dsimp only; walk1) | (leave1; walk_say "STEP leave1"; try dsimp only))
    refine' unr_end F15 N15 ?hI ?cut ⟨⟨?km, trivial⟩, ?_⟩
    case cut => exact cut_keep (by k_ne) <| cut_drop <| cut_drop <| cut_drop <| cut_drop <| cut_drop <| cut_drop <| cut_drop <| cut_drop <| cut_drop <| cut_keep (by k_ne) <| cut_keep (by k_ne) <| cut_keep (by k_ne) <| cut_keep (by k_ne) <| cut_keep (by k_ne) <| cut_drop <| cut_keep (by k_ne) <| cut_drop <| cut_keep (by k_ne) <| cut_app (hfr5.ne (by k_mem)) <| cut_keep (by k_ne) cut_nil
    case hI => k_mem
    case km => k_mem
    clear F15 N15
    k_steps
    refine unhalt ?_
    rename_i HE2 _ _ _ _ _ _ _ _ _ _ _ _ _ _ _ LA2 _ F16 N16 l16
    refine' tell_use_cut (type_tells (tr := tr) (la := LA2) (he := HE2) (o := o5) (LS := [Str.ofString "y", Str.ofString "x", Str.ofString "Int", Str.ofString "[]", Str.ofString "S"]) (HS := [Str.ofString "[]", Str.ofString "->", Str.ofString "y", Str.ofString "x", Str.ofString "S"]) (vL := [.str _ _, .str _ _, .str _ _, .str _ _, .str _ _]) (vH := [.str _ _, .str _ _, .str _ _, .str _ _, .str _ _]) (nL := 0) (nH := 0) ?hL ?hH ?hla ?hhe 1 ho5) ?k1 ?k2 ?k3 N16 ?sub ?hm ?k5 ?kk ?kd ?ku ?_
    case k2 => exact F16
    (case k1 => k_asm); (case k3 => k_asm); (case k5 => k_asm); (case kk => rfl)
    case kd => decide
    case ku => decide
    case sub => exact sub_c (by k_mem) (sub_c (by k_mem) (sub_c (by k_mem) sub_n))
    case hla => k_ne
    case hhe => k_ne
    case hL => walk_at "my names5"
    case hH => walk_at "my names5"
    case hm => exact cut_drop <| cut_drop <| cut_drop <| cut_drop <| cut_drop <| cut_drop <| cut_drop <| cut_drop <| cut_keep (by k_ne) <| cut_keep (by k_ne) <| cut_keep (by k_ne) <| cut_keep (by k_ne) <| cut_keep (by k_ne) <| cut_drop <| cut_keep (by k_ne) <| cut_keep (by k_ne) <| cut_keep (by k_ne) <| cut_left (hfr5.ne (by k_mem))
    intro r6 tl6 led6 h7 tk7 F17 N17 hfr6 hq77
    refine cps fun GX hGX => ?_
    obtain ⟨o6', t6, ho6, hl6, htv6, hgt6⟩ := hq77
    refine hGX ?_
    clear hGX GX
    subst hl6
    have hd6' : ∀ p ∈ tl6, p.1 ≠ d2 := hfr6.ne (a := d2) (by k_mem)
    dsimp only [List.cons_append, List.nil_append] at N17
    try k_fold
    iterate 4 (first | (k_unfold; (try dsimp only)) | (k_end; wrow_close) | walk1 | (dsimp only; walk1) | (leave1; walk_say "STEP leave1"; try dsimp only))
    rename News _ _ _ _ => N18
    rename Fr _ _ _ _ => F18
    k_here
    k_dflt (refine' kda_set (knd := PySem.strKind _ _) F18 N18 ?U hd6 (strKind_is _ _ _ _) (Nat.le_of_ble_eq_true rfl) ?_)
    case U => walk_at "my updf"
    intro h8 o8 F19 N19 hd8
    clear F18 N18
    try dsimp only at N19
    replace hd8 : o8.IsDictOf (PySem.strKind PySem.Challenge.rw_xw0149_01.row.prog _) [(Str.ofString "S", _), (Str.ofString "T", _)] := hd8
    try k_fold
    iterate 2 (first | (k_unfold; (try dsimp only)) | (k_end; wrow_close) | walk1 | (dsimp only; walk1) | (leave1; walk_say "STEP leave1"; try dsimp only))
    refine' unr_end F19 N19 ?hI ?cut ⟨⟨?km, trivial⟩, ?_⟩
    case cut => exact cut_keep (by k_ne) <| cut_drop <| cut_keep (by k_ne) <| cut_keep (by k_ne) <| cut_keep (by k_ne) <| cut_keep (by k_ne) <| cut_keep (by k_ne) <| cut_keep (by k_ne) <| cut_keep (by k_ne) <| cut_app (hfr5.ne (by k_mem)) <| cut_app (hfr6.ne (by k_mem)) <| cut_keep (by k_ne) cut_nil
    case hI => k_mem
    case km => k_mem
    clear F19 N19
    k_steps
    refine unhalt ?_
    rename_i HE3 _ _ _ _ _ _ _ _ _ _ _ _ _ _ _ _ LA3 _ F20 N20 l20
    refine' tell_use_cut (type_tells (tr := tr) (la := LA3) (he := HE3) (o := o6') (LS := [Str.ofString "y", Str.ofString "Int", Str.ofString "[]", Str.ofString "S", Str.ofString "T"]) (HS := [Str.ofString "[]", Str.ofString "->", Str.ofString "y", Str.ofString "S", Str.ofString "T"]) (vL := [.str _ _, .str _ _, .str _ _, .str _ _, .str _ _]) (vH := [.str _ _, .str _ _, .str _ _, .str _ _, .str _ _]) (nL := 0) (nH := 0) ?hL ?hH ?hla ?hhe 1 ho6) ?k1 ?k2 ?k3 N20 ?sub ?hm ?k5 ?kk ?kd ?ku ?_
    case k2 => exact F20
    (case k1 => k_asm); (case k3 => k_asm); (case k5 => k_asm); (case kk => rfl)
    case kd => decide
    case ku => decide
    case sub => exact sub_c (by k_mem) (sub_c (by k_mem) (sub_c (by k_mem) sub_n))
    case hla => k_ne
    case hhe => k_ne
    case hL => walk_at "my names5"
    case hH => walk_at "my names5"
    case hm => exact cut_drop <| cut_drop <| cut_drop <| cut_drop <| cut_drop <| cut_drop <| cut_drop <| cut_drop <| cut_keep (by k_ne) <| cut_keep (by k_ne) <| cut_keep (by k_ne) <| cut_keep (by k_ne) <| cut_drop <| cut_keep (by k_ne) <| cut_keep (by k_ne) <| cut_keep (by k_ne) <| cut_keep (by k_ne) <| cut_app (hfr5.ne (by k_mem)) <| cut_left (hfr6.ne (by k_mem))
    intro r7 tl7 led7 h9 tk9 F21 N21 hfr7 hq78
    refine cps fun GX hGX => ?_
    obtain ⟨o7', t7, ho7, hl7, htv7, hgt7⟩ := hq78
    refine hGX ?_
    clear hGX GX
    subst hl7
    have hd7' : ∀ p ∈ tl7, p.1 ≠ d2 := hfr7.ne (a := d2) (by k_mem)
    simp only [List.cons_append, List.nil_append, List.append_assoc] at N21
    try k_fold
    iterate 4 (first | (k_unfold; (try dsimp only)) | (k_end; wrow_close) | walk1 | (dsimp only; walk1) | (leave1; walk_say "STEP leave1"; try dsimp only))
    rename News _ _ _ _ => N22
    rename Fr _ _ _ _ => F22
    k_here
    k_dflt (refine' kda_set (knd := PySem.strKind _ _) F22 N22 ?U hd8 (strKind_is _ _ _ _) (Nat.le_of_ble_eq_true rfl) ?_)
    case U => walk_at "my updf"
    intro h10 o10 F23 N23 hd10
    clear F22 N22
    try dsimp only at N23
    replace hd10 : o10.IsDictOf (PySem.strKind PySem.Challenge.rw_xw0149_01.row.prog _) [(Str.ofString "S", _), (Str.ofString "T", _), (Str.ofString "U", _)] := hd10
    try k_fold
    iterate 2 (first | (k_unfold; (try dsimp only)) | (k_end; wrow_close) | walk1 | (dsimp only; walk1) | (leave1; walk_say "STEP leave1"; try dsimp only))
    refine' unr_end F23 N23 ?hI ?cut ⟨⟨?km, trivial⟩, ?_⟩
    case cut => exact cut_keep (by k_ne) <| cut_drop <| cut_keep (by k_ne) <| cut_keep (by k_ne) <| cut_keep (by k_ne) <| cut_keep (by k_ne) <| cut_keep (by k_ne) <| cut_keep (by k_ne) <| cut_keep (by k_ne) <| cut_app (hfr5.ne (by k_mem)) <| cut_app (hfr6.ne (by k_mem)) <| cut_app (hfr7.ne (by k_mem)) <| cut_keep (by k_ne) cut_nil
    case hI => k_mem
    case km => k_mem
    clear F23 N23
    k_steps
    refine unhalt ?_
    rename_i LA4 _ _ HE4 _ F24 N24 l24
    refine' tell_use_cut (type_tells (tr := tr) (la := LA4) (he := HE4) (o := o7') (LS := [Str.ofString "x", Str.ofString "y", Str.ofString "a", Str.ofString "Int", Str.ofString "U"]) (HS := [Str.ofString "S", Str.ofString "T", Str.ofString "U", Str.ofString "[]", Str.ofString "->", Str.ofString "x"]) (vL := [.str _ _, .str _ _, .str _ _, .str _ _, .str _ _]) (vH := [.str _ _, .str _ _, .str _ _, .str _ _, .str _ _, .str _ _]) (nL := 0) (nH := 0) ?hL ?hH ?hla ?hhe 2 ho7) ?k1 ?k2 ?k3 N24 ?sub ?hm ?k5 ?kk ?kd ?ku ?_
    case k2 => exact F24
    (case k1 => k_asm); (case k3 => k_asm); (case k5 => k_asm); (case kk => rfl)
    case kd => decide
    case ku => decide
    case sub => exact sub_c (by k_mem) (sub_c (by k_mem) (sub_c (by k_mem) sub_n))
    case hla => k_ne
    case hhe => k_ne
    case hL => walk_at "my names5"
    case hH => walk_at "my names6"
    case hm => exact cut_drop <| cut_drop <| cut_keep (by k_ne) <| cut_keep (by k_ne) <| cut_keep (by k_ne) <| cut_drop <| cut_keep (by k_ne) <| cut_keep (by k_ne) <| cut_keep (by k_ne) <| cut_keep (by k_ne) <| cut_app (hfr5.ne (by k_mem)) <| cut_app (hfr6.ne (by k_mem)) <| cut_left (hfr7.ne (by k_mem))
    intro r8 tl8 led8 h11 tk11 F25 N25 hfr8 hq79
    refine cps fun GX hGX => ?_
    obtain ⟨o8', t8, ho8, hl8, htv8, hgt8⟩ := hq79
    refine hGX ?_
    clear hGX GX
    subst hl8
    simp only [List.cons_append, List.nil_append, List.append_assoc] at N25
    try k_fold
    k_steps
    refine unhalt ?_
    rename News _ _ _ _ => N26
    rename Fr _ _ _ _ => F26
    obtain ⟨dS, oS, eS⟩ := bodyOk_of (ps := [Str.ofString "x", Str.ofString "y"]) hgt5
    obtain ⟨dT, oT, eT⟩ := bodyOk_of (ps := [Str.ofString "y", Str.ofString "x"]) hgt6
    obtain ⟨dU, oU, eU⟩ := bodyOk_of (ps := [Str.ofString "y"]) hgt7
    have g8 := gen_all 2 t8 hgt8
    refine' tell0_use [] (right_tells (rk := rk3) (z := 1) (r := 3) (td := d2) (ot := o10) (tkv := [(Str.ofString "S", _), (Str.ofString "T", _), (Str.ofString "U", _)]) (t := t8) (told3_ok oS oT oU) (by decide) (by decide) (by k_mem) hd10 lo2 (by simp) (told3_ents (ent2 (by k_mem) (by k_mem) oS.hp (htv5.mono (by lcg_src)) eS) (ent2 (by k_mem) (by k_mem) oT.hp (htv6.mono (by lcg_src)) eT) (ent1 (by k_mem) (by k_mem) oU.hp (htv7.mono (by lcg_src)) eU)) (fun h e => told3_none e) (by decide) (htv8.mono (by lcg_src)) (Nat.lt_of_le_of_lt g8.2.2.1 (by decide)) g8.1 g8.2.1 (under3 hgt8) cst3 rsz3 rsz31) ?k1 F26 ?k3 N26 (fun _ h => h) ?k5 ?kk ?kd ?ku ?_
    (case k1 => k_asm); (case k3 => k_asm); (case k5 => k_asm); (case kk => rfl)
    case kd => decide
    case ku => decide
    intro r9 tl9 led9 h12 tk12 F27 N27 hfr9 hq80
    obtain ⟨hl9, hr9⟩ := hq80
    subst hl9 hr9
    try k_fold
    k_steps
end

end Mine
end
theorem PySem.Challenge.cw_xw0149_01_holds : PySem.Challenge.rw_xw0149_01.Holds :=
  Mine.lawT
