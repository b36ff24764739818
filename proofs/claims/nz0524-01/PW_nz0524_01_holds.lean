import PyProof.Rows.All
import Wide.All
import OpenK.AllK
import Wide.FinOn
import PySem.Challenge.RW_nz0524_01
open PySem PySem.W PyProof.Rows PySem.Calls
set_option Elab.async false
set_option maxRecDepth 100000
set_option maxHeartbeats 0
set_option linter.unusedVariables false
set_option compiler.extract_closed false
namespace Mine.Internal
noncomputable section
abbrev pw : Program := PySem.Challenge.pw_nz0524_01
noncomputable def vi (i : Nat) (t : Nat) : Value := .int (Int.ofNat i) t
noncomputable def vs (s : String) (t : Nat) : Value := .str (Str.ofString s) t
noncomputable def vr (a : Nat) : Value := .ref a
noncomputable def ob (n : String) (d : Data) : Obj := ⟨.type n, none, d, ⟨[]⟩⟩
noncomputable def sq (l : List Value) (n : Nat) : Data := .seq ⟨l⟩ n
noncomputable def dc (l : List DictEntry) (n : Nat) : Data := .dict ⟨l⟩ n
noncomputable def fl (l : List Value) : Data := .fields ⟨l⟩
noncomputable def en (P : Params) (k : String) (t : Nat) (v : Value) : DictEntry := ⟨PyData.keyHash P (Str.ofString k), .str (Str.ofString k) t, v⟩
abbrev N := BT.node
abbrev e := BT.nil
noncomputable def body : List Stmt := behindTheImports pw
noncomputable def nost : Stmt := .Pass ⟨0, 0, 0, 0⟩
noncomputable def noargs : Arguments := { posonlyargs := [], args := [], vararg := none, kwonlyargs := [], kw_defaults := [], kwarg := none, defaults := [] }
noncomputable def noscope : Scope := { kind := .function, names := [], isGenerator := false, isCoroutine := false, more := [] }
noncomputable def nth : List Stmt → Nat → Stmt
  | [], _ => nost
  | x :: _, 0 => x
  | _ :: r, n + 1 => nth r n
noncomputable def st (i : Nat) : Stmt := nth pw.main.body i
noncomputable def sc (i j : Nat) : Stmt := match st i with | .ClassDef (body := b) .. => nth b j | _ => nost
noncomputable def fArgs : Stmt → Arguments | .FunctionDef (args := a) .. => a | _ => noargs
noncomputable def fBody : Stmt → List Stmt | .FunctionDef (body := b) .. => b | _ => []
noncomputable def fScope : Stmt → Scope | .FunctionDef (scope := s) .. => s | _ => noscope
noncomputable def fn (s : Stmt) (name qual : String) (g : Nat) (dV kV doc pm : Value) (an : Option Nat) (cd ct : Value) (b : Nat) : Data :=
  .func { name := Str.ofString name, qualname := Str.ofString qual, params := fArgs s, body := .stmts (fBody s), scope := fScope s, globals := g, closure := [], defaults := dV, kwdefaults := kV, doc := doc, pyModule := pm, annotations := an, code := cd, closureTuple := ct, builtins := b }
noncomputable def cl (name : String) (bases mro : List Value) (ns : Nat) (qual : String) (hd : Bool) (sub : List Value) (ab del : Bool) : Data :=
  .cls { name := Str.ofString name, bases := bases, mro := mro, ns := ns, qualname := Str.ofString qual, hasDict := hd, slotNames := [], subclasses := sub, abstract := ab, collection := none, hasDel := del }
structure O8 where (a b c d e f g h : Obj)
noncomputable def zo : Obj := ⟨.none, none, .plain, ⟨[]⟩⟩
noncomputable def o13 (P : Params) : Obj := ob "code" (fl [(vs "<module>" 182), (vs "<module>" 183), (vs "/claim/cut.py" 184), (vi 1 0), (vi 0 0), (vi 0 0), (vi 0 0), (vi 0 0), (vr 11), (.bool false), (vi 181 0), (vr 12), .none, .none, .none, .none, (vi 185 0), (vi 1 0), (vs "/claim/cut.py" 186)])
noncomputable def g0 (P : Params) : O8 := ⟨ob "tuple" (sq [] 0), ⟨.none, none, (fl []), ⟨[]⟩⟩, ⟨(.type "frame"), none, .plain, ⟨[some (vr 13), some (vr 3), some (vr 3), none, some (vs "__main__" 164), none, some (vr 0)]⟩⟩, zo, zo, zo, zo, zo⟩
noncomputable def Ha (P : Params) : Heap := ⟨⟨[boot_o_0 P, boot_o_1 P, boot_o_2 P, boot_o_3 P, boot_o_4 P, boot_o_5 P, boot_o_6 P, boot_o_7 P, boot_o_8 P, boot_o_9 P, boot_o_10 P, (g0 P).a, (g0 P).b, o13 P, (g0 P).c]⟩, {}⟩
noncomputable def T0 (P : Params) : BT :=  (N (boot_o_0 P) (N (boot_o_1 P) (N (boot_o_3 P) (N (boot_o_7 P) e e) (N ((g0 P).a) e e)) (N (boot_o_5 P) (N (boot_o_9 P) e e) (N (o13 P) e e))) (N (boot_o_2 P) (N (boot_o_4 P) (N (boot_o_8 P) e e) (N ((g0 P).b) e e)) (N (boot_o_6 P) (N (boot_o_10 P) e e) (N ((g0 P).c) e e))))
noncomputable def o2 (P : Params) : Obj := ⟨.none, none, (dc [en P "type.__subclasses__.Exception.0" 205 (vi 24 0), en P "type.__subclasses__.Exception.n" 206 (vi 1 0)] 2), ⟨[]⟩⟩
noncomputable def o20 (P : Params) : Obj := ob "code" (fl [(vs "CoveError" 191), (vs "CoveError" 192), (vs "/claim/cut.py" 193), (vi 2 0), (vi 0 0), (vi 0 0), (vi 0 0), (vi 0 0), (vr 18), (.bool false), (vi 181 0), (vr 19), .none, .none, .none, .none, (vi 194 0), (vi 2 0), (vs "/claim/cut.py" 195)])
noncomputable def g1 (P : Params) : O8 := ⟨ob "dict" (dc [en P "__name__" 165 (vs "vectorcove.values" 234), en P "__doc__" 166 .none, en P "__package__" 167 .none, en P "__loader__" 168 (.builtin "__main__.__loader__#opaque"), en P "__spec__" 169 .none, en P "__annotations__" 170 (vr 6), en P "__builtins__" 171 (vr 4), en P "__file__" 173 (vs "/claim/cut.py" 172), en P "__cached__" 174 .none, en P "CoveError" 208 (vr 24), en P "Refusal" 233 (vr 44), en P "MOST_LENGTH" 237 (vi 1000000 236), en P "Null" 266 (vr 63), en P "Vector" 309 (vr 92), en P "Call" 344 (vr 114)] 15), ⟨.none, none, (fl [(vi 2 0), (vi 0 0), (vr 20), (vi 4 0), (vi 0 0), (vr 33), (vi 10 0), (vi 0 0), (vr 52), (vi 15 0), (vi 0 0), (vr 73), (vi 29 0), (vi 0 0), (vr 102)]), ⟨[]⟩⟩, ob "tuple" (sq [(.type "Exception")] 0), ob "builtin_function_or_method" (fl [(.builtin "type.__prepare__"), (.type "type")]), ob "dict" (dc [en P "__module__" 196 (vs "vectorcove.errors" 187), en P "__qualname__" 198 (vs "CoveError" 197), en P "__firstlineno__" 200 (vi 2 199), en P "__static_attributes__" 201 (vr 22)] 4), ob "tuple" (sq [] 0), ⟨.none, none, (fl []), ⟨[]⟩⟩, ⟨(.type "frame"), none, .plain, ⟨[some (vr 20), some (vr 3), some (vr 17), none, some (vs "vectorcove.errors" 187), none, some (vr 0)]⟩⟩⟩
noncomputable def o23 (P : Params) : Obj := ob "dict" (dc [en P "__module__" 196 (vs "vectorcove.errors" 187), en P "__firstlineno__" 200 (vi 2 199), en P "__static_attributes__" 201 (vr 22), en P "__weakref__" 203 (vr 25), en P "__doc__" 204 .none] 3)
noncomputable def o24 (P : Params) : Obj := ⟨(.type "type"), none, (cl "CoveError" [(.type "Exception")] [(vr 24), (.type "Exception"), (.type "BaseException"), (.type "object")] 23 "CoveError" true [(vr 44)] false false), ⟨[some (vr 15), none, some (vs "CoveError" 189), some (vs "CoveError" 197), some (.builtin "Exception.__new__"), some (.bool true)]⟩⟩
noncomputable def g2 (P : Params) : O8 := ⟨ob "tuple" (sq [] 0), ob "getset_descriptor" (fl [(vs "__weakref__" 202), (vr 24), (.builtin "ExceptionGroup.__weakref__"), .none]), ob "super" (fl [(vr 24), (vr 24), (vr 24)]), ob "builtin_function_or_method" (fl [(.builtin "object.__init_subclass__"), (vr 24)]), ob "tuple" (sq [(vr 24)] 0), ob "builtin_function_or_method" (fl [(.builtin "type.__prepare__"), (.type "type")]), ob "dict" (dc [en P "__module__" 216 (vs "vectorcove.errors" 187), en P "__qualname__" 218 (vs "Refusal" 217), en P "__firstlineno__" 220 (vi 4 219), en P "__init__" 228 (vr 41), en P "__static_attributes__" 230 (vr 42)] 5), ob "tuple" (sq [] 0)⟩
noncomputable def o33 (P : Params) : Obj := ob "code" (fl [(vs "Refusal" 211), (vs "Refusal" 212), (vs "/claim/cut.py" 213), (vi 4 0), (vi 0 0), (vi 0 0), (vi 0 0), (vi 0 0), (vr 31), (.bool false), (vi 181 0), (vr 32), .none, .none, .none, .none, (vi 214 0), (vi 4 0), (vs "/claim/cut.py" 215)])
noncomputable def o40 (P : Params) : Obj := ob "code" (fl [(vs "__init__" 221), (vs "Refusal.__init__" 222), (vs "/claim/cut.py" 223), (vi 6 0), (vi 2 0), (vi 0 0), (vi 0 0), (vi 3 0), (vr 35), (.bool true), (vi 181 0), (vr 36), .none, (vr 37), (vr 38), (vr 39), (vi 226 0), (vi 6 0), (vs "/claim/cut.py" 227)])
noncomputable def o41 (P : Params) : Obj := ob "function" (fn (sc 2 0) "__init__" "Refusal.__init__" 3 .none .none .none (vs "vectorcove.errors" 187) none (vr 40) .none 0)
noncomputable def g3 (P : Params) : O8 := ⟨⟨.none, none, (fl [(vi 6 0), (vi 4 0), (vr 40)]), ⟨[]⟩⟩, ⟨(.type "frame"), none, .plain, ⟨[some (vr 33), some (vr 3), some (vr 30), none, some (vs "vectorcove.errors" 187), none, some (vr 0)]⟩⟩, ob "tuple" (sq [] 0), ⟨.none, none, (fl []), ⟨[]⟩⟩, ob "tuple" (sq [(vs "self" 224), (vs "message" 225)] 0), ob "tuple" (sq [] 0), ⟨.none, none, (fn (sc 2 0) "__init__" "Refusal.__init__" 0 .none .none .none .none none .none .none 0), ⟨[]⟩⟩, ob "tuple" (sq [(vs "message" 229)] 0)⟩
noncomputable def o43 (P : Params) : Obj := ob "dict" (dc [en P "__module__" 216 (vs "vectorcove.errors" 187), en P "__firstlineno__" 220 (vi 4 219), en P "__init__" 228 (vr 41), en P "__static_attributes__" 230 (vr 42), en P "__doc__" 231 .none] 2)
noncomputable def o44 (P : Params) : Obj := ⟨(.type "type"), none, (cl "Refusal" [(vr 24)] [(vr 44), (vr 24), (.type "Exception"), (.type "BaseException"), (.type "object")] 43 "Refusal" true [] false false), ⟨[some (vr 28), none, some (vs "Refusal" 209), some (vs "Refusal" 217), some (.builtin "Exception.__new__"), some (.bool true)]⟩⟩
noncomputable def o52 (P : Params) : Obj := ob "code" (fl [(vs "Null" 240), (vs "Null" 241), (vs "/claim/cut.py" 242), (vi 10 0), (vi 0 0), (vi 0 0), (vi 0 0), (vi 0 0), (vr 50), (.bool false), (vi 181 0), (vr 51), .none, .none, .none, .none, (vi 243 0), (vi 10 0), (vs "/claim/cut.py" 244)])
noncomputable def g4 (P : Params) : O8 := ⟨ob "super" (fl [(vr 44), (vr 44), (vr 44)]), ob "builtin_function_or_method" (fl [(.builtin "object.__init_subclass__"), (vr 44)]), ob "tuple" (sq [] 0), ob "builtin_function_or_method" (fl [(.builtin "type.__prepare__"), (.type "type")]), ob "dict" (dc [en P "__module__" 245 (vs "vectorcove.values" 234), en P "__qualname__" 247 (vs "Null" 246), en P "__firstlineno__" 249 (vi 10 248), en P "__init__" 256 (vr 60), en P "__static_attributes__" 259 (vr 61)] 5), ob "tuple" (sq [] 0), ⟨.none, none, (fl [(vi 12 0), (vi 4 0), (vr 59)]), ⟨[]⟩⟩, ⟨(.type "frame"), none, .plain, ⟨[some (vr 52), some (vr 3), some (vr 49), none, some (vs "vectorcove.values" 234), none, some (vr 0)]⟩⟩⟩
noncomputable def o59 (P : Params) : Obj := ob "code" (fl [(vs "__init__" 250), (vs "Null.__init__" 251), (vs "/claim/cut.py" 252), (vi 12 0), (vi 1 0), (vi 0 0), (vi 0 0), (vi 3 0), (vr 54), (.bool true), (vi 181 0), (vr 55), .none, (vr 56), (vr 57), (vr 58), (vi 254 0), (vi 12 0), (vs "/claim/cut.py" 255)])
noncomputable def o60 (P : Params) : Obj := ob "function" (fn (sc 5 0) "__init__" "Null.__init__" 3 .none .none .none (vs "vectorcove.values" 234) none (vr 59) .none 0)
noncomputable def o62 (P : Params) : Obj := ob "dict" (dc [en P "__module__" 245 (vs "vectorcove.values" 234), en P "__firstlineno__" 249 (vi 10 248), en P "__init__" 256 (vr 60), en P "__static_attributes__" 259 (vr 61), en P "__dict__" 261 (vr 64), en P "__weakref__" 263 (vr 65), en P "__doc__" 264 .none] 4)
noncomputable def o63 (P : Params) : Obj := ⟨(.type "type"), none, (cl "Null" [(.type "object")] [(vr 63), (.type "object")] 62 "Null" true [] false false), ⟨[none, none, some (vs "Null" 238), some (vs "Null" 246), some (.builtin "object.__new__"), some (.bool true)]⟩⟩
noncomputable def g5 (P : Params) : O8 := ⟨ob "tuple" (sq [] 0), ⟨.none, none, (fl []), ⟨[]⟩⟩, ob "tuple" (sq [(vs "self" 253)] 0), ob "tuple" (sq [] 0), ⟨.none, none, (fn (sc 5 0) "__init__" "Null.__init__" 0 .none .none .none .none none .none .none 0), ⟨[]⟩⟩, ob "tuple" (sq [(vs "attrs" 257), (vs "kind" 258)] 0), ob "getset_descriptor" (fl [(vs "__dict__" 260), (vr 63), (.builtin "function.__dict__"), (.builtin "function.__dict__#set")]), ob "getset_descriptor" (fl [(vs "__weakref__" 262), (vr 63), (.builtin "ExceptionGroup.__weakref__"), .none])⟩
noncomputable def o73 (P : Params) : Obj := ob "code" (fl [(vs "Vector" 269), (vs "Vector" 270), (vs "/claim/cut.py" 271), (vi 15 0), (vi 0 0), (vi 0 0), (vi 0 0), (vi 0 0), (vr 71), (.bool false), (vi 181 0), (vr 72), .none, .none, .none, .none, (vi 272 0), (vi 15 0), (vs "/claim/cut.py" 273)])
noncomputable def g6 (P : Params) : O8 := ⟨ob "super" (fl [(vr 63), (vr 63), (vr 63)]), ob "builtin_function_or_method" (fl [(.builtin "object.__init_subclass__"), (vr 63)]), ob "tuple" (sq [] 0), ob "builtin_function_or_method" (fl [(.builtin "type.__prepare__"), (.type "type")]), ob "dict" (dc [en P "__module__" 274 (vs "vectorcove.values" 234), en P "__qualname__" 276 (vs "Vector" 275), en P "__firstlineno__" 278 (vi 15 277), en P "__init__" 288 (vr 82), en P "copy" 296 (vr 89), en P "__static_attributes__" 302 (vr 90)] 6), ob "tuple" (sq [] 0), ⟨.none, none, (fl [(vi 17 0), (vi 4 0), (vr 81), (vi 24 0), (vi 4 0), (vr 88)]), ⟨[]⟩⟩, ⟨(.type "frame"), none, .plain, ⟨[some (vr 73), some (vr 3), some (vr 70), none, some (vs "vectorcove.values" 234), none, some (vr 0)]⟩⟩⟩
noncomputable def o75 (P : Params) : Obj := ob "tuple" (sq [.none] 0)
noncomputable def o81 (P : Params) : Obj := ob "code" (fl [(vs "__init__" 279), (vs "Vector.__init__" 280), (vs "/claim/cut.py" 281), (vi 17 0), (vi 4 0), (vi 0 0), (vi 0 0), (vi 3 0), (vr 76), (.bool true), (vi 181 0), (vr 77), .none, (vr 78), (vr 79), (vr 80), (vi 286 0), (vi 17 0), (vs "/claim/cut.py" 287)])
noncomputable def o82 (P : Params) : Obj := ob "function" (fn (sc 6 0) "__init__" "Vector.__init__" 3 (vr 75) .none .none (vs "vectorcove.values" 234) none (vr 81) .none 0)
noncomputable def g7 (P : Params) : O8 := ⟨ob "tuple" (sq [] 0), ⟨.none, none, (fl []), ⟨[]⟩⟩, ob "tuple" (sq [(vs "self" 282), (vs "kind" 283), (vs "items" 284), (vs "attrs" 285)] 0), ob "tuple" (sq [] 0), ⟨.none, none, (fn (sc 6 0) "__init__" "Vector.__init__" 0 .none .none .none .none none .none .none 0), ⟨[]⟩⟩, ob "tuple" (sq [] 0), ⟨.none, none, (fl []), ⟨[]⟩⟩, ob "tuple" (sq [(vs "self" 292), (vs "attrs" 293)] 0)⟩
noncomputable def o88 (P : Params) : Obj := ob "code" (fl [(vs "copy" 289), (vs "Vector.copy" 290), (vs "/claim/cut.py" 291), (vi 24 0), (vi 1 0), (vi 0 0), (vi 0 0), (vi 3 0), (vr 83), (.bool true), (vi 181 0), (vr 84), .none, (vr 85), (vr 86), (vr 87), (vi 294 0), (vi 24 0), (vs "/claim/cut.py" 295)])
noncomputable def o89 (P : Params) : Obj := ob "function" (fn (sc 6 1) "copy" "Vector.copy" 3 .none .none .none (vs "vectorcove.values" 234) none (vr 88) .none 0)
noncomputable def o91 (P : Params) : Obj := ob "dict" (dc [en P "__module__" 274 (vs "vectorcove.values" 234), en P "__firstlineno__" 278 (vi 15 277), en P "__init__" 288 (vr 82), en P "copy" 296 (vr 89), en P "__static_attributes__" 302 (vr 90), en P "__dict__" 304 (vr 93), en P "__weakref__" 306 (vr 94), en P "__doc__" 307 .none] 4)
noncomputable def o92 (P : Params) : Obj := ⟨(.type "type"), none, (cl "Vector" [(.type "object")] [(vr 92), (.type "object")] 91 "Vector" true [] false false), ⟨[none, none, some (vs "Vector" 267), some (vs "Vector" 275), some (.builtin "object.__new__"), some (.bool true)]⟩⟩
noncomputable def g8 (P : Params) : O8 := ⟨ob "tuple" (sq [] 0), ⟨.none, none, (fn (sc 6 1) "copy" "Vector.copy" 0 .none .none .none .none none .none .none 0), ⟨[]⟩⟩, ob "tuple" (sq [(vs "attrs" 297), (vs "items" 298), (vs "kind" 299), (vs "loose" 300), (vs "shared" 301)] 0), ob "getset_descriptor" (fl [(vs "__dict__" 303), (vr 92), (.builtin "function.__dict__"), (.builtin "function.__dict__#set")]), ob "getset_descriptor" (fl [(vs "__weakref__" 305), (vr 92), (.builtin "ExceptionGroup.__weakref__"), .none]), ob "super" (fl [(vr 92), (vr 92), (vr 92)]), ob "builtin_function_or_method" (fl [(.builtin "object.__init_subclass__"), (vr 92)]), ob "tuple" (sq [] 0)⟩
noncomputable def o102 (P : Params) : Obj := ob "code" (fl [(vs "Call" 312), (vs "Call" 313), (vs "/claim/cut.py" 314), (vi 29 0), (vi 0 0), (vi 0 0), (vi 0 0), (vi 0 0), (vr 100), (.bool false), (vi 181 0), (vr 101), .none, .none, .none, .none, (vi 315 0), (vi 29 0), (vs "/claim/cut.py" 316)])
noncomputable def o104 (P : Params) : Obj := ob "tuple" (sq [.none] 0)
noncomputable def g9 (P : Params) : O8 := ⟨ob "builtin_function_or_method" (fl [(.builtin "type.__prepare__"), (.type "type")]), ob "dict" (dc [en P "__module__" 317 (vs "vectorcove.values" 234), en P "__qualname__" 319 (vs "Call" 318), en P "__firstlineno__" 321 (vi 29 320), en P "__init__" 331 (vr 111), en P "__static_attributes__" 337 (vr 112)] 5), ob "tuple" (sq [] 0), ⟨.none, none, (fl [(vi 31 0), (vi 4 0), (vr 110)]), ⟨[]⟩⟩, ⟨(.type "frame"), none, .plain, ⟨[some (vr 102), some (vr 3), some (vr 99), none, some (vs "vectorcove.values" 234), none, some (vr 0)]⟩⟩, ob "tuple" (sq [] 0), ⟨.none, none, (fl []), ⟨[]⟩⟩, ob "tuple" (sq [(vs "self" 325), (vs "items" 326), (vs "tags" 327), (vs "attrs" 328)] 0)⟩
noncomputable def o110 (P : Params) : Obj := ob "code" (fl [(vs "__init__" 322), (vs "Call.__init__" 323), (vs "/claim/cut.py" 324), (vi 31 0), (vi 4 0), (vi 0 0), (vi 0 0), (vi 3 0), (vr 105), (.bool true), (vi 181 0), (vr 106), .none, (vr 107), (vr 108), (vr 109), (vi 329 0), (vi 31 0), (vs "/claim/cut.py" 330)])
noncomputable def o111 (P : Params) : Obj := ob "function" (fn (sc 7 0) "__init__" "Call.__init__" 3 (vr 104) .none .none (vs "vectorcove.values" 234) none (vr 110) .none 0)
noncomputable def o113 (P : Params) : Obj := ob "dict" (dc [en P "__module__" 317 (vs "vectorcove.values" 234), en P "__firstlineno__" 321 (vi 29 320), en P "__init__" 331 (vr 111), en P "__static_attributes__" 337 (vr 112), en P "__dict__" 339 (vr 115), en P "__weakref__" 341 (vr 116), en P "__doc__" 342 .none] 4)
noncomputable def o114 (P : Params) : Obj := ⟨(.type "type"), none, (cl "Call" [(.type "object")] [(vr 114), (.type "object")] 113 "Call" true [] false false), ⟨[none, none, some (vs "Call" 310), some (vs "Call" 318), some (.builtin "object.__new__"), some (.bool true)]⟩⟩
noncomputable def g10 (P : Params) : O8 := ⟨ob "tuple" (sq [] 0), ⟨.none, none, (fn (sc 7 0) "__init__" "Call.__init__" 0 .none .none .none .none none .none .none 0), ⟨[]⟩⟩, ob "tuple" (sq [(vs "attrs" 332), (vs "code" 333), (vs "items" 334), (vs "kind" 335), (vs "tags" 336)] 0), ob "getset_descriptor" (fl [(vs "__dict__" 338), (vr 114), (.builtin "function.__dict__"), (.builtin "function.__dict__#set")]), ob "getset_descriptor" (fl [(vs "__weakref__" 340), (vr 114), (.builtin "ExceptionGroup.__weakref__"), .none]), ob "super" (fl [(vr 114), (vr 114), (vr 114)]), ob "builtin_function_or_method" (fl [(.builtin "object.__init_subclass__"), (vr 114)]), zo⟩
noncomputable def T1 (P : Params) : BT :=  (N (boot_o_0 P) (N (boot_o_1 P) (N ((g1 P).a) (N (boot_o_7 P) (N ((g1 P).c) (N ((g2 P).h) (N (o63 P) e e) (N ((g8 P).f) e e)) (N ((g4 P).c) (N ((g7 P).d) e e) (N (o111 P) e e))) (N (o23 P) (N ((g3 P).g) (N ((g6 P).f) e e) (N ((g9 P).e) e e)) (N ((g5 P).b) (N ((g8 P).b) e e) e))) (N ((g0 P).a) (N ((g1 P).g) (N ((g3 P).c) (N ((g6 P).b) e e) (N ((g9 P).b) e e)) (N ((g4 P).g) (N ((g7 P).f) e e) (N ((g10 P).d) e e))) (N ((g2 P).d) (N (o43 P) (N (o75 P) e e) (N ((g9 P).h) e e)) (N (o59 P) (N (o91 P) e e) e)))) (N (boot_o_5 P) (N (boot_o_9 P) (N ((g1 P).e) (N (o33 P) (N ((g5 P).h) e e) (N ((g8 P).h) e e)) (N ((g4 P).e) (N (o81 P) e e) (N (o113 P) e e))) (N ((g2 P).b) (N (o41 P) (N (o73 P) e e) (N ((g9 P).f) e e)) (N ((g5 P).d) (N (o89 P) e e) e))) (N (o13 P) (N ((g1 P).h) (N ((g3 P).e) (N ((g6 P).d) e e) (N ((g9 P).d) e e)) (N ((g4 P).h) (N ((g7 P).h) e e) (N ((g10 P).f) e e))) (N ((g2 P).f) (N ((g4 P).a) (N ((g7 P).b) e e) (N ((g10 P).b) e e)) (N ((g5 P).f) (N ((g8 P).d) e e) e))))) (N (o2 P) (N (boot_o_4 P) (N (boot_o_8 P) (N ((g1 P).d) (N ((g3 P).a) (N ((g5 P).g) e e) (N ((g8 P).g) e e)) (N ((g4 P).d) (N ((g7 P).e) e e) (N ((g10 P).c) e e))) (N (o24 P) (N (o40 P) (N ((g6 P).g) e e) (N (o104 P) e e)) (N ((g5 P).c) (N (o88 P) e e) e))) (N ((g1 P).b) (N (o20 P) (N ((g3 P).d) (N ((g6 P).c) e e) (N ((g9 P).c) e e)) (N (o52 P) (N ((g7 P).g) e e) (N ((g10 P).e) e e))) (N ((g2 P).e) (N (o44 P) (N ((g7 P).a) e e) (N ((g10 P).a) e e)) (N (o60 P) (N (o92 P) e e) e)))) (N (boot_o_6 P) (N (boot_o_10 P) (N ((g1 P).f) (N ((g3 P).b) (N ((g6 P).a) e e) (N ((g9 P).a) e e)) (N ((g4 P).f) (N (o82 P) e e) (N (o114 P) e e))) (N ((g2 P).c) (N ((g3 P).h) (N ((g6 P).h) e e) (N ((g9 P).g) e e)) (N ((g5 P).e) (N ((g8 P).c) e e) e))) (N ((g0 P).c) (N ((g2 P).a) (N ((g3 P).f) (N ((g6 P).e) e e) (N (o102 P) e e)) (N ((g5 P).a) (N ((g8 P).a) e e) (N ((g10 P).g) e e))) (N ((g2 P).g) (N ((g4 P).b) (N ((g7 P).c) e e) (N (o110 P) e e)) (N (o62 P) (N ((g8 P).e) e e) e))))))
noncomputable def S1 (w : World) (os : OsState) : SharedT := ⟨T1 w.params, 119, {}, ⟨[]⟩, {}, 345, os⟩
noncomputable def sts1 : List Stmt := (body.drop 0).take 8
noncomputable def o124 (P : Params) : Obj := ob "code" (fl [(vs "room" 345), (vs "room" 346), (vs "/claim/cut.py" 347), (vi 37 0), (vi 1 0), (vi 0 0), (vi 0 0), (vi 3 0), (vr 119), (.bool true), (vi 181 0), (vr 120), .none, (vr 121), (vr 122), (vr 123), (vi 349 0), (vi 37 0), (vs "/claim/cut.py" 350)])
noncomputable def o125 (P : Params) : Obj := ob "function" (fn (st 8) "room" "room" 3 .none .none .none (vs "vectorcove.values" 234) none (vr 124) .none 0)
noncomputable def g11 (P : Params) : O8 := ⟨ob "dict" (dc [en P "__name__" 165 (vs "vectorcove.numtext" 526), en P "__doc__" 166 .none, en P "__package__" 167 .none, en P "__loader__" 168 (.builtin "__main__.__loader__#opaque"), en P "__spec__" 169 .none, en P "__annotations__" 170 (vr 6), en P "__builtins__" 171 (vr 4), en P "__file__" 173 (vs "/claim/cut.py" 172), en P "__cached__" 174 .none, en P "CoveError" 208 (vr 24), en P "Refusal" 233 (vr 44), en P "MOST_LENGTH" 237 (vi 1000000 236), en P "Null" 266 (vr 63), en P "Vector" 309 (vr 92), en P "Call" 344 (vr 114), en P "room" 351 (vr 125), en P "character" 358 (vr 132), en P "length" 366 (vr 139), en P "is_vector" 373 (vr 146), en P "is_atomic" 380 (vr 153), en P "own" 387 (vr 160), en P "share" 394 (vr 167), en P "get_attr" 404 (vr 174), en P "drop_attr" 412 (vr 181), en P "put_attr" 421 (vr 188), en P "names_of" 427 (vr 193), en P "dim_of" 435 (vr 200), en P "dimnames_of" 441 (vr 205), en P "NAN" 446 (vr 206), en P "INF" 449 (vr 207), en P "ZERO" 452 (vr 208), en P "gcd" 460 (vr 215), en P "make" 469 (vr 222), en P "from_int" 476 (vr 229), en P "is_na" 483 (vr 236), en P "is_finite" 490 (vr 243), en P "neg" 497 (vr 250), en P "to_whole" 505 (vr 257), en P "nearest_whole" 515 (vr 264), en P "exponent" 525 (vr 271), en P "MOST_EXPONENT" 529 (vi 4096 528), en P "whole_text" 539 (vr 278), en P "special_text" 546 (vr 285), en P "scaled" 556 (vr 292), en P "significant" 566 (vr 299), en P "without_tail" 574 (vr 306), en P "scientific_text" 586 (vr 313), en P "fixed_text" 596 (vr 320), en P "measures" 609 (vr 327), en P "chosen_form" 626 (vr 334), en P "formed" 635 (vr 341), en P "common_texts" 641 (vr 346), en P "number_text" 650 (vr 354), en P "digits_value" 660 (vr 361), en P "digit_run" 669 (vr 368), en P "exponent_value" 678 (vr 375)] 56), ⟨.none, none, (fl [(vi 2 0), (vi 0 0), (vr 20), (vi 4 0), (vi 0 0), (vr 33), (vi 10 0), (vi 0 0), (vr 52), (vi 15 0), (vi 0 0), (vr 73), (vi 29 0), (vi 0 0), (vr 102), (vi 37 0), (vi 0 0), (vr 124), (vi 41 0), (vi 0 0), (vr 131), (vi 43 0), (vi 0 0), (vr 138), (vi 54 0), (vi 0 0), (vr 145), (vi 56 0), (vi 0 0), (vr 152), (vi 58 0), (vi 0 0), (vr 159), (vi 62 0), (vi 0 0), (vr 166), (vi 67 0), (vi 0 0), (vr 173), (vi 71 0), (vi 0 0), (vr 180), (vi 76 0), (vi 0 0), (vr 187), (vi 80 0), (vi 0 0), (vr 192), (vi 96 0), (vi 0 0), (vr 199), (vi 101 0), (vi 0 0), (vr 204), (vi 110 0), (vi 0 0), (vr 214), (vi 114 0), (vi 0 0), (vr 221), (vi 124 0), (vi 0 0), (vr 228), (vi 128 0), (vi 0 0), (vr 235), (vi 130 0), (vi 0 0), (vr 242), (vi 132 0), (vi 0 0), (vr 249), (vi 136 0), (vi 0 0), (vr 256), (vi 141 0), (vi 0 0), (vr 263), (vi 147 0), (vi 0 0), (vr 270), (vi 160 0), (vi 0 0), (vr 277), (vi 171 0), (vi 0 0), (vr 284), (vi 179 0), (vi 0 0), (vr 291), (vi 184 0), (vi 0 0), (vr 298), (vi 193 0), (vi 0 0), (vr 305), (vi 198 0), (vi 0 0), (vr 312), (vi 205 0), (vi 0 0), (vr 319), (vi 213 0), (vi 0 0), (vr 326), (vi 220 0), (vi 0 0), (vr 333), (vi 240 0), (vi 0 0), (vr 340), (vi 247 0), (vi 0 0), (vr 345), (vi 251 0), (vi 0 0), (vr 353), (vi 253 0), (vi 0 0), (vr 360), (vi 258 0), (vi 0 0), (vr 367), (vi 262 0), (vi 0 0), (vr 374)]), ⟨[]⟩⟩, ob "tuple" (sq [] 0), ⟨.none, none, (fl []), ⟨[]⟩⟩, ob "tuple" (sq [(vs "n" 348)] 0), ob "tuple" (sq [] 0), ⟨.none, none, (fn (st 8) "room" "room" 0 .none .none .none .none none .none .none 0), ⟨[]⟩⟩, ob "tuple" (sq [] 0)⟩
noncomputable def o131 (P : Params) : Obj := ob "code" (fl [(vs "character" 352), (vs "character" 353), (vs "/claim/cut.py" 354), (vi 41 0), (vi 1 0), (vi 0 0), (vi 0 0), (vi 3 0), (vr 126), (.bool true), (vi 181 0), (vr 127), .none, (vr 128), (vr 129), (vr 130), (vi 356 0), (vi 41 0), (vs "/claim/cut.py" 357)])
noncomputable def o132 (P : Params) : Obj := ob "function" (fn (st 9) "character" "character" 3 .none .none .none (vs "vectorcove.values" 234) none (vr 131) .none 0)
noncomputable def g12 (P : Params) : O8 := ⟨⟨.none, none, (fl []), ⟨[]⟩⟩, ob "tuple" (sq [(vs "items" 355)] 0), ob "tuple" (sq [] 0), ⟨.none, none, (fn (st 9) "character" "character" 0 .none .none .none .none none .none .none 0), ⟨[]⟩⟩, ob "tuple" (sq [] 0), ⟨.none, none, (fl []), ⟨[]⟩⟩, ob "tuple" (sq [(vs "v" 362), (vs "kind" 363)] 0), ob "tuple" (sq [] 0)⟩
noncomputable def o138 (P : Params) : Obj := ob "code" (fl [(vs "length" 359), (vs "length" 360), (vs "/claim/cut.py" 361), (vi 43 0), (vi 1 0), (vi 0 0), (vi 0 0), (vi 3 0), (vr 133), (.bool true), (vi 181 0), (vr 134), .none, (vr 135), (vr 136), (vr 137), (vi 364 0), (vi 43 0), (vs "/claim/cut.py" 365)])
noncomputable def o139 (P : Params) : Obj := ob "function" (fn (st 10) "length" "length" 3 .none .none .none (vs "vectorcove.values" 234) none (vr 138) .none 0)
noncomputable def o145 (P : Params) : Obj := ob "code" (fl [(vs "is_vector" 367), (vs "is_vector" 368), (vs "/claim/cut.py" 369), (vi 54 0), (vi 1 0), (vi 0 0), (vi 0 0), (vi 3 0), (vr 140), (.bool true), (vi 181 0), (vr 141), .none, (vr 142), (vr 143), (vr 144), (vi 371 0), (vi 54 0), (vs "/claim/cut.py" 372)])
noncomputable def o146 (P : Params) : Obj := ob "function" (fn (st 11) "is_vector" "is_vector" 3 .none .none .none (vs "vectorcove.values" 234) none (vr 145) .none 0)
noncomputable def g13 (P : Params) : O8 := ⟨⟨.none, none, (fn (st 10) "length" "length" 0 .none .none .none .none none .none .none 0), ⟨[]⟩⟩, ob "tuple" (sq [] 0), ⟨.none, none, (fl []), ⟨[]⟩⟩, ob "tuple" (sq [(vs "v" 370)] 0), ob "tuple" (sq [] 0), ⟨.none, none, (fn (st 11) "is_vector" "is_vector" 0 .none .none .none .none none .none .none 0), ⟨[]⟩⟩, ob "tuple" (sq [] 0), ⟨.none, none, (fl []), ⟨[]⟩⟩⟩
noncomputable def o152 (P : Params) : Obj := ob "code" (fl [(vs "is_atomic" 374), (vs "is_atomic" 375), (vs "/claim/cut.py" 376), (vi 56 0), (vi 1 0), (vi 0 0), (vi 0 0), (vi 3 0), (vr 147), (.bool true), (vi 181 0), (vr 148), .none, (vr 149), (vr 150), (vr 151), (vi 378 0), (vi 56 0), (vs "/claim/cut.py" 379)])
noncomputable def o153 (P : Params) : Obj := ob "function" (fn (st 12) "is_atomic" "is_atomic" 3 .none .none .none (vs "vectorcove.values" 234) none (vr 152) .none 0)
noncomputable def g14 (P : Params) : O8 := ⟨ob "tuple" (sq [(vs "v" 377)] 0), ob "tuple" (sq [] 0), ⟨.none, none, (fn (st 12) "is_atomic" "is_atomic" 0 .none .none .none .none none .none .none 0), ⟨[]⟩⟩, ob "tuple" (sq [] 0), ⟨.none, none, (fl []), ⟨[]⟩⟩, ob "tuple" (sq [(vs "v" 384)] 0), ob "tuple" (sq [] 0), ⟨.none, none, (fn (st 13) "own" "own" 0 .none .none .none .none none .none .none 0), ⟨[]⟩⟩⟩
noncomputable def o159 (P : Params) : Obj := ob "code" (fl [(vs "own" 381), (vs "own" 382), (vs "/claim/cut.py" 383), (vi 58 0), (vi 1 0), (vi 0 0), (vi 0 0), (vi 3 0), (vr 154), (.bool true), (vi 181 0), (vr 155), .none, (vr 156), (vr 157), (vr 158), (vi 385 0), (vi 58 0), (vs "/claim/cut.py" 386)])
noncomputable def o160 (P : Params) : Obj := ob "function" (fn (st 13) "own" "own" 3 .none .none .none (vs "vectorcove.values" 234) none (vr 159) .none 0)
noncomputable def o166 (P : Params) : Obj := ob "code" (fl [(vs "share" 388), (vs "share" 389), (vs "/claim/cut.py" 390), (vi 62 0), (vi 1 0), (vi 0 0), (vi 0 0), (vi 3 0), (vr 161), (.bool true), (vi 181 0), (vr 162), .none, (vr 163), (vr 164), (vr 165), (vi 392 0), (vi 62 0), (vs "/claim/cut.py" 393)])
noncomputable def o167 (P : Params) : Obj := ob "function" (fn (st 14) "share" "share" 3 .none .none .none (vs "vectorcove.values" 234) none (vr 166) .none 0)
noncomputable def g15 (P : Params) : O8 := ⟨ob "tuple" (sq [] 0), ⟨.none, none, (fl []), ⟨[]⟩⟩, ob "tuple" (sq [(vs "v" 391)] 0), ob "tuple" (sq [] 0), ⟨.none, none, (fn (st 14) "share" "share" 0 .none .none .none .none none .none .none 0), ⟨[]⟩⟩, ob "tuple" (sq [] 0), ⟨.none, none, (fl []), ⟨[]⟩⟩, ob "tuple" (sq [(vs "v" 400), (vs "name" 401)] 0)⟩
noncomputable def o173 (P : Params) : Obj := ob "code" (fl [(vs "get_attr" 397), (vs "get_attr" 398), (vs "/claim/cut.py" 399), (vi 67 0), (vi 2 0), (vi 0 0), (vi 0 0), (vi 3 0), (vr 168), (.bool true), (vi 181 0), (vr 169), .none, (vr 170), (vr 171), (vr 172), (vi 402 0), (vi 67 0), (vs "/claim/cut.py" 403)])
noncomputable def o174 (P : Params) : Obj := ob "function" (fn (st 16) "get_attr" "get_attr" 3 .none .none .none (vs "vectorcove.attrs" 395) none (vr 173) .none 0)
noncomputable def o180 (P : Params) : Obj := ob "code" (fl [(vs "drop_attr" 405), (vs "drop_attr" 406), (vs "/claim/cut.py" 407), (vi 71 0), (vi 2 0), (vi 0 0), (vi 0 0), (vi 3 0), (vr 175), (.bool true), (vi 181 0), (vr 176), .none, (vr 177), (vr 178), (vr 179), (vi 410 0), (vi 71 0), (vs "/claim/cut.py" 411)])
noncomputable def o181 (P : Params) : Obj := ob "function" (fn (st 17) "drop_attr" "drop_attr" 3 .none .none .none (vs "vectorcove.attrs" 395) none (vr 180) .none 0)
noncomputable def g16 (P : Params) : O8 := ⟨ob "tuple" (sq [] 0), ⟨.none, none, (fn (st 16) "get_attr" "get_attr" 0 .none .none .none .none none .none .none 0), ⟨[]⟩⟩, ob "tuple" (sq [] 0), ⟨.none, none, (fl []), ⟨[]⟩⟩, ob "tuple" (sq [(vs "v" 408), (vs "name" 409)] 0), ob "tuple" (sq [] 0), ⟨.none, none, (fn (st 17) "drop_attr" "drop_attr" 0 .none .none .none .none none .none .none 0), ⟨[]⟩⟩, ob "tuple" (sq [] 0)⟩
noncomputable def o187 (P : Params) : Obj := ob "code" (fl [(vs "put_attr" 413), (vs "put_attr" 414), (vs "/claim/cut.py" 415), (vi 76 0), (vi 3 0), (vi 0 0), (vi 0 0), (vi 3 0), (vr 182), (.bool true), (vi 181 0), (vr 183), .none, (vr 184), (vr 185), (vr 186), (vi 419 0), (vi 76 0), (vs "/claim/cut.py" 420)])
noncomputable def o188 (P : Params) : Obj := ob "function" (fn (st 18) "put_attr" "put_attr" 3 .none .none .none (vs "vectorcove.attrs" 395) none (vr 187) .none 0)
noncomputable def o192 (P : Params) : Obj := ob "code" (fl [(vs "names_of" 422), (vs "names_of" 423), (vs "/claim/cut.py" 424), (vi 80 0), (vi 1 0), (vi 0 0), (vi 0 0), (vi 3 0), (vr 189), (.bool true), (vi 181 0), (vr 190), .none, .none, .none, (vr 191), (vi 425 0), (vi 80 0), (vs "/claim/cut.py" 426)])
noncomputable def o193 (P : Params) : Obj := ob "function" (fn (st 19) "names_of" "names_of" 3 .none .none .none (vs "vectorcove.attrs" 395) none (vr 192) .none 0)
noncomputable def g17 (P : Params) : O8 := ⟨⟨.none, none, (fl []), ⟨[]⟩⟩, ob "tuple" (sq [(vs "v" 416), (vs "name" 417), (vs "value" 418)] 0), ob "tuple" (sq [] 0), ⟨.none, none, (fn (st 18) "put_attr" "put_attr" 0 .none .none .none .none none .none .none 0), ⟨[]⟩⟩, ob "tuple" (sq [] 0), ⟨.none, none, (fl []), ⟨[]⟩⟩, ⟨.none, none, (fn (st 19) "names_of" "names_of" 0 .none .none .none .none none .none .none 0), ⟨[]⟩⟩, ob "tuple" (sq [] 0)⟩
noncomputable def o199 (P : Params) : Obj := ob "code" (fl [(vs "dim_of" 428), (vs "dim_of" 429), (vs "/claim/cut.py" 430), (vi 96 0), (vi 1 0), (vi 0 0), (vi 0 0), (vi 3 0), (vr 194), (.bool true), (vi 181 0), (vr 195), .none, (vr 196), (vr 197), (vr 198), (vi 433 0), (vi 96 0), (vs "/claim/cut.py" 434)])
noncomputable def o200 (P : Params) : Obj := ob "function" (fn (st 20) "dim_of" "dim_of" 3 .none .none .none (vs "vectorcove.attrs" 395) none (vr 199) .none 0)
noncomputable def o204 (P : Params) : Obj := ob "code" (fl [(vs "dimnames_of" 436), (vs "dimnames_of" 437), (vs "/claim/cut.py" 438), (vi 101 0), (vi 1 0), (vi 0 0), (vi 0 0), (vi 3 0), (vr 201), (.bool true), (vi 181 0), (vr 202), .none, .none, .none, (vr 203), (vi 439 0), (vi 101 0), (vs "/claim/cut.py" 440)])
noncomputable def o205 (P : Params) : Obj := ob "function" (fn (st 21) "dimnames_of" "dimnames_of" 3 .none .none .none (vs "vectorcove.attrs" 395) none (vr 204) .none 0)
noncomputable def g18 (P : Params) : O8 := ⟨⟨.none, none, (fl []), ⟨[]⟩⟩, ob "tuple" (sq [(vs "v" 431), (vs "dims" 432)] 0), ob "tuple" (sq [] 0), ⟨.none, none, (fn (st 20) "dim_of" "dim_of" 0 .none .none .none .none none .none .none 0), ⟨[]⟩⟩, ob "tuple" (sq [] 0), ⟨.none, none, (fl []), ⟨[]⟩⟩, ⟨.none, none, (fn (st 21) "dimnames_of" "dimnames_of" 0 .none .none .none .none none .none .none 0), ⟨[]⟩⟩, ob "tuple" (sq [(vi 0 444), (vi 0 445)] 0)⟩
noncomputable def o214 (P : Params) : Obj := ob "code" (fl [(vs "gcd" 453), (vs "gcd" 454), (vs "/claim/cut.py" 455), (vi 110 0), (vi 2 0), (vi 0 0), (vi 0 0), (vi 3 0), (vr 209), (.bool true), (vi 181 0), (vr 210), .none, (vr 211), (vr 212), (vr 213), (vi 458 0), (vi 110 0), (vs "/claim/cut.py" 459)])
noncomputable def o215 (P : Params) : Obj := ob "function" (fn (st 26) "gcd" "gcd" 3 .none .none .none (vs "vectorcove.rational" 442) none (vr 214) .none 0)
noncomputable def g19 (P : Params) : O8 := ⟨ob "tuple" (sq [(vi 1 447), (vi 0 448)] 0), ob "tuple" (sq [(vi 0 450), (vi 1 451)] 0), ob "tuple" (sq [] 0), ⟨.none, none, (fl []), ⟨[]⟩⟩, ob "tuple" (sq [(vs "a" 456), (vs "b" 457)] 0), ob "tuple" (sq [] 0), ⟨.none, none, (fn (st 26) "gcd" "gcd" 0 .none .none .none .none none .none .none 0), ⟨[]⟩⟩, ob "tuple" (sq [] 0)⟩
noncomputable def o221 (P : Params) : Obj := ob "code" (fl [(vs "make" 461), (vs "make" 462), (vs "/claim/cut.py" 463), (vi 114 0), (vi 2 0), (vi 0 0), (vi 0 0), (vi 3 0), (vr 216), (.bool true), (vi 181 0), (vr 217), .none, (vr 218), (vr 219), (vr 220), (vi 467 0), (vi 114 0), (vs "/claim/cut.py" 468)])
noncomputable def o222 (P : Params) : Obj := ob "function" (fn (st 27) "make" "make" 3 .none .none .none (vs "vectorcove.rational" 442) none (vr 221) .none 0)
noncomputable def g20 (P : Params) : O8 := ⟨⟨.none, none, (fl []), ⟨[]⟩⟩, ob "tuple" (sq [(vs "n" 464), (vs "d" 465), (vs "common" 466)] 0), ob "tuple" (sq [] 0), ⟨.none, none, (fn (st 27) "make" "make" 0 .none .none .none .none none .none .none 0), ⟨[]⟩⟩, ob "tuple" (sq [] 0), ⟨.none, none, (fl []), ⟨[]⟩⟩, ob "tuple" (sq [(vs "n" 473)] 0), ob "tuple" (sq [] 0)⟩
noncomputable def o228 (P : Params) : Obj := ob "code" (fl [(vs "from_int" 470), (vs "from_int" 471), (vs "/claim/cut.py" 472), (vi 124 0), (vi 1 0), (vi 0 0), (vi 0 0), (vi 3 0), (vr 223), (.bool true), (vi 181 0), (vr 224), .none, (vr 225), (vr 226), (vr 227), (vi 474 0), (vi 124 0), (vs "/claim/cut.py" 475)])
noncomputable def o229 (P : Params) : Obj := ob "function" (fn (st 28) "from_int" "from_int" 3 .none .none .none (vs "vectorcove.rational" 442) none (vr 228) .none 0)
noncomputable def o235 (P : Params) : Obj := ob "code" (fl [(vs "is_na" 477), (vs "is_na" 478), (vs "/claim/cut.py" 479), (vi 128 0), (vi 1 0), (vi 0 0), (vi 0 0), (vi 3 0), (vr 230), (.bool true), (vi 181 0), (vr 231), .none, (vr 232), (vr 233), (vr 234), (vi 481 0), (vi 128 0), (vs "/claim/cut.py" 482)])
noncomputable def o236 (P : Params) : Obj := ob "function" (fn (st 29) "is_na" "is_na" 3 .none .none .none (vs "vectorcove.rational" 442) none (vr 235) .none 0)
noncomputable def g21 (P : Params) : O8 := ⟨⟨.none, none, (fn (st 28) "from_int" "from_int" 0 .none .none .none .none none .none .none 0), ⟨[]⟩⟩, ob "tuple" (sq [] 0), ⟨.none, none, (fl []), ⟨[]⟩⟩, ob "tuple" (sq [(vs "x" 480)] 0), ob "tuple" (sq [] 0), ⟨.none, none, (fn (st 29) "is_na" "is_na" 0 .none .none .none .none none .none .none 0), ⟨[]⟩⟩, ob "tuple" (sq [] 0), ⟨.none, none, (fl []), ⟨[]⟩⟩⟩
noncomputable def o242 (P : Params) : Obj := ob "code" (fl [(vs "is_finite" 484), (vs "is_finite" 485), (vs "/claim/cut.py" 486), (vi 130 0), (vi 1 0), (vi 0 0), (vi 0 0), (vi 3 0), (vr 237), (.bool true), (vi 181 0), (vr 238), .none, (vr 239), (vr 240), (vr 241), (vi 488 0), (vi 130 0), (vs "/claim/cut.py" 489)])
noncomputable def o243 (P : Params) : Obj := ob "function" (fn (st 30) "is_finite" "is_finite" 3 .none .none .none (vs "vectorcove.rational" 442) none (vr 242) .none 0)
noncomputable def g22 (P : Params) : O8 := ⟨ob "tuple" (sq [(vs "x" 487)] 0), ob "tuple" (sq [] 0), ⟨.none, none, (fn (st 30) "is_finite" "is_finite" 0 .none .none .none .none none .none .none 0), ⟨[]⟩⟩, ob "tuple" (sq [] 0), ⟨.none, none, (fl []), ⟨[]⟩⟩, ob "tuple" (sq [(vs "x" 494)] 0), ob "tuple" (sq [] 0), ⟨.none, none, (fn (st 31) "neg" "neg" 0 .none .none .none .none none .none .none 0), ⟨[]⟩⟩⟩
noncomputable def o249 (P : Params) : Obj := ob "code" (fl [(vs "neg" 491), (vs "neg" 492), (vs "/claim/cut.py" 493), (vi 132 0), (vi 1 0), (vi 0 0), (vi 0 0), (vi 3 0), (vr 244), (.bool true), (vi 181 0), (vr 245), .none, (vr 246), (vr 247), (vr 248), (vi 495 0), (vi 132 0), (vs "/claim/cut.py" 496)])
noncomputable def o250 (P : Params) : Obj := ob "function" (fn (st 31) "neg" "neg" 3 .none .none .none (vs "vectorcove.rational" 442) none (vr 249) .none 0)
noncomputable def o256 (P : Params) : Obj := ob "code" (fl [(vs "to_whole" 498), (vs "to_whole" 499), (vs "/claim/cut.py" 500), (vi 136 0), (vi 1 0), (vi 0 0), (vi 0 0), (vi 3 0), (vr 251), (.bool true), (vi 181 0), (vr 252), .none, (vr 253), (vr 254), (vr 255), (vi 503 0), (vi 136 0), (vs "/claim/cut.py" 504)])
noncomputable def o257 (P : Params) : Obj := ob "function" (fn (st 32) "to_whole" "to_whole" 3 .none .none .none (vs "vectorcove.rational" 442) none (vr 256) .none 0)
noncomputable def g23 (P : Params) : O8 := ⟨ob "tuple" (sq [] 0), ⟨.none, none, (fl []), ⟨[]⟩⟩, ob "tuple" (sq [(vs "x" 501), (vs "found" 502)] 0), ob "tuple" (sq [] 0), ⟨.none, none, (fn (st 32) "to_whole" "to_whole" 0 .none .none .none .none none .none .none 0), ⟨[]⟩⟩, ob "tuple" (sq [] 0), ⟨.none, none, (fl []), ⟨[]⟩⟩, ob "tuple" (sq [(vs "n" 509), (vs "d" 510), (vs "low" 511), (vs "rest" 512)] 0)⟩
noncomputable def o263 (P : Params) : Obj := ob "code" (fl [(vs "nearest_whole" 506), (vs "nearest_whole" 507), (vs "/claim/cut.py" 508), (vi 141 0), (vi 2 0), (vi 0 0), (vi 0 0), (vi 3 0), (vr 258), (.bool true), (vi 181 0), (vr 259), .none, (vr 260), (vr 261), (vr 262), (vi 513 0), (vi 141 0), (vs "/claim/cut.py" 514)])
noncomputable def o264 (P : Params) : Obj := ob "function" (fn (st 33) "nearest_whole" "nearest_whole" 3 .none .none .none (vs "vectorcove.rational" 442) none (vr 263) .none 0)
noncomputable def o270 (P : Params) : Obj := ob "code" (fl [(vs "exponent" 516), (vs "exponent" 517), (vs "/claim/cut.py" 518), (vi 147 0), (vi 1 0), (vi 0 0), (vi 0 0), (vi 3 0), (vr 265), (.bool true), (vi 181 0), (vr 266), .none, (vr 267), (vr 268), (vr 269), (vi 523 0), (vi 147 0), (vs "/claim/cut.py" 524)])
noncomputable def o271 (P : Params) : Obj := ob "function" (fn (st 34) "exponent" "exponent" 3 .none .none .none (vs "vectorcove.rational" 442) none (vr 270) .none 0)
noncomputable def g24 (P : Params) : O8 := ⟨ob "tuple" (sq [] 0), ⟨.none, none, (fn (st 33) "nearest_whole" "nearest_whole" 0 .none .none .none .none none .none .none 0), ⟨[]⟩⟩, ob "tuple" (sq [] 0), ⟨.none, none, (fl []), ⟨[]⟩⟩, ob "tuple" (sq [(vs "x" 519), (vs "n" 520), (vs "d" 521), (vs "e" 522)] 0), ob "tuple" (sq [] 0), ⟨.none, none, (fn (st 34) "exponent" "exponent" 0 .none .none .none .none none .none .none 0), ⟨[]⟩⟩, ob "tuple" (sq [] 0)⟩
noncomputable def o277 (P : Params) : Obj := ob "code" (fl [(vs "whole_text" 530), (vs "whole_text" 531), (vs "/claim/cut.py" 532), (vi 160 0), (vi 1 0), (vi 0 0), (vi 0 0), (vi 3 0), (vr 272), (.bool true), (vi 181 0), (vr 273), .none, (vr 274), (vr 275), (vr 276), (vi 537 0), (vi 160 0), (vs "/claim/cut.py" 538)])
noncomputable def o278 (P : Params) : Obj := ob "function" (fn (st 37) "whole_text" "whole_text" 3 .none .none .none (vs "vectorcove.numtext" 526) none (vr 277) .none 0)
noncomputable def g25 (P : Params) : O8 := ⟨⟨.none, none, (fl []), ⟨[]⟩⟩, ob "tuple" (sq [(vs "n" 533), (vs "rest" 534), (vs "row" 535), (vs "part" 536)] 0), ob "tuple" (sq [] 0), ⟨.none, none, (fn (st 37) "whole_text" "whole_text" 0 .none .none .none .none none .none .none 0), ⟨[]⟩⟩, ob "tuple" (sq [] 0), ⟨.none, none, (fl []), ⟨[]⟩⟩, ob "tuple" (sq [(vs "x" 543)] 0), ob "tuple" (sq [] 0)⟩
noncomputable def o284 (P : Params) : Obj := ob "code" (fl [(vs "special_text" 540), (vs "special_text" 541), (vs "/claim/cut.py" 542), (vi 171 0), (vi 1 0), (vi 0 0), (vi 0 0), (vi 3 0), (vr 279), (.bool true), (vi 181 0), (vr 280), .none, (vr 281), (vr 282), (vr 283), (vi 544 0), (vi 171 0), (vs "/claim/cut.py" 545)])
noncomputable def o285 (P : Params) : Obj := ob "function" (fn (st 38) "special_text" "special_text" 3 .none .none .none (vs "vectorcove.numtext" 526) none (vr 284) .none 0)
noncomputable def o291 (P : Params) : Obj := ob "code" (fl [(vs "scaled" 547), (vs "scaled" 548), (vs "/claim/cut.py" 549), (vi 179 0), (vi 3 0), (vi 0 0), (vi 0 0), (vi 3 0), (vr 286), (.bool true), (vi 181 0), (vr 287), .none, (vr 288), (vr 289), (vr 290), (vi 554 0), (vi 179 0), (vs "/claim/cut.py" 555)])
noncomputable def o292 (P : Params) : Obj := ob "function" (fn (st 39) "scaled" "scaled" 3 .none .none .none (vs "vectorcove.numtext" 526) none (vr 291) .none 0)
noncomputable def g26 (P : Params) : O8 := ⟨⟨.none, none, (fn (st 38) "special_text" "special_text" 0 .none .none .none .none none .none .none 0), ⟨[]⟩⟩, ob "tuple" (sq [] 0), ⟨.none, none, (fl []), ⟨[]⟩⟩, ob "tuple" (sq [(vs "x" 550), (vs "e" 551), (vs "digits" 552), (vs "shift" 553)] 0), ob "tuple" (sq [] 0), ⟨.none, none, (fn (st 39) "scaled" "scaled" 0 .none .none .none .none none .none .none 0), ⟨[]⟩⟩, ob "tuple" (sq [] 0), ⟨.none, none, (fl []), ⟨[]⟩⟩⟩
noncomputable def o298 (P : Params) : Obj := ob "code" (fl [(vs "significant" 557), (vs "significant" 558), (vs "/claim/cut.py" 559), (vi 184 0), (vi 2 0), (vi 0 0), (vi 0 0), (vi 3 0), (vr 293), (.bool true), (vi 181 0), (vr 294), .none, (vr 295), (vr 296), (vr 297), (vi 564 0), (vi 184 0), (vs "/claim/cut.py" 565)])
noncomputable def o299 (P : Params) : Obj := ob "function" (fn (st 40) "significant" "significant" 3 .none .none .none (vs "vectorcove.numtext" 526) none (vr 298) .none 0)
noncomputable def g27 (P : Params) : O8 := ⟨ob "tuple" (sq [(vs "x" 560), (vs "digits" 561), (vs "e" 562), (vs "n" 563)] 0), ob "tuple" (sq [] 0), ⟨.none, none, (fn (st 40) "significant" "significant" 0 .none .none .none .none none .none .none 0), ⟨[]⟩⟩, ob "tuple" (sq [] 0), ⟨.none, none, (fl []), ⟨[]⟩⟩, ob "tuple" (sq [(vs "text" 570), (vs "end" 571)] 0), ob "tuple" (sq [] 0), ⟨.none, none, (fn (st 41) "without_tail" "without_tail" 0 .none .none .none .none none .none .none 0), ⟨[]⟩⟩⟩
noncomputable def o305 (P : Params) : Obj := ob "code" (fl [(vs "without_tail" 567), (vs "without_tail" 568), (vs "/claim/cut.py" 569), (vi 193 0), (vi 1 0), (vi 0 0), (vi 0 0), (vi 3 0), (vr 300), (.bool true), (vi 181 0), (vr 301), .none, (vr 302), (vr 303), (vr 304), (vi 572 0), (vi 193 0), (vs "/claim/cut.py" 573)])
noncomputable def o306 (P : Params) : Obj := ob "function" (fn (st 41) "without_tail" "without_tail" 3 .none .none .none (vs "vectorcove.numtext" 526) none (vr 305) .none 0)
noncomputable def o312 (P : Params) : Obj := ob "code" (fl [(vs "scientific_text" 575), (vs "scientific_text" 576), (vs "/claim/cut.py" 577), (vi 198 0), (vi 2 0), (vi 0 0), (vi 0 0), (vi 3 0), (vr 307), (.bool true), (vi 181 0), (vr 308), .none, (vr 309), (vr 310), (vr 311), (vi 584 0), (vi 198 0), (vs "/claim/cut.py" 585)])
noncomputable def o313 (P : Params) : Obj := ob "function" (fn (st 42) "scientific_text" "scientific_text" 3 .none .none .none (vs "vectorcove.numtext" 526) none (vr 312) .none 0)
noncomputable def g28 (P : Params) : O8 := ⟨ob "tuple" (sq [] 0), ⟨.none, none, (fl []), ⟨[]⟩⟩, ob "tuple" (sq [(vs "x" 578), (vs "digits" 579), (vs "side" 580), (vs "text" 581), (vs "e" 582), (vs "row" 583)] 0), ob "tuple" (sq [] 0), ⟨.none, none, (fn (st 42) "scientific_text" "scientific_text" 0 .none .none .none .none none .none .none 0), ⟨[]⟩⟩, ob "tuple" (sq [] 0), ⟨.none, none, (fl []), ⟨[]⟩⟩, ob "tuple" (sq [(vs "x" 590), (vs "places" 591), (vs "n" 592), (vs "text" 593)] 0)⟩
noncomputable def o319 (P : Params) : Obj := ob "code" (fl [(vs "fixed_text" 587), (vs "fixed_text" 588), (vs "/claim/cut.py" 589), (vi 205 0), (vi 2 0), (vi 0 0), (vi 0 0), (vi 3 0), (vr 314), (.bool true), (vi 181 0), (vr 315), .none, (vr 316), (vr 317), (vr 318), (vi 594 0), (vi 205 0), (vs "/claim/cut.py" 595)])
noncomputable def o320 (P : Params) : Obj := ob "function" (fn (st 43) "fixed_text" "fixed_text" 3 .none .none .none (vs "vectorcove.numtext" 526) none (vr 319) .none 0)
noncomputable def o326 (P : Params) : Obj := ob "code" (fl [(vs "measures" 597), (vs "measures" 598), (vs "/claim/cut.py" 599), (vi 213 0), (vi 2 0), (vi 0 0), (vi 0 0), (vi 3 0), (vr 321), (.bool true), (vi 181 0), (vr 322), .none, (vr 323), (vr 324), (vr 325), (vi 607 0), (vi 213 0), (vs "/claim/cut.py" 608)])
noncomputable def o327 (P : Params) : Obj := ob "function" (fn (st 44) "measures" "measures" 3 .none .none .none (vs "vectorcove.numtext" 526) none (vr 326) .none 0)
noncomputable def g29 (P : Params) : O8 := ⟨ob "tuple" (sq [] 0), ⟨.none, none, (fn (st 43) "fixed_text" "fixed_text" 0 .none .none .none .none none .none .none 0), ⟨[]⟩⟩, ob "tuple" (sq [] 0), ⟨.none, none, (fl []), ⟨[]⟩⟩, ob "tuple" (sq [(vs "x" 600), (vs "digits" 601), (vs "side" 602), (vs "text" 603), (vs "e" 604), (vs "count" 605), (vs "left" 606)] 0), ob "tuple" (sq [] 0), ⟨.none, none, (fn (st 44) "measures" "measures" 0 .none .none .none .none none .none .none 0), ⟨[]⟩⟩, ob "tuple" (sq [] 0)⟩
noncomputable def o333 (P : Params) : Obj := ob "code" (fl [(vs "chosen_form" 610), (vs "chosen_form" 611), (vs "/claim/cut.py" 612), (vi 220 0), (vi 2 0), (vi 0 0), (vi 0 0), (vi 3 0), (vr 328), (.bool true), (vi 181 0), (vr 329), .none, (vr 330), (vr 331), (vr 332), (vi 624 0), (vi 220 0), (vs "/claim/cut.py" 625)])
noncomputable def o334 (P : Params) : Obj := ob "function" (fn (st 45) "chosen_form" "chosen_form" 3 .none .none .none (vs "vectorcove.numtext" 526) none (vr 333) .none 0)
noncomputable def g30 (P : Params) : O8 := ⟨⟨.none, none, (fl []), ⟨[]⟩⟩, ob "tuple" (sq [(vs "xs" 613), (vs "digits" 614), (vs "count" 615), (vs "left" 616), (vs "places" 617), (vs "wide" 618), (vs "minus" 619), (vs "x" 620), (vs "row" 621), (vs "fixed_width" 622), (vs "scientific_width" 623)] 0), ob "tuple" (sq [] 0), ⟨.none, none, (fn (st 45) "chosen_form" "chosen_form" 0 .none .none .none .none none .none .none 0), ⟨[]⟩⟩, ob "tuple" (sq [] 0), ⟨.none, none, (fl []), ⟨[]⟩⟩, ob "tuple" (sq [(vs "x" 630), (vs "form" 631), (vs "text" 632)] 0), ob "tuple" (sq [] 0)⟩
noncomputable def o340 (P : Params) : Obj := ob "code" (fl [(vs "formed" 627), (vs "formed" 628), (vs "/claim/cut.py" 629), (vi 240 0), (vi 2 0), (vi 0 0), (vi 0 0), (vi 3 0), (vr 335), (.bool true), (vi 181 0), (vr 336), .none, (vr 337), (vr 338), (vr 339), (vi 633 0), (vi 240 0), (vs "/claim/cut.py" 634)])
noncomputable def o341 (P : Params) : Obj := ob "function" (fn (st 46) "formed" "formed" 3 .none .none .none (vs "vectorcove.numtext" 526) none (vr 340) .none 0)
noncomputable def o345 (P : Params) : Obj := ob "code" (fl [(vs "common_texts" 636), (vs "common_texts" 637), (vs "/claim/cut.py" 638), (vi 247 0), (vi 2 0), (vi 0 0), (vi 0 0), (vi 3 0), (vr 342), (.bool true), (vi 181 0), (vr 343), .none, .none, .none, (vr 344), (vi 639 0), (vi 247 0), (vs "/claim/cut.py" 640)])
noncomputable def o346 (P : Params) : Obj := ob "function" (fn (st 47) "common_texts" "common_texts" 3 .none .none .none (vs "vectorcove.numtext" 526) none (vr 345) .none 0)
noncomputable def o347 (P : Params) : Obj := ob "tuple" (sq [(vi 7 642)] 0)
noncomputable def g31 (P : Params) : O8 := ⟨⟨.none, none, (fn (st 46) "formed" "formed" 0 .none .none .none .none none .none .none 0), ⟨[]⟩⟩, ob "tuple" (sq [] 0), ⟨.none, none, (fl []), ⟨[]⟩⟩, ⟨.none, none, (fn (st 47) "common_texts" "common_texts" 0 .none .none .none .none none .none .none 0), ⟨[]⟩⟩, ob "tuple" (sq [] 0), ⟨.none, none, (fl []), ⟨[]⟩⟩, ob "tuple" (sq [(vs "x" 646), (vs "digits" 647)] 0), ob "tuple" (sq [] 0)⟩
noncomputable def o353 (P : Params) : Obj := ob "code" (fl [(vs "number_text" 643), (vs "number_text" 644), (vs "/claim/cut.py" 645), (vi 251 0), (vi 2 0), (vi 0 0), (vi 0 0), (vi 3 0), (vr 348), (.bool true), (vi 181 0), (vr 349), .none, (vr 350), (vr 351), (vr 352), (vi 648 0), (vi 251 0), (vs "/claim/cut.py" 649)])
noncomputable def o354 (P : Params) : Obj := ob "function" (fn (st 48) "number_text" "number_text" 3 (vr 347) .none .none (vs "vectorcove.numtext" 526) none (vr 353) .none 0)
noncomputable def o360 (P : Params) : Obj := ob "code" (fl [(vs "digits_value" 651), (vs "digits_value" 652), (vs "/claim/cut.py" 653), (vi 253 0), (vi 2 0), (vi 0 0), (vi 0 0), (vi 3 0), (vr 355), (.bool true), (vi 181 0), (vr 356), .none, (vr 357), (vr 358), (vr 359), (vi 658 0), (vi 253 0), (vs "/claim/cut.py" 659)])
noncomputable def o361 (P : Params) : Obj := ob "function" (fn (st 49) "digits_value" "digits_value" 3 .none .none .none (vs "vectorcove.numtext" 526) none (vr 360) .none 0)
noncomputable def g32 (P : Params) : O8 := ⟨⟨.none, none, (fn (st 48) "number_text" "number_text" 0 .none .none .none .none none .none .none 0), ⟨[]⟩⟩, ob "tuple" (sq [] 0), ⟨.none, none, (fl []), ⟨[]⟩⟩, ob "tuple" (sq [(vs "text" 654), (vs "base" 655), (vs "value" 656), (vs "char" 657)] 0), ob "tuple" (sq [] 0), ⟨.none, none, (fn (st 49) "digits_value" "digits_value" 0 .none .none .none .none none .none .none 0), ⟨[]⟩⟩, ob "tuple" (sq [] 0), ⟨.none, none, (fl []), ⟨[]⟩⟩⟩
noncomputable def o367 (P : Params) : Obj := ob "code" (fl [(vs "digit_run" 661), (vs "digit_run" 662), (vs "/claim/cut.py" 663), (vi 258 0), (vi 3 0), (vi 0 0), (vi 0 0), (vi 3 0), (vr 362), (.bool true), (vi 181 0), (vr 363), .none, (vr 364), (vr 365), (vr 366), (vi 667 0), (vi 258 0), (vs "/claim/cut.py" 668)])
noncomputable def o368 (P : Params) : Obj := ob "function" (fn (st 50) "digit_run" "digit_run" 3 .none .none .none (vs "vectorcove.numtext" 526) none (vr 367) .none 0)
noncomputable def g33 (P : Params) : O8 := ⟨ob "tuple" (sq [(vs "text" 664), (vs "at" 665), (vs "digits" 666)] 0), ob "tuple" (sq [] 0), ⟨.none, none, (fn (st 50) "digit_run" "digit_run" 0 .none .none .none .none none .none .none 0), ⟨[]⟩⟩, ob "tuple" (sq [] 0), ⟨.none, none, (fl []), ⟨[]⟩⟩, ob "tuple" (sq [(vs "text" 673), (vs "start" 674), (vs "value" 675)] 0), ob "tuple" (sq [] 0), ⟨.none, none, (fn (st 51) "exponent_value" "exponent_value" 0 .none .none .none .none none .none .none 0), ⟨[]⟩⟩⟩
noncomputable def o374 (P : Params) : Obj := ob "code" (fl [(vs "exponent_value" 670), (vs "exponent_value" 671), (vs "/claim/cut.py" 672), (vi 262 0), (vi 1 0), (vi 0 0), (vi 0 0), (vi 3 0), (vr 369), (.bool true), (vi 181 0), (vr 370), .none, (vr 371), (vr 372), (vr 373), (vi 676 0), (vi 262 0), (vs "/claim/cut.py" 677)])
noncomputable def o375 (P : Params) : Obj := ob "function" (fn (st 51) "exponent_value" "exponent_value" 3 .none .none .none (vs "vectorcove.numtext" 526) none (vr 374) .none 0)
noncomputable def T2 (P : Params) : BT :=  (N (boot_o_0 P) (N (boot_o_1 P) (N ((g11 P).a) (N (boot_o_7 P) (N ((g1 P).c) (N ((g2 P).h) (N (o63 P) (N ((g12 P).a) (N ((g23 P).e) e e) e) (N ((g17 P).g) (N (o319 P) e e) e)) (N ((g8 P).f) (N (o159 P) (N ((g26 P).c) e e) e) (N ((g20 P).e) (N ((g31 P).h) e e) e))) (N ((g4 P).c) (N ((g7 P).d) (N ((g13 P).e) (N (o271 P) e e) e) (N ((g19 P).a) (N ((g30 P).e) e e) e)) (N (o111 P) (N ((g16 P).c) (N ((g27 P).g) e e) e) (N ((g22 P).a) (N (o367 P) e e) e)))) (N (o23 P) (N ((g3 P).g) (N ((g6 P).f) (N ((g12 P).g) (N (o263 P) e e) e) (N (o199 P) (N (o327 P) e e) e)) (N ((g9 P).e) (N (o167 P) (N ((g27 P).a) e e) e) (N ((g21 P).c) (N ((g32 P).f) e e) e))) (N ((g5 P).b) (N ((g8 P).b) (N ((g14 P).c) (N ((g25 P).e) e e) e) (N (o215 P) (N ((g31 P).c) e e) e)) (N ((g11 P).c) (N ((g17 P).a) (N ((g28 P).e) e e) e) (N ((g22 P).g) (N (o375 P) e e) e))))) (N ((g0 P).a) (N ((g1 P).g) (N ((g3 P).c) (N ((g6 P).b) (N (o131 P) (N ((g23 P).g) e e) e) (N ((g18 P).a) (N ((g29 P).e) e e) e)) (N ((g9 P).b) (N ((g15 P).c) (N (o291 P) e e) e) (N ((g21 P).a) (N ((g32 P).b) e e) e))) (N ((g4 P).g) (N ((g7 P).f) (N ((g13 P).g) (N ((g25 P).c) e e) e) (N ((g19 P).e) (N ((g31 P).a) e e) e)) (N ((g10 P).d) (N ((g16 P).g) (N ((g28 P).a) e e) e) (N (o243 P) (N ((g33 P).f) e e) e)))) (N ((g2 P).d) (N (o43 P) (N (o75 P) (N (o139 P) (N ((g24 P).e) e e) e) (N ((g18 P).g) (N ((g30 P).c) e e) e)) (N ((g9 P).h) (N ((g16 P).a) (N (o299 P) e e) e) (N (o235 P) (N ((g32 P).h) e e) e))) (N (o59 P) (N (o91 P) (N ((g14 P).e) (N ((g26 P).a) e e) e) (N ((g20 P).c) (N (o347 P) e e) e)) (N ((g11 P).g) (N (o187 P) (N ((g28 P).g) e e) e) (N ((g23 P).a) e e)))))) (N (boot_o_5 P) (N (boot_o_9 P) (N ((g1 P).e) (N (o33 P) (N ((g5 P).h) (N ((g12 P).c) (N (o257 P) e e) e) (N (o193 P) (N ((g29 P).c) e e) e)) (N ((g8 P).h) (N ((g15 P).a) (N ((g26 P).e) e e) e) (N ((g20 P).g) (N (o353 P) e e) e))) (N ((g4 P).e) (N (o81 P) (N (o145 P) (N ((g25 P).a) e e) e) (N ((g19 P).c) (N ((g30 P).g) e e) e)) (N (o113 P) (N ((g16 P).e) (N (o305 P) e e) e) (N ((g22 P).c) (N ((g33 P).d) e e) e)))) (N ((g2 P).b) (N (o41 P) (N (o73 P) (N ((g13 P).a) (N ((g24 P).c) e e) e) (N ((g18 P).e) (N ((g30 P).a) e e) e)) (N ((g9 P).f) (N ((g15 P).g) (N ((g27 P).c) e e) e) (N ((g21 P).e) (N (o361 P) e e) e))) (N ((g5 P).d) (N (o89 P) (N (o153 P) (N ((g25 P).g) e e) e) (N ((g20 P).a) (N (o345 P) e e) e)) (N ((g11 P).e) (N ((g17 P).c) (N (o313 P) e e) e) (N (o249 P) e e))))) (N (o13 P) (N ((g1 P).h) (N ((g3 P).e) (N ((g6 P).d) (N ((g12 P).e) (N ((g24 P).a) e e) e) (N ((g18 P).c) (N ((g29 P).g) e e) e)) (N ((g9 P).d) (N ((g15 P).e) (N ((g26 P).g) e e) e) (N (o229 P) (N ((g32 P).d) e e) e))) (N ((g4 P).h) (N ((g7 P).h) (N ((g14 P).a) (N (o277 P) e e) e) (N ((g19 P).g) (N (o341 P) e e) e)) (N ((g10 P).f) (N (o181 P) (N ((g28 P).c) e e) e) (N ((g22 P).e) (N ((g33 P).h) e e) e)))) (N ((g2 P).f) (N ((g4 P).a) (N ((g7 P).b) (N ((g13 P).c) (N ((g24 P).g) e e) e) (N (o205 P) (N (o333 P) e e) e)) (N ((g10 P).b) (N (o173 P) (N ((g27 P).e) e e) e) (N ((g21 P).g) (N ((g33 P).b) e e) e))) (N ((g5 P).f) (N ((g8 P).d) (N ((g14 P).g) (N (o285 P) e e) e) (N (o221 P) (N ((g31 P).f) e e) e)) (N (o125 P) (N ((g17 P).e) (N ((g29 P).a) e e) e) (N ((g23 P).c) e e))))))) (N (o2 P) (N (boot_o_4 P) (N (boot_o_8 P) (N ((g1 P).d) (N ((g3 P).a) (N ((g5 P).g) (N ((g12 P).b) (N (o256 P) e e) e) (N (o192 P) (N (o320 P) e e) e)) (N ((g8 P).g) (N (o160 P) (N ((g26 P).d) e e) e) (N ((g20 P).f) (N ((g32 P).a) e e) e))) (N ((g4 P).d) (N ((g7 P).e) (N ((g13 P).f) (N ((g24 P).h) e e) e) (N ((g19 P).b) (N ((g30 P).f) e e) e)) (N ((g10 P).c) (N ((g16 P).d) (N ((g27 P).h) e e) e) (N ((g22 P).b) (N (o368 P) e e) e)))) (N (o24 P) (N (o40 P) (N ((g6 P).g) (N ((g12 P).h) (N (o264 P) e e) e) (N (o200 P) (N ((g29 P).h) e e) e)) (N (o104 P) (N ((g15 P).f) (N ((g27 P).b) e e) e) (N ((g21 P).d) (N (o360 P) e e) e))) (N ((g5 P).c) (N (o88 P) (N (o152 P) (N ((g25 P).f) e e) e) (N ((g19 P).h) (N ((g31 P).d) e e) e)) (N ((g11 P).d) (N ((g17 P).b) (N (o312 P) e e) e) (N ((g22 P).h) e e))))) (N ((g11 P).b) (N (o20 P) (N ((g3 P).d) (N ((g6 P).c) (N (o132 P) (N ((g23 P).h) e e) e) (N ((g18 P).b) (N ((g29 P).f) e e) e)) (N ((g9 P).c) (N ((g15 P).d) (N (o292 P) e e) e) (N (o228 P) (N ((g32 P).c) e e) e))) (N (o52 P) (N ((g7 P).g) (N ((g13 P).h) (N ((g25 P).d) e e) e) (N ((g19 P).f) (N (o340 P) e e) e)) (N ((g10 P).e) (N (o180 P) (N ((g28 P).b) e e) e) (N ((g22 P).d) (N ((g33 P).g) e e) e)))) (N ((g2 P).e) (N (o44 P) (N ((g7 P).a) (N ((g13 P).b) (N ((g24 P).f) e e) e) (N (o204 P) (N ((g30 P).d) e e) e)) (N ((g10 P).a) (N ((g16 P).b) (N ((g27 P).d) e e) e) (N (o236 P) (N ((g33 P).a) e e) e))) (N (o60 P) (N (o92 P) (N ((g14 P).f) (N (o284 P) e e) e) (N ((g20 P).d) (N ((g31 P).e) e e) e)) (N (o124 P) (N (o188 P) (N ((g28 P).h) e e) e) (N ((g23 P).b) e e)))))) (N (boot_o_6 P) (N (boot_o_10 P) (N ((g1 P).f) (N ((g3 P).b) (N ((g6 P).a) (N ((g12 P).d) (N ((g23 P).f) e e) e) (N ((g17 P).h) (N ((g29 P).d) e e) e)) (N ((g9 P).a) (N ((g15 P).b) (N ((g26 P).f) e e) e) (N ((g20 P).h) (N (o354 P) e e) e))) (N ((g4 P).f) (N (o82 P) (N (o146 P) (N ((g25 P).b) e e) e) (N ((g19 P).d) (N ((g30 P).h) e e) e)) (N (o114 P) (N ((g16 P).f) (N (o306 P) e e) e) (N (o242 P) (N ((g33 P).e) e e) e)))) (N ((g2 P).c) (N ((g3 P).h) (N ((g6 P).h) (N (o138 P) (N ((g24 P).d) e e) e) (N ((g18 P).f) (N ((g30 P).b) e e) e)) (N ((g9 P).g) (N ((g15 P).h) (N (o298 P) e e) e) (N ((g21 P).f) (N ((g32 P).g) e e) e))) (N ((g5 P).e) (N ((g8 P).c) (N ((g14 P).d) (N ((g25 P).h) e e) e) (N ((g20 P).b) (N (o346 P) e e) e)) (N ((g11 P).f) (N ((g17 P).d) (N ((g28 P).f) e e) e) (N (o250 P) e e))))) (N ((g0 P).c) (N ((g2 P).a) (N ((g3 P).f) (N ((g6 P).e) (N ((g12 P).f) (N ((g24 P).b) e e) e) (N ((g18 P).d) (N (o326 P) e e) e)) (N (o102 P) (N (o166 P) (N ((g26 P).h) e e) e) (N ((g21 P).b) (N ((g32 P).e) e e) e))) (N ((g5 P).a) (N ((g8 P).a) (N ((g14 P).b) (N (o278 P) e e) e) (N (o214 P) (N ((g31 P).b) e e) e)) (N ((g10 P).g) (N ((g16 P).h) (N ((g28 P).d) e e) e) (N ((g22 P).f) (N (o374 P) e e) e)))) (N ((g2 P).g) (N ((g4 P).b) (N ((g7 P).c) (N ((g13 P).d) (N (o270 P) e e) e) (N ((g18 P).h) (N (o334 P) e e) e)) (N (o110 P) (N (o174 P) (N ((g27 P).f) e e) e) (N ((g21 P).h) (N ((g33 P).c) e e) e))) (N (o62 P) (N ((g8 P).e) (N ((g14 P).h) (N ((g26 P).b) e e) e) (N (o222 P) (N ((g31 P).g) e e) e)) (N ((g11 P).h) (N ((g17 P).f) (N ((g29 P).b) e e) e) (N ((g23 P).d) e e))))))))
noncomputable def S2 (w : World) (os : OsState) : SharedT := ⟨T2 w.params, 376, {}, ⟨[]⟩, {}, 679, os⟩
noncomputable def sts2 : List Stmt := (body.drop 8).take 44
noncomputable def o381 (P : Params) : Obj := ob "code" (fl [(vs "powered" 679), (vs "powered" 680), (vs "/claim/cut.py" 681), (vi 272 0), (vi 3 0), (vi 0 0), (vi 0 0), (vi 3 0), (vr 376), (.bool true), (vi 181 0), (vr 377), .none, (vr 378), (vr 379), (vr 380), (vi 685 0), (vi 272 0), (vs "/claim/cut.py" 686)])
noncomputable def o382 (P : Params) : Obj := ob "function" (fn (st 52) "powered" "powered" 3 .none .none .none (vs "vectorcove.numtext" 526) none (vr 381) .none 0)
noncomputable def g34 (P : Params) : O8 := ⟨ob "dict" (dc [en P "__name__" 165 (vs "vectorcove.subset" 941), en P "__doc__" 166 .none, en P "__package__" 167 .none, en P "__loader__" 168 (.builtin "__main__.__loader__#opaque"), en P "__spec__" 169 .none, en P "__annotations__" 170 (vr 6), en P "__builtins__" 171 (vr 4), en P "__file__" 173 (vs "/claim/cut.py" 172), en P "__cached__" 174 .none, en P "CoveError" 208 (vr 24), en P "Refusal" 233 (vr 44), en P "MOST_LENGTH" 237 (vi 1000000 236), en P "Null" 266 (vr 63), en P "Vector" 309 (vr 92), en P "Call" 344 (vr 114), en P "room" 351 (vr 125), en P "character" 358 (vr 132), en P "length" 366 (vr 139), en P "is_vector" 373 (vr 146), en P "is_atomic" 380 (vr 153), en P "own" 387 (vr 160), en P "share" 394 (vr 167), en P "get_attr" 404 (vr 174), en P "drop_attr" 412 (vr 181), en P "put_attr" 421 (vr 188), en P "names_of" 427 (vr 193), en P "dim_of" 435 (vr 200), en P "dimnames_of" 441 (vr 205), en P "NAN" 446 (vr 206), en P "INF" 449 (vr 207), en P "ZERO" 452 (vr 208), en P "gcd" 460 (vr 215), en P "make" 469 (vr 222), en P "from_int" 476 (vr 229), en P "is_na" 483 (vr 236), en P "is_finite" 490 (vr 243), en P "neg" 497 (vr 250), en P "to_whole" 505 (vr 257), en P "nearest_whole" 515 (vr 264), en P "exponent" 525 (vr 271), en P "MOST_EXPONENT" 529 (vi 4096 528), en P "whole_text" 539 (vr 278), en P "special_text" 546 (vr 285), en P "scaled" 556 (vr 292), en P "significant" 566 (vr 299), en P "without_tail" 574 (vr 306), en P "scientific_text" 586 (vr 313), en P "fixed_text" 596 (vr 320), en P "measures" 609 (vr 327), en P "chosen_form" 626 (vr 334), en P "formed" 635 (vr 341), en P "common_texts" 641 (vr 346), en P "number_text" 650 (vr 354), en P "digits_value" 660 (vr 361), en P "digit_run" 669 (vr 368), en P "exponent_value" 678 (vr 375), en P "powered" 687 (vr 382), en P "unsigned_number" 706 (vr 389), en P "parse_number" 718 (vr 396), en P "MOST_INTEGER" 722 (vi 2147483647 721), en P "kind_order" 730 (vr 403), en P "common_kind" 740 (vr 410), en P "note" 748 (vr 417), en P "as_logical_text" 755 (vr 424), en P "double_to_integer" 764 (vr 431), en P "text_to_double" 774 (vr 438), en P "to_logical" 782 (vr 445), en P "to_integer" 791 (vr 452), en P "to_double" 800 (vr 459), en P "to_text" 808 (vr 466), en P "item_as" 818 (vr 473), en P "is_atomic_kind" 825 (vr 480), en P "list_item_as" 835 (vr 487), en P "refuse_type" 843 (vr 494), en P "as_vector_kind" 849 (vr 499), en P "with_names" 857 (vr 506), en P "as_kind" 863 (vr 511), en P "as_list" 870 (vr 518), en P "whole_subscripts" 881 (vr 525), en P "first_places" 891 (vr 532), en P "partial_place" 902 (vr 539), en P "one_name" 911 (vr 546), en P "one_whole" 919 (vr 553), en P "one_place" 930 (vr 560), en P "strides" 940 (vr 567), en P "lacking_item" 949 (vr 574), en P "is_list_kind" 956 (vr 581), en P "refuse_subset" 963 (vr 588), en P "one_item" 971 (vr 595), en P "vector_element" 982 (vr 602), en P "array_element_place" 997 (vr 609), en P "environment_item" 1005 (vr 616), en P "element_step" 1011 (vr 621), en P "index_parts" 1017 (vr 626)] 94), ⟨.none, none, (fl [(vi 2 0), (vi 0 0), (vr 20), (vi 4 0), (vi 0 0), (vr 33), (vi 10 0), (vi 0 0), (vr 52), (vi 15 0), (vi 0 0), (vr 73), (vi 29 0), (vi 0 0), (vr 102), (vi 37 0), (vi 0 0), (vr 124), (vi 41 0), (vi 0 0), (vr 131), (vi 43 0), (vi 0 0), (vr 138), (vi 54 0), (vi 0 0), (vr 145), (vi 56 0), (vi 0 0), (vr 152), (vi 58 0), (vi 0 0), (vr 159), (vi 62 0), (vi 0 0), (vr 166), (vi 67 0), (vi 0 0), (vr 173), (vi 71 0), (vi 0 0), (vr 180), (vi 76 0), (vi 0 0), (vr 187), (vi 80 0), (vi 0 0), (vr 192), (vi 96 0), (vi 0 0), (vr 199), (vi 101 0), (vi 0 0), (vr 204), (vi 110 0), (vi 0 0), (vr 214), (vi 114 0), (vi 0 0), (vr 221), (vi 124 0), (vi 0 0), (vr 228), (vi 128 0), (vi 0 0), (vr 235), (vi 130 0), (vi 0 0), (vr 242), (vi 132 0), (vi 0 0), (vr 249), (vi 136 0), (vi 0 0), (vr 256), (vi 141 0), (vi 0 0), (vr 263), (vi 147 0), (vi 0 0), (vr 270), (vi 160 0), (vi 0 0), (vr 277), (vi 171 0), (vi 0 0), (vr 284), (vi 179 0), (vi 0 0), (vr 291), (vi 184 0), (vi 0 0), (vr 298), (vi 193 0), (vi 0 0), (vr 305), (vi 198 0), (vi 0 0), (vr 312), (vi 205 0), (vi 0 0), (vr 319), (vi 213 0), (vi 0 0), (vr 326), (vi 220 0), (vi 0 0), (vr 333), (vi 240 0), (vi 0 0), (vr 340), (vi 247 0), (vi 0 0), (vr 345), (vi 251 0), (vi 0 0), (vr 353), (vi 253 0), (vi 0 0), (vr 360), (vi 258 0), (vi 0 0), (vr 367), (vi 262 0), (vi 0 0), (vr 374), (vi 272 0), (vi 0 0), (vr 381), (vi 282 0), (vi 0 0), (vr 388), (vi 314 0), (vi 0 0), (vr 395), (vi 333 0), (vi 0 0), (vr 402), (vi 338 0), (vi 0 0), (vr 409), (vi 344 0), (vi 0 0), (vr 416), (vi 347 0), (vi 0 0), (vr 423), (vi 353 0), (vi 0 0), (vr 430), (vi 361 0), (vi 0 0), (vr 437), (vi 367 0), (vi 0 0), (vr 444), (vi 377 0), (vi 0 0), (vr 451), (vi 385 0), (vi 0 0), (vr 458), (vi 391 0), (vi 0 0), (vr 465), (vi 399 0), (vi 0 0), (vr 472), (vi 413 0), (vi 0 0), (vr 479), (vi 415 0), (vi 0 0), (vr 486), (vi 421 0), (vi 0 0), (vr 493), (vi 423 0), (vi 0 0), (vr 498), (vi 437 0), (vi 0 0), (vr 505), (vi 441 0), (vi 0 0), (vr 510), (vi 448 0), (vi 0 0), (vr 517), (vi 451 0), (vi 0 0), (vr 524), (vi 461 0), (vi 0 0), (vr 531), (vi 469 0), (vi 0 0), (vr 538), (vi 482 0), (vi 0 0), (vr 545), (vi 488 0), (vi 0 0), (vr 552), (vi 502 0), (vi 0 0), (vr 559), (vi 519 0), (vi 0 0), (vr 566), (vi 527 0), (vi 0 0), (vr 573), (vi 531 0), (vi 0 0), (vr 580), (vi 533 0), (vi 0 0), (vr 587), (vi 535 0), (vi 0 0), (vr 594), (vi 539 0), (vi 0 0), (vr 601), (vi 551 0), (vi 0 0), (vr 608), (vi 567 0), (vi 0 0), (vr 615), (vi 571 0), (vi 0 0), (vr 620), (vi 587 0), (vi 0 0), (vr 625)]), ⟨[]⟩⟩, ob "tuple" (sq [] 0), ⟨.none, none, (fl []), ⟨[]⟩⟩, ob "tuple" (sq [(vs "n" 682), (vs "base" 683), (vs "e" 684)] 0), ob "tuple" (sq [] 0), ⟨.none, none, (fn (st 52) "powered" "powered" 0 .none .none .none .none none .none .none 0), ⟨[]⟩⟩, ob "tuple" (sq [] 0)⟩
noncomputable def o388 (P : Params) : Obj := ob "code" (fl [(vs "unsigned_number" 688), (vs "unsigned_number" 689), (vs "/claim/cut.py" 690), (vi 282 0), (vi 1 0), (vi 0 0), (vi 0 0), (vi 3 0), (vr 383), (.bool true), (vi 181 0), (vr 384), .none, (vr 385), (vr 386), (vr 387), (vi 704 0), (vi 282 0), (vs "/claim/cut.py" 705)])
noncomputable def o389 (P : Params) : Obj := ob "function" (fn (st 53) "unsigned_number" "unsigned_number" 3 .none .none .none (vs "vectorcove.numtext" 526) none (vr 388) .none 0)
noncomputable def g35 (P : Params) : O8 := ⟨⟨.none, none, (fl []), ⟨[]⟩⟩, ob "tuple" (sq [(vs "text" 691), (vs "base" 692), (vs "digits" 693), (vs "mark" 694), (vs "scale" 695), (vs "end" 696), (vs "before" 697), (vs "behind" 698), (vs "start" 699), (vs "e" 700), (vs "ok" 701), (vs "n" 702), (vs "found" 703)] 0), ob "tuple" (sq [] 0), ⟨.none, none, (fn (st 53) "unsigned_number" "unsigned_number" 0 .none .none .none .none none .none .none 0), ⟨[]⟩⟩, ob "tuple" (sq [] 0), ⟨.none, none, (fl []), ⟨[]⟩⟩, ob "tuple" (sq [(vs "text" 710), (vs "body" 711), (vs "negative" 712), (vs "small" 713), (vs "found" 714), (vs "ok" 715)] 0), ob "tuple" (sq [] 0)⟩
noncomputable def o395 (P : Params) : Obj := ob "code" (fl [(vs "parse_number" 707), (vs "parse_number" 708), (vs "/claim/cut.py" 709), (vi 314 0), (vi 1 0), (vi 0 0), (vi 0 0), (vi 3 0), (vr 390), (.bool true), (vi 181 0), (vr 391), .none, (vr 392), (vr 393), (vr 394), (vi 716 0), (vi 314 0), (vs "/claim/cut.py" 717)])
noncomputable def o396 (P : Params) : Obj := ob "function" (fn (st 54) "parse_number" "parse_number" 3 .none .none .none (vs "vectorcove.numtext" 526) none (vr 395) .none 0)
noncomputable def o402 (P : Params) : Obj := ob "code" (fl [(vs "kind_order" 723), (vs "kind_order" 724), (vs "/claim/cut.py" 725), (vi 333 0), (vi 1 0), (vi 0 0), (vi 0 0), (vi 3 0), (vr 397), (.bool true), (vi 181 0), (vr 398), .none, (vr 399), (vr 400), (vr 401), (vi 728 0), (vi 333 0), (vs "/claim/cut.py" 729)])
noncomputable def o403 (P : Params) : Obj := ob "function" (fn (st 57) "kind_order" "kind_order" 3 .none .none .none (vs "vectorcove.coerce" 719) none (vr 402) .none 0)
noncomputable def g36 (P : Params) : O8 := ⟨⟨.none, none, (fn (st 54) "parse_number" "parse_number" 0 .none .none .none .none none .none .none 0), ⟨[]⟩⟩, ob "tuple" (sq [] 0), ⟨.none, none, (fl []), ⟨[]⟩⟩, ob "tuple" (sq [(vs "kind" 726), (vs "kinds" 727)] 0), ob "tuple" (sq [] 0), ⟨.none, none, (fn (st 57) "kind_order" "kind_order" 0 .none .none .none .none none .none .none 0), ⟨[]⟩⟩, ob "tuple" (sq [] 0), ⟨.none, none, (fl []), ⟨[]⟩⟩⟩
noncomputable def o409 (P : Params) : Obj := ob "code" (fl [(vs "common_kind" 731), (vs "common_kind" 732), (vs "/claim/cut.py" 733), (vi 338 0), (vi 1 0), (vi 0 0), (vi 0 0), (vi 3 0), (vr 404), (.bool true), (vi 181 0), (vr 405), .none, (vr 406), (vr 407), (vr 408), (vi 738 0), (vi 338 0), (vs "/claim/cut.py" 739)])
noncomputable def o410 (P : Params) : Obj := ob "function" (fn (st 58) "common_kind" "common_kind" 3 .none .none .none (vs "vectorcove.coerce" 719) none (vr 409) .none 0)
noncomputable def g37 (P : Params) : O8 := ⟨ob "tuple" (sq [(vs "kinds" 734), (vs "names" 735), (vs "most" 736), (vs "kind" 737)] 0), ob "tuple" (sq [] 0), ⟨.none, none, (fn (st 58) "common_kind" "common_kind" 0 .none .none .none .none none .none .none 0), ⟨[]⟩⟩, ob "tuple" (sq [] 0), ⟨.none, none, (fl []), ⟨[]⟩⟩, ob "tuple" (sq [(vs "notes" 744), (vs "message" 745)] 0), ob "tuple" (sq [] 0), ⟨.none, none, (fn (st 59) "note" "note" 0 .none .none .none .none none .none .none 0), ⟨[]⟩⟩⟩
noncomputable def o416 (P : Params) : Obj := ob "code" (fl [(vs "note" 741), (vs "note" 742), (vs "/claim/cut.py" 743), (vi 344 0), (vi 2 0), (vi 0 0), (vi 0 0), (vi 3 0), (vr 411), (.bool true), (vi 181 0), (vr 412), .none, (vr 413), (vr 414), (vr 415), (vi 746 0), (vi 344 0), (vs "/claim/cut.py" 747)])
noncomputable def o417 (P : Params) : Obj := ob "function" (fn (st 59) "note" "note" 3 .none .none .none (vs "vectorcove.coerce" 719) none (vr 416) .none 0)
noncomputable def o423 (P : Params) : Obj := ob "code" (fl [(vs "as_logical_text" 749), (vs "as_logical_text" 750), (vs "/claim/cut.py" 751), (vi 347 0), (vi 1 0), (vi 0 0), (vi 0 0), (vi 3 0), (vr 418), (.bool true), (vi 181 0), (vr 419), .none, (vr 420), (vr 421), (vr 422), (vi 753 0), (vi 347 0), (vs "/claim/cut.py" 754)])
noncomputable def o424 (P : Params) : Obj := ob "function" (fn (st 60) "as_logical_text" "as_logical_text" 3 .none .none .none (vs "vectorcove.coerce" 719) none (vr 423) .none 0)
noncomputable def g38 (P : Params) : O8 := ⟨ob "tuple" (sq [] 0), ⟨.none, none, (fl []), ⟨[]⟩⟩, ob "tuple" (sq [(vs "s" 752)] 0), ob "tuple" (sq [] 0), ⟨.none, none, (fn (st 60) "as_logical_text" "as_logical_text" 0 .none .none .none .none none .none .none 0), ⟨[]⟩⟩, ob "tuple" (sq [] 0), ⟨.none, none, (fl []), ⟨[]⟩⟩, ob "tuple" (sq [(vs "x" 759), (vs "notes" 760), (vs "found" 761)] 0)⟩
noncomputable def o430 (P : Params) : Obj := ob "code" (fl [(vs "double_to_integer" 756), (vs "double_to_integer" 757), (vs "/claim/cut.py" 758), (vi 353 0), (vi 2 0), (vi 0 0), (vi 0 0), (vi 3 0), (vr 425), (.bool true), (vi 181 0), (vr 426), .none, (vr 427), (vr 428), (vr 429), (vi 762 0), (vi 353 0), (vs "/claim/cut.py" 763)])
noncomputable def o431 (P : Params) : Obj := ob "function" (fn (st 61) "double_to_integer" "double_to_integer" 3 .none .none .none (vs "vectorcove.coerce" 719) none (vr 430) .none 0)
noncomputable def o437 (P : Params) : Obj := ob "code" (fl [(vs "text_to_double" 765), (vs "text_to_double" 766), (vs "/claim/cut.py" 767), (vi 361 0), (vi 2 0), (vi 0 0), (vi 0 0), (vi 3 0), (vr 432), (.bool true), (vi 181 0), (vr 433), .none, (vr 434), (vr 435), (vr 436), (vi 772 0), (vi 361 0), (vs "/claim/cut.py" 773)])
noncomputable def o438 (P : Params) : Obj := ob "function" (fn (st 62) "text_to_double" "text_to_double" 3 .none .none .none (vs "vectorcove.coerce" 719) none (vr 437) .none 0)
noncomputable def g39 (P : Params) : O8 := ⟨ob "tuple" (sq [] 0), ⟨.none, none, (fn (st 61) "double_to_integer" "double_to_integer" 0 .none .none .none .none none .none .none 0), ⟨[]⟩⟩, ob "tuple" (sq [] 0), ⟨.none, none, (fl []), ⟨[]⟩⟩, ob "tuple" (sq [(vs "s" 768), (vs "notes" 769), (vs "ok" 770), (vs "found" 771)] 0), ob "tuple" (sq [] 0), ⟨.none, none, (fn (st 62) "text_to_double" "text_to_double" 0 .none .none .none .none none .none .none 0), ⟨[]⟩⟩, ob "tuple" (sq [] 0)⟩
noncomputable def o444 (P : Params) : Obj := ob "code" (fl [(vs "to_logical" 775), (vs "to_logical" 776), (vs "/claim/cut.py" 777), (vi 367 0), (vi 2 0), (vi 0 0), (vi 0 0), (vi 3 0), (vr 439), (.bool true), (vi 181 0), (vr 440), .none, (vr 441), (vr 442), (vr 443), (vi 780 0), (vi 367 0), (vs "/claim/cut.py" 781)])
noncomputable def o445 (P : Params) : Obj := ob "function" (fn (st 63) "to_logical" "to_logical" 3 .none .none .none (vs "vectorcove.coerce" 719) none (vr 444) .none 0)
noncomputable def g40 (P : Params) : O8 := ⟨⟨.none, none, (fl []), ⟨[]⟩⟩, ob "tuple" (sq [(vs "kind" 778), (vs "item" 779)] 0), ob "tuple" (sq [] 0), ⟨.none, none, (fn (st 63) "to_logical" "to_logical" 0 .none .none .none .none none .none .none 0), ⟨[]⟩⟩, ob "tuple" (sq [] 0), ⟨.none, none, (fl []), ⟨[]⟩⟩, ob "tuple" (sq [(vs "kind" 786), (vs "item" 787), (vs "notes" 788)] 0), ob "tuple" (sq [] 0)⟩
noncomputable def o451 (P : Params) : Obj := ob "code" (fl [(vs "to_integer" 783), (vs "to_integer" 784), (vs "/claim/cut.py" 785), (vi 377 0), (vi 3 0), (vi 0 0), (vi 0 0), (vi 3 0), (vr 446), (.bool true), (vi 181 0), (vr 447), .none, (vr 448), (vr 449), (vr 450), (vi 789 0), (vi 377 0), (vs "/claim/cut.py" 790)])
noncomputable def o452 (P : Params) : Obj := ob "function" (fn (st 64) "to_integer" "to_integer" 3 .none .none .none (vs "vectorcove.coerce" 719) none (vr 451) .none 0)
noncomputable def o458 (P : Params) : Obj := ob "code" (fl [(vs "to_double" 792), (vs "to_double" 793), (vs "/claim/cut.py" 794), (vi 385 0), (vi 3 0), (vi 0 0), (vi 0 0), (vi 3 0), (vr 453), (.bool true), (vi 181 0), (vr 454), .none, (vr 455), (vr 456), (vr 457), (vi 798 0), (vi 385 0), (vs "/claim/cut.py" 799)])
noncomputable def o459 (P : Params) : Obj := ob "function" (fn (st 65) "to_double" "to_double" 3 .none .none .none (vs "vectorcove.coerce" 719) none (vr 458) .none 0)
noncomputable def g41 (P : Params) : O8 := ⟨⟨.none, none, (fn (st 64) "to_integer" "to_integer" 0 .none .none .none .none none .none .none 0), ⟨[]⟩⟩, ob "tuple" (sq [] 0), ⟨.none, none, (fl []), ⟨[]⟩⟩, ob "tuple" (sq [(vs "kind" 795), (vs "item" 796), (vs "notes" 797)] 0), ob "tuple" (sq [] 0), ⟨.none, none, (fn (st 65) "to_double" "to_double" 0 .none .none .none .none none .none .none 0), ⟨[]⟩⟩, ob "tuple" (sq [] 0), ⟨.none, none, (fl []), ⟨[]⟩⟩⟩
noncomputable def o465 (P : Params) : Obj := ob "code" (fl [(vs "to_text" 801), (vs "to_text" 802), (vs "/claim/cut.py" 803), (vi 391 0), (vi 2 0), (vi 0 0), (vi 0 0), (vi 3 0), (vr 460), (.bool true), (vi 181 0), (vr 461), .none, (vr 462), (vr 463), (vr 464), (vi 806 0), (vi 391 0), (vs "/claim/cut.py" 807)])
noncomputable def o466 (P : Params) : Obj := ob "function" (fn (st 66) "to_text" "to_text" 3 .none .none .none (vs "vectorcove.coerce" 719) none (vr 465) .none 0)
noncomputable def g42 (P : Params) : O8 := ⟨ob "tuple" (sq [(vs "kind" 804), (vs "item" 805)] 0), ob "tuple" (sq [] 0), ⟨.none, none, (fn (st 66) "to_text" "to_text" 0 .none .none .none .none none .none .none 0), ⟨[]⟩⟩, ob "tuple" (sq [] 0), ⟨.none, none, (fl []), ⟨[]⟩⟩, ob "tuple" (sq [(vs "kind" 812), (vs "item" 813), (vs "to" 814), (vs "notes" 815)] 0), ob "tuple" (sq [] 0), ⟨.none, none, (fn (st 67) "item_as" "item_as" 0 .none .none .none .none none .none .none 0), ⟨[]⟩⟩⟩
noncomputable def o472 (P : Params) : Obj := ob "code" (fl [(vs "item_as" 809), (vs "item_as" 810), (vs "/claim/cut.py" 811), (vi 399 0), (vi 4 0), (vi 0 0), (vi 0 0), (vi 3 0), (vr 467), (.bool true), (vi 181 0), (vr 468), .none, (vr 469), (vr 470), (vr 471), (vi 816 0), (vi 399 0), (vs "/claim/cut.py" 817)])
noncomputable def o473 (P : Params) : Obj := ob "function" (fn (st 67) "item_as" "item_as" 3 .none .none .none (vs "vectorcove.coerce" 719) none (vr 472) .none 0)
noncomputable def o479 (P : Params) : Obj := ob "code" (fl [(vs "is_atomic_kind" 819), (vs "is_atomic_kind" 820), (vs "/claim/cut.py" 821), (vi 413 0), (vi 1 0), (vi 0 0), (vi 0 0), (vi 3 0), (vr 474), (.bool true), (vi 181 0), (vr 475), .none, (vr 476), (vr 477), (vr 478), (vi 823 0), (vi 413 0), (vs "/claim/cut.py" 824)])
noncomputable def o480 (P : Params) : Obj := ob "function" (fn (st 68) "is_atomic_kind" "is_atomic_kind" 3 .none .none .none (vs "vectorcove.coerce" 719) none (vr 479) .none 0)
noncomputable def g43 (P : Params) : O8 := ⟨ob "tuple" (sq [] 0), ⟨.none, none, (fl []), ⟨[]⟩⟩, ob "tuple" (sq [(vs "kind" 822)] 0), ob "tuple" (sq [] 0), ⟨.none, none, (fn (st 68) "is_atomic_kind" "is_atomic_kind" 0 .none .none .none .none none .none .none 0), ⟨[]⟩⟩, ob "tuple" (sq [] 0), ⟨.none, none, (fl []), ⟨[]⟩⟩, ob "tuple" (sq [(vs "kind" 829), (vs "item" 830), (vs "to" 831), (vs "notes" 832)] 0)⟩
noncomputable def o486 (P : Params) : Obj := ob "code" (fl [(vs "list_item_as" 826), (vs "list_item_as" 827), (vs "/claim/cut.py" 828), (vi 415 0), (vi 4 0), (vi 0 0), (vi 0 0), (vi 3 0), (vr 481), (.bool true), (vi 181 0), (vr 482), .none, (vr 483), (vr 484), (vr 485), (vi 833 0), (vi 415 0), (vs "/claim/cut.py" 834)])
noncomputable def o487 (P : Params) : Obj := ob "function" (fn (st 69) "list_item_as" "list_item_as" 3 .none .none .none (vs "vectorcove.coerce" 719) none (vr 486) .none 0)
noncomputable def o493 (P : Params) : Obj := ob "code" (fl [(vs "refuse_type" 836), (vs "refuse_type" 837), (vs "/claim/cut.py" 838), (vi 421 0), (vi 2 0), (vi 0 0), (vi 0 0), (vi 3 0), (vr 488), (.bool true), (vi 181 0), (vr 489), .none, (vr 490), (vr 491), (vr 492), (vi 841 0), (vi 421 0), (vs "/claim/cut.py" 842)])
noncomputable def o494 (P : Params) : Obj := ob "function" (fn (st 70) "refuse_type" "refuse_type" 3 .none .none .none (vs "vectorcove.coerce" 719) none (vr 493) .none 0)
noncomputable def g44 (P : Params) : O8 := ⟨ob "tuple" (sq [] 0), ⟨.none, none, (fn (st 69) "list_item_as" "list_item_as" 0 .none .none .none .none none .none .none 0), ⟨[]⟩⟩, ob "tuple" (sq [] 0), ⟨.none, none, (fl []), ⟨[]⟩⟩, ob "tuple" (sq [(vs "v" 839), (vs "kind" 840)] 0), ob "tuple" (sq [] 0), ⟨.none, none, (fn (st 70) "refuse_type" "refuse_type" 0 .none .none .none .none none .none .none 0), ⟨[]⟩⟩, ob "tuple" (sq [] 0)⟩
noncomputable def o498 (P : Params) : Obj := ob "code" (fl [(vs "as_vector_kind" 844), (vs "as_vector_kind" 845), (vs "/claim/cut.py" 846), (vi 423 0), (vi 2 0), (vi 0 0), (vi 0 0), (vi 3 0), (vr 495), (.bool true), (vi 181 0), (vr 496), .none, .none, .none, (vr 497), (vi 847 0), (vi 423 0), (vs "/claim/cut.py" 848)])
noncomputable def o499 (P : Params) : Obj := ob "function" (fn (st 71) "as_vector_kind" "as_vector_kind" 3 .none .none .none (vs "vectorcove.coerce" 719) none (vr 498) .none 0)
noncomputable def o505 (P : Params) : Obj := ob "code" (fl [(vs "with_names" 850), (vs "with_names" 851), (vs "/claim/cut.py" 852), (vi 437 0), (vi 2 0), (vi 0 0), (vi 0 0), (vi 3 0), (vr 500), (.bool true), (vi 181 0), (vr 501), .none, (vr 502), (vr 503), (vr 504), (vi 855 0), (vi 437 0), (vs "/claim/cut.py" 856)])
noncomputable def o506 (P : Params) : Obj := ob "function" (fn (st 72) "with_names" "with_names" 3 .none .none .none (vs "vectorcove.coerce" 719) none (vr 505) .none 0)
noncomputable def g45 (P : Params) : O8 := ⟨⟨.none, none, (fl []), ⟨[]⟩⟩, ⟨.none, none, (fn (st 71) "as_vector_kind" "as_vector_kind" 0 .none .none .none .none none .none .none 0), ⟨[]⟩⟩, ob "tuple" (sq [] 0), ⟨.none, none, (fl []), ⟨[]⟩⟩, ob "tuple" (sq [(vs "v" 853), (vs "names" 854)] 0), ob "tuple" (sq [] 0), ⟨.none, none, (fn (st 72) "with_names" "with_names" 0 .none .none .none .none none .none .none 0), ⟨[]⟩⟩, ob "tuple" (sq [] 0)⟩
noncomputable def o510 (P : Params) : Obj := ob "code" (fl [(vs "as_kind" 858), (vs "as_kind" 859), (vs "/claim/cut.py" 860), (vi 441 0), (vi 3 0), (vi 0 0), (vi 0 0), (vi 3 0), (vr 507), (.bool true), (vi 181 0), (vr 508), .none, .none, .none, (vr 509), (vi 861 0), (vi 441 0), (vs "/claim/cut.py" 862)])
noncomputable def o511 (P : Params) : Obj := ob "function" (fn (st 73) "as_kind" "as_kind" 3 .none .none .none (vs "vectorcove.coerce" 719) none (vr 510) .none 0)
noncomputable def o517 (P : Params) : Obj := ob "code" (fl [(vs "as_list" 864), (vs "as_list" 865), (vs "/claim/cut.py" 866), (vi 448 0), (vi 1 0), (vi 0 0), (vi 0 0), (vi 3 0), (vr 512), (.bool true), (vi 181 0), (vr 513), .none, (vr 514), (vr 515), (vr 516), (vi 868 0), (vi 448 0), (vs "/claim/cut.py" 869)])
noncomputable def o518 (P : Params) : Obj := ob "function" (fn (st 74) "as_list" "as_list" 3 .none .none .none (vs "vectorcove.coerce" 719) none (vr 517) .none 0)
noncomputable def g46 (P : Params) : O8 := ⟨⟨.none, none, (fl []), ⟨[]⟩⟩, ⟨.none, none, (fn (st 73) "as_kind" "as_kind" 0 .none .none .none .none none .none .none 0), ⟨[]⟩⟩, ob "tuple" (sq [] 0), ⟨.none, none, (fl []), ⟨[]⟩⟩, ob "tuple" (sq [(vs "v" 867)] 0), ob "tuple" (sq [] 0), ⟨.none, none, (fn (st 74) "as_list" "as_list" 0 .none .none .none .none none .none .none 0), ⟨[]⟩⟩, ob "tuple" (sq [] 0)⟩
noncomputable def o524 (P : Params) : Obj := ob "code" (fl [(vs "whole_subscripts" 873), (vs "whole_subscripts" 874), (vs "/claim/cut.py" 875), (vi 451 0), (vi 1 0), (vi 0 0), (vi 0 0), (vi 3 0), (vr 519), (.bool true), (vi 181 0), (vr 520), .none, (vr 521), (vr 522), (vr 523), (vi 879 0), (vi 451 0), (vs "/claim/cut.py" 880)])
noncomputable def o525 (P : Params) : Obj := ob "function" (fn (st 76) "whole_subscripts" "whole_subscripts" 3 .none .none .none (vs "vectorcove.index" 871) none (vr 524) .none 0)
noncomputable def g47 (P : Params) : O8 := ⟨⟨.none, none, (fl []), ⟨[]⟩⟩, ob "tuple" (sq [(vs "ix" 876), (vs "found" 877), (vs "item" 878)] 0), ob "tuple" (sq [] 0), ⟨.none, none, (fn (st 76) "whole_subscripts" "whole_subscripts" 0 .none .none .none .none none .none .none 0), ⟨[]⟩⟩, ob "tuple" (sq [] 0), ⟨.none, none, (fl []), ⟨[]⟩⟩, ob "tuple" (sq [(vs "names" 885), (vs "table" 886), (vs "i" 887), (vs "name" 888)] 0), ob "tuple" (sq [] 0)⟩
noncomputable def o531 (P : Params) : Obj := ob "code" (fl [(vs "first_places" 882), (vs "first_places" 883), (vs "/claim/cut.py" 884), (vi 461 0), (vi 1 0), (vi 0 0), (vi 0 0), (vi 3 0), (vr 526), (.bool true), (vi 181 0), (vr 527), .none, (vr 528), (vr 529), (vr 530), (vi 889 0), (vi 461 0), (vs "/claim/cut.py" 890)])
noncomputable def o532 (P : Params) : Obj := ob "function" (fn (st 77) "first_places" "first_places" 3 .none .none .none (vs "vectorcove.index" 871) none (vr 531) .none 0)
noncomputable def o538 (P : Params) : Obj := ob "code" (fl [(vs "partial_place" 892), (vs "partial_place" 893), (vs "/claim/cut.py" 894), (vi 469 0), (vi 2 0), (vi 0 0), (vi 0 0), (vi 3 0), (vr 533), (.bool true), (vi 181 0), (vr 534), .none, (vr 535), (vr 536), (vr 537), (vi 900 0), (vi 469 0), (vs "/claim/cut.py" 901)])
noncomputable def o539 (P : Params) : Obj := ob "function" (fn (st 78) "partial_place" "partial_place" 3 .none .none .none (vs "vectorcove.index" 871) none (vr 538) .none 0)
noncomputable def g48 (P : Params) : O8 := ⟨⟨.none, none, (fn (st 77) "first_places" "first_places" 0 .none .none .none .none none .none .none 0), ⟨[]⟩⟩, ob "tuple" (sq [] 0), ⟨.none, none, (fl []), ⟨[]⟩⟩, ob "tuple" (sq [(vs "item" 895), (vs "names" 896), (vs "table" 897), (vs "found" 898), (vs "i" 899)] 0), ob "tuple" (sq [] 0), ⟨.none, none, (fn (st 78) "partial_place" "partial_place" 0 .none .none .none .none none .none .none 0), ⟨[]⟩⟩, ob "tuple" (sq [] 0), ⟨.none, none, (fl []), ⟨[]⟩⟩⟩
noncomputable def o545 (P : Params) : Obj := ob "code" (fl [(vs "one_name" 903), (vs "one_name" 904), (vs "/claim/cut.py" 905), (vi 482 0), (vi 3 0), (vi 0 0), (vi 0 0), (vi 3 0), (vr 540), (.bool true), (vi 181 0), (vr 541), .none, (vr 542), (vr 543), (vr 544), (vi 909 0), (vi 482 0), (vs "/claim/cut.py" 910)])
noncomputable def o546 (P : Params) : Obj := ob "function" (fn (st 79) "one_name" "one_name" 3 .none .none .none (vs "vectorcove.index" 871) none (vr 545) .none 0)
noncomputable def g49 (P : Params) : O8 := ⟨ob "tuple" (sq [(vs "item" 906), (vs "names" 907), (vs "exact" 908)] 0), ob "tuple" (sq [] 0), ⟨.none, none, (fn (st 79) "one_name" "one_name" 0 .none .none .none .none none .none .none 0), ⟨[]⟩⟩, ob "tuple" (sq [] 0), ⟨.none, none, (fl []), ⟨[]⟩⟩, ob "tuple" (sq [(vs "item" 915), (vs "n" 916)] 0), ob "tuple" (sq [] 0), ⟨.none, none, (fn (st 80) "one_whole" "one_whole" 0 .none .none .none .none none .none .none 0), ⟨[]⟩⟩⟩
noncomputable def o552 (P : Params) : Obj := ob "code" (fl [(vs "one_whole" 912), (vs "one_whole" 913), (vs "/claim/cut.py" 914), (vi 488 0), (vi 2 0), (vi 0 0), (vi 0 0), (vi 3 0), (vr 547), (.bool true), (vi 181 0), (vr 548), .none, (vr 549), (vr 550), (vr 551), (vi 917 0), (vi 488 0), (vs "/claim/cut.py" 918)])
noncomputable def o553 (P : Params) : Obj := ob "function" (fn (st 80) "one_whole" "one_whole" 3 .none .none .none (vs "vectorcove.index" 871) none (vr 552) .none 0)
noncomputable def o559 (P : Params) : Obj := ob "code" (fl [(vs "one_place" 920), (vs "one_place" 921), (vs "/claim/cut.py" 922), (vi 502 0), (vi 4 0), (vi 0 0), (vi 0 0), (vi 3 0), (vr 554), (.bool true), (vi 181 0), (vr 555), .none, (vr 556), (vr 557), (vr 558), (vi 928 0), (vi 502 0), (vs "/claim/cut.py" 929)])
noncomputable def o560 (P : Params) : Obj := ob "function" (fn (st 81) "one_place" "one_place" 3 .none .none .none (vs "vectorcove.index" 871) none (vr 559) .none 0)
noncomputable def g50 (P : Params) : O8 := ⟨ob "tuple" (sq [] 0), ⟨.none, none, (fl []), ⟨[]⟩⟩, ob "tuple" (sq [(vs "ix" 923), (vs "n" 924), (vs "names" 925), (vs "exact" 926), (vs "kind" 927)] 0), ob "tuple" (sq [] 0), ⟨.none, none, (fn (st 81) "one_place" "one_place" 0 .none .none .none .none none .none .none 0), ⟨[]⟩⟩, ob "tuple" (sq [] 0), ⟨.none, none, (fl []), ⟨[]⟩⟩, ob "tuple" (sq [(vs "dims" 934), (vs "steps" 935), (vs "step" 936), (vs "extent" 937)] 0)⟩
noncomputable def o566 (P : Params) : Obj := ob "code" (fl [(vs "strides" 931), (vs "strides" 932), (vs "/claim/cut.py" 933), (vi 519 0), (vi 1 0), (vi 0 0), (vi 0 0), (vi 3 0), (vr 561), (.bool true), (vi 181 0), (vr 562), .none, (vr 563), (vr 564), (vr 565), (vi 938 0), (vi 519 0), (vs "/claim/cut.py" 939)])
noncomputable def o567 (P : Params) : Obj := ob "function" (fn (st 82) "strides" "strides" 3 .none .none .none (vs "vectorcove.index" 871) none (vr 566) .none 0)
noncomputable def o573 (P : Params) : Obj := ob "code" (fl [(vs "lacking_item" 943), (vs "lacking_item" 944), (vs "/claim/cut.py" 945), (vi 527 0), (vi 1 0), (vi 0 0), (vi 0 0), (vi 3 0), (vr 568), (.bool true), (vi 181 0), (vr 569), .none, (vr 570), (vr 571), (vr 572), (vi 947 0), (vi 527 0), (vs "/claim/cut.py" 948)])
noncomputable def o574 (P : Params) : Obj := ob "function" (fn (st 84) "lacking_item" "lacking_item" 3 .none .none .none (vs "vectorcove.subset" 941) none (vr 573) .none 0)
noncomputable def g51 (P : Params) : O8 := ⟨ob "tuple" (sq [] 0), ⟨.none, none, (fn (st 82) "strides" "strides" 0 .none .none .none .none none .none .none 0), ⟨[]⟩⟩, ob "tuple" (sq [] 0), ⟨.none, none, (fl []), ⟨[]⟩⟩, ob "tuple" (sq [(vs "kind" 946)] 0), ob "tuple" (sq [] 0), ⟨.none, none, (fn (st 84) "lacking_item" "lacking_item" 0 .none .none .none .none none .none .none 0), ⟨[]⟩⟩, ob "tuple" (sq [] 0)⟩
noncomputable def o580 (P : Params) : Obj := ob "code" (fl [(vs "is_list_kind" 950), (vs "is_list_kind" 951), (vs "/claim/cut.py" 952), (vi 531 0), (vi 1 0), (vi 0 0), (vi 0 0), (vi 3 0), (vr 575), (.bool true), (vi 181 0), (vr 576), .none, (vr 577), (vr 578), (vr 579), (vi 954 0), (vi 531 0), (vs "/claim/cut.py" 955)])
noncomputable def o581 (P : Params) : Obj := ob "function" (fn (st 85) "is_list_kind" "is_list_kind" 3 .none .none .none (vs "vectorcove.subset" 941) none (vr 580) .none 0)
noncomputable def g52 (P : Params) : O8 := ⟨⟨.none, none, (fl []), ⟨[]⟩⟩, ob "tuple" (sq [(vs "kind" 953)] 0), ob "tuple" (sq [] 0), ⟨.none, none, (fn (st 85) "is_list_kind" "is_list_kind" 0 .none .none .none .none none .none .none 0), ⟨[]⟩⟩, ob "tuple" (sq [] 0), ⟨.none, none, (fl []), ⟨[]⟩⟩, ob "tuple" (sq [(vs "v" 960)] 0), ob "tuple" (sq [] 0)⟩
noncomputable def o587 (P : Params) : Obj := ob "code" (fl [(vs "refuse_subset" 957), (vs "refuse_subset" 958), (vs "/claim/cut.py" 959), (vi 533 0), (vi 1 0), (vi 0 0), (vi 0 0), (vi 3 0), (vr 582), (.bool true), (vi 181 0), (vr 583), .none, (vr 584), (vr 585), (vr 586), (vi 961 0), (vi 533 0), (vs "/claim/cut.py" 962)])
noncomputable def o588 (P : Params) : Obj := ob "function" (fn (st 86) "refuse_subset" "refuse_subset" 3 .none .none .none (vs "vectorcove.subset" 941) none (vr 587) .none 0)
noncomputable def o594 (P : Params) : Obj := ob "code" (fl [(vs "one_item" 964), (vs "one_item" 965), (vs "/claim/cut.py" 966), (vi 535 0), (vi 2 0), (vi 0 0), (vi 0 0), (vi 3 0), (vr 589), (.bool true), (vi 181 0), (vr 590), .none, (vr 591), (vr 592), (vr 593), (vi 969 0), (vi 535 0), (vs "/claim/cut.py" 970)])
noncomputable def o595 (P : Params) : Obj := ob "function" (fn (st 87) "one_item" "one_item" 3 .none .none .none (vs "vectorcove.subset" 941) none (vr 594) .none 0)
noncomputable def g53 (P : Params) : O8 := ⟨⟨.none, none, (fn (st 86) "refuse_subset" "refuse_subset" 0 .none .none .none .none none .none .none 0), ⟨[]⟩⟩, ob "tuple" (sq [] 0), ⟨.none, none, (fl []), ⟨[]⟩⟩, ob "tuple" (sq [(vs "v" 967), (vs "place" 968)] 0), ob "tuple" (sq [] 0), ⟨.none, none, (fn (st 87) "one_item" "one_item" 0 .none .none .none .none none .none .none 0), ⟨[]⟩⟩, ob "tuple" (sq [] 0), ⟨.none, none, (fl []), ⟨[]⟩⟩⟩
noncomputable def o601 (P : Params) : Obj := ob "code" (fl [(vs "vector_element" 972), (vs "vector_element" 973), (vs "/claim/cut.py" 974), (vi 539 0), (vi 3 0), (vi 0 0), (vi 0 0), (vi 3 0), (vr 596), (.bool true), (vi 181 0), (vr 597), .none, (vr 598), (vr 599), (vr 600), (vi 980 0), (vi 539 0), (vs "/claim/cut.py" 981)])
noncomputable def o602 (P : Params) : Obj := ob "function" (fn (st 88) "vector_element" "vector_element" 3 .none .none .none (vs "vectorcove.subset" 941) none (vr 601) .none 0)
noncomputable def g54 (P : Params) : O8 := ⟨ob "tuple" (sq [(vs "v" 975), (vs "ix" 976), (vs "exact" 977), (vs "n" 978), (vs "place" 979)] 0), ob "tuple" (sq [] 0), ⟨.none, none, (fn (st 88) "vector_element" "vector_element" 0 .none .none .none .none none .none .none 0), ⟨[]⟩⟩, ob "tuple" (sq [] 0), ⟨.none, none, (fl []), ⟨[]⟩⟩, ob "tuple" (sq [(vs "v" 986), (vs "indexes" 987), (vs "dims" 988), (vs "place" 989), (vs "steps" 990), (vs "dimnames" 991), (vs "k" 992), (vs "names" 993), (vs "one" 994)] 0), ob "tuple" (sq [] 0), ⟨.none, none, (fn (st 89) "array_element_place" "array_element_place" 0 .none .none .none .none none .none .none 0), ⟨[]⟩⟩⟩
noncomputable def o608 (P : Params) : Obj := ob "code" (fl [(vs "array_element_place" 983), (vs "array_element_place" 984), (vs "/claim/cut.py" 985), (vi 551 0), (vi 2 0), (vi 0 0), (vi 0 0), (vi 3 0), (vr 603), (.bool true), (vi 181 0), (vr 604), .none, (vr 605), (vr 606), (vr 607), (vi 995 0), (vi 551 0), (vs "/claim/cut.py" 996)])
noncomputable def o609 (P : Params) : Obj := ob "function" (fn (st 89) "array_element_place" "array_element_place" 3 .none .none .none (vs "vectorcove.subset" 941) none (vr 608) .none 0)
noncomputable def o615 (P : Params) : Obj := ob "code" (fl [(vs "environment_item" 998), (vs "environment_item" 999), (vs "/claim/cut.py" 1000), (vi 567 0), (vi 2 0), (vi 0 0), (vi 0 0), (vi 3 0), (vr 610), (.bool true), (vi 181 0), (vr 611), .none, (vr 612), (vr 613), (vr 614), (vi 1003 0), (vi 567 0), (vs "/claim/cut.py" 1004)])
noncomputable def o616 (P : Params) : Obj := ob "function" (fn (st 90) "environment_item" "environment_item" 3 .none .none .none (vs "vectorcove.subset" 941) none (vr 615) .none 0)
noncomputable def g55 (P : Params) : O8 := ⟨ob "tuple" (sq [] 0), ⟨.none, none, (fl []), ⟨[]⟩⟩, ob "tuple" (sq [(vs "env" 1001), (vs "name" 1002)] 0), ob "tuple" (sq [] 0), ⟨.none, none, (fn (st 90) "environment_item" "environment_item" 0 .none .none .none .none none .none .none 0), ⟨[]⟩⟩, ob "tuple" (sq [] 0), ⟨.none, none, (fl []), ⟨[]⟩⟩, ⟨.none, none, (fn (st 91) "element_step" "element_step" 0 .none .none .none .none none .none .none 0), ⟨[]⟩⟩⟩
noncomputable def o620 (P : Params) : Obj := ob "code" (fl [(vs "element_step" 1006), (vs "element_step" 1007), (vs "/claim/cut.py" 1008), (vi 571 0), (vi 3 0), (vi 0 0), (vi 0 0), (vi 3 0), (vr 617), (.bool true), (vi 181 0), (vr 618), .none, .none, .none, (vr 619), (vi 1009 0), (vi 571 0), (vs "/claim/cut.py" 1010)])
noncomputable def o621 (P : Params) : Obj := ob "function" (fn (st 91) "element_step" "element_step" 3 .none .none .none (vs "vectorcove.subset" 941) none (vr 620) .none 0)
noncomputable def o625 (P : Params) : Obj := ob "code" (fl [(vs "index_parts" 1012), (vs "index_parts" 1013), (vs "/claim/cut.py" 1014), (vi 587 0), (vi 1 0), (vi 0 0), (vi 0 0), (vi 3 0), (vr 622), (.bool true), (vi 181 0), (vr 623), .none, .none, .none, (vr 624), (vi 1015 0), (vi 587 0), (vs "/claim/cut.py" 1016)])
noncomputable def o626 (P : Params) : Obj := ob "function" (fn (st 92) "index_parts" "index_parts" 3 .none .none .none (vs "vectorcove.subset" 941) none (vr 625) .none 0)
noncomputable def g56 (P : Params) : O8 := ⟨ob "tuple" (sq [] 0), ⟨.none, none, (fl []), ⟨[]⟩⟩, ⟨.none, none, (fn (st 92) "index_parts" "index_parts" 0 .none .none .none .none none .none .none 0), ⟨[]⟩⟩, zo, zo, zo, zo, zo⟩
noncomputable def T3 (P : Params) : BT :=  (N (boot_o_0 P) (N (boot_o_1 P) (N ((g34 P).a) (N (boot_o_7 P) (N ((g1 P).c) (N ((g2 P).h) (N (o63 P) (N ((g12 P).a) (N ((g23 P).e) (N (o511 P) e e) e) (N ((g34 P).h) e e)) (N ((g17 P).g) (N (o319 P) (N ((g51 P).h) e e) e) (N ((g40 P).f) e e))) (N ((g8 P).f) (N (o159 P) (N ((g26 P).c) (N ((g49 P).b) e e) e) (N ((g37 P).h) e e)) (N ((g20 P).e) (N ((g31 P).h) (N ((g54 P).h) e e) e) (N (o479 P) e e)))) (N ((g4 P).c) (N ((g7 P).d) (N ((g13 P).e) (N (o271 P) (N ((g47 P).f) e e) e) (N ((g36 P).d) e e)) (N ((g19 P).a) (N ((g30 P).e) (N ((g53 P).d) e e) e) (N ((g42 P).b) e e))) (N (o111 P) (N ((g16 P).c) (N ((g27 P).g) (N (o559 P) e e) e) (N (o431 P) e e)) (N ((g22 P).a) (N (o367 P) (N ((g56 P).b) e e) e) (N ((g44 P).h) e e))))) (N (o23 P) (N ((g3 P).g) (N ((g6 P).f) (N ((g12 P).g) (N (o263 P) (N ((g46 P).h) e e) e) (N ((g35 P).f) e e)) (N (o199 P) (N (o327 P) (N ((g52 P).f) e e) e) (N ((g41 P).d) e e))) (N ((g9 P).e) (N (o167 P) (N ((g27 P).a) (N ((g49 P).h) e e) e) (N (o423 P) e e)) (N ((g21 P).c) (N ((g32 P).f) (N (o615 P) e e) e) (N (o487 P) e e)))) (N ((g5 P).b) (N ((g8 P).b) (N ((g14 P).c) (N ((g25 P).e) (N ((g48 P).d) e e) e) (N ((g37 P).b) e e)) (N (o215 P) (N ((g31 P).c) (N ((g54 P).b) e e) e) (N ((g42 P).h) e e))) (N ((g11 P).c) (N ((g17 P).a) (N ((g28 P).e) (N (o567 P) e e) e) (N ((g39 P).h) e e)) (N ((g22 P).g) (N (o375 P) e e) (N ((g45 P).f) e e)))))) (N ((g0 P).a) (N ((g1 P).g) (N ((g3 P).c) (N ((g6 P).b) (N (o131 P) (N ((g23 P).g) (N ((g46 P).f) e e) e) (N ((g35 P).d) e e)) (N ((g18 P).a) (N ((g29 P).e) (N ((g52 P).d) e e) e) (N (o451 P) e e))) (N ((g9 P).b) (N ((g15 P).c) (N (o291 P) (N ((g49 P).d) e e) e) (N ((g38 P).b) e e)) (N ((g21 P).a) (N ((g32 P).b) (N ((g55 P).b) e e) e) (N ((g43 P).h) e e)))) (N ((g4 P).g) (N ((g7 P).f) (N ((g13 P).g) (N ((g25 P).c) (N (o531 P) e e) e) (N (o403 P) e e)) (N ((g19 P).e) (N ((g31 P).a) (N (o595 P) e e) e) (N ((g42 P).d) e e))) (N ((g10 P).d) (N ((g16 P).g) (N ((g28 P).a) (N ((g50 P).h) e e) e) (N ((g39 P).f) e e)) (N (o243 P) (N ((g33 P).f) e e) (N (o499 P) e e))))) (N ((g2 P).d) (N (o43 P) (N (o75 P) (N (o139 P) (N ((g24 P).e) (N ((g47 P).d) e e) e) (N (o395 P) e e)) (N ((g18 P).g) (N ((g30 P).c) (N (o587 P) e e) e) (N (o459 P) e e))) (N ((g9 P).h) (N ((g16 P).a) (N (o299 P) (N ((g50 P).b) e e) e) (N ((g38 P).h) e e)) (N (o235 P) (N ((g32 P).h) (N ((g55 P).h) e e) e) (N ((g44 P).f) e e)))) (N (o59 P) (N (o91 P) (N ((g14 P).e) (N ((g26 P).a) (N (o539 P) e e) e) (N ((g37 P).d) e e)) (N ((g20 P).c) (N (o347 P) (N ((g54 P).d) e e) e) (N ((g43 P).b) e e))) (N ((g11 P).g) (N (o187 P) (N ((g28 P).g) (N ((g51 P).f) e e) e) (N ((g40 P).d) e e)) (N ((g23 P).a) (N ((g34 P).f) e e) (N ((g45 P).h) e e))))))) (N (boot_o_5 P) (N (boot_o_9 P) (N ((g1 P).e) (N (o33 P) (N ((g5 P).h) (N ((g12 P).c) (N (o257 P) (N ((g46 P).d) e e) e) (N ((g35 P).b) e e)) (N (o193 P) (N ((g29 P).c) (N ((g52 P).b) e e) e) (N ((g40 P).h) e e))) (N ((g8 P).h) (N ((g15 P).a) (N ((g26 P).e) (N (o545 P) e e) e) (N (o417 P) e e)) (N ((g20 P).g) (N (o353 P) (N (o609 P) e e) e) (N ((g43 P).f) e e)))) (N ((g4 P).e) (N (o81 P) (N (o145 P) (N ((g25 P).a) (N ((g47 P).h) e e) e) (N ((g36 P).f) e e)) (N ((g19 P).c) (N ((g30 P).g) (N ((g53 P).f) e e) e) (N (o465 P) e e))) (N (o113 P) (N ((g16 P).e) (N (o305 P) (N ((g50 P).f) e e) e) (N ((g39 P).d) e e)) (N ((g22 P).c) (N ((g33 P).d) (N (o625 P) e e) e) (N ((g45 P).b) e e))))) (N ((g2 P).b) (N (o41 P) (N (o73 P) (N ((g13 P).a) (N ((g24 P).c) (N ((g47 P).b) e e) e) (N ((g35 P).h) e e)) (N ((g18 P).e) (N ((g30 P).a) (N ((g52 P).h) e e) e) (N ((g41 P).f) e e))) (N ((g9 P).f) (N ((g15 P).g) (N ((g27 P).c) (N (o553 P) e e) e) (N ((g38 P).f) e e)) (N ((g21 P).e) (N (o361 P) (N ((g55 P).f) e e) e) (N ((g44 P).d) e e)))) (N ((g5 P).d) (N (o89 P) (N (o153 P) (N ((g25 P).g) (N ((g48 P).f) e e) e) (N (o409 P) e e)) (N ((g20 P).a) (N (o345 P) (N (o601 P) e e) e) (N (o473 P) e e))) (N ((g11 P).e) (N ((g17 P).c) (N (o313 P) (N ((g51 P).d) e e) e) (N ((g40 P).b) e e)) (N (o249 P) (N ((g34 P).d) e e) (N (o505 P) e e)))))) (N (o13 P) (N ((g1 P).h) (N ((g3 P).e) (N ((g6 P).d) (N ((g12 P).e) (N ((g24 P).a) (N (o517 P) e e) e) (N (o389 P) e e)) (N ((g18 P).c) (N ((g29 P).g) (N (o581 P) e e) e) (N ((g41 P).b) e e))) (N ((g9 P).d) (N ((g15 P).e) (N ((g26 P).g) (N ((g49 P).f) e e) e) (N ((g38 P).d) e e)) (N (o229 P) (N ((g32 P).d) (N ((g55 P).d) e e) e) (N ((g44 P).b) e e)))) (N ((g4 P).h) (N ((g7 P).h) (N ((g14 P).a) (N (o277 P) (N ((g48 P).b) e e) e) (N ((g36 P).h) e e)) (N ((g19 P).g) (N (o341 P) (N ((g53 P).h) e e) e) (N ((g42 P).f) e e))) (N ((g10 P).f) (N (o181 P) (N ((g28 P).c) (N ((g51 P).b) e e) e) (N (o437 P) e e)) (N ((g22 P).e) (N ((g33 P).h) e e) (N ((g45 P).d) e e))))) (N ((g2 P).f) (N ((g4 P).a) (N ((g7 P).b) (N ((g13 P).c) (N ((g24 P).g) (N (o525 P) e e) e) (N ((g36 P).b) e e)) (N (o205 P) (N (o333 P) (N ((g53 P).b) e e) e) (N ((g41 P).h) e e))) (N ((g10 P).b) (N (o173 P) (N ((g27 P).e) (N ((g50 P).d) e e) e) (N ((g39 P).b) e e)) (N ((g21 P).g) (N ((g33 P).b) (N (o621 P) e e) e) (N (o493 P) e e)))) (N ((g5 P).f) (N ((g8 P).d) (N ((g14 P).g) (N (o285 P) (N ((g48 P).h) e e) e) (N ((g37 P).f) e e)) (N (o221 P) (N ((g31 P).f) (N ((g54 P).f) e e) e) (N ((g43 P).d) e e))) (N (o125 P) (N ((g17 P).e) (N ((g29 P).a) (N (o573 P) e e) e) (N (o445 P) e e)) (N ((g23 P).c) (N (o381 P) e e) (N ((g46 P).b) e e)))))))) (N (o2 P) (N (boot_o_4 P) (N (boot_o_8 P) (N ((g1 P).d) (N ((g3 P).a) (N ((g5 P).g) (N ((g12 P).b) (N (o256 P) (N ((g46 P).c) e e) e) (N ((g35 P).a) e e)) (N (o192 P) (N (o320 P) (N ((g52 P).a) e e) e) (N ((g40 P).g) e e))) (N ((g8 P).g) (N (o160 P) (N ((g26 P).d) (N ((g49 P).c) e e) e) (N (o416 P) e e)) (N ((g20 P).f) (N ((g32 P).a) (N (o608 P) e e) e) (N (o480 P) e e)))) (N ((g4 P).d) (N ((g7 P).e) (N ((g13 P).f) (N ((g24 P).h) (N ((g47 P).g) e e) e) (N ((g36 P).e) e e)) (N ((g19 P).b) (N ((g30 P).f) (N ((g53 P).e) e e) e) (N ((g42 P).c) e e))) (N ((g10 P).c) (N ((g16 P).d) (N ((g27 P).h) (N (o560 P) e e) e) (N ((g39 P).c) e e)) (N ((g22 P).b) (N (o368 P) (N ((g56 P).c) e e) e) (N ((g45 P).a) e e))))) (N (o24 P) (N (o40 P) (N ((g6 P).g) (N ((g12 P).h) (N (o264 P) (N ((g47 P).a) e e) e) (N ((g35 P).g) e e)) (N (o200 P) (N ((g29 P).h) (N ((g52 P).g) e e) e) (N ((g41 P).e) e e))) (N (o104 P) (N ((g15 P).f) (N ((g27 P).b) (N (o552 P) e e) e) (N (o424 P) e e)) (N ((g21 P).d) (N (o360 P) (N (o616 P) e e) e) (N ((g44 P).c) e e)))) (N ((g5 P).c) (N (o88 P) (N (o152 P) (N ((g25 P).f) (N ((g48 P).e) e e) e) (N ((g37 P).c) e e)) (N ((g19 P).h) (N ((g31 P).d) (N ((g54 P).c) e e) e) (N (o472 P) e e))) (N ((g11 P).d) (N ((g17 P).b) (N (o312 P) (N ((g51 P).c) e e) e) (N ((g40 P).a) e e)) (N ((g22 P).h) (N ((g34 P).c) e e) (N ((g45 P).g) e e)))))) (N ((g34 P).b) (N (o20 P) (N ((g3 P).d) (N ((g6 P).c) (N (o132 P) (N ((g23 P).h) (N ((g46 P).g) e e) e) (N (o388 P) e e)) (N ((g18 P).b) (N ((g29 P).f) (N (o580 P) e e) e) (N (o452 P) e e))) (N ((g9 P).c) (N ((g15 P).d) (N (o292 P) (N ((g49 P).e) e e) e) (N ((g38 P).c) e e)) (N (o228 P) (N ((g32 P).c) (N ((g55 P).c) e e) e) (N ((g44 P).a) e e)))) (N (o52 P) (N ((g7 P).g) (N ((g13 P).h) (N ((g25 P).d) (N (o532 P) e e) e) (N ((g36 P).g) e e)) (N ((g19 P).f) (N (o340 P) (N ((g53 P).g) e e) e) (N ((g42 P).e) e e))) (N ((g10 P).e) (N (o180 P) (N ((g28 P).b) (N ((g51 P).a) e e) e) (N ((g39 P).g) e e)) (N ((g22 P).d) (N ((g33 P).g) e e) (N ((g45 P).c) e e))))) (N ((g2 P).e) (N (o44 P) (N ((g7 P).a) (N ((g13 P).b) (N ((g24 P).f) (N (o524 P) e e) e) (N (o396 P) e e)) (N (o204 P) (N ((g30 P).d) (N (o588 P) e e) e) (N ((g41 P).g) e e))) (N ((g10 P).a) (N ((g16 P).b) (N ((g27 P).d) (N ((g50 P).c) e e) e) (N ((g39 P).a) e e)) (N (o236 P) (N ((g33 P).a) (N (o620 P) e e) e) (N ((g44 P).g) e e)))) (N (o60 P) (N (o92 P) (N ((g14 P).f) (N (o284 P) (N ((g48 P).g) e e) e) (N ((g37 P).e) e e)) (N ((g20 P).d) (N ((g31 P).e) (N ((g54 P).e) e e) e) (N ((g43 P).c) e e))) (N (o124 P) (N (o188 P) (N ((g28 P).h) (N ((g51 P).g) e e) e) (N (o444 P) e e)) (N ((g23 P).b) (N ((g34 P).g) e e) (N ((g46 P).a) e e))))))) (N (boot_o_6 P) (N (boot_o_10 P) (N ((g1 P).f) (N ((g3 P).b) (N ((g6 P).a) (N ((g12 P).d) (N ((g23 P).f) (N ((g46 P).e) e e) e) (N ((g35 P).c) e e)) (N ((g17 P).h) (N ((g29 P).d) (N ((g52 P).c) e e) e) (N ((g41 P).a) e e))) (N ((g9 P).a) (N ((g15 P).b) (N ((g26 P).f) (N (o546 P) e e) e) (N ((g38 P).a) e e)) (N ((g20 P).h) (N (o354 P) (N ((g55 P).a) e e) e) (N ((g43 P).g) e e)))) (N ((g4 P).f) (N (o82 P) (N (o146 P) (N ((g25 P).b) (N ((g48 P).a) e e) e) (N (o402 P) e e)) (N ((g19 P).d) (N ((g30 P).h) (N (o594 P) e e) e) (N (o466 P) e e))) (N (o114 P) (N ((g16 P).f) (N (o306 P) (N ((g50 P).g) e e) e) (N ((g39 P).e) e e)) (N (o242 P) (N ((g33 P).e) (N (o626 P) e e) e) (N (o498 P) e e))))) (N ((g2 P).c) (N ((g3 P).h) (N ((g6 P).h) (N (o138 P) (N ((g24 P).d) (N ((g47 P).c) e e) e) (N ((g36 P).a) e e)) (N ((g18 P).f) (N ((g30 P).b) (N ((g53 P).a) e e) e) (N (o458 P) e e))) (N ((g9 P).g) (N ((g15 P).h) (N (o298 P) (N ((g50 P).a) e e) e) (N ((g38 P).g) e e)) (N ((g21 P).f) (N ((g32 P).g) (N ((g55 P).g) e e) e) (N ((g44 P).e) e e)))) (N ((g5 P).e) (N ((g8 P).c) (N ((g14 P).d) (N ((g25 P).h) (N (o538 P) e e) e) (N (o410 P) e e)) (N ((g20 P).b) (N (o346 P) (N (o602 P) e e) e) (N ((g43 P).a) e e))) (N ((g11 P).f) (N ((g17 P).d) (N ((g28 P).f) (N ((g51 P).e) e e) e) (N ((g40 P).c) e e)) (N (o250 P) (N ((g34 P).e) e e) (N (o506 P) e e)))))) (N ((g0 P).c) (N ((g2 P).a) (N ((g3 P).f) (N ((g6 P).e) (N ((g12 P).f) (N ((g24 P).b) (N (o518 P) e e) e) (N ((g35 P).e) e e)) (N ((g18 P).d) (N (o326 P) (N ((g52 P).e) e e) e) (N ((g41 P).c) e e))) (N (o102 P) (N (o166 P) (N ((g26 P).h) (N ((g49 P).g) e e) e) (N ((g38 P).e) e e)) (N ((g21 P).b) (N ((g32 P).e) (N ((g55 P).e) e e) e) (N (o486 P) e e)))) (N ((g5 P).a) (N ((g8 P).a) (N ((g14 P).b) (N (o278 P) (N ((g48 P).c) e e) e) (N ((g37 P).a) e e)) (N (o214 P) (N ((g31 P).b) (N ((g54 P).a) e e) e) (N ((g42 P).g) e e))) (N ((g10 P).g) (N ((g16 P).h) (N ((g28 P).d) (N (o566 P) e e) e) (N (o438 P) e e)) (N ((g22 P).f) (N (o374 P) e e) (N ((g45 P).e) e e))))) (N ((g2 P).g) (N ((g4 P).b) (N ((g7 P).c) (N ((g13 P).d) (N (o270 P) (N ((g47 P).e) e e) e) (N ((g36 P).c) e e)) (N ((g18 P).h) (N (o334 P) (N ((g53 P).c) e e) e) (N ((g42 P).a) e e))) (N (o110 P) (N (o174 P) (N ((g27 P).f) (N ((g50 P).e) e e) e) (N (o430 P) e e)) (N ((g21 P).h) (N ((g33 P).c) (N ((g56 P).a) e e) e) (N (o494 P) e e)))) (N (o62 P) (N ((g8 P).e) (N ((g14 P).h) (N ((g26 P).b) (N ((g49 P).a) e e) e) (N ((g37 P).g) e e)) (N (o222 P) (N ((g31 P).g) (N ((g54 P).g) e e) e) (N ((g43 P).e) e e))) (N ((g11 P).h) (N ((g17 P).f) (N ((g29 P).b) (N (o574 P) e e) e) (N ((g40 P).e) e e)) (N ((g23 P).d) (N (o382 P) e e) (N (o510 P) e e)))))))))
noncomputable def S3 (w : World) (os : OsState) : SharedT := ⟨T3 w.params, 627, {}, ⟨[]⟩, {}, 1018, os⟩
noncomputable def sts3 : List Stmt := (body.drop 52).take 41
noncomputable def o3 (P : Params) : Obj := ob "dict" (dc [en P "__name__" 165 (vs "law_nz0524_01" 1175), en P "__doc__" 166 .none, en P "__package__" 167 .none, en P "__loader__" 168 (.builtin "__main__.__loader__#opaque"), en P "__spec__" 169 .none, en P "__annotations__" 170 (vr 6), en P "__builtins__" 171 (vr 4), en P "__file__" 173 (vs "/claim/cut.py" 172), en P "__cached__" 174 .none, en P "CoveError" 208 (vr 24), en P "Refusal" 233 (vr 44), en P "MOST_LENGTH" 237 (vi 1000000 236), en P "Null" 266 (vr 63), en P "Vector" 309 (vr 92), en P "Call" 344 (vr 114), en P "room" 351 (vr 125), en P "character" 358 (vr 132), en P "length" 366 (vr 139), en P "is_vector" 373 (vr 146), en P "is_atomic" 380 (vr 153), en P "own" 387 (vr 160), en P "share" 394 (vr 167), en P "get_attr" 404 (vr 174), en P "drop_attr" 412 (vr 181), en P "put_attr" 421 (vr 188), en P "names_of" 427 (vr 193), en P "dim_of" 435 (vr 200), en P "dimnames_of" 441 (vr 205), en P "NAN" 446 (vr 206), en P "INF" 449 (vr 207), en P "ZERO" 452 (vr 208), en P "gcd" 460 (vr 215), en P "make" 469 (vr 222), en P "from_int" 476 (vr 229), en P "is_na" 483 (vr 236), en P "is_finite" 490 (vr 243), en P "neg" 497 (vr 250), en P "to_whole" 505 (vr 257), en P "nearest_whole" 515 (vr 264), en P "exponent" 525 (vr 271), en P "MOST_EXPONENT" 529 (vi 4096 528), en P "whole_text" 539 (vr 278), en P "special_text" 546 (vr 285), en P "scaled" 556 (vr 292), en P "significant" 566 (vr 299), en P "without_tail" 574 (vr 306), en P "scientific_text" 586 (vr 313), en P "fixed_text" 596 (vr 320), en P "measures" 609 (vr 327), en P "chosen_form" 626 (vr 334), en P "formed" 635 (vr 341), en P "common_texts" 641 (vr 346), en P "number_text" 650 (vr 354), en P "digits_value" 660 (vr 361), en P "digit_run" 669 (vr 368), en P "exponent_value" 678 (vr 375), en P "powered" 687 (vr 382), en P "unsigned_number" 706 (vr 389), en P "parse_number" 718 (vr 396), en P "MOST_INTEGER" 722 (vi 2147483647 721), en P "kind_order" 730 (vr 403), en P "common_kind" 740 (vr 410), en P "note" 748 (vr 417), en P "as_logical_text" 755 (vr 424), en P "double_to_integer" 764 (vr 431), en P "text_to_double" 774 (vr 438), en P "to_logical" 782 (vr 445), en P "to_integer" 791 (vr 452), en P "to_double" 800 (vr 459), en P "to_text" 808 (vr 466), en P "item_as" 818 (vr 473), en P "is_atomic_kind" 825 (vr 480), en P "list_item_as" 835 (vr 487), en P "refuse_type" 843 (vr 494), en P "as_vector_kind" 849 (vr 499), en P "with_names" 857 (vr 506), en P "as_kind" 863 (vr 511), en P "as_list" 870 (vr 518), en P "whole_subscripts" 881 (vr 525), en P "first_places" 891 (vr 532), en P "partial_place" 902 (vr 539), en P "one_name" 911 (vr 546), en P "one_whole" 919 (vr 553), en P "one_place" 930 (vr 560), en P "strides" 940 (vr 567), en P "lacking_item" 949 (vr 574), en P "is_list_kind" 956 (vr 581), en P "refuse_subset" 963 (vr 588), en P "one_item" 971 (vr 595), en P "vector_element" 982 (vr 602), en P "array_element_place" 997 (vr 609), en P "environment_item" 1005 (vr 616), en P "element_step" 1011 (vr 621), en P "index_parts" 1017 (vr 626), en P "is_long_index" 1024 (vr 633), en P "element" 1036 (vr 640), en P "converted_items" 1047 (vr 647), en P "raised" 1057 (vr 654), en P "extend_vector" 1070 (vr 661), en P "first_count" 1079 (vr 668), en P "delete_places" 1097 (vr 675), en P "list_of_call" 1108 (vr 682), en P "call_of_list" 1114 (vr 687), en P "element_kind" 1122 (vr 694), en P "put_element" 1137 (vr 701), en P "assign_step" 1151 (vr 708), en P "assign_down" 1162 (vr 715), en P "assign_element" 1174 (vr 722), en P "_law_row" 1187 (vr 729), en P "_law_next" 1194 (vr 736), en P "_law_heads" 1200 (vr 741), en P "_law_value" 1206 (vr 746), en P "_law_tree" 1212 (vr 751), en P "_law_place" 1220 (vr 758), en P "_law_step" 1229 (vr 765), en P "_law_got" 1239 (vr 772), en P "_law_put" 1245 (vr 777), en P "_law_set" 1257 (vr 784), en P "_law_kept" 1265 (vr 791), en P "law" 1271 (vr 796)] 120)
noncomputable def o632 (P : Params) : Obj := ob "code" (fl [(vs "is_long_index" 1018), (vs "is_long_index" 1019), (vs "/claim/cut.py" 1020), (vi 589 0), (vi 1 0), (vi 0 0), (vi 0 0), (vi 3 0), (vr 627), (.bool true), (vi 181 0), (vr 628), .none, (vr 629), (vr 630), (vr 631), (vi 1022 0), (vi 589 0), (vs "/claim/cut.py" 1023)])
noncomputable def o633 (P : Params) : Obj := ob "function" (fn (st 93) "is_long_index" "is_long_index" 3 .none .none .none (vs "vectorcove.subset" 941) none (vr 632) .none 0)
noncomputable def g57 (P : Params) : O8 := ⟨⟨.none, none, (fl [(vi 2 0), (vi 0 0), (vr 20), (vi 4 0), (vi 0 0), (vr 33), (vi 10 0), (vi 0 0), (vr 52), (vi 15 0), (vi 0 0), (vr 73), (vi 29 0), (vi 0 0), (vr 102), (vi 37 0), (vi 0 0), (vr 124), (vi 41 0), (vi 0 0), (vr 131), (vi 43 0), (vi 0 0), (vr 138), (vi 54 0), (vi 0 0), (vr 145), (vi 56 0), (vi 0 0), (vr 152), (vi 58 0), (vi 0 0), (vr 159), (vi 62 0), (vi 0 0), (vr 166), (vi 67 0), (vi 0 0), (vr 173), (vi 71 0), (vi 0 0), (vr 180), (vi 76 0), (vi 0 0), (vr 187), (vi 80 0), (vi 0 0), (vr 192), (vi 96 0), (vi 0 0), (vr 199), (vi 101 0), (vi 0 0), (vr 204), (vi 110 0), (vi 0 0), (vr 214), (vi 114 0), (vi 0 0), (vr 221), (vi 124 0), (vi 0 0), (vr 228), (vi 128 0), (vi 0 0), (vr 235), (vi 130 0), (vi 0 0), (vr 242), (vi 132 0), (vi 0 0), (vr 249), (vi 136 0), (vi 0 0), (vr 256), (vi 141 0), (vi 0 0), (vr 263), (vi 147 0), (vi 0 0), (vr 270), (vi 160 0), (vi 0 0), (vr 277), (vi 171 0), (vi 0 0), (vr 284), (vi 179 0), (vi 0 0), (vr 291), (vi 184 0), (vi 0 0), (vr 298), (vi 193 0), (vi 0 0), (vr 305), (vi 198 0), (vi 0 0), (vr 312), (vi 205 0), (vi 0 0), (vr 319), (vi 213 0), (vi 0 0), (vr 326), (vi 220 0), (vi 0 0), (vr 333), (vi 240 0), (vi 0 0), (vr 340), (vi 247 0), (vi 0 0), (vr 345), (vi 251 0), (vi 0 0), (vr 353), (vi 253 0), (vi 0 0), (vr 360), (vi 258 0), (vi 0 0), (vr 367), (vi 262 0), (vi 0 0), (vr 374), (vi 272 0), (vi 0 0), (vr 381), (vi 282 0), (vi 0 0), (vr 388), (vi 314 0), (vi 0 0), (vr 395), (vi 333 0), (vi 0 0), (vr 402), (vi 338 0), (vi 0 0), (vr 409), (vi 344 0), (vi 0 0), (vr 416), (vi 347 0), (vi 0 0), (vr 423), (vi 353 0), (vi 0 0), (vr 430), (vi 361 0), (vi 0 0), (vr 437), (vi 367 0), (vi 0 0), (vr 444), (vi 377 0), (vi 0 0), (vr 451), (vi 385 0), (vi 0 0), (vr 458), (vi 391 0), (vi 0 0), (vr 465), (vi 399 0), (vi 0 0), (vr 472), (vi 413 0), (vi 0 0), (vr 479), (vi 415 0), (vi 0 0), (vr 486), (vi 421 0), (vi 0 0), (vr 493), (vi 423 0), (vi 0 0), (vr 498), (vi 437 0), (vi 0 0), (vr 505), (vi 441 0), (vi 0 0), (vr 510), (vi 448 0), (vi 0 0), (vr 517), (vi 451 0), (vi 0 0), (vr 524), (vi 461 0), (vi 0 0), (vr 531), (vi 469 0), (vi 0 0), (vr 538), (vi 482 0), (vi 0 0), (vr 545), (vi 488 0), (vi 0 0), (vr 552), (vi 502 0), (vi 0 0), (vr 559), (vi 519 0), (vi 0 0), (vr 566), (vi 527 0), (vi 0 0), (vr 573), (vi 531 0), (vi 0 0), (vr 580), (vi 533 0), (vi 0 0), (vr 587), (vi 535 0), (vi 0 0), (vr 594), (vi 539 0), (vi 0 0), (vr 601), (vi 551 0), (vi 0 0), (vr 608), (vi 567 0), (vi 0 0), (vr 615), (vi 571 0), (vi 0 0), (vr 620), (vi 587 0), (vi 0 0), (vr 625), (vi 589 0), (vi 0 0), (vr 632), (vi 591 0), (vi 0 0), (vr 639), (vi 610 0), (vi 0 0), (vr 646), (vi 616 0), (vi 0 0), (vr 653), (vi 623 0), (vi 0 0), (vr 660), (vi 638 0), (vi 0 0), (vr 667), (vi 644 0), (vi 0 0), (vr 674), (vi 667 0), (vi 0 0), (vr 681), (vi 677 0), (vi 0 0), (vr 686), (vi 685 0), (vi 0 0), (vr 693), (vi 693 0), (vi 0 0), (vr 700), (vi 712 0), (vi 0 0), (vr 707), (vi 733 0), (vi 0 0), (vr 714), (vi 744 0), (vi 0 0), (vr 721), (vi 759 0), (vi 0 0), (vr 728), (vi 772 0), (vi 0 0), (vr 735), (vi 774 0), (vi 0 0), (vr 740), (vi 776 0), (vi 0 0), (vr 745), (vi 788 0), (vi 0 0), (vr 750), (vi 797 0), (vi 0 0), (vr 757), (vi 803 0), (vi 0 0), (vr 764), (vi 814 0), (vi 0 0), (vr 771), (vi 822 0), (vi 0 0), (vr 776), (vi 852 0), (vi 0 0), (vr 783), (vi 864 0), (vi 0 0), (vr 790), (vi 869 0), (vi 0 0), (vr 795)]), ⟨[]⟩⟩, ob "tuple" (sq [] 0), ⟨.none, none, (fl []), ⟨[]⟩⟩, ob "tuple" (sq [(vs "ix" 1021)] 0), ob "tuple" (sq [] 0), ⟨.none, none, (fn (st 93) "is_long_index" "is_long_index" 0 .none .none .none .none none .none .none 0), ⟨[]⟩⟩, ob "tuple" (sq [] 0), ⟨.none, none, (fl []), ⟨[]⟩⟩⟩
noncomputable def o639 (P : Params) : Obj := ob "code" (fl [(vs "element" 1025), (vs "element" 1026), (vs "/claim/cut.py" 1027), (vi 591 0), (vi 3 0), (vi 0 0), (vi 0 0), (vi 3 0), (vr 634), (.bool true), (vi 181 0), (vr 635), .none, (vr 636), (vr 637), (vr 638), (vi 1034 0), (vi 591 0), (vs "/claim/cut.py" 1035)])
noncomputable def o640 (P : Params) : Obj := ob "function" (fn (st 94) "element" "element" 3 .none .none .none (vs "vectorcove.subset" 941) none (vr 639) .none 0)
noncomputable def g58 (P : Params) : O8 := ⟨ob "tuple" (sq [(vs "v" 1028), (vs "indexes" 1029), (vs "exact" 1030), (vs "ix" 1031), (vs "parts" 1032), (vs "i" 1033)] 0), ob "tuple" (sq [] 0), ⟨.none, none, (fn (st 94) "element" "element" 0 .none .none .none .none none .none .none 0), ⟨[]⟩⟩, ob "tuple" (sq [] 0), ⟨.none, none, (fl []), ⟨[]⟩⟩, ob "tuple" (sq [(vs "v" 1042), (vs "kind" 1043), (vs "notes" 1044)] 0), ob "tuple" (sq [] 0), ⟨.none, none, (fn (st 96) "converted_items" "converted_items" 0 .none .none .none .none none .none .none 0), ⟨[]⟩⟩⟩
noncomputable def o646 (P : Params) : Obj := ob "code" (fl [(vs "converted_items" 1039), (vs "converted_items" 1040), (vs "/claim/cut.py" 1041), (vi 610 0), (vi 3 0), (vi 0 0), (vi 0 0), (vi 3 0), (vr 641), (.bool true), (vi 181 0), (vr 642), .none, (vr 643), (vr 644), (vr 645), (vi 1045 0), (vi 610 0), (vs "/claim/cut.py" 1046)])
noncomputable def o647 (P : Params) : Obj := ob "function" (fn (st 96) "converted_items" "converted_items" 3 .none .none .none (vs "vectorcove.subassign" 1037) none (vr 646) .none 0)
noncomputable def o653 (P : Params) : Obj := ob "code" (fl [(vs "raised" 1048), (vs "raised" 1049), (vs "/claim/cut.py" 1050), (vi 616 0), (vi 3 0), (vi 0 0), (vi 0 0), (vi 3 0), (vr 648), (.bool true), (vi 181 0), (vr 649), .none, (vr 650), (vr 651), (vr 652), (vi 1055 0), (vi 616 0), (vs "/claim/cut.py" 1056)])
noncomputable def o654 (P : Params) : Obj := ob "function" (fn (st 97) "raised" "raised" 3 .none .none .none (vs "vectorcove.subassign" 1037) none (vr 653) .none 0)
noncomputable def g59 (P : Params) : O8 := ⟨ob "tuple" (sq [] 0), ⟨.none, none, (fl []), ⟨[]⟩⟩, ob "tuple" (sq [(vs "v" 1051), (vs "kind" 1052), (vs "notes" 1053), (vs "attrs" 1054)] 0), ob "tuple" (sq [] 0), ⟨.none, none, (fn (st 97) "raised" "raised" 0 .none .none .none .none none .none .none 0), ⟨[]⟩⟩, ob "tuple" (sq [] 0), ⟨.none, none, (fl []), ⟨[]⟩⟩, ob "tuple" (sq [(vs "v" 1061), (vs "count" 1062), (vs "names" 1063), (vs "added" 1064), (vs "n" 1065), (vs "i" 1066), (vs "texts" 1067)] 0)⟩
noncomputable def o660 (P : Params) : Obj := ob "code" (fl [(vs "extend_vector" 1058), (vs "extend_vector" 1059), (vs "/claim/cut.py" 1060), (vi 623 0), (vi 4 0), (vi 0 0), (vi 0 0), (vi 3 0), (vr 655), (.bool true), (vi 181 0), (vr 656), .none, (vr 657), (vr 658), (vr 659), (vi 1068 0), (vi 623 0), (vs "/claim/cut.py" 1069)])
noncomputable def o661 (P : Params) : Obj := ob "function" (fn (st 98) "extend_vector" "extend_vector" 3 .none .none .none (vs "vectorcove.subassign" 1037) none (vr 660) .none 0)
noncomputable def o667 (P : Params) : Obj := ob "code" (fl [(vs "first_count" 1071), (vs "first_count" 1072), (vs "/claim/cut.py" 1073), (vi 638 0), (vi 1 0), (vi 0 0), (vi 0 0), (vi 3 0), (vr 662), (.bool true), (vi 181 0), (vr 663), .none, (vr 664), (vr 665), (vr 666), (vi 1077 0), (vi 638 0), (vs "/claim/cut.py" 1078)])
noncomputable def o668 (P : Params) : Obj := ob "function" (fn (st 99) "first_count" "first_count" 3 .none .none .none (vs "vectorcove.subassign" 1037) none (vr 667) .none 0)
noncomputable def g60 (P : Params) : O8 := ⟨ob "tuple" (sq [] 0), ⟨.none, none, (fn (st 98) "extend_vector" "extend_vector" 0 .none .none .none .none none .none .none 0), ⟨[]⟩⟩, ob "tuple" (sq [] 0), ⟨.none, none, (fl []), ⟨[]⟩⟩, ob "tuple" (sq [(vs "places" 1074), (vs "count" 1075), (vs "place" 1076)] 0), ob "tuple" (sq [] 0), ⟨.none, none, (fn (st 99) "first_count" "first_count" 0 .none .none .none .none none .none .none 0), ⟨[]⟩⟩, ob "tuple" (sq [] 0)⟩
noncomputable def o674 (P : Params) : Obj := ob "code" (fl [(vs "delete_places" 1080), (vs "delete_places" 1081), (vs "/claim/cut.py" 1082), (vi 644 0), (vi 2 0), (vi 0 0), (vi 0 0), (vi 3 0), (vr 669), (.bool true), (vi 181 0), (vr 670), .none, (vr 671), (vr 672), (vr 673), (vi 1095 0), (vi 644 0), (vs "/claim/cut.py" 1096)])
noncomputable def o675 (P : Params) : Obj := ob "function" (fn (st 100) "delete_places" "delete_places" 3 .none .none .none (vs "vectorcove.subassign" 1037) none (vr 674) .none 0)
noncomputable def g61 (P : Params) : O8 := ⟨⟨.none, none, (fl []), ⟨[]⟩⟩, ob "tuple" (sq [(vs "v" 1083), (vs "places" 1084), (vs "names" 1085), (vs "count" 1086), (vs "gone" 1087), (vs "place" 1088), (vs "items" 1089), (vs "kept_names" 1090), (vs "i" 1091), (vs "inside" 1092), (vs "result" 1093), (vs "name" 1094)] 0), ob "tuple" (sq [] 0), ⟨.none, none, (fn (st 100) "delete_places" "delete_places" 0 .none .none .none .none none .none .none 0), ⟨[]⟩⟩, ob "tuple" (sq [] 0), ⟨.none, none, (fl []), ⟨[]⟩⟩, ob "tuple" (sq [(vs "v" 1101), (vs "result" 1102), (vs "names" 1103), (vs "filled" 1104), (vs "tag" 1105)] 0), ob "tuple" (sq [] 0)⟩
noncomputable def o681 (P : Params) : Obj := ob "code" (fl [(vs "list_of_call" 1098), (vs "list_of_call" 1099), (vs "/claim/cut.py" 1100), (vi 667 0), (vi 1 0), (vi 0 0), (vi 0 0), (vi 3 0), (vr 676), (.bool true), (vi 181 0), (vr 677), .none, (vr 678), (vr 679), (vr 680), (vi 1106 0), (vi 667 0), (vs "/claim/cut.py" 1107)])
noncomputable def o682 (P : Params) : Obj := ob "function" (fn (st 101) "list_of_call" "list_of_call" 3 .none .none .none (vs "vectorcove.subassign" 1037) none (vr 681) .none 0)
noncomputable def o686 (P : Params) : Obj := ob "code" (fl [(vs "call_of_list" 1109), (vs "call_of_list" 1110), (vs "/claim/cut.py" 1111), (vi 677 0), (vi 1 0), (vi 0 0), (vi 0 0), (vi 3 0), (vr 683), (.bool true), (vi 181 0), (vr 684), .none, .none, .none, (vr 685), (vi 1112 0), (vi 677 0), (vs "/claim/cut.py" 1113)])
noncomputable def o687 (P : Params) : Obj := ob "function" (fn (st 102) "call_of_list" "call_of_list" 3 .none .none .none (vs "vectorcove.subassign" 1037) none (vr 686) .none 0)
noncomputable def g62 (P : Params) : O8 := ⟨⟨.none, none, (fn (st 101) "list_of_call" "list_of_call" 0 .none .none .none .none none .none .none 0), ⟨[]⟩⟩, ob "tuple" (sq [] 0), ⟨.none, none, (fl []), ⟨[]⟩⟩, ⟨.none, none, (fn (st 102) "call_of_list" "call_of_list" 0 .none .none .none .none none .none .none 0), ⟨[]⟩⟩, ob "tuple" (sq [] 0), ⟨.none, none, (fl []), ⟨[]⟩⟩, ob "tuple" (sq [(vs "v" 1118), (vs "value" 1119)] 0), ob "tuple" (sq [] 0)⟩
noncomputable def o693 (P : Params) : Obj := ob "code" (fl [(vs "element_kind" 1115), (vs "element_kind" 1116), (vs "/claim/cut.py" 1117), (vi 685 0), (vi 2 0), (vi 0 0), (vi 0 0), (vi 3 0), (vr 688), (.bool true), (vi 181 0), (vr 689), .none, (vr 690), (vr 691), (vr 692), (vi 1120 0), (vi 685 0), (vs "/claim/cut.py" 1121)])
noncomputable def o694 (P : Params) : Obj := ob "function" (fn (st 103) "element_kind" "element_kind" 3 .none .none .none (vs "vectorcove.subassign" 1037) none (vr 693) .none 0)
noncomputable def o700 (P : Params) : Obj := ob "code" (fl [(vs "put_element" 1123), (vs "put_element" 1124), (vs "/claim/cut.py" 1125), (vi 693 0), (vi 5 0), (vi 0 0), (vi 0 0), (vi 3 0), (vr 695), (.bool true), (vi 181 0), (vr 696), .none, (vr 697), (vr 698), (vr 699), (vi 1135 0), (vi 693 0), (vs "/claim/cut.py" 1136)])
noncomputable def o701 (P : Params) : Obj := ob "function" (fn (st 104) "put_element" "put_element" 3 .none .none .none (vs "vectorcove.subassign" 1037) none (vr 700) .none 0)
noncomputable def g63 (P : Params) : O8 := ⟨⟨.none, none, (fn (st 103) "element_kind" "element_kind" 0 .none .none .none .none none .none .none 0), ⟨[]⟩⟩, ob "tuple" (sq [] 0), ⟨.none, none, (fl []), ⟨[]⟩⟩, ob "tuple" (sq [(vs "v" 1126), (vs "place" 1127), (vs "name" 1128), (vs "value" 1129), (vs "notes" 1130), (vs "names" 1131), (vs "kind" 1132), (vs "result" 1133), (vs "added" 1134)] 0), ob "tuple" (sq [] 0), ⟨.none, none, (fn (st 104) "put_element" "put_element" 0 .none .none .none .none none .none .none 0), ⟨[]⟩⟩, ob "tuple" (sq [] 0), ⟨.none, none, (fl []), ⟨[]⟩⟩⟩
noncomputable def o707 (P : Params) : Obj := ob "code" (fl [(vs "assign_step" 1138), (vs "assign_step" 1139), (vs "/claim/cut.py" 1140), (vi 712 0), (vi 4 0), (vi 0 0), (vi 0 0), (vi 3 0), (vr 702), (.bool true), (vi 181 0), (vr 703), .none, (vr 704), (vr 705), (vr 706), (vi 1149 0), (vi 712 0), (vs "/claim/cut.py" 1150)])
noncomputable def o708 (P : Params) : Obj := ob "function" (fn (st 105) "assign_step" "assign_step" 3 .none .none .none (vs "vectorcove.subassign" 1037) none (vr 707) .none 0)
noncomputable def g64 (P : Params) : O8 := ⟨ob "tuple" (sq [(vs "v" 1141), (vs "ix" 1142), (vs "value" 1143), (vs "notes" 1144), (vs "kind" 1145), (vs "n" 1146), (vs "place" 1147), (vs "name" 1148)] 0), ob "tuple" (sq [] 0), ⟨.none, none, (fn (st 105) "assign_step" "assign_step" 0 .none .none .none .none none .none .none 0), ⟨[]⟩⟩, ob "tuple" (sq [] 0), ⟨.none, none, (fl []), ⟨[]⟩⟩, ob "tuple" (sq [(vs "v" 1155), (vs "parts" 1156), (vs "value" 1157), (vs "notes" 1158), (vs "inner" 1159)] 0), ob "tuple" (sq [] 0), ⟨.none, none, (fn (st 106) "assign_down" "assign_down" 0 .none .none .none .none none .none .none 0), ⟨[]⟩⟩⟩
noncomputable def o714 (P : Params) : Obj := ob "code" (fl [(vs "assign_down" 1152), (vs "assign_down" 1153), (vs "/claim/cut.py" 1154), (vi 733 0), (vi 4 0), (vi 0 0), (vi 0 0), (vi 3 0), (vr 709), (.bool true), (vi 181 0), (vr 710), .none, (vr 711), (vr 712), (vr 713), (vi 1160 0), (vi 733 0), (vs "/claim/cut.py" 1161)])
noncomputable def o715 (P : Params) : Obj := ob "function" (fn (st 106) "assign_down" "assign_down" 3 .none .none .none (vs "vectorcove.subassign" 1037) none (vr 714) .none 0)
noncomputable def o721 (P : Params) : Obj := ob "code" (fl [(vs "assign_element" 1163), (vs "assign_element" 1164), (vs "/claim/cut.py" 1165), (vi 744 0), (vi 4 0), (vi 0 0), (vi 0 0), (vi 3 0), (vr 716), (.bool true), (vi 181 0), (vr 717), .none, (vr 718), (vr 719), (vr 720), (vi 1172 0), (vi 744 0), (vs "/claim/cut.py" 1173)])
noncomputable def o722 (P : Params) : Obj := ob "function" (fn (st 107) "assign_element" "assign_element" 3 .none .none .none (vs "vectorcove.subassign" 1037) none (vr 721) .none 0)
noncomputable def g65 (P : Params) : O8 := ⟨ob "tuple" (sq [] 0), ⟨.none, none, (fl []), ⟨[]⟩⟩, ob "tuple" (sq [(vs "v" 1166), (vs "indexes" 1167), (vs "value" 1168), (vs "notes" 1169), (vs "place" 1170), (vs "ix" 1171)] 0), ob "tuple" (sq [] 0), ⟨.none, none, (fn (st 107) "assign_element" "assign_element" 0 .none .none .none .none none .none .none 0), ⟨[]⟩⟩, ob "tuple" (sq [] 0), ⟨.none, none, (fl []), ⟨[]⟩⟩, ob "tuple" (sq [(vs "script" 1180), (vs "row" 1181), (vs "cell" 1182), (vs "figure" 1183), (vs "lap" 1184)] 0)⟩
noncomputable def o728 (P : Params) : Obj := ob "code" (fl [(vs "_law_row" 1177), (vs "_law_row" 1178), (vs "/claim/cut.py" 1179), (vi 759 0), (vi 1 0), (vi 0 0), (vi 0 0), (vi 3 0), (vr 723), (.bool true), (vi 181 0), (vr 724), .none, (vr 725), (vr 726), (vr 727), (vi 1185 0), (vi 759 0), (vs "/claim/cut.py" 1186)])
noncomputable def o729 (P : Params) : Obj := ob "function" (fn (st 109) "_law_row" "_law_row" 3 .none .none .none (vs "law_nz0524_01" 1175) none (vr 728) .none 0)
noncomputable def o735 (P : Params) : Obj := ob "code" (fl [(vs "_law_next" 1188), (vs "_law_next" 1189), (vs "/claim/cut.py" 1190), (vi 772 0), (vi 1 0), (vi 0 0), (vi 0 0), (vi 3 0), (vr 730), (.bool true), (vi 181 0), (vr 731), .none, (vr 732), (vr 733), (vr 734), (vi 1192 0), (vi 772 0), (vs "/claim/cut.py" 1193)])
noncomputable def o736 (P : Params) : Obj := ob "function" (fn (st 110) "_law_next" "_law_next" 3 .none .none .none (vs "law_nz0524_01" 1175) none (vr 735) .none 0)
noncomputable def g66 (P : Params) : O8 := ⟨ob "tuple" (sq [] 0), ⟨.none, none, (fn (st 109) "_law_row" "_law_row" 0 .none .none .none .none none .none .none 0), ⟨[]⟩⟩, ob "tuple" (sq [] 0), ⟨.none, none, (fl []), ⟨[]⟩⟩, ob "tuple" (sq [(vs "row" 1191)] 0), ob "tuple" (sq [] 0), ⟨.none, none, (fn (st 110) "_law_next" "_law_next" 0 .none .none .none .none none .none .none 0), ⟨[]⟩⟩, ob "tuple" (sq [] 0)⟩
noncomputable def o740 (P : Params) : Obj := ob "code" (fl [(vs "_law_heads" 1195), (vs "_law_heads" 1196), (vs "/claim/cut.py" 1197), (vi 774 0), (vi 2 0), (vi 0 0), (vi 0 0), (vi 3 0), (vr 737), (.bool true), (vi 181 0), (vr 738), .none, .none, .none, (vr 739), (vi 1198 0), (vi 774 0), (vs "/claim/cut.py" 1199)])
noncomputable def o741 (P : Params) : Obj := ob "function" (fn (st 111) "_law_heads" "_law_heads" 3 .none .none .none (vs "law_nz0524_01" 1175) none (vr 740) .none 0)
noncomputable def o745 (P : Params) : Obj := ob "code" (fl [(vs "_law_value" 1201), (vs "_law_value" 1202), (vs "/claim/cut.py" 1203), (vi 776 0), (vi 2 0), (vi 0 0), (vi 0 0), (vi 3 0), (vr 742), (.bool true), (vi 181 0), (vr 743), .none, .none, .none, (vr 744), (vi 1204 0), (vi 776 0), (vs "/claim/cut.py" 1205)])
noncomputable def o746 (P : Params) : Obj := ob "function" (fn (st 112) "_law_value" "_law_value" 3 .none .none .none (vs "law_nz0524_01" 1175) none (vr 745) .none 0)
noncomputable def g67 (P : Params) : O8 := ⟨⟨.none, none, (fl []), ⟨[]⟩⟩, ⟨.none, none, (fn (st 111) "_law_heads" "_law_heads" 0 .none .none .none .none none .none .none 0), ⟨[]⟩⟩, ob "tuple" (sq [] 0), ⟨.none, none, (fl []), ⟨[]⟩⟩, ⟨.none, none, (fn (st 112) "_law_value" "_law_value" 0 .none .none .none .none none .none .none 0), ⟨[]⟩⟩, ob "tuple" (sq [] 0), ⟨.none, none, (fl []), ⟨[]⟩⟩, ⟨.none, none, (fn (st 113) "_law_tree" "_law_tree" 0 .none .none .none .none none .none .none 0), ⟨[]⟩⟩⟩
noncomputable def o750 (P : Params) : Obj := ob "code" (fl [(vs "_law_tree" 1207), (vs "_law_tree" 1208), (vs "/claim/cut.py" 1209), (vi 788 0), (vi 1 0), (vi 0 0), (vi 0 0), (vi 3 0), (vr 747), (.bool true), (vi 181 0), (vr 748), .none, .none, .none, (vr 749), (vi 1210 0), (vi 788 0), (vs "/claim/cut.py" 1211)])
noncomputable def o751 (P : Params) : Obj := ob "function" (fn (st 113) "_law_tree" "_law_tree" 3 .none .none .none (vs "law_nz0524_01" 1175) none (vr 750) .none 0)
noncomputable def o757 (P : Params) : Obj := ob "code" (fl [(vs "_law_place" 1213), (vs "_law_place" 1214), (vs "/claim/cut.py" 1215), (vi 797 0), (vi 2 0), (vi 0 0), (vi 0 0), (vi 3 0), (vr 752), (.bool true), (vi 181 0), (vr 753), .none, (vr 754), (vr 755), (vr 756), (vi 1218 0), (vi 797 0), (vs "/claim/cut.py" 1219)])
noncomputable def o758 (P : Params) : Obj := ob "function" (fn (st 114) "_law_place" "_law_place" 3 .none .none .none (vs "law_nz0524_01" 1175) none (vr 757) .none 0)
noncomputable def g68 (P : Params) : O8 := ⟨ob "tuple" (sq [] 0), ⟨.none, none, (fl []), ⟨[]⟩⟩, ob "tuple" (sq [(vs "node" 1216), (vs "key" 1217)] 0), ob "tuple" (sq [] 0), ⟨.none, none, (fn (st 114) "_law_place" "_law_place" 0 .none .none .none .none none .none .none 0), ⟨[]⟩⟩, ob "tuple" (sq [] 0), ⟨.none, none, (fl []), ⟨[]⟩⟩, ob "tuple" (sq [(vs "node" 1224), (vs "key" 1225), (vs "spot" 1226)] 0)⟩
noncomputable def o764 (P : Params) : Obj := ob "code" (fl [(vs "_law_step" 1221), (vs "_law_step" 1222), (vs "/claim/cut.py" 1223), (vi 803 0), (vi 2 0), (vi 0 0), (vi 0 0), (vi 3 0), (vr 759), (.bool true), (vi 181 0), (vr 760), .none, (vr 761), (vr 762), (vr 763), (vi 1227 0), (vi 803 0), (vs "/claim/cut.py" 1228)])
noncomputable def o765 (P : Params) : Obj := ob "function" (fn (st 115) "_law_step" "_law_step" 3 .none .none .none (vs "law_nz0524_01" 1175) none (vr 764) .none 0)
noncomputable def o771 (P : Params) : Obj := ob "code" (fl [(vs "_law_got" 1230), (vs "_law_got" 1231), (vs "/claim/cut.py" 1232), (vi 814 0), (vi 2 0), (vi 0 0), (vi 0 0), (vi 3 0), (vr 766), (.bool true), (vi 181 0), (vr 767), .none, (vr 768), (vr 769), (vr 770), (vi 1237 0), (vi 814 0), (vs "/claim/cut.py" 1238)])
noncomputable def o772 (P : Params) : Obj := ob "function" (fn (st 116) "_law_got" "_law_got" 3 .none .none .none (vs "law_nz0524_01" 1175) none (vr 771) .none 0)
noncomputable def g69 (P : Params) : O8 := ⟨ob "tuple" (sq [] 0), ⟨.none, none, (fn (st 115) "_law_step" "_law_step" 0 .none .none .none .none none .none .none 0), ⟨[]⟩⟩, ob "tuple" (sq [] 0), ⟨.none, none, (fl []), ⟨[]⟩⟩, ob "tuple" (sq [(vs "node" 1233), (vs "keys" 1234), (vs "spot" 1235), (vs "fault" 1236)] 0), ob "tuple" (sq [] 0), ⟨.none, none, (fn (st 116) "_law_got" "_law_got" 0 .none .none .none .none none .none .none 0), ⟨[]⟩⟩, ob "tuple" (sq [] 0)⟩
noncomputable def o776 (P : Params) : Obj := ob "code" (fl [(vs "_law_put" 1240), (vs "_law_put" 1241), (vs "/claim/cut.py" 1242), (vi 822 0), (vi 3 0), (vi 0 0), (vi 0 0), (vi 3 0), (vr 773), (.bool true), (vi 181 0), (vr 774), .none, .none, .none, (vr 775), (vi 1243 0), (vi 822 0), (vs "/claim/cut.py" 1244)])
noncomputable def o777 (P : Params) : Obj := ob "function" (fn (st 117) "_law_put" "_law_put" 3 .none .none .none (vs "law_nz0524_01" 1175) none (vr 776) .none 0)
noncomputable def o783 (P : Params) : Obj := ob "code" (fl [(vs "_law_set" 1246), (vs "_law_set" 1247), (vs "/claim/cut.py" 1248), (vi 852 0), (vi 3 0), (vi 0 0), (vi 0 0), (vi 3 0), (vr 778), (.bool true), (vi 181 0), (vr 779), .none, (vr 780), (vr 781), (vr 782), (vi 1255 0), (vi 852 0), (vs "/claim/cut.py" 1256)])
noncomputable def o784 (P : Params) : Obj := ob "function" (fn (st 118) "_law_set" "_law_set" 3 .none .none .none (vs "law_nz0524_01" 1175) none (vr 783) .none 0)
noncomputable def g70 (P : Params) : O8 := ⟨⟨.none, none, (fl []), ⟨[]⟩⟩, ⟨.none, none, (fn (st 117) "_law_put" "_law_put" 0 .none .none .none .none none .none .none 0), ⟨[]⟩⟩, ob "tuple" (sq [] 0), ⟨.none, none, (fl []), ⟨[]⟩⟩, ob "tuple" (sq [(vs "node" 1249), (vs "keys" 1250), (vs "value" 1251), (vs "inner" 1252), (vs "fault" 1253), (vs "made" 1254)] 0), ob "tuple" (sq [] 0), ⟨.none, none, (fn (st 118) "_law_set" "_law_set" 0 .none .none .none .none none .none .none 0), ⟨[]⟩⟩, ob "tuple" (sq [] 0)⟩
noncomputable def o790 (P : Params) : Obj := ob "code" (fl [(vs "_law_kept" 1258), (vs "_law_kept" 1259), (vs "/claim/cut.py" 1260), (vi 864 0), (vi 1 0), (vi 0 0), (vi 0 0), (vi 3 0), (vr 785), (.bool true), (vi 181 0), (vr 786), .none, (vr 787), (vr 788), (vr 789), (vi 1263 0), (vi 864 0), (vs "/claim/cut.py" 1264)])
noncomputable def o791 (P : Params) : Obj := ob "function" (fn (st 119) "_law_kept" "_law_kept" 3 .none .none .none (vs "law_nz0524_01" 1175) none (vr 790) .none 0)
noncomputable def o795 (P : Params) : Obj := ob "code" (fl [(vs "law" 1266), (vs "law" 1267), (vs "/claim/cut.py" 1268), (vi 869 0), (vi 1 0), (vi 0 0), (vi 0 0), (vi 3 0), (vr 792), (.bool true), (vi 181 0), (vr 793), .none, .none, .none, (vr 794), (vi 1269 0), (vi 869 0), (vs "/claim/cut.py" 1270)])
noncomputable def o796 (P : Params) : Obj := ob "function" (fn (st 120) "law" "law" 3 .none .none .none (vs "law_nz0524_01" 1175) none (vr 795) .none 0)
noncomputable def g71 (P : Params) : O8 := ⟨⟨.none, none, (fl []), ⟨[]⟩⟩, ob "tuple" (sq [(vs "ask" 1261), (vs "error" 1262)] 0), ob "tuple" (sq [] 0), ⟨.none, none, (fn (st 119) "_law_kept" "_law_kept" 0 .none .none .none .none none .none .none 0), ⟨[]⟩⟩, ob "tuple" (sq [] 0), ⟨.none, none, (fl []), ⟨[]⟩⟩, ⟨.none, none, (fn (st 120) "law" "law" 0 .none .none .none .none none .none .none 0), ⟨[]⟩⟩, zo⟩
noncomputable def T4 (P : Params) : BT :=  (N (boot_o_0 P) (N (boot_o_1 P) (N (o3 P) (N (boot_o_7 P) (N ((g1 P).c) (N ((g2 P).h) (N (o63 P) (N ((g12 P).a) (N ((g23 P).e) (N (o511 P) e e) (N ((g69 P).d) e e)) (N ((g34 P).h) (N (o639 P) e e) e)) (N ((g17 P).g) (N (o319 P) (N ((g51 P).h) e e) e) (N ((g40 P).f) (N ((g63 P).h) e e) e))) (N ((g8 P).f) (N (o159 P) (N ((g26 P).c) (N ((g49 P).b) e e) e) (N ((g37 P).h) (N ((g61 P).b) e e) e)) (N ((g20 P).e) (N ((g31 P).h) (N ((g54 P).h) e e) e) (N (o479 P) (N (o735 P) e e) e)))) (N ((g4 P).c) (N ((g7 P).d) (N ((g13 P).e) (N (o271 P) (N ((g47 P).f) e e) (N (o783 P) e e)) (N ((g36 P).d) (N ((g59 P).f) e e) e)) (N ((g19 P).a) (N ((g30 P).e) (N ((g53 P).d) e e) e) (N ((g42 P).b) (N ((g65 P).d) e e) e))) (N (o111 P) (N ((g16 P).c) (N ((g27 P).g) (N (o559 P) e e) e) (N (o431 P) (N (o687 P) e e) e)) (N ((g22 P).a) (N (o367 P) (N ((g56 P).b) e e) e) (N ((g44 P).h) (N (o751 P) e e) e))))) (N (o23 P) (N ((g3 P).g) (N ((g6 P).f) (N ((g12 P).g) (N (o263 P) (N ((g46 P).h) e e) (N ((g70 P).b) e e)) (N ((g35 P).f) (N (o647 P) e e) e)) (N (o199 P) (N (o327 P) (N ((g52 P).f) e e) e) (N ((g41 P).d) (N ((g64 P).f) e e) e))) (N ((g9 P).e) (N (o167 P) (N ((g27 P).a) (N ((g49 P).h) e e) e) (N (o423 P) (N ((g61 P).h) e e) e)) (N ((g21 P).c) (N ((g32 P).f) (N (o615 P) e e) e) (N (o487 P) (N ((g67 P).d) e e) e)))) (N ((g5 P).b) (N ((g8 P).b) (N ((g14 P).c) (N ((g25 P).e) (N ((g48 P).d) e e) (N (o791 P) e e)) (N ((g37 P).b) (N ((g60 P).d) e e) e)) (N (o215 P) (N ((g31 P).c) (N ((g54 P).b) e e) e) (N ((g42 P).h) (N ((g66 P).b) e e) e))) (N ((g11 P).c) (N ((g17 P).a) (N ((g28 P).e) (N (o567 P) e e) e) (N ((g39 P).h) (N ((g63 P).b) e e) e)) (N ((g22 P).g) (N (o375 P) (N ((g57 P).f) e e) e) (N ((g45 P).f) (N ((g68 P).f) e e) e)))))) (N ((g0 P).a) (N ((g1 P).g) (N ((g3 P).c) (N ((g6 P).b) (N (o131 P) (N ((g23 P).g) (N ((g46 P).f) e e) (N (o771 P) e e)) (N ((g35 P).d) (N ((g58 P).f) e e) e)) (N ((g18 P).a) (N ((g29 P).e) (N ((g52 P).d) e e) e) (N (o451 P) (N (o707 P) e e) e))) (N ((g9 P).b) (N ((g15 P).c) (N (o291 P) (N ((g49 P).d) e e) e) (N ((g38 P).b) (N (o675 P) e e) e)) (N ((g21 P).a) (N ((g32 P).b) (N ((g55 P).b) e e) e) (N ((g43 P).h) (N ((g67 P).b) e e) e)))) (N ((g4 P).g) (N ((g7 P).f) (N ((g13 P).g) (N ((g25 P).c) (N (o531 P) e e) (N ((g71 P).b) e e)) (N (o403 P) (N ((g60 P).b) e e) e)) (N ((g19 P).e) (N ((g31 P).a) (N (o595 P) e e) e) (N ((g42 P).d) (N ((g65 P).f) e e) e))) (N ((g10 P).d) (N ((g16 P).g) (N ((g28 P).a) (N ((g50 P).h) e e) e) (N ((g39 P).f) (N ((g62 P).h) e e) e)) (N (o243 P) (N ((g33 P).f) (N ((g57 P).b) e e) e) (N (o499 P) (N ((g68 P).d) e e) e))))) (N ((g2 P).d) (N (o43 P) (N (o75 P) (N (o139 P) (N ((g24 P).e) (N ((g47 P).d) e e) (N ((g70 P).d) e e)) (N (o395 P) (N ((g59 P).d) e e) e)) (N ((g18 P).g) (N ((g30 P).c) (N (o587 P) e e) e) (N (o459 P) (N (o715 P) e e) e))) (N ((g9 P).h) (N ((g16 P).a) (N (o299 P) (N ((g50 P).b) e e) e) (N ((g38 P).h) (N ((g62 P).b) e e) e)) (N (o235 P) (N ((g32 P).h) (N ((g55 P).h) e e) e) (N ((g44 P).f) (N ((g67 P).f) e e) e)))) (N (o59 P) (N (o91 P) (N ((g14 P).e) (N ((g26 P).a) (N (o539 P) e e) (N (o795 P) e e)) (N ((g37 P).d) (N (o667 P) e e) e)) (N ((g20 P).c) (N (o347 P) (N ((g54 P).d) e e) e) (N ((g43 P).b) (N ((g66 P).d) e e) e))) (N ((g11 P).g) (N (o187 P) (N ((g28 P).g) (N ((g51 P).f) e e) e) (N ((g40 P).d) (N ((g63 P).f) e e) e)) (N ((g23 P).a) (N ((g34 P).f) (N ((g57 P).h) e e) e) (N ((g45 P).h) (N ((g69 P).b) e e) e))))))) (N (boot_o_5 P) (N (boot_o_9 P) (N ((g1 P).e) (N (o33 P) (N ((g5 P).h) (N ((g12 P).c) (N (o257 P) (N ((g46 P).d) e e) (N ((g69 P).f) e e)) (N ((g35 P).b) (N ((g58 P).d) e e) e)) (N (o193 P) (N ((g29 P).c) (N ((g52 P).b) e e) e) (N ((g40 P).h) (N ((g64 P).b) e e) e))) (N ((g8 P).h) (N ((g15 P).a) (N ((g26 P).e) (N (o545 P) e e) e) (N (o417 P) (N ((g61 P).d) e e) e)) (N ((g20 P).g) (N (o353 P) (N (o609 P) e e) e) (N ((g43 P).f) (N ((g66 P).h) e e) e)))) (N ((g4 P).e) (N (o81 P) (N (o145 P) (N ((g25 P).a) (N ((g47 P).h) e e) (N ((g70 P).h) e e)) (N ((g36 P).f) (N ((g59 P).h) e e) e)) (N ((g19 P).c) (N ((g30 P).g) (N ((g53 P).f) e e) e) (N (o465 P) (N (o721 P) e e) e))) (N (o113 P) (N ((g16 P).e) (N (o305 P) (N ((g50 P).f) e e) e) (N ((g39 P).d) (N ((g62 P).f) e e) e)) (N ((g22 P).c) (N ((g33 P).d) (N (o625 P) e e) e) (N ((g45 P).b) (N ((g68 P).b) e e) e))))) (N ((g2 P).b) (N (o41 P) (N (o73 P) (N ((g13 P).a) (N ((g24 P).c) (N ((g47 P).b) e e) (N (o777 P) e e)) (N ((g35 P).h) (N ((g59 P).b) e e) e)) (N ((g18 P).e) (N ((g30 P).a) (N ((g52 P).h) e e) e) (N ((g41 P).f) (N ((g64 P).h) e e) e))) (N ((g9 P).f) (N ((g15 P).g) (N ((g27 P).c) (N (o553 P) e e) e) (N ((g38 P).f) (N (o681 P) e e) e)) (N ((g21 P).e) (N (o361 P) (N ((g55 P).f) e e) e) (N ((g44 P).d) (N (o745 P) e e) e)))) (N ((g5 P).d) (N (o89 P) (N (o153 P) (N ((g25 P).g) (N ((g48 P).f) e e) (N ((g71 P).f) e e)) (N (o409 P) (N ((g60 P).f) e e) e)) (N ((g20 P).a) (N (o345 P) (N (o601 P) e e) e) (N (o473 P) (N (o729 P) e e) e))) (N ((g11 P).e) (N ((g17 P).c) (N (o313 P) (N ((g51 P).d) e e) e) (N ((g40 P).b) (N ((g63 P).d) e e) e)) (N (o249 P) (N ((g34 P).d) (N (o633 P) e e) e) (N (o505 P) (N ((g68 P).h) e e) e)))))) (N (o13 P) (N ((g1 P).h) (N ((g3 P).e) (N ((g6 P).d) (N ((g12 P).e) (N ((g24 P).a) (N (o517 P) e e) (N ((g69 P).h) e e)) (N (o389 P) (N ((g58 P).h) e e) e)) (N ((g18 P).c) (N ((g29 P).g) (N (o581 P) e e) e) (N ((g41 P).b) (N ((g64 P).d) e e) e))) (N ((g9 P).d) (N ((g15 P).e) (N ((g26 P).g) (N ((g49 P).f) e e) e) (N ((g38 P).d) (N ((g61 P).f) e e) e)) (N (o229 P) (N ((g32 P).d) (N ((g55 P).d) e e) e) (N ((g44 P).b) (N (o741 P) e e) e)))) (N ((g4 P).h) (N ((g7 P).h) (N ((g14 P).a) (N (o277 P) (N ((g48 P).b) e e) (N ((g71 P).d) e e)) (N ((g36 P).h) (N (o661 P) e e) e)) (N ((g19 P).g) (N (o341 P) (N ((g53 P).h) e e) e) (N ((g42 P).f) (N ((g65 P).h) e e) e))) (N ((g10 P).f) (N (o181 P) (N ((g28 P).c) (N ((g51 P).b) e e) e) (N (o437 P) (N (o693 P) e e) e)) (N ((g22 P).e) (N ((g33 P).h) (N ((g57 P).d) e e) e) (N ((g45 P).d) (N (o757 P) e e) e))))) (N ((g2 P).f) (N ((g4 P).a) (N ((g7 P).b) (N ((g13 P).c) (N ((g24 P).g) (N (o525 P) e e) (N ((g70 P).f) e e)) (N ((g36 P).b) (N (o653 P) e e) e)) (N (o205 P) (N (o333 P) (N ((g53 P).b) e e) e) (N ((g41 P).h) (N ((g65 P).b) e e) e))) (N ((g10 P).b) (N (o173 P) (N ((g27 P).e) (N ((g50 P).d) e e) e) (N ((g39 P).b) (N ((g62 P).d) e e) e)) (N ((g21 P).g) (N ((g33 P).b) (N (o621 P) e e) e) (N (o493 P) (N ((g67 P).h) e e) e)))) (N ((g5 P).f) (N ((g8 P).d) (N ((g14 P).g) (N (o285 P) (N ((g48 P).h) e e) e) (N ((g37 P).f) (N ((g60 P).h) e e) e)) (N (o221 P) (N ((g31 P).f) (N ((g54 P).f) e e) e) (N ((g43 P).d) (N ((g66 P).f) e e) e))) (N (o125 P) (N ((g17 P).e) (N ((g29 P).a) (N (o573 P) e e) e) (N (o445 P) (N (o701 P) e e) e)) (N ((g23 P).c) (N (o381 P) (N ((g58 P).b) e e) e) (N ((g46 P).b) (N (o765 P) e e) e)))))))) (N (o2 P) (N (boot_o_4 P) (N (boot_o_8 P) (N ((g1 P).d) (N ((g3 P).a) (N ((g5 P).g) (N ((g12 P).b) (N (o256 P) (N ((g46 P).c) e e) (N ((g69 P).e) e e)) (N ((g35 P).a) (N (o640 P) e e) e)) (N (o192 P) (N (o320 P) (N ((g52 P).a) e e) e) (N ((g40 P).g) (N ((g64 P).a) e e) e))) (N ((g8 P).g) (N (o160 P) (N ((g26 P).d) (N ((g49 P).c) e e) e) (N (o416 P) (N ((g61 P).c) e e) e)) (N ((g20 P).f) (N ((g32 P).a) (N (o608 P) e e) e) (N (o480 P) (N (o736 P) e e) e)))) (N ((g4 P).d) (N ((g7 P).e) (N ((g13 P).f) (N ((g24 P).h) (N ((g47 P).g) e e) (N (o784 P) e e)) (N ((g36 P).e) (N ((g59 P).g) e e) e)) (N ((g19 P).b) (N ((g30 P).f) (N ((g53 P).e) e e) e) (N ((g42 P).c) (N ((g65 P).e) e e) e))) (N ((g10 P).c) (N ((g16 P).d) (N ((g27 P).h) (N (o560 P) e e) e) (N ((g39 P).c) (N ((g62 P).e) e e) e)) (N ((g22 P).b) (N (o368 P) (N ((g56 P).c) e e) e) (N ((g45 P).a) (N ((g68 P).a) e e) e))))) (N (o24 P) (N (o40 P) (N ((g6 P).g) (N ((g12 P).h) (N (o264 P) (N ((g47 P).a) e e) (N (o776 P) e e)) (N ((g35 P).g) (N ((g59 P).a) e e) e)) (N (o200 P) (N ((g29 P).h) (N ((g52 P).g) e e) e) (N ((g41 P).e) (N ((g64 P).g) e e) e))) (N (o104 P) (N ((g15 P).f) (N ((g27 P).b) (N (o552 P) e e) e) (N (o424 P) (N ((g62 P).a) e e) e)) (N ((g21 P).d) (N (o360 P) (N (o616 P) e e) e) (N ((g44 P).c) (N ((g67 P).e) e e) e)))) (N ((g5 P).c) (N (o88 P) (N (o152 P) (N ((g25 P).f) (N ((g48 P).e) e e) (N ((g71 P).e) e e)) (N ((g37 P).c) (N ((g60 P).e) e e) e)) (N ((g19 P).h) (N ((g31 P).d) (N ((g54 P).c) e e) e) (N (o472 P) (N (o728 P) e e) e))) (N ((g11 P).d) (N ((g17 P).b) (N (o312 P) (N ((g51 P).c) e e) e) (N ((g40 P).a) (N ((g63 P).c) e e) e)) (N ((g22 P).h) (N ((g34 P).c) (N (o632 P) e e) e) (N ((g45 P).g) (N ((g68 P).g) e e) e)))))) (N ((g57 P).a) (N (o20 P) (N ((g3 P).d) (N ((g6 P).c) (N (o132 P) (N ((g23 P).h) (N ((g46 P).g) e e) (N (o772 P) e e)) (N (o388 P) (N ((g58 P).g) e e) e)) (N ((g18 P).b) (N ((g29 P).f) (N (o580 P) e e) e) (N (o452 P) (N (o708 P) e e) e))) (N ((g9 P).c) (N ((g15 P).d) (N (o292 P) (N ((g49 P).e) e e) e) (N ((g38 P).c) (N ((g61 P).e) e e) e)) (N (o228 P) (N ((g32 P).c) (N ((g55 P).c) e e) e) (N ((g44 P).a) (N (o740 P) e e) e)))) (N (o52 P) (N ((g7 P).g) (N ((g13 P).h) (N ((g25 P).d) (N (o532 P) e e) (N ((g71 P).c) e e)) (N ((g36 P).g) (N (o660 P) e e) e)) (N ((g19 P).f) (N (o340 P) (N ((g53 P).g) e e) e) (N ((g42 P).e) (N ((g65 P).g) e e) e))) (N ((g10 P).e) (N (o180 P) (N ((g28 P).b) (N ((g51 P).a) e e) e) (N ((g39 P).g) (N ((g63 P).a) e e) e)) (N ((g22 P).d) (N ((g33 P).g) (N ((g57 P).c) e e) e) (N ((g45 P).c) (N ((g68 P).e) e e) e))))) (N ((g2 P).e) (N (o44 P) (N ((g7 P).a) (N ((g13 P).b) (N ((g24 P).f) (N (o524 P) e e) (N ((g70 P).e) e e)) (N (o396 P) (N ((g59 P).e) e e) e)) (N (o204 P) (N ((g30 P).d) (N (o588 P) e e) e) (N ((g41 P).g) (N ((g65 P).a) e e) e))) (N ((g10 P).a) (N ((g16 P).b) (N ((g27 P).d) (N ((g50 P).c) e e) e) (N ((g39 P).a) (N ((g62 P).c) e e) e)) (N (o236 P) (N ((g33 P).a) (N (o620 P) e e) e) (N ((g44 P).g) (N ((g67 P).g) e e) e)))) (N (o60 P) (N (o92 P) (N ((g14 P).f) (N (o284 P) (N ((g48 P).g) e e) (N (o796 P) e e)) (N ((g37 P).e) (N (o668 P) e e) e)) (N ((g20 P).d) (N ((g31 P).e) (N ((g54 P).e) e e) e) (N ((g43 P).c) (N ((g66 P).e) e e) e))) (N (o124 P) (N (o188 P) (N ((g28 P).h) (N ((g51 P).g) e e) e) (N (o444 P) (N (o700 P) e e) e)) (N ((g23 P).b) (N ((g34 P).g) (N ((g58 P).a) e e) e) (N ((g46 P).a) (N (o764 P) e e) e))))))) (N (boot_o_6 P) (N (boot_o_10 P) (N ((g1 P).f) (N ((g3 P).b) (N ((g6 P).a) (N ((g12 P).d) (N ((g23 P).f) (N ((g46 P).e) e e) (N ((g69 P).g) e e)) (N ((g35 P).c) (N ((g58 P).e) e e) e)) (N ((g17 P).h) (N ((g29 P).d) (N ((g52 P).c) e e) e) (N ((g41 P).a) (N ((g64 P).c) e e) e))) (N ((g9 P).a) (N ((g15 P).b) (N ((g26 P).f) (N (o546 P) e e) e) (N ((g38 P).a) (N (o674 P) e e) e)) (N ((g20 P).h) (N (o354 P) (N ((g55 P).a) e e) e) (N ((g43 P).g) (N ((g67 P).a) e e) e)))) (N ((g4 P).f) (N (o82 P) (N (o146 P) (N ((g25 P).b) (N ((g48 P).a) e e) (N ((g71 P).a) e e)) (N (o402 P) (N ((g60 P).a) e e) e)) (N ((g19 P).d) (N ((g30 P).h) (N (o594 P) e e) e) (N (o466 P) (N (o722 P) e e) e))) (N (o114 P) (N ((g16 P).f) (N (o306 P) (N ((g50 P).g) e e) e) (N ((g39 P).e) (N ((g62 P).g) e e) e)) (N (o242 P) (N ((g33 P).e) (N (o626 P) e e) e) (N (o498 P) (N ((g68 P).c) e e) e))))) (N ((g2 P).c) (N ((g3 P).h) (N ((g6 P).h) (N (o138 P) (N ((g24 P).d) (N ((g47 P).c) e e) (N ((g70 P).c) e e)) (N ((g36 P).a) (N ((g59 P).c) e e) e)) (N ((g18 P).f) (N ((g30 P).b) (N ((g53 P).a) e e) e) (N (o458 P) (N (o714 P) e e) e))) (N ((g9 P).g) (N ((g15 P).h) (N (o298 P) (N ((g50 P).a) e e) e) (N ((g38 P).g) (N (o682 P) e e) e)) (N ((g21 P).f) (N ((g32 P).g) (N ((g55 P).g) e e) e) (N ((g44 P).e) (N (o746 P) e e) e)))) (N ((g5 P).e) (N ((g8 P).c) (N ((g14 P).d) (N ((g25 P).h) (N (o538 P) e e) (N ((g71 P).g) e e)) (N (o410 P) (N ((g60 P).g) e e) e)) (N ((g20 P).b) (N (o346 P) (N (o602 P) e e) e) (N ((g43 P).a) (N ((g66 P).c) e e) e))) (N ((g11 P).f) (N ((g17 P).d) (N ((g28 P).f) (N ((g51 P).e) e e) e) (N ((g40 P).c) (N ((g63 P).e) e e) e)) (N (o250 P) (N ((g34 P).e) (N ((g57 P).g) e e) e) (N (o506 P) (N ((g69 P).a) e e) e)))))) (N ((g0 P).c) (N ((g2 P).a) (N ((g3 P).f) (N ((g6 P).e) (N ((g12 P).f) (N ((g24 P).b) (N (o518 P) e e) (N ((g70 P).a) e e)) (N ((g35 P).e) (N (o646 P) e e) e)) (N ((g18 P).d) (N (o326 P) (N ((g52 P).e) e e) e) (N ((g41 P).c) (N ((g64 P).e) e e) e))) (N (o102 P) (N (o166 P) (N ((g26 P).h) (N ((g49 P).g) e e) e) (N ((g38 P).e) (N ((g61 P).g) e e) e)) (N ((g21 P).b) (N ((g32 P).e) (N ((g55 P).e) e e) e) (N (o486 P) (N ((g67 P).c) e e) e)))) (N ((g5 P).a) (N ((g8 P).a) (N ((g14 P).b) (N (o278 P) (N ((g48 P).c) e e) (N (o790 P) e e)) (N ((g37 P).a) (N ((g60 P).c) e e) e)) (N (o214 P) (N ((g31 P).b) (N ((g54 P).a) e e) e) (N ((g42 P).g) (N ((g66 P).a) e e) e))) (N ((g10 P).g) (N ((g16 P).h) (N ((g28 P).d) (N (o566 P) e e) e) (N (o438 P) (N (o694 P) e e) e)) (N ((g22 P).f) (N (o374 P) (N ((g57 P).e) e e) e) (N ((g45 P).e) (N (o758 P) e e) e))))) (N ((g2 P).g) (N ((g4 P).b) (N ((g7 P).c) (N ((g13 P).d) (N (o270 P) (N ((g47 P).e) e e) (N ((g70 P).g) e e)) (N ((g36 P).c) (N (o654 P) e e) e)) (N ((g18 P).h) (N (o334 P) (N ((g53 P).c) e e) e) (N ((g42 P).a) (N ((g65 P).c) e e) e))) (N (o110 P) (N (o174 P) (N ((g27 P).f) (N ((g50 P).e) e e) e) (N (o430 P) (N (o686 P) e e) e)) (N ((g21 P).h) (N ((g33 P).c) (N ((g56 P).a) e e) e) (N (o494 P) (N (o750 P) e e) e)))) (N (o62 P) (N ((g8 P).e) (N ((g14 P).h) (N ((g26 P).b) (N ((g49 P).a) e e) e) (N ((g37 P).g) (N ((g61 P).a) e e) e)) (N (o222 P) (N ((g31 P).g) (N ((g54 P).g) e e) e) (N ((g43 P).e) (N ((g66 P).g) e e) e))) (N ((g11 P).h) (N ((g17 P).f) (N ((g29 P).b) (N (o574 P) e e) e) (N ((g40 P).e) (N ((g63 P).g) e e) e)) (N ((g23 P).d) (N (o382 P) (N ((g58 P).c) e e) e) (N (o510 P) (N ((g69 P).c) e e) e)))))))))
noncomputable def S4 (w : World) (os : OsState) : SharedT := ⟨T4 w.params, 797, {}, ⟨[]⟩, {}, 1272, os⟩
noncomputable def sts4 : List Stmt := (body.drop 93).take 28
noncomputable def S0 (w : World) (os : OsState) : SharedT := ⟨T0 w.params, 15, {}, ⟨[]⟩, {}, 187, os⟩
noncomputable def Hf (P : Params) : Heap := ⟨⟨[boot_o_0 P, boot_o_1 P, o2 P, o3 P, boot_o_4 P, boot_o_5 P, boot_o_6 P, boot_o_7 P, boot_o_8 P, boot_o_9 P, boot_o_10 P, (g0 P).a, (g57 P).a, o13 P, (g0 P).c, (g1 P).c, (g1 P).d, (g1 P).e, (g1 P).f, (g1 P).g, o20 P, (g1 P).h, (g2 P).a, o23 P, o24 P, (g2 P).b, (g2 P).c, (g2 P).d, (g2 P).e, (g2 P).f, (g2 P).g, (g2 P).h, (g3 P).a, o33 P, (g3 P).b, (g3 P).c, (g3 P).d, (g3 P).e, (g3 P).f, (g3 P).g, o40 P, o41 P, (g3 P).h, o43 P, o44 P, (g4 P).a, (g4 P).b, (g4 P).c, (g4 P).d, (g4 P).e, (g4 P).f, (g4 P).g, o52 P, (g4 P).h, (g5 P).a, (g5 P).b, (g5 P).c, (g5 P).d, (g5 P).e, o59 P, o60 P, (g5 P).f, o62 P, o63 P, (g5 P).g, (g5 P).h, (g6 P).a, (g6 P).b, (g6 P).c, (g6 P).d, (g6 P).e, (g6 P).f, (g6 P).g, o73 P, (g6 P).h, o75 P, (g7 P).a, (g7 P).b, (g7 P).c, (g7 P).d, (g7 P).e, o81 P, o82 P, (g7 P).f, (g7 P).g, (g7 P).h, (g8 P).a, (g8 P).b, o88 P, o89 P, (g8 P).c, o91 P, o92 P, (g8 P).d, (g8 P).e, (g8 P).f, (g8 P).g, (g8 P).h, (g9 P).a, (g9 P).b, (g9 P).c, (g9 P).d, o102 P, (g9 P).e, o104 P, (g9 P).f, (g9 P).g, (g9 P).h, (g10 P).a, (g10 P).b, o110 P, o111 P, (g10 P).c, o113 P, o114 P, (g10 P).d, (g10 P).e, (g10 P).f, (g10 P).g, (g11 P).c, (g11 P).d, (g11 P).e, (g11 P).f, (g11 P).g, o124 P, o125 P, (g11 P).h, (g12 P).a, (g12 P).b, (g12 P).c, (g12 P).d, o131 P, o132 P, (g12 P).e, (g12 P).f, (g12 P).g, (g12 P).h, (g13 P).a, o138 P, o139 P, (g13 P).b, (g13 P).c, (g13 P).d, (g13 P).e, (g13 P).f, o145 P, o146 P, (g13 P).g, (g13 P).h, (g14 P).a, (g14 P).b, (g14 P).c, o152 P, o153 P, (g14 P).d, (g14 P).e, (g14 P).f, (g14 P).g, (g14 P).h, o159 P, o160 P, (g15 P).a, (g15 P).b, (g15 P).c, (g15 P).d, (g15 P).e, o166 P, o167 P, (g15 P).f, (g15 P).g, (g15 P).h, (g16 P).a, (g16 P).b, o173 P, o174 P, (g16 P).c, (g16 P).d, (g16 P).e, (g16 P).f, (g16 P).g, o180 P, o181 P, (g16 P).h, (g17 P).a, (g17 P).b, (g17 P).c, (g17 P).d, o187 P, o188 P, (g17 P).e, (g17 P).f, (g17 P).g, o192 P, o193 P, (g17 P).h, (g18 P).a, (g18 P).b, (g18 P).c, (g18 P).d, o199 P, o200 P, (g18 P).e, (g18 P).f, (g18 P).g, o204 P, o205 P, (g18 P).h, (g19 P).a, (g19 P).b, (g19 P).c, (g19 P).d, (g19 P).e, (g19 P).f, (g19 P).g, o214 P, o215 P, (g19 P).h, (g20 P).a, (g20 P).b, (g20 P).c, (g20 P).d, o221 P, o222 P, (g20 P).e, (g20 P).f, (g20 P).g, (g20 P).h, (g21 P).a, o228 P, o229 P, (g21 P).b, (g21 P).c, (g21 P).d, (g21 P).e, (g21 P).f, o235 P, o236 P, (g21 P).g, (g21 P).h, (g22 P).a, (g22 P).b, (g22 P).c, o242 P, o243 P, (g22 P).d, (g22 P).e, (g22 P).f, (g22 P).g, (g22 P).h, o249 P, o250 P, (g23 P).a, (g23 P).b, (g23 P).c, (g23 P).d, (g23 P).e, o256 P, o257 P, (g23 P).f, (g23 P).g, (g23 P).h, (g24 P).a, (g24 P).b, o263 P, o264 P, (g24 P).c, (g24 P).d, (g24 P).e, (g24 P).f, (g24 P).g, o270 P, o271 P, (g24 P).h, (g25 P).a, (g25 P).b, (g25 P).c, (g25 P).d, o277 P, o278 P, (g25 P).e, (g25 P).f, (g25 P).g, (g25 P).h, (g26 P).a, o284 P, o285 P, (g26 P).b, (g26 P).c, (g26 P).d, (g26 P).e, (g26 P).f, o291 P, o292 P, (g26 P).g, (g26 P).h, (g27 P).a, (g27 P).b, (g27 P).c, o298 P, o299 P, (g27 P).d, (g27 P).e, (g27 P).f, (g27 P).g, (g27 P).h, o305 P, o306 P, (g28 P).a, (g28 P).b, (g28 P).c, (g28 P).d, (g28 P).e, o312 P, o313 P, (g28 P).f, (g28 P).g, (g28 P).h, (g29 P).a, (g29 P).b, o319 P, o320 P, (g29 P).c, (g29 P).d, (g29 P).e, (g29 P).f, (g29 P).g, o326 P, o327 P, (g29 P).h, (g30 P).a, (g30 P).b, (g30 P).c, (g30 P).d, o333 P, o334 P, (g30 P).e, (g30 P).f, (g30 P).g, (g30 P).h, (g31 P).a, o340 P, o341 P, (g31 P).b, (g31 P).c, (g31 P).d, o345 P, o346 P, o347 P, (g31 P).e, (g31 P).f, (g31 P).g, (g31 P).h, (g32 P).a, o353 P, o354 P, (g32 P).b, (g32 P).c, (g32 P).d, (g32 P).e, (g32 P).f, o360 P, o361 P, (g32 P).g, (g32 P).h, (g33 P).a, (g33 P).b, (g33 P).c, o367 P, o368 P, (g33 P).d, (g33 P).e, (g33 P).f, (g33 P).g, (g33 P).h, o374 P, o375 P, (g34 P).c, (g34 P).d, (g34 P).e, (g34 P).f, (g34 P).g, o381 P, o382 P, (g34 P).h, (g35 P).a, (g35 P).b, (g35 P).c, (g35 P).d, o388 P, o389 P, (g35 P).e, (g35 P).f, (g35 P).g, (g35 P).h, (g36 P).a, o395 P, o396 P, (g36 P).b, (g36 P).c, (g36 P).d, (g36 P).e, (g36 P).f, o402 P, o403 P, (g36 P).g, (g36 P).h, (g37 P).a, (g37 P).b, (g37 P).c, o409 P, o410 P, (g37 P).d, (g37 P).e, (g37 P).f, (g37 P).g, (g37 P).h, o416 P, o417 P, (g38 P).a, (g38 P).b, (g38 P).c, (g38 P).d, (g38 P).e, o423 P, o424 P, (g38 P).f, (g38 P).g, (g38 P).h, (g39 P).a, (g39 P).b, o430 P, o431 P, (g39 P).c, (g39 P).d, (g39 P).e, (g39 P).f, (g39 P).g, o437 P, o438 P, (g39 P).h, (g40 P).a, (g40 P).b, (g40 P).c, (g40 P).d, o444 P, o445 P, (g40 P).e, (g40 P).f, (g40 P).g, (g40 P).h, (g41 P).a, o451 P, o452 P, (g41 P).b, (g41 P).c, (g41 P).d, (g41 P).e, (g41 P).f, o458 P, o459 P, (g41 P).g, (g41 P).h, (g42 P).a, (g42 P).b, (g42 P).c, o465 P, o466 P, (g42 P).d, (g42 P).e, (g42 P).f, (g42 P).g, (g42 P).h, o472 P, o473 P, (g43 P).a, (g43 P).b, (g43 P).c, (g43 P).d, (g43 P).e, o479 P, o480 P, (g43 P).f, (g43 P).g, (g43 P).h, (g44 P).a, (g44 P).b, o486 P, o487 P, (g44 P).c, (g44 P).d, (g44 P).e, (g44 P).f, (g44 P).g, o493 P, o494 P, (g44 P).h, (g45 P).a, (g45 P).b, o498 P, o499 P, (g45 P).c, (g45 P).d, (g45 P).e, (g45 P).f, (g45 P).g, o505 P, o506 P, (g45 P).h, (g46 P).a, (g46 P).b, o510 P, o511 P, (g46 P).c, (g46 P).d, (g46 P).e, (g46 P).f, (g46 P).g, o517 P, o518 P, (g46 P).h, (g47 P).a, (g47 P).b, (g47 P).c, (g47 P).d, o524 P, o525 P, (g47 P).e, (g47 P).f, (g47 P).g, (g47 P).h, (g48 P).a, o531 P, o532 P, (g48 P).b, (g48 P).c, (g48 P).d, (g48 P).e, (g48 P).f, o538 P, o539 P, (g48 P).g, (g48 P).h, (g49 P).a, (g49 P).b, (g49 P).c, o545 P, o546 P, (g49 P).d, (g49 P).e, (g49 P).f, (g49 P).g, (g49 P).h, o552 P, o553 P, (g50 P).a, (g50 P).b, (g50 P).c, (g50 P).d, (g50 P).e, o559 P, o560 P, (g50 P).f, (g50 P).g, (g50 P).h, (g51 P).a, (g51 P).b, o566 P, o567 P, (g51 P).c, (g51 P).d, (g51 P).e, (g51 P).f, (g51 P).g, o573 P, o574 P, (g51 P).h, (g52 P).a, (g52 P).b, (g52 P).c, (g52 P).d, o580 P, o581 P, (g52 P).e, (g52 P).f, (g52 P).g, (g52 P).h, (g53 P).a, o587 P, o588 P, (g53 P).b, (g53 P).c, (g53 P).d, (g53 P).e, (g53 P).f, o594 P, o595 P, (g53 P).g, (g53 P).h, (g54 P).a, (g54 P).b, (g54 P).c, o601 P, o602 P, (g54 P).d, (g54 P).e, (g54 P).f, (g54 P).g, (g54 P).h, o608 P, o609 P, (g55 P).a, (g55 P).b, (g55 P).c, (g55 P).d, (g55 P).e, o615 P, o616 P, (g55 P).f, (g55 P).g, (g55 P).h, o620 P, o621 P, (g56 P).a, (g56 P).b, (g56 P).c, o625 P, o626 P, (g57 P).b, (g57 P).c, (g57 P).d, (g57 P).e, (g57 P).f, o632 P, o633 P, (g57 P).g, (g57 P).h, (g58 P).a, (g58 P).b, (g58 P).c, o639 P, o640 P, (g58 P).d, (g58 P).e, (g58 P).f, (g58 P).g, (g58 P).h, o646 P, o647 P, (g59 P).a, (g59 P).b, (g59 P).c, (g59 P).d, (g59 P).e, o653 P, o654 P, (g59 P).f, (g59 P).g, (g59 P).h, (g60 P).a, (g60 P).b, o660 P, o661 P, (g60 P).c, (g60 P).d, (g60 P).e, (g60 P).f, (g60 P).g, o667 P, o668 P, (g60 P).h, (g61 P).a, (g61 P).b, (g61 P).c, (g61 P).d, o674 P, o675 P, (g61 P).e, (g61 P).f, (g61 P).g, (g61 P).h, (g62 P).a, o681 P, o682 P, (g62 P).b, (g62 P).c, (g62 P).d, o686 P, o687 P, (g62 P).e, (g62 P).f, (g62 P).g, (g62 P).h, (g63 P).a, o693 P, o694 P, (g63 P).b, (g63 P).c, (g63 P).d, (g63 P).e, (g63 P).f, o700 P, o701 P, (g63 P).g, (g63 P).h, (g64 P).a, (g64 P).b, (g64 P).c, o707 P, o708 P, (g64 P).d, (g64 P).e, (g64 P).f, (g64 P).g, (g64 P).h, o714 P, o715 P, (g65 P).a, (g65 P).b, (g65 P).c, (g65 P).d, (g65 P).e, o721 P, o722 P, (g65 P).f, (g65 P).g, (g65 P).h, (g66 P).a, (g66 P).b, o728 P, o729 P, (g66 P).c, (g66 P).d, (g66 P).e, (g66 P).f, (g66 P).g, o735 P, o736 P, (g66 P).h, (g67 P).a, (g67 P).b, o740 P, o741 P, (g67 P).c, (g67 P).d, (g67 P).e, o745 P, o746 P, (g67 P).f, (g67 P).g, (g67 P).h, o750 P, o751 P, (g68 P).a, (g68 P).b, (g68 P).c, (g68 P).d, (g68 P).e, o757 P, o758 P, (g68 P).f, (g68 P).g, (g68 P).h, (g69 P).a, (g69 P).b, o764 P, o765 P, (g69 P).c, (g69 P).d, (g69 P).e, (g69 P).f, (g69 P).g, o771 P, o772 P, (g69 P).h, (g70 P).a, (g70 P).b, o776 P, o777 P, (g70 P).c, (g70 P).d, (g70 P).e, (g70 P).f, (g70 P).g, o783 P, o784 P, (g70 P).h, (g71 P).a, (g71 P).b, (g71 P).c, (g71 P).d, o790 P, o791 P, (g71 P).e, (g71 P).f, (g71 P).g, o795 P, o796 P]⟩, {}⟩
noncomputable def env : Env := { scope := pw.main.scope, locals := mainNs, globals := mainNs, cells := [], code := .ref 13, frame := some 14 }
noncomputable def cE : Code := .body body env
theorem seg_tw : segRunT treeTable = PySem.W.Fast.tw10110043849684766642 PySem.W.Fast.tw14364793385576792824 := by rw [PySem.W.Fast.te10110043849684766642, PySem.W.Fast.te14364793385576792824]
theorem top_tw : topRun treeTable = PySem.W.Fast.tw14082659384304107361 PySem.W.Fast.tw14364793385576792824 := by rw [PySem.W.Fast.te14082659384304107361, PySem.W.Fast.te14364793385576792824]
theorem go_tw : topGo treeTable = PySem.W.Fast.tw15667345088766844465 PySem.W.Fast.tw14364793385576792824 := by rw [PySem.W.Fast.te15667345088766844465, PySem.W.Fast.te14364793385576792824]
theorem sr_tw : segRun treeTable = PySem.W.Fast.tw14374325043358763698 PySem.W.Fast.tw14364793385576792824 := by rw [PySem.W.Fast.te14374325043358763698, PySem.W.Fast.te14364793385576792824]
theorem den_tw : denote treeTable = PySem.W.Fast.tw11892475500146522536 PySem.W.Fast.tw14364793385576792824 := by rw [PySem.W.Fast.te11892475500146522536, PySem.W.Fast.te14364793385576792824]
abbrev z0 : Pos := ⟨0, 0, 0, 0⟩
abbrev B0 : List Frame := [topFrame z0]
theorem pre (w : World) (os : OsState) : topGo treeTable pw w 11 (some (.ref 6)) 12 ⟨boot_heap w.params, ⟨[]⟩, boot_drawn, boot_toks, os⟩ (topStub pw) = some (⟨Ha w.params, ⟨[]⟩, {}, 187, os⟩, ⟨denote treeTable cE, cE, z0, B0⟩) := by rw [go_tw, den_tw]; kernel_rfl
theorem block (w : World) (os : OsState) : segRun treeTable pw w 11 (some (.ref 6)) 1 1 ⟨Ha w.params, ⟨[]⟩, {}, 187, os⟩ (blockOf body env cE z0 B0) = some (.next, (S0 w os).abs, cE, z0) := by rw [sr_tw]; kernel_rfl
theorem p1 (w : World) (os : OsState) : segRunT treeTable pw w 11 (some (.ref 6)) 1 1181 (S0 w os) (piecesOf sts1 env cE ⟨0, 0, 0, 0⟩ [topFrame ⟨0, 0, 0, 0⟩]) = some (.next, S1 w os, cE, ⟨29, 0, 36, 24⟩) := by rw [seg_tw]; kernel_rfl
theorem p2 (w : World) (os : OsState) : segRunT treeTable pw w 11 (some (.ref 6)) 1 1199 (S1 w os) (piecesOf sts2 env cE ⟨29, 0, 36, 24⟩ [topFrame ⟨0, 0, 0, 0⟩]) = some (.next, S2 w os, cE, ⟨262, 0, 271, 57⟩) := by rw [seg_tw]; kernel_rfl
theorem p3 (w : World) (os : OsState) : segRunT treeTable pw w 11 (some (.ref 6)) 1 1174 (S2 w os) (piecesOf sts3 env cE ⟨262, 0, 271, 57⟩ [topFrame ⟨0, 0, 0, 0⟩]) = some (.next, S3 w os, cE, ⟨587, 0, 588, 57⟩) := by rw [seg_tw]; kernel_rfl
theorem p4 (w : World) (os : OsState) : segRunT treeTable pw w 11 (some (.ref 6)) 1 829 (S3 w os) (piecesOf sts4 env cE ⟨587, 0, 588, 57⟩ [topFrame ⟨0, 0, 0, 0⟩]) = some (.next, S4 w os, cE, ⟨869, 0, 898, 15⟩) := by rw [seg_tw]; kernel_rfl
theorem fin (w : World) (os : OsState) : topRun treeTable pw w 11 (some (.ref 6)) 2 (S4 w os).abs ⟨doneF .next, cE, ⟨869, 0, 898, 15⟩, B0⟩ = some ⟨Hf w.params, ⟨[]⟩, {}, 1272, os⟩ := by rw [top_tw]; kernel_rfl
theorem body_eq : body = sts1 ++ (sts2 ++ (sts3 ++ (sts4 ++ []))) := by kernel_rfl
theorem run (w : World) (os : OsState) : topRun treeTable pw w 11 (some (.ref 6)) (12 + (1 + (1181 + (1199 + (1174 + (829 + 2)))))) ⟨boot_heap w.params, ⟨[]⟩, boot_drawn, boot_toks, os⟩ (topStub pw) = some ⟨Hf w.params, ⟨[]⟩, {}, 1272, os⟩ := by
  refine go_top (pre w os) ?_
  refine piece_block (block w os) ?_
  rw [body_eq]
  refine piece_app (segRun_of (p1 w os)) ?_
  refine piece_app (segRun_of (p2 w os)) ?_
  refine piece_app (segRun_of (p3 w os)) ?_
  refine piece_app (segRun_of (p4 w os)) ?_
  exact fin w os
end

noncomputable section
noncomputable def KK (P : Params) : Frag := [(1, boot_o_1 P), (2, o2 P), (3, o3 P), (9, boot_o_9 P), (13, o13 P), (20, o20 P), (23, o23 P), (24, o24 P), (33, o33 P), (40, o40 P), (41, o41 P), (43, o43 P), (44, o44 P), (52, o52 P), (59, o59 P), (60, o60 P), (62, o62 P), (63, o63 P), (73, o73 P), (75, o75 P), (81, o81 P), (82, o82 P), (88, o88 P), (89, o89 P), (91, o91 P), (92, o92 P), (102, o102 P), (104, o104 P), (110, o110 P), (111, o111 P), (113, o113 P), (114, o114 P), (124, o124 P), (125, o125 P), (131, o131 P), (132, o132 P), (138, o138 P), (139, o139 P), (145, o145 P), (146, o146 P), (152, o152 P), (153, o153 P), (159, o159 P), (160, o160 P), (166, o166 P), (167, o167 P), (173, o173 P), (174, o174 P), (180, o180 P), (181, o181 P), (187, o187 P), (188, o188 P), (192, o192 P), (193, o193 P), (199, o199 P), (200, o200 P), (204, o204 P), (205, o205 P), (214, o214 P), (215, o215 P), (221, o221 P), (222, o222 P), (228, o228 P), (229, o229 P), (235, o235 P), (236, o236 P), (242, o242 P), (243, o243 P), (249, o249 P), (250, o250 P), (256, o256 P), (257, o257 P), (263, o263 P), (264, o264 P), (270, o270 P), (271, o271 P), (277, o277 P), (278, o278 P), (284, o284 P), (285, o285 P), (291, o291 P), (292, o292 P), (298, o298 P), (299, o299 P), (305, o305 P), (306, o306 P), (312, o312 P), (313, o313 P), (319, o319 P), (320, o320 P), (326, o326 P), (327, o327 P), (333, o333 P), (334, o334 P), (340, o340 P), (341, o341 P), (345, o345 P), (346, o346 P), (347, o347 P), (353, o353 P), (354, o354 P), (360, o360 P), (361, o361 P), (367, o367 P), (368, o368 P), (374, o374 P), (375, o375 P), (381, o381 P), (382, o382 P), (388, o388 P), (389, o389 P), (395, o395 P), (396, o396 P), (402, o402 P), (403, o403 P), (409, o409 P), (410, o410 P), (416, o416 P), (417, o417 P), (423, o423 P), (424, o424 P), (430, o430 P), (431, o431 P), (437, o437 P), (438, o438 P), (444, o444 P), (445, o445 P), (451, o451 P), (452, o452 P), (458, o458 P), (459, o459 P), (465, o465 P), (466, o466 P), (472, o472 P), (473, o473 P), (479, o479 P), (480, o480 P), (486, o486 P), (487, o487 P), (493, o493 P), (494, o494 P), (498, o498 P), (499, o499 P), (505, o505 P), (506, o506 P), (510, o510 P), (511, o511 P), (517, o517 P), (518, o518 P), (524, o524 P), (525, o525 P), (531, o531 P), (532, o532 P), (538, o538 P), (539, o539 P), (545, o545 P), (546, o546 P), (552, o552 P), (553, o553 P), (559, o559 P), (560, o560 P), (566, o566 P), (567, o567 P), (573, o573 P), (574, o574 P), (580, o580 P), (581, o581 P), (587, o587 P), (588, o588 P), (594, o594 P), (595, o595 P), (601, o601 P), (602, o602 P), (608, o608 P), (609, o609 P), (615, o615 P), (616, o616 P), (620, o620 P), (621, o621 P), (625, o625 P), (626, o626 P), (632, o632 P), (633, o633 P), (639, o639 P), (640, o640 P), (646, o646 P), (647, o647 P), (653, o653 P), (654, o654 P), (660, o660 P), (661, o661 P), (667, o667 P), (668, o668 P), (674, o674 P), (675, o675 P), (681, o681 P), (682, o682 P), (686, o686 P), (687, o687 P), (693, o693 P), (694, o694 P), (700, o700 P), (701, o701 P), (707, o707 P), (708, o708 P), (714, o714 P), (715, o715 P), (721, o721 P), (722, o722 P), (728, o728 P), (729, o729 P), (735, o735 P), (736, o736 P), (740, o740 P), (741, o741 P), (745, o745 P), (746, o746 P), (750, o750 P), (751, o751 P), (757, o757 P), (758, o758 P), (764, o764 P), (765, o765 P), (771, o771 P), (772, o772 P), (776, o776 P), (777, o777 P), (783, o783 P), (784, o784 P), (790, o790 P), (791, o791 P), (795, o795 P), (796, o796 P)]
noncomputable def KA : List Addr := [1, 2, 3, 9, 13, 20, 23, 24, 33, 40, 41, 43, 44, 52, 59, 60, 62, 63, 73, 75, 81, 82, 88, 89, 91, 92, 102, 104, 110, 111, 113, 114, 124, 125, 131, 132, 138, 139, 145, 146, 152, 153, 159, 160, 166, 167, 173, 174, 180, 181, 187, 188, 192, 193, 199, 200, 204, 205, 214, 215, 221, 222, 228, 229, 235, 236, 242, 243, 249, 250, 256, 257, 263, 264, 270, 271, 277, 278, 284, 285, 291, 292, 298, 299, 305, 306, 312, 313, 319, 320, 326, 327, 333, 334, 340, 341, 345, 346, 347, 353, 354, 360, 361, 367, 368, 374, 375, 381, 382, 388, 389, 395, 396, 402, 403, 409, 410, 416, 417, 423, 424, 430, 431, 437, 438, 444, 445, 451, 452, 458, 459, 465, 466, 472, 473, 479, 480, 486, 487, 493, 494, 498, 499, 505, 506, 510, 511, 517, 518, 524, 525, 531, 532, 538, 539, 545, 546, 552, 553, 559, 560, 566, 567, 573, 574, 580, 581, 587, 588, 594, 595, 601, 602, 608, 609, 615, 616, 620, 621, 625, 626, 632, 633, 639, 640, 646, 647, 653, 654, 660, 661, 667, 668, 674, 675, 681, 682, 686, 687, 693, 694, 700, 701, 707, 708, 714, 715, 721, 722, 728, 729, 735, 736, 740, 741, 745, 746, 750, 751, 757, 758, 764, 765, 771, 772, 776, 777, 783, 784, 790, 791, 795, 796]
theorem KA_eq (P : Params) : KA = (KK P).map (·.1) := by kernel_rfl
noncomputable def hk : Hook := kHook KK KA KA_eq
noncomputable def view : Program := { pw with main := { pw.main with body := [st 120] } }
noncomputable def sPos : Stmt → Pos | .FunctionDef (pos := p) .. => p | _ => z0
noncomputable def dLaw : DefRec := ⟨"law", fArgs (st 120), fBody (st 120), fScope (st 120), sPos (st 120)⟩
noncomputable def loose : List Str := (pw.main.scope.names.map (·.1)).filter (· != "law")
abbrev rwl : OpenLaw := PySem.Challenge.rw_nz0524_01
noncomputable def Xt (s : Shared) : Bool := xlAt view [] s && recOk [] s
theorem looks1 (w : World) (os : OsState) : (staticsOk (importedModules pw.main.body) (boot_heap w.params) (Hf w.params) && namesBound pw (Hf w.params) && gensDone ⟨Hf w.params, ⟨[]⟩, {}, 1272, os⟩ && laidKept (boot_heap w.params) (Hf w.params)) = true := by
  rw [PySem.W.Fast.te5923862056798008813]; kernel_rfl
theorem looks3 (w : World) (os : OsState) : hk.obs ⟨Hf w.params, ⟨[]⟩, {}, 1272, os⟩ = hk.val w := by kernel_rfl
theorem looks2 (w : World) (os : OsState) : openSeen view loose (importedModules pw.main.body) Xt true ⟨Hf w.params, ⟨[]⟩, {}, 1272, os⟩ = openGood view loose := by
  rw [PySem.W.Fast.te4187177175401517315, PySem.W.Fast.te5923862056798008813]; kernel_rfl
end

noncomputable section
theorem opens : ∀ w : World, (fencedOpening treeTable pw w 9000).map (fun s => (s.heap, s.gens, s.drawn, s.toks)) = some (boot_heap w.params, Array.mk [], boot_drawn, boot_toks) :=
  boot_open (by kernel_rfl) (by kernel_rfl) (fun s => by kernel_rfl)
theorem size0 (w : World) : ((boot_heap w.params).isNs mainGlobals && (Array.mk [] : Array GenState).size == 0, (boot_heap w.params).objs.size, (boot_heap w.params).nsMap mainGlobals "__annotations__") = (true, 11, some (.ref 6)) := by
  rw [PySem.W.Fast.te8920871248978507458]; kernel_rfl
theorem left : LeftO pw view loose Xt hk.obs hk.val 9000 :=
  LeftO.of_pieces (M := 12 + (1 + (1181 + (1199 + (1174 + (829 + 2)))))) opens size0 run (by kernel_rfl) fun w => funext fun os => by
    refine looks_pair (looks1 w os) (looks_pair (looks2 w os) (looks3 w os))
theorem look2 {a b : Bool} (h : a = true) (k : b = true) : (a && b) = true := by rw [h, k]; rfl
theorem said : rwl.wellSaid = true := by
  rw [PySem.W.Fast.te9446332074065402090]
  delta PySem.W.Fast.tw9446332074065402090
  repeat' (with_reducible refine look2 ?_ ?_)
  · delta PySem.W.Fast.tw17960256430627541270
    repeat' (with_reducible refine look2 ?_ ?_)
    · delta PySem.W.Fast.tw2436336058641802641
      repeat' (with_reducible refine look2 ?_ ?_)
      · delta PySem.W.Fast.tw12908688711261696721
        repeat' (with_reducible refine look2 ?_ ?_)
        all_goals as_aux_lemma => kernel_rfl
      all_goals as_aux_lemma => kernel_rfl
    all_goals as_aux_lemma => kernel_rfl
  all_goals as_aux_lemma => kernel_rfl
end

noncomputable section
theorem okAll : (chainsOk view && opensWell rwl.row.prog && (frees rwl.row.toRowW && rwl.row.within.isEmpty)) = true := by kernel_rfl
theorem hdef0 : defOf view rwl.row.name = some (dLaw, []) := by kernel_rfl
theorem hp0 : rwl.row.prog.theDef rwl.row.name = some (dLaw.params, dLaw.body, dLaw.scope) := by kernel_rfl
theorem hk0 : kwWritten? dLaw.params.kwonlyargs dLaw.params.kw_defaults = some [] := by kernel_rfl
theorem bare0 : rwl.row.prog.bare := ⟨rfl, rfl, rfl, rfl, rfl, by decide +kernel⟩
theorem wit0 : rwl.row.toRowW.promised := by w_witness2
theorem hd (call : WalkO view loose (XL view []) hk.says rwl.row.toRowW dLaw [] fun f vs => PySem.call f vs) : rwl.Holds :=
  holds_law said fun k1 => holds_open (r := rwl.row) (q := view) (loose := loose) (Xt := Xt) (XP := XL view []) (Yf := hk.obs) (Ya := hk.val) (YP := hk.says) (N := 9000)
    left hk.of hk.keeps (fun s e => xl_of s (Bool.and_eq_true_iff.mp e).1) XL.keeps hdef0 hp0 hk0 (fun s e => recFacts_of (Bool.and_eq_true_iff.mp e).2) (by rfl) k1 okAll bare0 wit0 call
end

inductive A3 (a b c : Prop) : Prop
  | mk (h1 : a) (h2 : b) (h3 : c)
inductive A4 (a b c d : Prop) : Prop
  | mk (h1 : a) (h2 : b) (h3 : c) (h4 : d)
inductive A6 (a b c d e f : Prop) : Prop
  | mk (h1 : a) (h2 : b) (h3 : c) (h4 : d) (h5 : e) (h6 : f)
theorem hide {G : Prop} (h : ∀ C : Prop, (G → C) → C) : G := h G id
theorem reveal {G C : Prop} (h : G → C) (g : G) : C := h g
/-! ## plain data: what the walk keeps of a state -/
inductive MV where
  | none
  | bool (b : Bool)
  | int (i : Int)
  | str (s : String)
  | ref (a : Addr)

inductive MO where
  | list (xs : List MV)
  | tup (xs : List MV)
  | sd (es : List (String × MV))
  | idd (es : List (Int × MV))
  | inst (c dx : Addr) (as : List (String × MV))
  | ro (xs : List MV)
  | raw (o : Obj)

noncomputable abbrev MH := Addr → Option MO
noncomputable def MH.set (m : MH) (a : Addr) (o : MO) : MH := fun b => if b = a then some o else m b
theorem MH.set_same (m : MH) (a : Addr) (o : MO) : (m.set a o) a = some o := by simp [MH.set]
theorem MH.set_other (m : MH) {a b : Addr} (o : MO) (h : b ≠ a) : (m.set a o) b = m b := by simp [MH.set, h]

inductive VR : MV → Value → Prop where
  | none : VR .none .none
  | bool (b : Bool) : VR (.bool b) (.bool b)
  | int (i : Int) (t : Tok) : VR (.int i) (.int i t)
  | str (s : String) (t : Tok) : VR (.str s) (.str (Str.ofString s) t)
  | ref (a : Addr) : VR (.ref a) (.ref a)

theorem VR.refE {a : Addr} {v : Value} (h : VR (.ref a) v) : v = .ref a := by cases h; rfl
theorem VR.boolE {a : Bool} {v : Value} (h : VR (.bool a) v) : v = .bool a := by cases h; rfl
theorem VR.intE {a : Int} {v : Value} (h : VR (.int a) v) : ∃ t, v = .int a t := by cases h; exact ⟨_, rfl⟩
inductive All2 {α β : Type} (R : α → β → Prop) : List α → List β → Prop where
  | nil : All2 R [] []
  | cons {a b as bs} : R a b → All2 R as bs → All2 R (a :: as) (b :: bs)
noncomputable abbrev VRs := All2 VR
theorem VR.strE {x : String} {v : Value} (h : VR (.str x) v) : ∃ t, v = .str (Str.ofString x) t := by cases h; exact ⟨_, rfl⟩
theorem All2.nilE {α β : Type} {R : α → β → Prop} {bs : List β} (h : All2 R [] bs) : bs = [] := by cases h; rfl
theorem All2.consE {α β : Type} {R : α → β → Prop} {a : α} {as : List α} {bs : List β} (h : All2 R (a :: as) bs) : ∃ b bs', bs = b :: bs' ∧ R a b ∧ All2 R as bs' := by
  cases h with
  | cons r rs => exact ⟨_, _, rfl, r, rs⟩
theorem All2.length {α β : Type} {R : α → β → Prop} {as : List α} {bs : List β} (h : All2 R as bs) : as.length = bs.length := by
  induction h with
  | nil => rfl
  | cons _ _ ih => simp [ih]
theorem All2.append {α β : Type} {R : α → β → Prop} {as cs : List α} {bs ds : List β} (h : All2 R as bs) (k : All2 R cs ds) : All2 R (as ++ cs) (bs ++ ds) := by
  induction h with
  | nil => exact k
  | cons r _ ih => exact .cons r ih
theorem All2.get {α β : Type} {R : α → β → Prop} {as : List α} {bs : List β} (h : All2 R as bs) : ∀ {i : Nat} {a : α}, as[i]? = some a → ∃ b, bs[i]? = some b ∧ R a b := by
  induction h with
  | nil => intro i a e; simp at e
  | cons r _ ih =>
    intro i a e
    cases i with
    | zero => simp at e; subst e; exact ⟨_, rfl, r⟩
    | succ i => simp at e; simpa using ih e
theorem All2.get' {α β : Type} {R : α → β → Prop} {as : List α} {bs : List β} (h : All2 R as bs) : ∀ {i : Nat} {b : β}, bs[i]? = some b → ∃ a, as[i]? = some a ∧ R a b := by
  induction h with
  | nil => intro i a e; simp at e
  | cons r _ ih =>
    intro i a e
    cases i with
    | zero => simp at e; subst e; exact ⟨_, rfl, r⟩
    | succ i => simp at e; simpa using ih e
theorem All2.take {α β : Type} {R : α → β → Prop} {as : List α} {bs : List β} (h : All2 R as bs) : ∀ n, All2 R (as.take n) (bs.take n) := by
  induction h with
  | nil => intro n; simp; exact .nil
  | cons r _ ih => intro n; cases n with
    | zero => exact .nil
    | succ n => exact .cons r (ih n)
theorem All2.drop {α β : Type} {R : α → β → Prop} {as : List α} {bs : List β} (h : All2 R as bs) : ∀ n, All2 R (as.drop n) (bs.drop n) := by
  induction h with
  | nil => intro n; simp; exact .nil
  | cons r h ih => intro n; cases n with
    | zero => exact .cons r h
    | succ n => exact ih n
theorem All2.reverse {α β : Type} {R : α → β → Prop} {as : List α} {bs : List β} (h : All2 R as bs) : All2 R as.reverse bs.reverse := by
  induction h with
  | nil => exact .nil
  | cons r _ ih => simp only [List.reverse_cons]; exact ih.append (.cons r .nil)
theorem All2.set {α β : Type} {R : α → β → Prop} {as : List α} {bs : List β} (h : All2 R as bs) {a : α} {b : β} (r : R a b) : ∀ n, All2 R (as.set n a) (bs.set n b) := by
  induction h with
  | nil => intro n; exact .nil
  | cons r' h ih => intro n; cases n with
    | zero => exact .cons r h
    | succ n => exact .cons r' (ih n)
theorem All2.replicate {α β : Type} {R : α → β → Prop} {a : α} {b : β} (r : R a b) : ∀ n, All2 R (List.replicate n a) (List.replicate n b)
  | 0 => .nil
  | n + 1 => .cons r (All2.replicate r n)

/-! ## the heap -/
structure Cx where
  w : World
  h₀ : Heap
  os : OsState

noncomputable def SR (kv : String × MV) (p : Str × Value) : Prop := p.1 = Str.ofString kv.1 ∧ VR kv.2 p.2
noncomputable def IR (kv : Int × MV) (p : Int × Value) : Prop := p.1 = kv.1 ∧ VR kv.2 p.2
/-- what a namespace holds, of the names told -/
noncomputable def DictLe (h : Heap) (d : Addr) (n : Nat) : Prop := ∃ o es ep, h.get? d = some o ∧ o.data = .dict es ep ∧ es.size ≤ n
noncomputable def NsR (h : Heap) (d : Addr) (as : List (String × MV)) : Prop := ∃ ml, h.Ns d ml ∧ DictLe h d as.length ∧ ∀ k v, as.lookup k = some v → ∃ rv, ml (Str.ofString k) = some rv ∧ VR v rv
theorem NsR.live {h : Heap} {d : Addr} {as : List (String × MV)} (x : NsR h d as) : ∃ o, h.get? d = some o := by obtain ⟨_, ⟨o, _, _, e, _⟩, _⟩ := x; exact ⟨o, e⟩
theorem NsR.keep {h h' : Heap} {d : Addr} {as : List (String × MV)} (x : NsR h d as) (k : ∀ o, h.get? d = some o → h'.get? d = some o) : NsR h' d as := by
  obtain ⟨ml, ⟨o, es, ep, e, r⟩, ⟨o', es', ep', e', r'⟩, z⟩ := x
  exact ⟨ml, ⟨o, es, ep, k o e, r⟩, ⟨o', es', ep', k o' e', r'⟩, z⟩

noncomputable abbrev listO (vs : List Value) (n : Nat) : Obj := { cls := .type "list", data := .seq ⟨vs⟩ n }
noncomputable abbrev tupO (vs : List Value) (n : Nat) : Obj := { cls := .type "tuple", data := .seq ⟨vs⟩ n }

noncomputable def OR (X : Cx) (h : Heap) (a : Addr) : MO → Prop
  | .list xs => ∃ vs n, h.get? a = some (listO vs n) ∧ VRs xs vs
  | .tup xs => ∃ vs n, h.get? a = some (tupO vs n) ∧ VRs xs vs
  | .sd es => ∃ kvs, h.DictOf (strKind pw X.w) a kvs ∧ All2 SR es kvs
  | .idd es => ∃ kvs, h.DictOf (intKind pw X.w) a kvs ∧ All2 IR es kvs
  | .inst c dx as => h.get? a = some (instObj c dx) ∧ NsR h dx as
  | .ro xs => ∃ vs, h.IsList a vs.toArray ∧ VRs xs vs
  | .raw o => h.get? a = some o

noncomputable def MO.isRo : MO → Bool
  | .ro _ => true
  | _ => false

structure HR (X : Cx) (m : MH) (h : Heap) : Prop where
  base : ∀ b o, X.h₀.get? b = some o → h.get? b = some o
  obj : ∀ a o, m a = some o → OR X h a o
  free : ∀ a o, m a = some o → o.isRo = false → X.h₀.get? a = none
  dict : ∀ a c dx as, m a = some (.inst c dx as) → m dx = none ∧ X.h₀.get? dx = none
  inj : ∀ a b c c' dx as as', m a = some (.inst c dx as) → m b = some (.inst c' dx as') → a = b

structure Rel (X : Cx) (m : MH) (s : Shared) : Prop where
  hr : HR X m s.heap
  gens : s.gens = #[]
  os : s.os = X.os

noncomputable def Own (m : MH) (b : Addr) : Prop := m b ≠ none ∨ ∃ a c as, m a = some (.inst c b as)

/-- an object that is not the plain data's own: kept, its slots apart -/
noncomputable def KeepO (o o' : Obj) : Prop := ∃ sl, o' = { o with slots := sl } ∧ (sl = o.slots ∨ ∀ vs, o.data ≠ .fields vs)
theorem KeepO.refl (o : Obj) : KeepO o o := ⟨o.slots, rfl, .inl rfl⟩
theorem KeepO.trans {a b c : Obj} (x : KeepO a b) (y : KeepO b c) : KeepO a c := by
  obtain ⟨sl, rfl, h⟩ := x
  obtain ⟨sl', rfl, h'⟩ := y
  refine ⟨sl', rfl, ?_⟩
  rcases h with h | h
  · exact h'.imp (fun z => z.trans h) id
  · exact .inr h
theorem KeepO.data {a b : Obj} (x : KeepO a b) : b.data = a.data := by obtain ⟨sl, rfl, _⟩ := x; rfl
theorem KeepO.cls {a b : Obj} (x : KeepO a b) : b.cls = a.cls := by obtain ⟨sl, rfl, _⟩ := x; rfl
theorem KeepO.fields {a b : Obj} {vs : Array Value} (x : KeepO a b) (h : a.data = .fields vs) : b = a := by
  obtain ⟨sl, rfl, z⟩ := x
  rcases z with z | z
  · rw [z]
  · exact absurd h (z vs)

/-- from (m, h) to (m', h'): what stood and is not the plain data's own stands, but for the places of S -/
structure StepS (S : Addr → Prop) (m : MH) (h : Heap) (m' : MH) (h' : Heap) : Prop where
  grow : ∀ b, Own m b → Own m' b
  stay : ∀ b o, h.get? b = some o → Own m b ∨ (¬ Own m' b ∧ ∃ o', h'.get? b = some o' ∧ (S b ∨ KeepO o o'))
noncomputable abbrev Step := StepS fun _ => False
theorem StepS.refl {S : Addr → Prop} (m : MH) (h : Heap) : StepS S m h m h := ⟨fun _ q => q, fun b o e => by
  by_cases q : Own m b
  · exact .inl q
  · exact .inr ⟨q, o, e, .inr (.refl o)⟩⟩
theorem StepS.trans {S : Addr → Prop} {m₁ m₂ m₃ : MH} {h₁ h₂ h₃ : Heap} (x : StepS S m₁ h₁ m₂ h₂) (y : StepS S m₂ h₂ m₃ h₃) : StepS S m₁ h₁ m₃ h₃ := ⟨fun b q => y.grow b (x.grow b q), fun b o e => by
  rcases x.stay b o e with q | ⟨q, o', e', k⟩
  · exact .inl q
  · rcases y.stay b o' e' with q' | ⟨q', o'', e'', k'⟩
    · exact absurd q' q
    · refine .inr ⟨q', o'', e'', ?_⟩
      rcases k with k | k
      · exact .inl k
      · rcases k' with k' | k'
        · exact .inl k'
        · exact .inr (k.trans k')⟩
theorem StepS.mono {S S' : Addr → Prop} {m m' : MH} {h h' : Heap} (x : StepS S m h m' h') (k : ∀ b, S b → S' b) : StepS S' m h m' h' := ⟨x.grow, fun b o e => by
  rcases x.stay b o e with q | ⟨q, o', e', z⟩
  · exact .inl q
  · exact .inr ⟨q, o', e', z.imp (k b) id⟩⟩
/-- places left out that did not stand at the start -/
theorem StepS.narrow {S S' : Addr → Prop} {m m' : MH} {h h' : Heap} (x : StepS S m h m' h') (k : ∀ b, S b → S' b ∨ h.get? b = none) : StepS S' m h m' h' := ⟨x.grow, fun b o e => by
  rcases x.stay b o e with q | ⟨q, o', e', z⟩
  · exact .inl q
  · refine .inr ⟨q, o', e', ?_⟩
    rcases z with z | z
    · rcases k b z with k | k
      · exact .inl k
      · rw [k] at e; cases e
    · exact .inr z⟩
/-- the places left out did not stand at the start -/
theorem StepS.shut {S : Addr → Prop} {m m' : MH} {h h' : Heap} (x : StepS S m h m' h') (k : ∀ b, S b → h.get? b = none) : Step m h m' h' := ⟨x.grow, fun b o e => by
  rcases x.stay b o e with q | ⟨q, o', e', z⟩
  · exact .inl q
  · refine .inr ⟨q, o', e', ?_⟩
    rcases z with z | z
    · rw [k b z] at e; cases e
    · exact .inr z⟩
theorem StepS.of_keeps {S : Addr → Prop} {m : MH} {h h' : Heap} (k : ∀ b o, h.get? b = some o → h'.get? b = some o) : StepS S m h m h' := ⟨fun _ q => q, fun b o e => by
  by_cases q : Own m b
  · exact .inl q
  · exact .inr ⟨q, o, k b o e, .inr (.refl o)⟩⟩
theorem StepS.notOwn {S : Addr → Prop} {m m' : MH} {h h' : Heap} (x : StepS S m h m' h') {b : Addr} {o : Obj} (e : h.get? b = some o) (q : ¬ Own m b) : ¬ Own m' b := by
  rcases x.stay b o e with q' | ⟨q', _⟩
  · exact absurd q' q
  · exact q'
theorem StepS.keep {S : Addr → Prop} {m m' : MH} {h h' : Heap} (x : StepS S m h m' h') {b : Addr} {o : Obj} (e : h.get? b = some o) (q : ¬ Own m b) (hs : ¬ S b) : ∃ o', h'.get? b = some o' ∧ KeepO o o' := by
  rcases x.stay b o e with q' | ⟨_, o', e', z⟩
  · exact absurd q' q
  · exact ⟨o', e', z.resolve_left hs⟩

theorem Own.dec (m : MH) (b : Addr) : Own m b ∨ ¬ Own m b := Classical.em _

theorem OR.live {X : Cx} {h : Heap} {a : Addr} {o : MO} (x : OR X h a o) : ∃ ob, h.get? a = some ob := by
  cases o with
  | list xs => obtain ⟨vs, n, e, _⟩ := x; exact ⟨_, e⟩
  | tup xs => obtain ⟨vs, n, e, _⟩ := x; exact ⟨_, e⟩
  | sd xs => obtain ⟨kvs, ⟨o, _, _, e, _⟩, _⟩ := x; exact ⟨_, e⟩
  | idd xs => obtain ⟨kvs, ⟨o, _, _, e, _⟩, _⟩ := x; exact ⟨_, e⟩
  | inst c dx as => exact ⟨_, x.1⟩
  | ro xs => obtain ⟨vs, ⟨o, e, _⟩, _⟩ := x; exact ⟨_, e⟩
  | raw o => exact ⟨_, x⟩
theorem HR.ownLive {X : Cx} {m : MH} {h : Heap} (x : HR X m h) {b : Addr} (q : Own m b) : ∃ o, h.get? b = some o := by
  rcases q with q | ⟨a, c, as, e⟩
  · cases e : m b with
    | none => exact absurd e q
    | some o => exact (x.obj b o e).live
  · exact (x.obj a _ e).2.live
theorem HR.notOwn {X : Cx} {m : MH} {h : Heap} (x : HR X m h) {b : Addr} (e : h.get? b = none) : ¬ Own m b := fun q => by
  obtain ⟨o, e'⟩ := x.ownLive q
  rw [e] at e'; cases e'

/-- the objects of the plain data stand as they stood, and what stood stands: the plain heap is told by the new one too -/
theorem HR.mono {X : Cx} {m : MH} {h h' : Heap} (x : HR X m h) (base : ∀ b o, X.h₀.get? b = some o → h'.get? b = some o) (k : ∀ b o, Own m b → h.get? b = some o → h'.get? b = some o) : HR X m h' := by
  refine ⟨base, fun a o e => ?_, x.free, x.dict, x.inj⟩
  have y := x.obj a o e
  have hown : Own m a := .inl (by rw [e]; simp)
  cases o with
  | list xs => obtain ⟨vs, n, g, r⟩ := y; exact ⟨vs, n, k _ _ hown g, r⟩
  | tup xs => obtain ⟨vs, n, g, r⟩ := y; exact ⟨vs, n, k _ _ hown g, r⟩
  | sd xs => obtain ⟨kvs, ⟨o, es, ep, g, r⟩, r'⟩ := y; exact ⟨kvs, ⟨o, es, ep, k _ _ hown g, r⟩, r'⟩
  | idd xs => obtain ⟨kvs, ⟨o, es, ep, g, r⟩, r'⟩ := y; exact ⟨kvs, ⟨o, es, ep, k _ _ hown g, r⟩, r'⟩
  | inst c dx as => obtain ⟨g, r⟩ := y; exact ⟨k _ _ hown g, r.keep fun _ => k _ _ (.inr ⟨a, c, as, e⟩)⟩
  | ro xs => obtain ⟨vs, ⟨o, g, r⟩, r'⟩ := y; exact ⟨vs, ⟨o, k _ _ hown g, r⟩, r'⟩
  | raw o => exact k _ _ hown y
theorem HR.keeps {X : Cx} {m : MH} {h h' : Heap} (x : HR X m h) (k : ∀ b o, h.get? b = some o → h'.get? b = some o) : HR X m h' :=
  x.mono (fun b o e => k b o (x.base b o e)) fun b o _ e => k b o e
theorem Rel.keeps {X : Cx} {m : MH} {s : Shared} {h' : Heap} {t : Nat} (x : Rel X m s) (k : ∀ b o, s.heap.get? b = some o → h'.get? b = some o) : Rel X m { s with heap := h', toks := t } :=
  ⟨x.hr.keeps k, x.gens, x.os⟩
theorem Rel.tok {X : Cx} {m : MH} {s : Shared} {t : Nat} (x : Rel X m s) : Rel X m { s with toks := t } := ⟨x.hr, x.gens, x.os⟩
theorem Rel.push {X : Cx} {m : MH} {s : Shared} (x : Rel X m s) (o : Obj) : Rel X m { s with heap := s.heap.push o } := x.keeps (t := s.toks) fun _ _ e => Heap.get?_push_of_some o e

theorem own_set_plain {m : MH} {a : Addr} {o : MO} (hn : ∀ c dx as, o ≠ .inst c dx as) (hm : ∀ c dx as, m a ≠ some (.inst c dx as)) {b : Addr} : Own (m.set a o) b ↔ b = a ∨ Own m b := by
  constructor
  · rintro (q | ⟨x, c, as, q⟩)
    · by_cases e : b = a
      · exact .inl e
      · rw [MH.set_other m o e] at q; exact .inr (.inl q)
    · by_cases e : x = a
      · subst e; rw [MH.set_same] at q; exact absurd (Option.some.inj q) (hn _ _ _)
      · rw [MH.set_other m o e] at q; exact .inr (.inr ⟨x, c, as, q⟩)
  · rintro (rfl | q | ⟨x, c, as, q⟩)
    · exact .inl (by rw [MH.set_same]; simp)
    · by_cases e : b = a
      · subst e; exact .inl (by rw [MH.set_same]; simp)
      · exact .inl (by rw [MH.set_other m o e]; exact q)
    · by_cases e : x = a
      · subst e; exact absurd q (hm _ _ _)
      · exact .inr ⟨x, c, as, by rw [MH.set_other m o e]; exact q⟩

/-- what stood stands at the end too -/
theorem StepS.live {S : Addr → Prop} {X : Cx} {m m' : MH} {h h' : Heap} (x : StepS S m h m' h') (r : HR X m' h') {b : Addr} {o : Obj} (e : h.get? b = some o) : ∃ o', h'.get? b = some o' := by
  rcases x.stay b o e with q | ⟨_, o', e', _⟩
  · exact r.ownLive (x.grow b q)
  · exact ⟨o', e'⟩
theorem StepS.fresh {S : Addr → Prop} {X : Cx} {m m' : MH} {h h' : Heap} (x : StepS S m h m' h') (r : HR X m' h') {b : Addr} (e : h'.get? b = none) : h.get? b = none := by
  cases q : h.get? b with
  | none => rfl
  | some o => obtain ⟨o', e'⟩ := x.live r q; rw [e] at e'; cases e'

theorem kOther {h : Heap} {a b : Addr} {o : Obj} (e : h.get? b = none) (f : h.get? a = some o) : a ≠ b := fun q => by rw [q, e] at f; cases f

/-! ## a new object -/
theorem HR.fresh {X : Cx} {m : MH} {h : Heap} (x : HR X m h) : ¬ Own m h.objs.size := x.notOwn (Heap.get?_none_of_le (Nat.le_refl _))
theorem HR.freshM {X : Cx} {m : MH} {h : Heap} (x : HR X m h) : m h.objs.size = none := by
  cases e : m h.objs.size with
  | none => rfl
  | some o => exact absurd (.inl (by rw [e]; simp)) x.fresh
theorem HR.freshB {X : Cx} {m : MH} {h : Heap} (x : HR X m h) : X.h₀.get? h.objs.size = none := by
  cases e : X.h₀.get? h.objs.size with
  | none => rfl
  | some o => exact absurd (Heap.lt_size (x.base _ _ e)) (Nat.lt_irrefl _)

theorem OR.set_other {X : Cx} {h : Heap} {a : Addr} {o : MO} (x : OR X h a o) {h' : Heap} (k : ∀ b ob, h.get? b = some ob → (b = a ∨ ∃ c as, o = .inst c b as) → h'.get? b = some ob) : OR X h' a o := by
  cases o with
  | list xs => obtain ⟨vs, n, g, r⟩ := x; exact ⟨vs, n, k _ _ g (.inl rfl), r⟩
  | tup xs => obtain ⟨vs, n, g, r⟩ := x; exact ⟨vs, n, k _ _ g (.inl rfl), r⟩
  | sd xs => obtain ⟨kvs, ⟨o, es, ep, g, r⟩, r'⟩ := x; exact ⟨kvs, ⟨o, es, ep, k _ _ g (.inl rfl), r⟩, r'⟩
  | idd xs => obtain ⟨kvs, ⟨o, es, ep, g, r⟩, r'⟩ := x; exact ⟨kvs, ⟨o, es, ep, k _ _ g (.inl rfl), r⟩, r'⟩
  | inst c dx as => obtain ⟨g, r⟩ := x; exact ⟨k _ _ g (.inl rfl), r.keep fun o g' => k _ _ g' (.inr ⟨_, _, rfl⟩)⟩
  | ro xs => obtain ⟨vs, ⟨o, g, r⟩, r'⟩ := x; exact ⟨vs, ⟨o, k _ _ g (.inl rfl), r⟩, r'⟩
  | raw o => exact k _ _ x (.inl rfl)

/-- a plain object is laid at a place that was none's -/
theorem HR.lay {X : Cx} {m : MH} {h h' : Heap} {a : Addr} {o : MO} (x : HR X m h) (hn : h.get? a = none) (k : ∀ b ob, h.get? b = some ob → h'.get? b = some ob) (ho : OR X h' a o) (hp : ∀ c dx as, o ≠ .inst c dx as) (hr : o.isRo = false) :
    HR X (m.set a o) h' ∧ ∀ S, StepS S m h (m.set a o) h' := by
  have hna : ¬ Own m a := x.notOwn hn
  have hm : m a = none := by
    cases e : m a with
    | none => rfl
    | some o => exact absurd (.inl (by rw [e]; simp)) hna
  have hb : X.h₀.get? a = none := by
    cases e : X.h₀.get? a with
    | none => rfl
    | some ob => have := x.base _ _ e; rw [hn] at this; cases this
  have own := @own_set_plain m a o hp (fun c dx as e => by rw [hm] at e; cases e)
  refine ⟨⟨fun b ob e => k _ _ (x.base b ob e), fun b ob e => ?_, fun b ob e he => ?_, fun b c dx as e => ?_, fun b b' c c' dx as as' e e' => ?_⟩, fun S => ⟨fun b q => own.mpr (.inr q), fun b ob e => ?_⟩⟩
  · by_cases q : b = a
    · subst q; rw [MH.set_same] at e; cases e; exact ho
    · rw [MH.set_other m o q] at e
      exact (x.obj b ob e).set_other fun c oc g _ => k c oc g
  · by_cases q : b = a
    · subst q; exact hb
    · rw [MH.set_other m o q] at e; exact x.free b ob e he
  · by_cases q : b = a
    · subst q; rw [MH.set_same] at e; exact absurd (Option.some.inj e) (hp _ _ _)
    · rw [MH.set_other m o q] at e
      obtain ⟨e1, e2⟩ := x.dict b c dx as e
      refine ⟨?_, e2⟩
      by_cases q' : dx = a
      · subst q'; exact absurd (.inr ⟨b, c, as, e⟩) hna
      · rw [MH.set_other m o q']; exact e1
  · have g1 : b ≠ a := fun q => by subst q; rw [MH.set_same] at e; exact absurd (Option.some.inj e) (hp _ _ _)
    have g2 : b' ≠ a := fun q => by subst q; rw [MH.set_same] at e'; exact absurd (Option.some.inj e') (hp _ _ _)
    rw [MH.set_other m o g1] at e
    rw [MH.set_other m o g2] at e'
    exact x.inj b b' c c' dx as as' e e'
  · by_cases q : Own m b
    · exact .inl q
    · refine .inr ⟨fun z => ?_, ob, k b ob e, .inr (.refl ob)⟩
      rcases own.mp z with rfl | z
      · rw [hn] at e; cases e
      · exact q z

/-- a plain object is changed where it stands -/
theorem HR.turn {X : Cx} {m : MH} {h h' : Heap} {a : Addr} {o o' : MO} (x : HR X m h) (hm : m a = some o) (k : ∀ b, b ≠ a → h'.get? b = h.get? b) (ho : OR X h' a o') (hp : ∀ c dx as, o ≠ .inst c dx as) (hp' : ∀ c dx as, o' ≠ .inst c dx as) (hr : o.isRo = false) (hr' : o'.isRo = false) :
    HR X (m.set a o') h' ∧ ∀ S, StepS S m h (m.set a o') h' := by
  have hb := x.free a o hm hr
  have hoa : Own m a := .inl (by rw [hm]; simp)
  have own := @own_set_plain m a o' hp' (fun c dx as e => by rw [hm] at e; exact absurd (Option.some.inj e) (hp _ _ _))
  have nodict : ∀ b c dx as, m b = some (.inst c dx as) → dx ≠ a := fun b c dx as e q => by
    have := (x.dict b c dx as e).1
    rw [q, hm] at this; cases this
  refine ⟨⟨fun b ob e => (k b fun q => by rw [q, hb] at e; cases e).trans (x.base b ob e), fun b ob e => ?_, fun b ob e he => ?_, fun b c dx as e => ?_, fun b b' c c' dx as as' e e' => ?_⟩, fun S => ⟨fun b q => own.mpr (.inr q), fun b ob e => ?_⟩⟩
  · by_cases q : b = a
    · subst q; rw [MH.set_same] at e; cases e; exact ho
    · rw [MH.set_other m o' q] at e
      refine (x.obj b ob e).set_other fun c oc g hc => (k c ?_).trans g
      rcases hc with rfl | ⟨cc, as, rfl⟩
      · exact q
      · exact nodict b cc c as e
  · by_cases q : b = a
    · subst q; exact hb
    · rw [MH.set_other m o' q] at e; exact x.free b ob e he
  · have q : b ≠ a := fun q => by subst q; rw [MH.set_same] at e; exact absurd (Option.some.inj e) (hp' _ _ _)
    rw [MH.set_other m o' q] at e
    obtain ⟨e1, e2⟩ := x.dict b c dx as e
    exact ⟨by rw [MH.set_other m o' (nodict b c dx as e)]; exact e1, e2⟩
  · have g1 : b ≠ a := fun q => by subst q; rw [MH.set_same] at e; exact absurd (Option.some.inj e) (hp' _ _ _)
    have g2 : b' ≠ a := fun q => by subst q; rw [MH.set_same] at e'; exact absurd (Option.some.inj e') (hp' _ _ _)
    rw [MH.set_other m o' g1] at e
    rw [MH.set_other m o' g2] at e'
    exact x.inj b b' c c' dx as as' e e'
  · by_cases q : Own m b
    · exact .inl q
    · have ne : b ≠ a := fun z => q (z ▸ hoa)
      refine .inr ⟨fun z => ?_, ob, (k b ne).trans e, .inr (.refl ob)⟩
      rcases own.mp z with rfl | z
      · exact ne rfl
      · exact q z

/-- an own object is laid, with its dict -/
theorem HR.layInst {X : Cx} {m : MH} {h h' : Heap} {a dx c : Addr} {as : List (String × MV)} (x : HR X m h) (hn : h.get? a = none) (hd : h.get? dx = none) (hne : a ≠ dx) (k : ∀ b ob, h.get? b = some ob → h'.get? b = some ob) (ho : OR X h' a (.inst c dx as)) :
    HR X (m.set a (.inst c dx as)) h' ∧ ∀ S, StepS S m h (m.set a (.inst c dx as)) h' := by
  have grow : ∀ b, Own m b → Own (m.set a (.inst c dx as)) b := fun b q => by
    rcases q with q | ⟨y, c', as', q⟩
    · by_cases z : b = a
      · exact .inl (by rw [z, MH.set_same]; simp)
      · exact .inl (by rw [MH.set_other m _ z]; exact q)
    · by_cases z : y = a
      · subst z; exact absurd (.inl (by rw [q]; simp)) (x.notOwn hn)
      · exact .inr ⟨y, c', as', by rw [MH.set_other m _ z]; exact q⟩
  have fr : ∀ a, h.get? a = none → m a = none ∧ X.h₀.get? a = none := fun a hn => by
    have hna : ¬ Own m a := x.notOwn hn
    refine ⟨?_, ?_⟩
    · cases e : m a with
      | none => rfl
      | some o => exact absurd (.inl (by rw [e]; simp)) hna
    · cases e : X.h₀.get? a with
      | none => rfl
      | some ob => have := x.base _ _ e; rw [hn] at this; cases this
  obtain ⟨hm, hb⟩ := fr a hn
  obtain ⟨hmd, hbd⟩ := fr dx hd
  refine ⟨⟨fun b ob e => k _ _ (x.base b ob e), fun b ob e => ?_, fun b ob e he => ?_, fun b c' dx' as' e => ?_, fun b b' c1 c2 d as1 as2 e e' => ?_⟩, fun S => ⟨grow, fun b ob e => ?_⟩⟩
  · by_cases q : b = a
    · subst q; rw [MH.set_same] at e; cases e; exact ho
    · rw [MH.set_other m _ q] at e
      exact (x.obj b ob e).set_other fun c oc g _ => k c oc g
  · by_cases q : b = a
    · subst q; exact hb
    · rw [MH.set_other m _ q] at e; exact x.free b ob e he
  · by_cases q : b = a
    · subst q; rw [MH.set_same] at e; cases e
      exact ⟨by rw [MH.set_other m _ (Ne.symm hne)]; exact hmd, hbd⟩
    · rw [MH.set_other m _ q] at e
      obtain ⟨e1, e2⟩ := x.dict b c' dx' as' e
      refine ⟨?_, e2⟩
      by_cases q' : dx' = a
      · subst q'; exact absurd (.inr ⟨b, c', as', e⟩) (x.notOwn hn)
      · rw [MH.set_other m _ q']; exact e1
  · by_cases q : b = a <;> by_cases q' : b' = a
    · rw [q, q']
    · exfalso
      subst q
      rw [MH.set_same] at e; cases e
      rw [MH.set_other m _ q'] at e'
      exact x.notOwn hd (.inr ⟨b', c2, as2, e'⟩)
    · exfalso
      subst q'
      rw [MH.set_same] at e'; cases e'
      rw [MH.set_other m _ q] at e
      exact x.notOwn hd (.inr ⟨b, c1, as1, e⟩)
    · rw [MH.set_other m _ q] at e
      rw [MH.set_other m _ q'] at e'
      exact x.inj b b' c1 c2 d as1 as2 e e'
  · by_cases q : Own m b
    · exact .inl q
    · refine .inr ⟨fun z => ?_, ob, k b ob e, .inr (.refl ob)⟩
      rcases z with z | ⟨y, c', as', z⟩
      · by_cases q' : b = a
        · subst q'; rw [hn] at e; cases e
        · rw [MH.set_other m _ q'] at z; exact q (.inl z)
      · by_cases q' : y = a
        · subst q'; rw [MH.set_same] at z; cases z
          rw [hd] at e; cases e
        · rw [MH.set_other m _ q'] at z; exact q (.inr ⟨y, c', as', z⟩)

/-- an own object's attributes are changed -/
theorem HR.turnInst {X : Cx} {m : MH} {h h' : Heap} {a dx c : Addr} {as as' : List (String × MV)} (x : HR X m h) (hm : m a = some (.inst c dx as)) (k : ∀ b, b ≠ dx → h'.get? b = h.get? b)
    (ho : NsR h' dx as') :
    HR X (m.set a (.inst c dx as')) h' ∧ ∀ S, StepS S m h (m.set a (.inst c dx as')) h' := by
  have grow : ∀ b, Own m b → Own (m.set a (.inst c dx as')) b := fun b q => by
    rcases q with q | ⟨y, c', as1, q⟩
    · by_cases z : b = a
      · exact .inl (by rw [z, MH.set_same]; simp)
      · exact .inl (by rw [MH.set_other m _ z]; exact q)
    · by_cases z : y = a
      · subst z; rw [hm] at q; cases q; exact .inr ⟨y, _, _, MH.set_same _ _ _⟩
      · exact .inr ⟨y, c', as1, by rw [MH.set_other m _ z]; exact q⟩
  obtain ⟨hmd, hbd⟩ := x.dict a c dx as hm
  have hne : a ≠ dx := fun q => by rw [← q, hm] at hmd; cases hmd
  have hod : Own m dx := .inr ⟨a, c, as, hm⟩
  have ha := (x.obj a _ hm).1
  refine ⟨⟨fun b ob e => (k b fun q => by rw [q, hbd] at e; cases e).trans (x.base b ob e), fun b ob e => ?_, fun b ob e he => ?_, fun b c' dx' as1 e => ?_, fun b b' c1 c2 d as1 as2 e e' => ?_⟩, fun S => ⟨grow, fun b ob e => ?_⟩⟩
  · by_cases q : b = a
    · subst q; rw [MH.set_same] at e; cases e
      exact ⟨(k b hne).trans ha, ho⟩
    · rw [MH.set_other m _ q] at e
      refine (x.obj b ob e).set_other fun cc oc g hc => (k cc ?_).trans g
      rcases hc with rfl | ⟨c', as1, rfl⟩
      · rintro rfl; rw [e] at hmd; cases hmd
      · rintro rfl; exact q (x.inj _ _ _ _ _ _ _ e hm)
  · by_cases q : b = a
    · subst q; exact x.free b _ hm rfl
    · rw [MH.set_other m _ q] at e; exact x.free b ob e he
  · have hna : ∀ dx', m dx' = none → (m.set a (.inst c dx as')) dx' = none := fun d hd => by
      rw [MH.set_other m _ (fun q => by rw [q, hm] at hd; cases hd)]; exact hd
    by_cases q : b = a
    · subst q; rw [MH.set_same] at e; cases e
      exact ⟨hna _ hmd, hbd⟩
    · rw [MH.set_other m _ q] at e
      obtain ⟨e1, e2⟩ := x.dict b c' dx' as1 e
      exact ⟨hna _ e1, e2⟩
  · have get : ∀ y cy ay, (m.set a (.inst c dx as')) y = some (.inst cy d ay) → ∃ cy' ay', m y = some (.inst cy' d ay') := fun y cy ay z => by
      by_cases q : y = a
      · subst q; rw [MH.set_same] at z; cases z; exact ⟨_, _, hm⟩
      · rw [MH.set_other m _ q] at z; exact ⟨_, _, z⟩
    obtain ⟨_, _, z⟩ := get b c1 as1 e
    obtain ⟨_, _, z'⟩ := get b' c2 as2 e'
    exact x.inj b b' _ _ d _ _ z z'
  · by_cases q : Own m b
    · exact .inl q
    · have ne : b ≠ dx := fun z => q (z ▸ hod)
      refine .inr ⟨fun z => ?_, ob, (k b ne).trans e, .inr (.refl ob)⟩
      rcases z with z | ⟨y, c', as1, z⟩
      · by_cases q' : b = a
        · exact q (.inl (by rw [q', hm]; simp))
        · rw [MH.set_other m _ q'] at z; exact q (.inl z)
      · by_cases q' : y = a
        · subst q'; rw [MH.set_same] at z; cases z; exact ne rfl
        · rw [MH.set_other m _ q'] at z; exact q (.inr ⟨y, c', as1, z⟩)

noncomputable abbrev S (s : String) : Str := Str.ofString s
noncomputable abbrev Vars := List (String × MV)
noncomputable abbrev md (X : Cx) : Model := model pw X.w

noncomputable def Foot (env : Env) (b : Addr) : Prop := b = env.locals ∨ ∃ n, env.cells.lookup n = some b

structure EnvOk (X : Cx) (env : Env) (vars : Vars) (m : MH) (h : Heap) : Prop where
  kind : env.scope.kind = .function
  glob : env.globals = mainGlobals
  blt : env.builtins = builtinsNs
  ns : ∃ ml, h.Ns env.locals ml ∧ ∀ x v, vars.lookup x = some v → env.kindOf (S x) = some .local → ∃ rv, ml (S x) = some rv ∧ VR v rv
  cell : ∀ x v, vars.lookup x = some v → env.kindOf (S x) = some .local ∨ ((env.kindOf (S x) = some .cell ∨ env.kindOf (S x) = some .free) ∧ ∃ c rv, env.cells.lookup (S x) = some c ∧ h.IsCell c (some rv) ∧ VR v rv)
  live : ∀ n c, env.cells.lookup n = some c → ∃ v, h.IsCell c v
  apart : env.cells.Pairwise fun x y => x.2 ≠ y.2
  off : ∀ n c, env.cells.lookup n = some c → c ≠ env.locals
  own : ∀ b, Foot env b → ¬ Own m b
  base : ∀ b, Foot env b → X.h₀.get? b = none

theorem ns_keepO {h h' : Heap} {a : Addr} {ml : Str → Option Value} (x : h.Ns a ml) (k : ∀ o, h.get? a = some o → ∃ o', h'.get? a = some o' ∧ KeepO o o') : h'.Ns a ml := by
  obtain ⟨o, es, ep, ho, hd, r⟩ := x
  obtain ⟨o', ho', q⟩ := k o ho
  exact ⟨o', es, ep, ho', q.data.trans hd, r⟩
theorem cell_keepO {h h' : Heap} {a : Addr} {v : Option Value} (x : h.IsCell a v) (k : ∀ o, h.get? a = some o → ∃ o', h'.get? a = some o' ∧ KeepO o o') : h'.IsCell a v := by
  obtain ⟨o, ho, hd⟩ := x
  obtain ⟨o', ho', q⟩ := k o ho
  exact ⟨o', ho', q.data.trans hd⟩
theorem ns_live {h : Heap} {a : Addr} {ml : Str → Option Value} (x : h.Ns a ml) : ∃ o, h.get? a = some o := by obtain ⟨o, _, _, e, _⟩ := x; exact ⟨o, e⟩
theorem cell_live {h : Heap} {a : Addr} {v : Option Value} (x : h.IsCell a v) : ∃ o, h.get? a = some o := by obtain ⟨o, e, _⟩ := x; exact ⟨o, e⟩

theorem EnvOk.footLive {X : Cx} {env : Env} {vars : Vars} {m : MH} {h : Heap} (x : EnvOk X env vars m h) {b : Addr} (f : Foot env b) : ∃ o, h.get? b = some o := by
  rcases f with rfl | ⟨n, f⟩
  · obtain ⟨ml, q, _⟩ := x.ns; exact ns_live q
  · obtain ⟨v, q⟩ := x.live n b f; exact cell_live q
theorem EnvOk.step {X : Cx} {env : Env} {vars : Vars} {m m' : MH} {h h' : Heap} (x : EnvOk X env vars m h) (st : Step m h m' h') : EnvOk X env vars m' h' := by
  have k : ∀ b, Foot env b → ∀ o, h.get? b = some o → ∃ o', h'.get? b = some o' ∧ KeepO o o' := fun b f o e => st.keep e (x.own b f) (fun z => z)
  refine ⟨x.kind, x.glob, x.blt, ?_, fun y v e => ?_, fun n c hm => ?_, x.apart, x.off, fun b f => ?_, x.base⟩
  · obtain ⟨ml, q, r⟩ := x.ns
    exact ⟨ml, ns_keepO q (k _ (.inl rfl)), r⟩
  · refine (x.cell y v e).imp id fun hz => by obtain ⟨q, c, rv, e1, e2, e3⟩ := hz; exact ⟨q, c, rv, e1, cell_keepO e2 (k _ (.inr ⟨_, e1⟩)), e3⟩
  · obtain ⟨v, q⟩ := x.live n c hm
    exact ⟨v, cell_keepO q (k _ (.inr ⟨n, hm⟩))⟩
  · obtain ⟨o, e⟩ := x.footLive f
    exact st.notOwn e (x.own b f)

structure Room (n : Nat) (A : Around) : Prop where
  depth : A.depth + n ≤ 1000
  units : A.units + 8 * n ≤ 9000
  handled : A.handled = none
  guards : A.guards = some []
theorem Room.mono {n k : Nat} {A : Around} (x : Room n A) (h : k ≤ n) : Room k A := ⟨by have := x.depth; lia, by have := x.units; lia, x.handled, x.guards⟩
theorem Room.lt {n : Nat} {A : Around} (x : Room (n + 1) A) : A.depth < recursionLimit := by have := x.depth; unfold recursionLimit; lia
theorem Room.cl {n : Nat} {A : Around} (x : Room n A) : A.units < cLine := by have := x.units; unfold cLine; lia

/-- the frames below: their objects are none of the plain data's, and none of the base's -/
noncomputable def Frames (X : Cx) (m : MH) (h : Heap) (l : List Env) : Prop := h.FunFrames X.h₀ l ∧ ∀ b ∈ l.filterMap (·.frame), ¬ Own m b
theorem Frames.step {X : Cx} {S : Addr → Prop} {m m' : MH} {h h' : Heap} {l : List Env} (x : Frames X m h l) (st : StepS S m h m' h')
    (k : ∀ b, S b → ∀ o, h'.get? b = some o → ∀ vs, o.data ≠ .fields vs) : Frames X m' h' l := by
  obtain ⟨hl, ho⟩ := x
  refine ⟨?_, fun b hb => ?_⟩
  · induction l with
    | nil => trivial
    | cons env rest ih =>
      obtain ⟨hk, ⟨L, o, hf, hn, e, hd⟩, hr⟩ := hl
      have hL : ¬ Own m L := ho L (by rw [List.filterMap_cons, hf]; exact .head _)
      refine ⟨hk, ?_, ih hr fun b hb => ho b (by rw [List.filterMap_cons, hf]; exact .tail _ hb)⟩
      rcases st.stay L o e with q | ⟨_, o', e', z⟩
      · exact absurd q hL
      · refine ⟨L, o', hf, hn, e', ?_⟩
        rcases z with z | z
        · exact k L z o' e'
        · intro vs q; exact hd vs (z.data ▸ q)
  · obtain ⟨_, o, e, _⟩ := hl.mem hb
    exact st.notOwn e (ho b hb)

structure Pre (X : Cx) (n : Nat) (A : Around) (fe env₁ : Env) (vars : Vars) (m : MH) (s : Shared) : Prop where
  room : Room n A
  frames : ∃ outer, A.frames = some (fe :: outer) ∧ Frames X m s.heap (fe :: outer)
  rel : Rel X m s
  env : EnvOk X env₁ vars m s.heap
  apart : ∀ outer, A.frames = some (fe :: outer) → ∀ nm c, env₁.cells.lookup nm = some c → c ∉ outer.filterMap (·.frame)
theorem Pre.step {X : Cx} {n : Nat} {A : Around} {fe env : Env} {vars : Vars} {m m' : MH} {s s' : Shared} (x : Pre X n A fe env vars m s) (r : Rel X m' s') (st : Step m s.heap m' s'.heap) : Pre X n A fe env vars m' s' :=
  ⟨x.room, (by obtain ⟨o, a, b⟩ := x.frames; exact ⟨o, a, b.step st fun _ z => z.elim⟩), r, x.env.step st, x.apart⟩

/-! ## exceptions -/
/-- the class of the text's own exception -/
noncomputable abbrev cRefusal : Addr := 44
inductive Fl where
  | new
  | at (v : Value)
inductive TbP (h : Heap) (m' : MH) (h' : Heap) (a dx : Addr) (vs : Array Value) (v : Value) : Prop
  | mk (T : Addr) (oT : Obj) (ts : Array Value) (g1 : vs[1]? = some (.ref T)) (g2 : h.get? T = none) (g3 : T ≠ a) (g4 : T ≠ dx) (g5 : ¬ Own m' T) (g6 : h'.get? T = some oT) (g7 : oT.data = .fields ts) (g8 : ts[3]? = some v)
inductive ExcObj (h : Heap) (m' : MH) (h' : Heap) (a : Addr) (msg : String) (fl : Fl) : Prop
  | mk (dx : Addr) (vs : Array Value) (sl : Array (Option Value)) (es : List DictEntry) (n : Nat) (t : Tok) (e1 : h.get? a = none) (e2 : h'.get? a = some ⟨.ref cRefusal, some dx, .fields vs, sl⟩) (e3 : h.get? dx = none) (e4 : h'.get? dx = some (dictOf es n)) (e5 : getL "message" es = some (some (.str (S msg) t))) (e6 : ¬ Own m' a) (e7 : ¬ Own m' dx)
    (e8 : match fl with
    | .new => vs[1]? = some .none
    | .at v => TbP h m' h' a dx vs v)
inductive Exc (L : Option Addr) (h : Heap) (m' : MH) (h' : Heap) (msg : String) : Value → Prop where
  | new {a} : ExcObj h m' h' a msg .new → Exc L h m' h' msg (.ref a)
  | fly {a} : ExcObj h m' h' a msg (.at .none) → Exc L h m' h' msg (.ref a)
  | held {a l} : L = some l → ExcObj h m' h' a msg (.at (rawInt l)) → Exc L h m' h' msg (.ref a)
inductive Flies (h : Heap) (m' : MH) (h' : Heap) (msg : String) : Value → Prop where
  | fly {a} : ExcObj h m' h' a msg (.at .none) → Flies h m' h' msg (.ref a)
theorem ExcObj.back {h h₁ h' : Heap} {m' : MH} {a : Addr} {msg : String} {fl : Fl} (x : ExcObj h₁ m' h' a msg fl) (k : ∀ b, h₁.get? b = none → h.get? b = none) : ExcObj h m' h' a msg fl := by
  obtain ⟨dx, vs, sl, es, n, t, e1, e2, e3, e4, e5, e6, e7, e8⟩ := x
  refine ⟨dx, vs, sl, es, n, t, k _ e1, e2, k _ e3, e4, e5, e6, e7, ?_⟩
  cases fl with
  | new => exact e8
  | «at» v => obtain ⟨T, oT, ts, f1, f2, f3, f4, f5, f6, f7, f8⟩ := e8; exact ⟨T, oT, ts, f1, k _ f2, f3, f4, f5, f6, f7, f8⟩
theorem Exc.back {L : Option Addr} {h h₁ h' : Heap} {m' : MH} {e : Value} {msg : String} (x : Exc L h₁ m' h' msg e) (k : ∀ b, h₁.get? b = none → h.get? b = none) : Exc L h m' h' msg e := by
  cases x with
  | new x => exact .new (x.back k)
  | fly x => exact .fly (x.back k)
  | held l x => exact .held l (x.back k)
theorem Flies.back {h h₁ h' : Heap} {m' : MH} {e : Value} {msg : String} (x : Flies h₁ m' h' msg e) (k : ∀ b, h₁.get? b = none → h.get? b = none) : Flies h m' h' msg e := by
  cases x with
  | fly x => exact .fly (x.back k)

/-! ## what a tree does, told of plain data -/
/-- an end by an exception, behind the start (m, h) -/
inductive EE (X : Cx) (L : Option Addr) (m : MH) (h : Heap) (Ex : String → MH → Prop) (e : Value) (s' : Shared) : Prop
  | mk (msg : String) (m' : MH) (x : Exc L h m' s'.heap msg e) (r : Rel X m' s') (st : Step m h m' s'.heap) (q : Ex msg m')
/-- an end with a value -/
inductive TP {α β : Type} (X : Cx) (R : β → α → Prop) (m : MH) (h : Heap) (Q : β → MH → Prop) (v : α) (s' : Shared) : Prop
  | mk (b : β) (m' : MH) (r : R b v) (a : Rel X m' s') (st : Step m h m' s'.heap) (q : Q b m')
theorem EE.back {X : Cx} {L : Option Addr} {m m₁ : MH} {h h₁ : Heap} {Ex : String → MH → Prop} {e : Value} {s' : Shared} (st : Step m h m₁ h₁) (r : HR X m₁ h₁) (x : EE X L m₁ h₁ Ex e s') : EE X L m h Ex e s' :=
  by obtain ⟨msg, m', a, b, c, d⟩ := x; exact ⟨msg, m', a.back fun _ e => st.fresh r e, b, st.trans c, d⟩
noncomputable def Tri {α β : Type} (X : Cx) (n : Nat) (fe env : Env) (vars : Vars) (R : β → α → Prop) (t : Sem α) (m : MH) (Q : β → MH → Prop) (Ex : String → MH → Prop) : Prop :=
  ∀ A s, Pre X n A fe env vars m s → wpAny (md X) A t (TP X R m s.heap Q) (EE X env.frame m s.heap Ex) s
section
variable {α β γ δ : Type} {X : Cx} {n : Nat} {fe env : Env} {vars : Vars} {R : β → α → Prop} {R' : δ → γ → Prop} {m : MH} {Ex : String → MH → Prop}
theorem Tri.mono {t : Sem α} {Q Q' : β → MH → Prop} {Ex' : String → MH → Prop} (h : Tri X n fe env vars R t m Q Ex) (k : ∀ b m', Q b m' → Q' b m') (k' : ∀ b m', Ex b m' → Ex' b m') : Tri X n fe env vars R t m Q' Ex' := fun A s p =>
  wpAny_mono (h A s p) (fun v s' hz => by obtain ⟨b, m', r, a, st, q⟩ := hz; exact ⟨b, m', r, a, st, k b m' q⟩) fun e s' hz => by obtain ⟨msg, m', x, a, st, q⟩ := hz; exact ⟨msg, m', x, a, st, k' msg m' q⟩
theorem Tri.pure {v : α} {b : β} {Q : β → MH → Prop} (r : R b v) (q : Q b m) : Tri X n fe env vars R (Pure.pure v) m Q Ex := fun A s p => wpAny_pure ⟨b, m, r, p.rel, .refl .., q⟩
/-- the tree is run, behind a start that is further back -/
theorem Tri.go {m₀ : MH} {h₀ : Heap} {A : Around} {s : Shared} {t : Sem α} {K : α → Shared → Prop} {Q : β → MH → Prop} (h : Tri X n fe env vars R t m Q Ex) (p : Pre X n A fe env vars m s) (st : Step m₀ h₀ m s.heap)
    (k : ∀ b m' v s', R b v → Pre X n A fe env vars m' s' → Step m₀ h₀ m' s'.heap → Q b m' → K v s') : wpAny (md X) A t K (EE X env.frame m₀ h₀ Ex) s :=
  wpAny_mono (h A s p) (fun v s' hz => by obtain ⟨b, m', r, a, st', q⟩ := hz; exact k b m' v s' r (p.step a st') (st.trans st') q) fun e s' x => x.back st p.rel.hr
theorem Tri.bind {t : Sem α} {f : α → Sem γ} {Q : δ → MH → Prop} (h : Tri X n fe env vars R t m (fun b m₁ => ∀ v, R b v → Tri X n fe env vars R' (f v) m₁ Q Ex) Ex) : Tri X n fe env vars R' (t >>= f) m Q Ex := fun A s p =>
  wpAny_bind (h.go p (.refl ..) fun b m₁ v s₁ r p₁ st₁ h₁ => (h₁ v r).go p₁ st₁ fun c m₂ v₂ s₂ r₂ p₂ st₂ q => ⟨c, m₂, r₂, p₂.rel, st₂, q⟩)
theorem Tri.holding {vs : List Value} {t : Sem α} {Q : β → MH → Prop} (h : Tri X n fe env vars R t m Q Ex) : Tri X n fe env vars R (holding vs t) m Q Ex := fun A s p => wpAny_holding (h A s p)
theorem Tri.stand {pos : Pos} {f : Unit → Sem α} {Q : β → MH → Prop} (h : Tri X n fe env vars R (f ()) m Q Ex) : Tri X n fe env vars R (standAt pos >>= f) m Q Ex := fun A s p => wpAny_bind (wpAny_standAt (h A s p))
end

structure Glo (X : Cx) : Prop where
  K : (KK X.w.params).In X.h₀
  g : ∃ mg, X.h₀.Ns mainGlobals mg
  b : ∃ mb, X.h₀.Ns builtinsNs mb ∧ ∀ x : Str, x ≠ "__name__" → mb x = bootBuiltins x
  nolimit : X.h₀.NoLimit
theorem Glo.KK {X : Cx} (G : Glo X) {m : MH} {h : Heap} (r : HR X m h) : (KK X.w.params).In h := G.K.keeps r.base
theorem Glo.noLimit {X : Cx} (G : Glo X) {m : MH} {h : Heap} (r : HR X m h) : h.NoLimit := G.nolimit.keeps r.base

theorem ofString_inj {s t : String} : Str.ofString s = Str.ofString t → s = t := by
  intro h
  rw [Str.ofString_eq_byList] at h
  unfold Str.ofStringByList at h
  have h' := congrArg (fun x => x.cps.toList) h
  have inj : ∀ (a b : List Char), a.map Char.toNat = b.map Char.toNat → a = b := by
    intro a
    induction a with
    | nil => intro b e; cases b with
      | nil => rfl
      | cons _ _ => simp at e
    | cons x r ih => intro b e; cases b with
      | nil => simp at e
      | cons y q =>
        simp only [List.map_cons, List.cons.injEq] at e
        have : x = y := by
          have := e.1
          apply Char.ext
          unfold Char.toNat at this
          exact UInt32.toNat_inj.mp this
        rw [this, ih q e.2]
  have := inj _ _ (by simpa using h')
  exact String.toList_inj.mp this
noncomputable def okName (x : String) : Bool := !(S x == ("__debug__" : Str)) && !(S x == ("__classdict__" : Str))
theorem okName.debug {x : String} (h : okName x = true) : (S x == ("__debug__" : Str)) = false := by
  simp only [okName, Bool.and_eq_true, Bool.not_eq_true'] at h; exact h.1
theorem okName.cls {x : String} (h : okName x = true) : (S x == ("__classdict__" : Str)) = false := by
  simp only [okName, Bool.and_eq_true, Bool.not_eq_true'] at h; exact h.2

noncomputable abbrev TE (X : Cx) (n : Nat) (fe env : Env) (vars : Vars) (e : PySem.Expr) (m : MH) (Q : MV → MH → Prop) (Ex : String → MH → Prop) : Prop := Tri X n fe env vars VR (eval e env) m Q Ex
noncomputable abbrev TV (X : Cx) (n : Nat) (fe env : Env) (vars : Vars) (t : Sem Value) (m : MH) (Q : MV → MH → Prop) (Ex : String → MH → Prop) : Prop := Tri X n fe env vars VR t m Q Ex
/-- the test of an if -/
noncomputable abbrev TB (X : Cx) (n : Nat) (fe env : Env) (vars : Vars) (e : PySem.Expr) (m : MH) (Q : Bool → MH → Prop) (Ex : String → MH → Prop) : Prop := Tri X n fe env vars Eq (isTrue e env (eval e env)) m Q Ex
section
variable (X : Cx) (n : Nat) (fe env : Env) (vars : Vars)
noncomputable abbrev CmpQ (op : CmpOp) (a b : MV) (m : MH) (Q : MV → MH → Prop) (Ex : String → MH → Prop) : Prop := ∀ ra rb, VR a ra → VR b rb → TV X n fe env vars (compareOp op ra rb) m Q Ex
noncomputable abbrev CmpR (op : CmpOp) (a : MV) (Q : MV → MH → Prop) (Ex : String → MH → Prop) : MV → MH → Prop := fun b m => CmpQ X n fe env vars op a b m Q Ex
noncomputable abbrev CmpL (op : CmpOp) (r : PySem.Expr) (Q : MV → MH → Prop) (Ex : String → MH → Prop) : MV → MH → Prop := fun a m => TE X n fe env vars r m (CmpR X n fe env vars op a Q Ex) Ex
noncomputable abbrev BinQ (op : Operator) (a b : MV) (m : MH) (Q : MV → MH → Prop) (Ex : String → MH → Prop) : Prop := ∀ ra rb, VR a ra → VR b rb → TV X n fe env vars (binaryOp op ra rb) m Q Ex
noncomputable abbrev BinR (op : Operator) (a : MV) (Q : MV → MH → Prop) (Ex : String → MH → Prop) : MV → MH → Prop := fun b m => BinQ X n fe env vars op a b m Q Ex
noncomputable abbrev BinL (op : Operator) (r : PySem.Expr) (Q : MV → MH → Prop) (Ex : String → MH → Prop) : MV → MH → Prop := fun a m => TE X n fe env vars r m (BinR X n fe env vars op a Q Ex) Ex
noncomputable abbrev IfE (a b : PySem.Expr) (Q : MV → MH → Prop) (Ex : String → MH → Prop) : Bool → MH → Prop := fun c m => if c then TE X n fe env vars a m Q Ex else TE X n fe env vars b m Q Ex
end
section
variable {X : Cx} {n : Nat} {fe env : Env} {vars : Vars} {m : MH} {Q : MV → MH → Prop} {Ex : String → MH → Prop}
theorem ifE_pos {a b : PySem.Expr} {c : Bool} (h : c = true) (q : TE X n fe env vars a m Q Ex) : IfE X n fe env vars a b Q Ex c m := by subst h; exact q
theorem ifE_neg {a b : PySem.Expr} {c : Bool} (h : c = false) (q : TE X n fe env vars b m Q Ex) : IfE X n fe env vars a b Q Ex c m := by subst h; exact q
theorem te_none {k pos} (h : Q .none m) : TE X n fe env vars (.Constant .none k pos) m Q Ex := fun A s p => wpAny_Constant_none ⟨_, m, .none, p.rel, .refl .., h⟩
theorem te_bool {b k pos} (h : Q (.bool b) m) : TE X n fe env vars (.Constant (.bool b) k pos) m Q Ex := fun A s p => wpAny_Constant_bool ⟨_, m, .bool b, p.rel, .refl .., h⟩
theorem te_int {i k pos} (h : Q (.int i) m) : TE X n fe env vars (.Constant (.int i) k pos) m Q Ex := fun A s p => wpAny_Constant_int ⟨_, m, .int i _, p.rel.tok, .refl .., h⟩
theorem te_str {x k pos} (h : Q (.str x) m) : TE X n fe env vars (.Constant (.str (S x)) k pos) m Q Ex := fun A s p => Constant_str ⟨_, m, .str x _, p.rel.tok, .refl .., h⟩
theorem te_var {x v pos} (hd : okName x = true) (e : vars.lookup x = some v) (h : Q v m) : TE X n fe env vars (.Name (S x) pos) m Q Ex := fun A s p => by
  refine wpAny_Name ?_ (okName.debug hd)
  obtain ⟨ml, hn, hl⟩ := p.env.ns
  rcases p.env.cell x v e with hk | ⟨hk, c, rv, hc, hi, r⟩
  · obtain ⟨rv, hv, r⟩ := hl x v e hk
    exact wpAny_loadName_local p.env.kind hk hn hv ⟨v, m, r, p.rel, .refl .., h⟩
  · rcases hk with hk | hk
    · exact wpAny_loadName_cell p.env.kind hk hc hi ⟨v, m, r, p.rel, .refl .., h⟩
    · exact wpAny_loadName_free p.env.kind hk hc hi ⟨v, m, r, p.rel, .refl .., h⟩ (okName.cls hd)

theorem te_bin {l op r pos} (h : TE X n fe env vars l m (BinL X n fe env vars op r Q Ex) Ex) : TE X n fe env vars (.BinOp l op r pos) m Q Ex := fun A s p =>
  wpAny_BinOp (h.go p (.refl ..) fun a m₁ ra s₁ r₁ p₁ st₁ h₁ => h₁.go p₁ st₁ fun b m₂ rb s₂ r₂ p₂ st₂ h₂ => (h₂ ra rb r₁ r₂).go p₂ st₂ fun c m₃ rc s₃ r₃ p₃ st₃ q => ⟨c, m₃, r₃, p₃.rel, st₃, q⟩)
theorem te_cmp {l op r pos} (hm : behindInMarks op r = false) (h : TE X n fe env vars l m (CmpL X n fe env vars op r Q Ex) Ex) :
    TE X n fe env vars (.Compare l [op] [r] pos) m Q Ex := fun A s p =>
  wpAny_Compare1 (h.go p (.refl ..) fun a m₁ ra s₁ r₁ p₁ st₁ h₁ => h₁.go p₁ st₁ fun b m₂ rb s₂ r₂ p₂ st₂ h₂ => (h₂ ra rb r₁ r₂).go p₂ st₂ fun c m₃ rc s₃ r₃ p₃ st₃ q => ⟨c, m₃, r₃, p₃.rel, st₃, q⟩) hm
theorem te_ifexp {t a b pos} (h : TB X n fe env vars t m (IfE X n fe env vars a b Q Ex) Ex) : TE X n fe env vars (.IfExp t a b pos) m Q Ex := fun A s p =>
  wpAny_IfExp (h.go p (.refl ..) fun c m₁ rc s₁ r₁ p₁ st₁ h₁ => by
    subst r₁
    cases c
    · exact Tri.go h₁ p₁ st₁ fun c m₃ rc s₃ r₃ p₃ st₃ q => ⟨c, m₃, r₃, p₃.rel, st₃, q⟩
    · exact Tri.go h₁ p₁ st₁ fun c m₃ rc s₃ r₃ p₃ st₃ q => ⟨c, m₃, r₃, p₃.rel, st₃, q⟩)

/-! ### whole numbers -/
variable {a b : Int}
theorem bin_add (h : Q (.int (a + b)) m) : BinQ X n fe env vars .Add (.int a) (.int b) m Q Ex := fun ra rb ha hb A s p => by
  obtain ⟨_, rfl⟩ := ha.intE; obtain ⟨_, rfl⟩ := hb.intE; exact P.add_int ⟨_, m, .int _ _, p.rel.tok, .refl .., h⟩
theorem bin_sub (h : Q (.int (a - b)) m) : BinQ X n fe env vars .Sub (.int a) (.int b) m Q Ex := fun ra rb ha hb A s p => by
  obtain ⟨_, rfl⟩ := ha.intE; obtain ⟨_, rfl⟩ := hb.intE; exact P.sub_int ⟨_, m, .int _ _, p.rel.tok, .refl .., h⟩
theorem bin_mod (hz : b ≠ 0) (h : Q (.int (a.fmod b)) m) : BinQ X n fe env vars .Mod (.int a) (.int b) m Q Ex := fun ra rb ha hb A s p => by
  obtain ⟨_, rfl⟩ := ha.intE; obtain ⟨_, rfl⟩ := hb.intE; exact mod_int' hz ⟨_, m, .int _ _, p.rel.tok, .refl .., h⟩
theorem bin_div997 (h : Q (.int (a.fdiv 997)) m) : BinQ X n fe env vars .FloorDiv (.int a) (.int 997) m Q Ex := fun ra rb ha hb A s p => by
  obtain ⟨_, rfl⟩ := ha.intE; obtain ⟨_, rfl⟩ := hb.intE; exact floordiv_int (by decide) ⟨_, m, .int _ _, p.rel.tok, .refl .., h⟩
theorem cmp_eqI (h : Q (.bool (a == b)) m) : CmpQ X n fe env vars .Eq (.int a) (.int b) m Q Ex := fun ra rb ha hb A s p => by
  obtain ⟨_, rfl⟩ := ha.intE; obtain ⟨_, rfl⟩ := hb.intE; exact P.eq_int ⟨_, m, .bool _, p.rel, .refl .., h⟩
theorem cmp_ltI (h : Q (.bool (decide (a < b))) m) : CmpQ X n fe env vars .Lt (.int a) (.int b) m Q Ex := fun ra rb ha hb A s p => by
  obtain ⟨_, rfl⟩ := ha.intE; obtain ⟨_, rfl⟩ := hb.intE; exact P.lt_int ⟨_, m, .bool _, p.rel, .refl .., h⟩
theorem cmp_leI (h : Q (.bool (decide (a ≤ b))) m) : CmpQ X n fe env vars .LtE (.int a) (.int b) m Q Ex := fun ra rb ha hb A s p => by
  obtain ⟨_, rfl⟩ := ha.intE; obtain ⟨_, rfl⟩ := hb.intE; exact P.le_int ⟨_, m, .bool _, p.rel, .refl .., h⟩
theorem cmp_gtI (h : Q (.bool (decide (a > b))) m) : CmpQ X n fe env vars .Gt (.int a) (.int b) m Q Ex := fun ra rb ha hb A s p => by
  obtain ⟨_, rfl⟩ := ha.intE; obtain ⟨_, rfl⟩ := hb.intE; exact P.gt_int ⟨_, m, .bool _, p.rel, .refl .., h⟩
theorem cmp_geI (h : Q (.bool (decide (a ≥ b))) m) : CmpQ X n fe env vars .GtE (.int a) (.int b) m Q Ex := fun ra rb ha hb A s p => by
  obtain ⟨_, rfl⟩ := ha.intE; obtain ⟨_, rfl⟩ := hb.intE; exact P.ge_int ⟨_, m, .bool _, p.rel, .refl .., h⟩
/-! ### texts -/
theorem str_beq (x y : String) : ((S x).cps.toList == (S y).cps.toList) = decide (x = y) := by
  by_cases h : x = y
  · subst h; simp
  · have : (S x).cps.toList ≠ (S y).cps.toList := fun e => h (ofString_inj (by
      have : (S x).cps = (S y).cps := Array.toList_inj.mp e
      show S x = S y
      cases hx : S x; cases hy : S y
      rw [hx, hy] at this
      exact congrArg Str.mk this))
    rw [decide_eq_false h]; exact beq_eq_false_iff_ne.mpr this
theorem cmp_eqS {x y : String} (h : Q (.bool (decide (x = y))) m) : CmpQ X n fe env vars .Eq (.str x) (.str y) m Q Ex := fun ra rb ha hb A s p => by
  obtain ⟨_, rfl⟩ := ha.strE; obtain ⟨_, rfl⟩ := hb.strE; exact P.eq_str ⟨_, m, .bool _, p.rel, .refl .., by rw [str_beq]; exact h⟩
theorem cmp_neS {x y : String} (h : Q (.bool (!decide (x = y))) m) : CmpQ X n fe env vars .NotEq (.str x) (.str y) m Q Ex := fun ra rb ha hb A s p => by
  obtain ⟨_, rfl⟩ := ha.strE; obtain ⟨_, rfl⟩ := hb.strE; exact P.ne_str ⟨_, m, .bool _, p.rel, .refl .., by rw [bne, str_beq]; exact h⟩
end

section
variable {X : Cx} {n : Nat} {fe env : Env} {vars : Vars} {m : MH} {Q : MV → MH → Prop} {QB : Bool → MH → Prop} {Ex : String → MH → Prop}

/-! ### tests -/
noncomputable abbrev IsB (QB : Bool → MH → Prop) : MV → MH → Prop := fun c m => ∃ d, c = .bool d ∧ QB d m
theorem isB {d : Bool} (q : QB d m) : IsB QB (.bool d) m := ⟨d, rfl, q⟩
noncomputable abbrev NotB (QB : Bool → MH → Prop) : Bool → MH → Prop := fun b m => QB (!b) m
noncomputable abbrev NotV (Q : MV → MH → Prop) : MV → MH → Prop := fun c m => ∃ d, c = .bool d ∧ Q (.bool (!d)) m
theorem notV {d : Bool} (q : Q (.bool (!d)) m) : NotV Q (.bool d) m := ⟨d, rfl, q⟩
theorem tb_cmp {l op r pos} (hm : behindInMarks op r = false) (h : TE X n fe env vars l m (CmpL X n fe env vars op r (IsB QB) Ex) Ex) :
    TB X n fe env vars (.Compare l [op] [r] pos) m QB Ex := fun A s p =>
  wpAny_isTrue_Compare1 (h.go p (.refl ..) fun a m₁ ra s₁ r₁ p₁ st₁ h₁ => h₁.go p₁ st₁ fun b m₂ rb s₂ r₂ p₂ st₂ h₂ => (h₂ ra rb r₁ r₂).go p₂ st₂ fun c m₃ rc s₃ r₃ p₃ st₃ q => by
    obtain ⟨d, rfl, q⟩ := q
    first | obtain rfl := r₃.refE | obtain rfl := r₃.boolE | cases r₃
    exact wpAny_truthy_bool ⟨d, m₃, rfl, p₃.rel, st₃, q⟩) hm
theorem tb_not {x pos} (h : TB X n fe env vars x m (NotB QB) Ex) : TB X n fe env vars (.UnaryOp .Not x pos) m QB Ex := fun A s p =>
  wpAny_isTrue_Not (h.go p (.refl ..) fun b m₁ rb s₁ r₁ p₁ st₁ q => by subst r₁; exact ⟨_, m₁, rfl, p₁.rel, st₁, q⟩)
theorem tb_value {e} (he : ∀ t, isTrue e env t = (do let v ← t; standAt e.pos; holding [v] (truthy v))) (h : TE X n fe env vars e m (IsB QB) Ex) : TB X n fe env vars e m QB Ex := fun A s p =>
  wpAny_isTrue_value (h.go p (.refl ..) fun c m₁ rc s₁ r₁ p₁ st₁ q => by
    obtain ⟨d, rfl, q⟩ := q
    first | obtain rfl := r₁.refE | obtain rfl := r₁.boolE | cases r₁
    exact wpAny_truthy_bool ⟨d, m₁, rfl, p₁.rel, st₁, q⟩) (he _)
noncomputable abbrev TA (X : Cx) (n : Nat) (fe env : Env) (vars : Vars) (op : BoolOp) (es : List PySem.Expr) (m : MH) (Q : Bool → MH → Prop) (Ex : String → MH → Prop) : Prop := Tri X n fe env vars Eq (allTrue op es env) m Q Ex
noncomputable abbrev AndB (X : Cx) (n : Nat) (fe env : Env) (vars : Vars) (rest : List PySem.Expr) (QB : Bool → MH → Prop) (Ex : String → MH → Prop) : Bool → MH → Prop := fun b m => if b then TA X n fe env vars .And rest m QB Ex else QB false m
noncomputable abbrev OrB (X : Cx) (n : Nat) (fe env : Env) (vars : Vars) (rest : List PySem.Expr) (QB : Bool → MH → Prop) (Ex : String → MH → Prop) : Bool → MH → Prop := fun b m => if b then QB true m else TA X n fe env vars .Or rest m QB Ex
theorem andB_pos {rest : List PySem.Expr} {c : Bool} (h : c = true) (q : TA X n fe env vars .And rest m QB Ex) : AndB X n fe env vars rest QB Ex c m := by subst h; exact q
theorem andB_neg {rest : List PySem.Expr} {c : Bool} (h : c = false) (q : QB false m) : AndB X n fe env vars rest QB Ex c m := by subst h; exact q
theorem orB_pos {rest : List PySem.Expr} {c : Bool} (h : c = true) (q : QB true m) : OrB X n fe env vars rest QB Ex c m := by subst h; exact q
theorem orB_neg {rest : List PySem.Expr} {c : Bool} (h : c = false) (q : TA X n fe env vars .Or rest m QB Ex) : OrB X n fe env vars rest QB Ex c m := by subst h; exact q
theorem tb_boolop {op es pos} (h : TA X n fe env vars op es m QB Ex) : TB X n fe env vars (.BoolOp op es pos) m QB Ex := fun A s p => wpAny_isTrue_BoolOp (h A s p)
theorem ta_and_nil (h : QB true m) : TA X n fe env vars .And [] m QB Ex := fun A s p => wpAny_allTrue_And_nil ⟨_, m, rfl, p.rel, .refl .., h⟩
theorem ta_or_nil (h : QB false m) : TA X n fe env vars .Or [] m QB Ex := fun A s p => wpAny_allTrue_Or_nil ⟨_, m, rfl, p.rel, .refl .., h⟩
theorem ta_and_cons {x rest} (h : TB X n fe env vars x m (AndB X n fe env vars rest QB Ex) Ex) : TA X n fe env vars .And (x :: rest) m QB Ex := fun A s p =>
  wpAny_allTrue_And_cons (h.go p (.refl ..) fun b m₁ rb s₁ r₁ p₁ st₁ q => by
    subst r₁
    cases b
    · exact ⟨false, m₁, rfl, p₁.rel, st₁, q⟩
    · exact Tri.go q p₁ st₁ fun c m₃ rc s₃ r₃ p₃ st₃ q => ⟨c, m₃, r₃, p₃.rel, st₃, q⟩)
theorem ta_or_cons {x rest} (h : TB X n fe env vars x m (OrB X n fe env vars rest QB Ex) Ex) : TA X n fe env vars .Or (x :: rest) m QB Ex := fun A s p =>
  wpAny_allTrue_Or_cons (h.go p (.refl ..) fun b m₁ rb s₁ r₁ p₁ st₁ q => by
    subst r₁
    cases b
    · exact Tri.go q p₁ st₁ fun c m₃ rc s₃ r₃ p₃ st₃ q => ⟨c, m₃, r₃, p₃.rel, st₃, q⟩
    · exact ⟨true, m₁, rfl, p₁.rel, st₁, q⟩)

/-! ### values of tests -/
theorem te_not {x pos} (h : TE X n fe env vars x m (NotV Q) Ex) : TE X n fe env vars (.UnaryOp .Not x pos) m Q Ex := fun A s p =>
  wpAny_UnaryOp (h.go p (.refl ..) fun c m₁ rc s₁ r₁ p₁ st₁ q => by
    obtain ⟨d, rfl, q⟩ := q
    first | obtain rfl := r₁.refE | obtain rfl := r₁.boolE | cases r₁
    exact not_of (wpAny_truthy_bool ⟨_, m₁, .bool _, p₁.rel, st₁, q⟩))
/-- values joined by and, or: truths each -/
noncomputable def TBs (X : Cx) (n : Nat) (fe env : Env) (vars : Vars) (op : BoolOp) (es : List PySem.Expr) (m : MH) (Q : MV → MH → Prop) (Ex : String → MH → Prop) : Prop := ∀ pos, Tri X n fe env vars VR (boolOp pos op (evalEach es env)) m Q Ex
theorem te_boolop {op es pos} (h : TBs X n fe env vars op es m Q Ex) : TE X n fe env vars (.BoolOp op es pos) m Q Ex := h pos
theorem tbs_one {op e} (h : TE X n fe env vars e m Q Ex) : TBs X n fe env vars op [e] m Q Ex := fun pos => h
noncomputable abbrev AndV (X : Cx) (n : Nat) (fe env : Env) (vars : Vars) (rest : List PySem.Expr) (Q : MV → MH → Prop) (Ex : String → MH → Prop) : Bool → MH → Prop := fun d m => if d then TBs X n fe env vars .And rest m Q Ex else Q (.bool false) m
theorem andV_pos {rest : List PySem.Expr} {c : Bool} (h : c = true) (q : TBs X n fe env vars .And rest m Q Ex) : AndV X n fe env vars rest Q Ex c m := by subst h; exact q
theorem andV_neg {rest : List PySem.Expr} {c : Bool} (h : c = false) (q : Q (.bool false) m) : AndV X n fe env vars rest Q Ex c m := by subst h; exact q
theorem tbs_and {e e' rest} (h : TE X n fe env vars e m (IsB (AndV X n fe env vars (e' :: rest) Q Ex)) Ex) : TBs X n fe env vars .And (e :: e' :: rest) m Q Ex := fun pos A s p => by
  show wpAny _ _ (do
    let v ← eval e env
    standAt pos
    let t ← holding [v] (truthy v)
    match BoolOp.And, t with
    | .And, false | .Or, true => pure v
    | _, _ => boolOp pos .And (evalEach (e' :: rest) env)) _ _ _
  refine wpAny_bind (h.go p (.refl ..) fun c m₁ rc s₁ r₁ p₁ st₁ q => ?_)
  obtain ⟨d, rfl, q⟩ := q
  first | obtain rfl := r₁.refE | obtain rfl := r₁.boolE | cases r₁
  refine wpAny_bind (wpAny_standAt (wpAny_bind (wpAny_holding (wpAny_truthy_bool ?_))))
  cases d
  · exact wpAny_pure ⟨_, m₁, .bool _, p₁.rel, st₁, q⟩
  · exact Tri.go (q pos) p₁ st₁ fun c m₃ rc s₃ r₃ p₃ st₃ q => ⟨c, m₃, r₃, p₃.rel, st₃, q⟩

/-! ### is None -/
noncomputable def isNoneM : MV → Bool | .none => true | _ => false
theorem vr_none {a : MV} {ra : Value} (h : VR a ra) : (ra == Value.none) = isNoneM a := by cases h <;> rfl
theorem cmp_isNone {a : MV} (h : Q (.bool (isNoneM a)) m) : CmpQ X n fe env vars .Is a .none m Q Ex := fun ra rb ha hb A s p => by
  first | obtain rfl := hb.refE | obtain rfl := hb.boolE | cases hb
  exact wpAny_is_plain (by cases ha <;> rfl) ⟨_, m, .bool _, p.rel, .refl .., by rw [vr_none ha]; exact h⟩
theorem cmp_isNotNone {a : MV} (h : Q (.bool (!isNoneM a)) m) : CmpQ X n fe env vars .IsNot a .none m Q Ex := fun ra rb ha hb A s p => by
  first | obtain rfl := hb.refE | obtain rfl := hb.boolE | cases hb
  refine wpAny_isNot_plain (by cases ha <;> rfl) ⟨_, m, .bool _, p.rel, .refl .., ?_⟩
  rw [vr_none ha]; exact h

/-! ### new lists and tuples -/
theorem sizeLine_big {k : Nat} (h : k ≤ 1000000) : k ≤ sizeLine := by unfold sizeLine; lia
theorem tv_newList {xs : List MV} {vs : List Value} (hl : xs.length ≤ 1000000) (hv : VRs xs vs) (h : ∀ a, m a = none → Q (.ref a) (m.set a (.list xs))) : TV X n fe env vars (newList vs) m Q Ex := fun A s p => by
  refine wpAny_newList ?_ (by rw [← hv.length]; exact sizeLine_big hl)
  obtain ⟨a, b⟩ := p.rel.hr.lay (h' := s.heap.push (listO vs 0)) (o := .list xs) (Heap.get?_none_of_le (Nat.le_refl _)) (fun _ _ e => Heap.get?_push_of_some _ e) ⟨vs, 0, Heap.get?_push_size _ rfl, hv⟩ (fun _ _ _ z => by cases z) rfl
  exact ⟨_, _, .ref _, ⟨a, p.rel.gens, p.rel.os⟩, b _, h _ p.rel.hr.freshM⟩
theorem tv_newTuple {xs : List MV} {vs : List Value} (hl : xs.length ≤ 1000000) (hv : VRs xs vs) (h : ∀ a, m a = none → Q (.ref a) (m.set a (.tup xs))) : TV X n fe env vars (newTuple vs) m Q Ex := fun A s p => by
  refine wpAny_newTuple ?_ (by rw [← hv.length]; exact sizeLine_big hl)
  obtain ⟨a, b⟩ := p.rel.hr.lay (h' := s.heap.push (tupO vs 0)) (o := .tup xs) (Heap.get?_none_of_le (Nat.le_refl _)) (fun _ _ e => Heap.get?_push_of_some _ e) ⟨vs, 0, Heap.get?_push_size _ rfl, hv⟩ (fun _ _ _ z => by cases z) rfl
  exact ⟨_, _, .ref _, ⟨a, p.rel.gens, p.rel.os⟩, b _, h _ p.rel.hr.freshM⟩
/-- places of a display, arguments of a call -/
noncomputable abbrev TEs (X : Cx) (n : Nat) (fe env : Env) (vars : Vars) (pos : Pos) (es : List PySem.Expr) (m : MH) (Q : List MV → MH → Prop) (Ex : String → MH → Prop) : Prop := Tri X n fe env vars VRs (spliced (backTo pos (starEach es env))) m Q Ex
noncomputable def noStar : PySem.Expr → Bool
  | .Starred .. => false
  | _ => true
noncomputable abbrev ConsQ (Q : List MV → MH → Prop) (v : MV) : List MV → MH → Prop := fun vs m => Q (v :: vs) m
noncomputable abbrev TesC (X : Cx) (n : Nat) (fe env : Env) (vars : Vars) (pos : Pos) (rest : List PySem.Expr) (Q : List MV → MH → Prop) (Ex : String → MH → Prop) : MV → MH → Prop := fun v m => TEs X n fe env vars pos rest m (ConsQ Q v) Ex
theorem tes_nil {pos} {Q : List MV → MH → Prop} (h : Q [] m) : TEs X n fe env vars pos [] m Q Ex := fun A s p => spliced_nil ⟨[], m, .nil, p.rel, .refl .., h⟩
theorem tes_cons {pos e rest} {Q : List MV → MH → Prop} (hs : noStar e = true) (h : TE X n fe env vars e m (TesC X n fe env vars pos rest Q Ex) Ex) : TEs X n fe env vars pos (e :: rest) m Q Ex := fun A s p => by
  have e1 : backTo pos (starEach (e :: rest) env) = (false, eval e env) :: backTo pos (starEach rest env) := by
    cases e <;> first | rfl | (cases hs)
  rw [e1]
  exact spliced_cons (h.go p (.refl ..) fun v m₁ rv s₁ r₁ p₁ st₁ q => q.go p₁ st₁ fun vs m₂ rvs s₂ r₂ p₂ st₂ q => ⟨_, m₂, .cons r₁ r₂, p₂.rel, st₂, q⟩)
theorem te_list {es pos} (h : TEs X n fe env vars pos es m (fun xs m₁ => xs.length ≤ 1000000 ∧ ∀ a, m₁ a = none → Q (.ref a) (m₁.set a (.list xs))) Ex) : TE X n fe env vars (.List es pos) m Q Ex :=
  Tri.stand (Tri.bind (h.mono (fun xs m₁ q vs hv => tv_newList q.1 hv q.2) fun _ _ z => z))
theorem te_tuple {es k pos} (h : TEs X n fe env vars pos es m (fun xs m₁ => xs.length ≤ 1000000 ∧ ∀ a, m₁ a = none → Q (.ref a) (m₁.set a (.tup xs))) Ex) : TE X n fe env vars (.Tuple es k pos) m Q Ex :=
  Tri.stand (Tri.bind (h.mono (fun xs m₁ q vs hv => tv_newTuple q.1 hv q.2) fun _ _ z => z))
end

/-! ### what is read at a place -/
noncomputable def getM (m : MH) : MV → MV → Option MV
  | .ref l, .int i => match m l with
    | some (.list xs) => if 0 ≤ i ∧ i < 2 ^ 31 then xs[i.toNat]? else none
    | some (.tup xs) => if 0 ≤ i ∧ i < 2 ^ 31 then xs[i.toNat]? else none
    | _ => none
  | .ref l, .str k => match m l with
    | some (.sd es) => es.lookup k
    | _ => none
  | _, _ => none

theorem lookup_All2 {es : List (String × MV)} {kvs : List (Str × Value)} (h : All2 SR es kvs) {k : String} : ∀ {v : MV}, es.lookup k = some v → ∃ rv, valueAt kvs (S k) = some rv ∧ VR v rv := by
  induction h with
  | nil => intro v e; simp at e
  | @cons a b as bs r _ ih =>
    intro v e
    obtain ⟨ka, va⟩ := a
    obtain ⟨kb, vb⟩ := b
    obtain ⟨r1, r2⟩ := r
    dsimp only at r1 r2
    subst r1
    by_cases q : k = ka
    · subst q
      simp at e
      subst e
      exact ⟨vb, by simp [valueAt], r2⟩
    · have q' : (k == ka) = false := by simpa using q
      rw [List.lookup_cons, q'] at e
      obtain ⟨rv, e1, e2⟩ := ih e
      refine ⟨rv, ?_, e2⟩
      have ne : ¬ (Str.ofString ka = S k) := fun z => q (ofString_inj z).symm
      simpa [valueAt, List.find?_cons, ne] using e1
theorem lookup_All2_none {es : List (String × MV)} {kvs : List (Str × Value)} (h : All2 SR es kvs) {k : String} : es.lookup k = none → valueAt kvs (S k) = none := by
  induction h with
  | nil => intro e; rfl
  | @cons a b as bs r _ ih =>
    intro e
    obtain ⟨ka, va⟩ := a
    obtain ⟨kb, vb⟩ := b
    obtain ⟨r1, r2⟩ := r
    dsimp only at r1 r2
    subst r1
    by_cases q : k = ka
    · subst q; simp at e
    · have q' : (k == ka) = false := by simpa using q
      rw [List.lookup_cons, q'] at e
      have ne : ¬ (Str.ofString ka = S k) := fun z => q (ofString_inj z).symm
      simpa [valueAt, List.find?_cons, ne] using ih e

noncomputable def noSlice : PySem.Expr → Bool
  | .Slice .. => false
  | _ => true
theorem subscripted_plain {slice : PySem.Expr} (h : noSlice slice = true) (o i : Value) : subscripted slice false o i = operate [o, i] (getItem o i) := by
  cases slice <;> first | rfl | cases h
theorem getM_list {xs : List MV} {vs : List Value} (hv : VRs xs vs) {i : Int} {v : MV} (h : (if 0 ≤ i ∧ i < 2 ^ 31 then xs[i.toNat]? else none) = some v) : 0 ≤ i ∧ i < 2 ^ 31 ∧ ∃ rv, vs[i.toNat]? = some rv ∧ VR v rv := by
  split at h
  · rename_i q; exact ⟨q.1, q.2, hv.get h⟩
  · cases h
theorem isStrKey {p : Program} {w : World} (k : Str) (t : Tok) : (PySem.strKind p w).is k (.str k t) = true := by
  show Value.isStrOf k (.str k t) = true
  simp [Value.isStrOf]
theorem isIntKey {p : Program} {w : World} (k : Int) (t : Tok) : (PySem.intKind p w).is k (.int k t) = true := by
  show Value.isInt k (.int k t) = true
  simp [Value.isInt]
section
variable {X : Cx} {n : Nat} {fe env : Env} {vars : Vars} {m : MH} {Q : MV → MH → Prop} {Ex : String → MH → Prop}

theorem seqIndex_nat {i : Int} {k : Nat} (h0 : 0 ≤ i) (h : i.toNat < k) : seqIndex? i k = some i.toNat := by
  unfold seqIndex?
  have h1 : ¬ (i < 0) := by lia
  have h2 : (decide (0 ≤ i) && decide (i < (k : Int))) = true := by
    rw [Bool.and_eq_true, decide_eq_true_eq, decide_eq_true_eq]; lia
  simp only [h1, if_false, h2, if_true]

theorem tv_tail {value slice : PySem.Expr} (G : Glo X) (hs : noSlice slice = true) {a b v : MV} (e : getM m a b = some v) (q : Q v m) {ra rb : Value} (ha : VR a ra) (hb : VR b rb) :
    TV X n fe env vars (subscriptTail value slice ra rb) m Q Ex := fun A s p => by
  unfold getM at e
  split at e
  · rename_i l i
    obtain rfl := ha.refE; obtain ⟨tk, rfl⟩ := hb.intE
    split at e
    · rename_i xs hm
      obtain ⟨vs, k, ho, hv⟩ := p.rel.hr.obj l _ hm
      obtain ⟨h0, h1, rv, hrv, r⟩ := getM_list hv e
      have hl : s.heap.IsList l ⟨vs⟩ := ⟨_, ho, rfl, k, rfl⟩
      exact tail_any hl.typeIs slot_list_getitem.lookup (wpAny_getItem_list hl h0 (by lia) (by simpa using hrv) ⟨v, m, r, p.rel, .refl .., q⟩) (subscripted_plain hs _ _)
    · rename_i xs hm
      obtain ⟨vs, k, ho, hv⟩ := p.rel.hr.obj l _ hm
      obtain ⟨h0, h1, rv, hrv, r⟩ := getM_list hv e
      have hl : IsTup s.heap l ⟨vs⟩ := ⟨_, ho, rfl, k, rfl⟩
      have hlen : i.toNat < vs.length := (List.getElem?_eq_some_iff.mp hrv).1
      exact tail_any hl.typeIs slot_tuple_getitem.lookup (PyProof.Rows.getItem_tuple hl (by lia) (by lia) (seqIndex_nat h0 (by simpa using hlen)) (by simpa using hrv) ⟨v, m, r, p.rel, .refl .., q⟩) (subscripted_plain hs _ _)
    · cases e
  · rename_i l k
    obtain rfl := ha.refE; obtain ⟨tk, rfl⟩ := hb.strE
    split at e
    · rename_i es hm
      obtain ⟨kvs, hd, hv⟩ := p.rel.hr.obj l _ hm
      obtain ⟨rv, hrv, r⟩ := lookup_All2 hv e
      exact tail_any hd.typeIs slot_dict_getitem.lookup (wpAny_getItem_of (knd := PySem.strKind pw X.w) (k := S k) (isStrKey _ _) hd.mapOf hrv ⟨v, m, r, p.rel.tok, .refl .., q⟩) (subscripted_plain hs _ _)
    · cases e
  · cases e
noncomputable abbrev SubR (a : MV) (Q : MV → MH → Prop) : MV → MH → Prop := fun b m => ∃ v, getM m a b = some v ∧ Q v m
noncomputable abbrev SubL (X : Cx) (n : Nat) (fe env : Env) (vars : Vars) (slice : PySem.Expr) (Q : MV → MH → Prop) (Ex : String → MH → Prop) : MV → MH → Prop := fun a m => TE X n fe env vars slice m (SubR a Q) Ex
theorem subR {a b v : MV} (e : getM m a b = some v) (q : Q v m) : SubR a Q b m := ⟨v, e, q⟩
theorem te_sub {value slice pos} (G : Glo X) (hs : noSlice slice = true) (h : TE X n fe env vars value m (SubL X n fe env vars slice Q Ex) Ex) : TE X n fe env vars (.Subscript value slice pos) m Q Ex := fun A s p =>
  Subscript_ (h.go p (.refl ..) fun a m₁ ra s₁ r₁ p₁ st₁ h₁ => h₁.go p₁ st₁ fun b m₂ rb s₂ r₂ p₂ st₂ hz => by obtain ⟨v, e, q⟩ := hz; exact (tv_tail G hs e q r₁ r₂).go p₂ st₂ fun c m₃ rc s₃ r₃ p₃ st₃ q => ⟨c, m₃, r₃, p₃.rel, st₃, q⟩)

/-! ### attributes -/
noncomputable def attrM (m : MH) (a : MV) (k : String) : Option MV := match a with
  | .ref x => match m x with
    | some (.inst _ _ as) => as.lookup k
    | _ => none
  | _ => none
noncomputable abbrev cNull : Addr := 63
noncomputable abbrev cVector : Addr := 92
/-- the classes and the attributes that the walk reads -/
noncomputable def clsOk (c : Addr) : Bool := c == cNull || c == cVector
noncomputable def atOk (k : String) : Bool := ["kind", "items", "attrs", "shared", "loose"].contains k
theorem cls_facts (P : Params) : ∀ c, clsOk c = true → plainGet (KK P) c "kind" = true ∧ hasDictIn (KK P) c = true ∧ findIn (KK P) (.ref c) "__setattr__" = some (some (.builtin "object.__setattr__")) ∧ plainOver (KK P) c = true := by
  intro c h
  simp only [clsOk, Bool.or_eq_true, beq_iff_eq] at h
  rcases h with rfl | rfl
  · exact ⟨by kernel_rfl, by kernel_rfl, by kernel_rfl, by kernel_rfl⟩
  · exact ⟨by kernel_rfl, by kernel_rfl, by kernel_rfl, by kernel_rfl⟩
theorem at_facts (P : Params) : ∀ c k, clsOk c = true → atOk k = true → findIn (KK P) (.ref c) (S k) = some none ∧ takerIn (KK P) c (S k) = some none := by
  intro c k h hk
  simp only [clsOk, Bool.or_eq_true, beq_iff_eq] at h
  simp only [atOk, List.contains_cons, List.contains_nil, Bool.or_false, Bool.or_eq_true, beq_iff_eq] at hk
  rcases h with rfl | rfl <;> rcases hk with rfl | rfl | rfl | rfl | rfl <;> exact ⟨by kernel_rfl, by kernel_rfl⟩
theorem getL_of_ns {h : Heap} {d : Addr} {ml : Str → Option Value} (x : h.Ns d ml) (name : Str) : ∃ od, h.get? d = some od ∧ lookIn name od = some (ml name) := by
  obtain ⟨o, es, ep, ho, hd, hk, hf⟩ := x
  refine ⟨o, ho, ?_⟩
  unfold lookIn
  rw [hd]
  dsimp only
  have := hf name
  unfold nsFind findBy at this
  rw [← Array.find?_toList] at this
  cases q : List.find? (fun e => e.key.isStr name) es.toList with
  | some e => rw [q] at this; simp only [Option.map_some] at this; exact congrArg some this
  | none =>
    rw [q] at this; simp only [Option.map_none] at this
    have nr : es.toList.any (·.refKey) = false := by
      rw [List.any_eq_false]; intro e he; obtain ⟨n, t, hkey⟩ := hk e (by simpa using he); simp [DictEntry.refKey, hkey]
    simp only [nr, Bool.false_eq_true, if_false]; exact congrArg some this
theorem VR.handed {a : MV} {ra : Value} (h : VR a ra) : handedIn ra = true := by cases h <;> rfl
theorem instAt_of {h : Heap} {x c dx : Addr} {as : List (String × MV)} {X : Cx} (o : OR X h x (.inst c dx as)) : ∃ od, h.get? dx = some od ∧ InstAt h x (instObj c dx) c (some od) := by
  obtain ⟨hx, ml, hn, _⟩ := o
  obtain ⟨od, e⟩ := ns_live hn
  exact ⟨od, e, hx, rfl, rfl, e⟩
theorem tv_attr (G : Glo X) {k : String} (hk : atOk k = true) {a v : MV} (hc : ∀ x c dx as, a = .ref x → m x = some (.inst c dx as) → clsOk c = true) (e : attrM m a k = some v) (q : Q v m) {ra : Value} (ha : VR a ra) :
    TV X n fe env vars (getAttr ra (S k) true) m Q Ex := fun A s p => by
  unfold attrM at e
  split at e
  · rename_i x
    split at e
    · rename_i c dx as hm
      first | obtain rfl := ha.refE | obtain rfl := ha.boolE | cases ha
      have hcl := hc x c dx as rfl hm
      obtain ⟨f1, f2, f3, f4⟩ := cls_facts X.w.params c hcl
      obtain ⟨g1, g2⟩ := at_facts X.w.params c k hcl hk
      have o := p.rel.hr.obj x _ hm
      obtain ⟨hx, ml, hn, _, hl⟩ := o
      obtain ⟨od, ho, hlk⟩ := getL_of_ns hn (S k)
      obtain ⟨rv, hrv, r⟩ := hl k v e
      have hlk' : lookIn (S k) od = some (some rv) := hlk.trans (congrArg some hrv)
      exact get_value (K := KK X.w.params) (G.KK p.rel.hr) (I := ⟨hx, rfl, rfl, ho⟩) (plainGet_of f1).1 (findObj_own f2 g1 rfl hlk') r.handed ⟨v, m, r, p.rel.tok, .refl .., q⟩
    · cases e
  · cases e
noncomputable def noNullCall : PySem.Expr → Bool
  | .Call (.Name ..) [] [] _ => false
  | _ => true
theorem attributeBase_plain {o : PySem.Expr} (h : noNullCall o = true) (attr : Str) (env : Env) (t : Sem Value) : attributeBase o attr env t = t := by
  cases o <;> try rfl
  rename_i f a k p
  cases f <;> try rfl
  cases a <;> try rfl
  cases k <;> first | rfl | cases h
noncomputable abbrev AttrQ (k : String) (Q : MV → MH → Prop) : MV → MH → Prop := fun a m => (∀ x c dx as, a = .ref x → m x = some (.inst c dx as) → clsOk c = true) ∧ ∃ v, attrM m a k = some v ∧ Q v m
theorem te_attr {value pos} (G : Glo X) {k : String} (hk : atOk k = true) (hv : noNullCall value = true)
    (h : TE X n fe env vars value m (AttrQ k Q) Ex) : TE X n fe env vars (.Attribute value (S k) pos) m Q Ex := fun A s p => by
  show wpAny _ _ (do
    let o ← attributeBase value (S k) env (eval value env)
    standAt pos.atName
    let r ← holding [o] (getAttr o (S k) true)
    letTemporaryGo value o r
    pure r) _ _ _
  rw [attributeBase_plain hv]
  refine wpAny_bind (h.go p (.refl ..) fun a m₁ ra s₁ r₁ p₁ st₁ hz => ?_)
  obtain ⟨hc, v, e, q⟩ := hz
  refine wpAny_bind (wpAny_standAt (wpAny_bind (wpAny_holding ((tv_attr (Q := Q) G hk hc e q r₁).go p₁ st₁ fun c m₃ rc s₃ r₃ p₃ st₃ q => ?_))))
  exact wpAny_bind (wpAny_letTemporaryGo (wpAny_pure ⟨c, m₃, r₃, p₃.rel, st₃, q⟩))
end

/-- from g to g': the objects that stood at the start h, and the plain data's own, are kept; those of frs up to their slots -/
noncomputable def KeepX (frs : List Addr) (h : Heap) (m : MH) (g g' : Heap) : Prop :=
  ∀ b o, g.get? b = some o → (h.get? b ≠ none ∨ Own m b) → (∃ sl, g'.get? b = some { o with slots := sl }) ∧ (b ∉ frs → g'.get? b = some o)
theorem KeepX.refl (frs : List Addr) (h : Heap) (m : MH) (g : Heap) : KeepX frs h m g g := fun b o e _ => ⟨⟨o.slots, e⟩, fun _ => e⟩
theorem KeepX.trans {frs : List Addr} {h : Heap} {m : MH} {g₁ g₂ g₃ : Heap} (x : KeepX frs h m g₁ g₂) (y : KeepX frs h m g₂ g₃) : KeepX frs h m g₁ g₃ := fun b o e q => by
  obtain ⟨⟨sl, e1⟩, k1⟩ := x b o e q
  obtain ⟨⟨sl', e2⟩, k2⟩ := y b _ e1 q
  refine ⟨⟨sl', e2⟩, fun z => ?_⟩
  have := k1 z
  rw [e1] at this
  have e3 := k2 z
  rw [Option.some.inj this] at e3
  exact e3
theorem KeepX.rel {X : Cx} {frs : List Addr} {h : Heap} {m : MH} {s : Shared} {g' : Heap} {t : Nat} (x : KeepX frs h m s.heap g') (r : Rel X m s) (hb : ∀ b o, X.h₀.get? b = some o → h.get? b ≠ none)
    (f1 : ∀ b ∈ frs, X.h₀.get? b = none) (f2 : ∀ b ∈ frs, ¬ Own m b) : Rel X m { s with heap := g', toks := t } :=
  ⟨r.hr.mono (fun b o e => (x b o (r.hr.base b o e) (.inl (hb b o e))).2 fun z => by rw [f1 b z] at e; cases e) (fun b o q e => (x b o e (.inr q)).2 fun z => f2 b z q), r.gens, r.os⟩
theorem KeepX.frames {X : Cx} {frs : List Addr} {h : Heap} {m : MH} {g g' : Heap} (x : KeepX frs h m g g') {l : List Env} (hl : Frames X m g l) (hh : ∀ b ∈ l.filterMap (·.frame), h.get? b ≠ none) : Frames X m g' l := by
  obtain ⟨hl, ho⟩ := hl
  refine ⟨?_, ho⟩
  clear ho
  induction l with
  | nil => trivial
  | cons env rest ih =>
    obtain ⟨hk, ⟨L, o, hf, hn, e, hd⟩, hr⟩ := hl
    obtain ⟨⟨sl, e'⟩, _⟩ := x L o e (.inl (hh L (by rw [List.filterMap_cons, hf]; exact .head _)))
    exact ⟨hk, ⟨L, _, hf, hn, e', hd⟩, ih (fun b hb => hh b (by rw [List.filterMap_cons, hf]; exact .tail _ hb)) hr⟩
theorem KeepX.step {S : Addr → Prop} {frs : List Addr} {h : Heap} {m₀ m : MH} {g g' : Heap} (hf : ∀ b ∈ frs, ∃ o, g.get? b = some o ∧ ∀ vs, o.data ≠ .fields vs) (st : StepS S m₀ h m g) (x : KeepX frs h m g g') : StepS S m₀ h m g' := ⟨st.grow, fun b o e => by
  rcases st.stay b o e with q | ⟨q, o', e', z⟩
  · exact .inl q
  · obtain ⟨⟨sl, e2⟩, k⟩ := x b o' e' (.inl (by rw [e]; simp))
    refine .inr ⟨q, _, e2, z.imp id fun z => z.trans ⟨sl, rfl, ?_⟩⟩
    by_cases hb : b ∈ frs
    · obtain ⟨o'', e3, k'⟩ := hf b hb
      rw [e'] at e3; cases e3
      exact .inr k'
    · have := k hb
      rw [e2] at this
      have := congrArg Obj.slots (Option.some.inj this)
      exact .inl this⟩
theorem frs_base {X : Cx} {m : MH} {g : Heap} {l : List Env} (hl : Frames X m g l) : ∀ b ∈ l.filterMap (·.frame), X.h₀.get? b = none := fun b hb => (hl.1.mem hb).1

section
variable {X : Cx} {A : Around} {E : Value → Shared → Prop} {s : Shared} {h : Heap} {m : MH} {env : Env} {outer : List Env} {L a : Addr} {msg : String}

/-- a traceback's entry is laid and hung on the exception -/
theorem entry_exc {dx : Addr} {vs : Array Value} {sl : Array (Option Value)} {head : Value} {hadNext : Bool} {Q : Unit → Shared → Prop} (hfr : A.frames = some (env :: outer)) (hf : env.frame = some L) (hl : Frames X m s.heap (env :: outer))
    (r : Rel X m s) (ha : s.heap.get? a = some ⟨.ref cRefusal, some dx, .fields vs, sl⟩) (hsz : 1 < vs.size) (hna : ¬ Own m a)
    (hQ : ∀ h' T ts, s.heap.get? T = none → h'.get? T = some { cls := .type "traceback", data := .fields ts } → ts[3]? = some (rawInt L) → 3 < ts.size → T ≠ a →
      h'.get? a = some ⟨.ref cRefusal, some dx, .fields (vs.setIfInBounds 1 (.ref T)), sl⟩ → ¬ Own m T →
      (∀ b o, s.heap.get? b = some o → b ≠ a → (∃ sl, h'.get? b = some { o with slots := sl }) ∧ (b ∉ (env :: outer).filterMap (·.frame) → h'.get? b = some o)) → Q () { s with heap := h' }) :
    wpAny (md X) A (do let f ← frameOf env; let pl ← entryPlaceOf L hadNext; let b ← EntryCells.newEntry head f .none (rawInt L) .none pl; setField (.ref a) 1 b) Q E s := by
  have hene : a ∉ (env :: outer).filterMap (·.frame) := fun hm => by
    obtain ⟨_, o, ho, hnf⟩ := hl.1.mem hm
    rw [ha] at ho; cases ho; exact hnf vs rfl
  refine wpAny_bind (wpAny_frameOf_fun hfr hl.1 hf fun h₁ hs₁ => ?_)
  refine wpAny_bind (wpAny_entryPlaceOf fun pl hpl => ?_)
  unfold EntryCells.newEntry newFields
  refine wpAny_bind (wpAny_newObj_type ?_ (hpl.sizeOk5 _ _ _ _ _))
  have ha₁ : h₁.get? a = some ⟨.ref cRefusal, some dx, .fields vs, sl⟩ := (hs₁.2.1 a hene).trans ha
  have ha₂ := Heap.get?_push_of_some (h := h₁) { cls := .type "traceback", dict := none, data := .fields ([head, .ref L, .none, rawInt L, .none] ++ (if pl.isEmpty then List.replicate 6 Value.none else pl)).toArray } ha₁
  refine wpAny_setField ha₂ rfl hsz ?_
  have hT0 : s.heap.get? h₁.objs.size = none := by
    rw [hs₁.1]; exact Heap.get?_none_of_le (Nat.le_refl _)
  have hTa : h₁.objs.size ≠ a := Nat.ne_of_gt (Heap.lt_size ha₁)
  have hT₂ := (Heap.get?_update_other (h₁.push { cls := .type "traceback", dict := none, data := .fields ([head, .ref L, .none, rawInt L, .none] ++ (if pl.isEmpty then List.replicate 6 Value.none else pl)).toArray })
    (Obj.mapFields (·.setIfInBounds 1 (Value.ref h₁.objs.size))) (Ne.symm hTa)).trans (Heap.get?_push_size h₁ rfl)
  refine hQ _ h₁.objs.size _ hT0 hT₂ (by simp) (by simp) hTa ?_ (r.hr.notOwn hT0) fun b o e hb => ?_
  · exact Heap.get?_update_self _ ha₂ rfl
  · have kk : ∀ o', h₁.get? b = some o' → ((h₁.push { cls := .type "traceback", dict := none, data := .fields ([head, .ref L, .none, rawInt L, .none] ++ (if pl.isEmpty then List.replicate 6 Value.none else pl)).toArray }).update a (Obj.mapFields (·.setIfInBounds 1 (Value.ref h₁.objs.size)))).get? b = some o' := fun o' e' => by
      rw [Heap.get?_update_other _ _ (Ne.symm hb)]
      exact Heap.get?_push_of_some _ e'
    obtain ⟨sl', e1⟩ := hs₁.2.2 b o e
    exact ⟨⟨sl', kk _ e1⟩, fun z => kk _ ((hs₁.2.1 b z).trans e)⟩

theorem note_exc {fl : Fl} {Q : Unit → Shared → Prop} (hfr : A.frames = some (env :: outer)) (hf : env.frame = some L) (hl : Frames X m s.heap (env :: outer)) (r : Rel X m s) (hfh : ∀ b ∈ (env :: outer).filterMap (·.frame), h.get? b ≠ none)
    (hlive : ∀ b, s.heap.get? b = none → h.get? b = none) (hb : ∀ b o, X.h₀.get? b = some o → h.get? b ≠ none) (x : ExcObj h m s.heap a msg fl) (hfl : fl = .new ∨ fl = .at .none)
    (hQ : ∀ h', ExcObj h m h' a msg (.at (rawInt L)) → KeepX ((env :: outer).filterMap (·.frame)) h m s.heap h' → Q () { s with heap := h' }) : wpAny (md X) A (noteFrame (.ref a) env) Q E s := by
  obtain ⟨dx, vs, sl, es, n, t, e1, e2, e3, e4, e5, e6, e7, e8⟩ := x
  have hdxf : dx ∉ (env :: outer).filterMap (·.frame) := fun z => hfh dx z e3
  unfold noteFrame
  simp only [hf]
  have had : a ≠ dx := fun q => by rw [q, e4] at e2; cases e2
  rcases hfl with rfl | rfl
  · have hsz : 1 < vs.size := (Array.getElem?_eq_some_iff.mp e8).1
    refine wpAny_bind (wpAny_field e2 rfl e8 ?_)
    rw [if_neg (by decide)]
    refine entry_exc hfr hf hl r e2 hsz e6 fun h' T ts f1 f2 f3 f4 f5 f6 f7 f8 => ?_
    have hTd : T ≠ dx := fun q => by rw [q, e4] at f1; cases f1
    refine hQ h' ?_ fun b o e q => f8 b o e fun z => ?_
    · exact ⟨dx, _, sl, es, n, t, e1, f6, e3, (f8 dx _ e4 (Ne.symm had)).2 hdxf, e5, e6, e7, T, _, ts, by simp [hsz], hlive T f1, f5, hTd, f7, f2, rfl, f3⟩
    · subst z
      rcases q with q | q
      · exact q e1
      · exact e6 q
  · obtain ⟨T, oT, ts, g1, g2, g3, g4, g5, g6, g7, g8⟩ := e8
    have hsz : 1 < vs.size := (Array.getElem?_eq_some_iff.mp g1).1
    refine wpAny_bind (wpAny_field e2 rfl g1 ?_)
    rw [if_pos (show (Value.ref T != Value.none) = true from by simp)]
    refine wpAny_bind (wpAny_field g6 g7 g8 ?_)
    rw [if_neg (show ¬ ((Value.none == rawInt L) = true) from by simp [rawInt])]
    refine wpAny_bind (wpAny_setField g6 g7 (Array.getElem?_eq_some_iff.mp g8).1 ?_)
    have other : ∀ b, b ≠ T → (s.heap.update T (Obj.mapFields (·.setIfInBounds 3 Value.none))).get? b = s.heap.get? b := fun b hb => Heap.get?_update_other _ _ (Ne.symm hb)
    have k1 : KeepX ((env :: outer).filterMap (·.frame)) h m s.heap (s.heap.update T (Obj.mapFields (·.setIfInBounds 3 Value.none))) := fun b o e q => by
      have ne : b ≠ T := fun z => by
        subst z
        rcases q with q | q
        · exact q g2
        · exact g5 q
      exact ⟨⟨o.slots, (other b ne).trans e⟩, fun _ => (other b ne).trans e⟩
    have r' : Rel X m { s with heap := s.heap.update T (Obj.mapFields (·.setIfInBounds 3 Value.none)) } := k1.rel (t := s.toks) r hb (frs_base hl) hl.2
    have hl' := k1.frames hl hfh
    have e2' := (other a (Ne.symm g3)).trans e2
    refine entry_exc (s := { s with heap := s.heap.update T (Obj.mapFields (·.setIfInBounds 3 Value.none)) }) hfr hf hl' r' e2' hsz e6 fun h' T' ts' f1 f2 f3 f4 f5 f6 f7 f8 => ?_
    have e4' := (other dx (Ne.symm g4)).trans e4
    have hTd : T' ≠ dx := fun q => by rw [q, e4'] at f1; cases f1
    have hT0 : h.get? T' = none := by
      apply hlive
      by_cases z : T' = T
      · subst z
        have := Heap.get?_update_self (Obj.mapFields (·.setIfInBounds 3 Value.none)) g6 (Obj.isFreed_of_fields (Obj.data_mapFields g7 _))
        rw [this] at f1; cases f1
      · rw [← other T' z]; exact f1
    refine hQ h' ?_ (k1.trans fun b o e q => f8 b o e fun z => ?_)
    · exact ⟨dx, _, sl, es, n, t, e1, f6, e3, (f8 dx _ e4' (Ne.symm had)).2 hdxf, e5, e6, e7, T', _, ts', by simp [hsz], hT0, f5, hTd, f7, f2, rfl, f3⟩
    · subst z
      rcases q with q | q
      · exact q e1
      · exact e6 q

/-- the exception's flight is set -/
theorem flight_exc {v : Value} {f : Option Addr} {frs : List Addr} {Q : Unit → Shared → Prop} (x : ExcObj h m s.heap a msg (.at v))
    (hQ : ∀ h', ExcObj h m h' a msg (.at (f.elim Value.none fun f => rawInt f)) → KeepX frs h m s.heap h' → Q () { s with heap := h' }) : wpAny (md X) A (setFlight (.ref a) f) Q E s := by
  obtain ⟨dx, vs, sl, es, n, t, e1, e2, e3, e4, e5, e6, e7, T, oT, ts, g1, g2, g3, g4, g5, g6, g7, g8⟩ := x
  have hsz3 : 3 < ts.size := (Array.getElem?_eq_some_iff.mp g8).1
  unfold setFlight
  refine wpAny_bind (wpAny_field e2 rfl g1 ?_)
  rw [if_pos (show (Value.ref T != Value.none) = true from by simp)]
  refine wpAny_setField g6 g7 hsz3 ?_
  have other : ∀ b, b ≠ T → (s.heap.update T (Obj.mapFields (·.setIfInBounds 3 (f.elim Value.none fun f => rawInt f)))).get? b = s.heap.get? b := fun b hb => Heap.get?_update_other _ _ (Ne.symm hb)
  have hdm := Obj.data_mapFields g7 (·.setIfInBounds 3 (f.elim Value.none fun f => rawInt f))
  refine hQ _ ⟨dx, vs, sl, es, n, t, e1, (other a (Ne.symm g3)).trans e2, e3, (other dx (Ne.symm g4)).trans e4, e5, e6, e7, T, _, _, g1, g2, g3, g4, g5,
    Heap.get?_update_self _ g6 (Obj.isFreed_of_fields hdm), hdm, by simp [hsz3]⟩ fun b o e q => ?_
  have ne : b ≠ T := fun z => by
    subst z
    rcases q with q | q
    · exact q g2
    · exact g5 q
  exact ⟨⟨o.slots, (other b ne).trans e⟩, fun _ => (other b ne).trans e⟩

theorem note_again {Q : Unit → Shared → Prop} (hf : env.frame = some L) (x : ExcObj h m s.heap a msg (.at (rawInt L))) (hQ : Q () s) : wpAny (md X) A (noteFrame (.ref a) env) Q E s := by
  obtain ⟨dx, vs, sl, es, n, t, e1, e2, e3, e4, e5, e6, e7, T, oT, ts, g1, g2, g3, g4, g5, g6, g7, g8⟩ := x
  unfold noteFrame
  simp only [hf]
  refine wpAny_bind (wpAny_field e2 rfl g1 ?_)
  rw [if_pos (show (Value.ref T != Value.none) = true from by simp)]
  refine wpAny_bind (wpAny_field g6 g7 g8 ?_)
  rw [if_pos (show (rawInt L == rawInt L) = true from by simp)]
  exact wpAny_pure hQ

/-- the frame notes the exception, however it came -/
theorem note_any {e : Value} {Q : Unit → Shared → Prop} (hfr : A.frames = some (env :: outer)) (hf : env.frame = some L) (hl : Frames X m s.heap (env :: outer)) (r : Rel X m s) (hfh : ∀ b ∈ (env :: outer).filterMap (·.frame), h.get? b ≠ none)
    (hlive : ∀ b, s.heap.get? b = none → h.get? b = none) (hb : ∀ b o, X.h₀.get? b = some o → h.get? b ≠ none) (x : Exc env.frame h m s.heap msg e)
    (hQ : ∀ h' a, e = .ref a → ExcObj h m h' a msg (.at (rawInt L)) → KeepX ((env :: outer).filterMap (·.frame)) h m s.heap h' → Q () { s with heap := h' }) : wpAny (md X) A (noteFrame e env) Q E s := by
  cases x with
  | new x => exact note_exc hfr hf hl r hfh hlive hb x (.inl rfl) fun h' y k => hQ h' _ rfl y k
  | fly x => exact note_exc hfr hf hl r hfh hlive hb x (.inr rfl) fun h' y k => hQ h' _ rfl y k
  | held q x =>
    rw [hf] at q; cases q
    exact note_again hf x (hQ s.heap _ rfl x (KeepX.refl _ _ _ _))
/-- a frame is left by an exception -/
theorem leave_any {e : Value} {Q : Unit → Shared → Prop} (hfr : A.frames = some (env :: outer)) (hf : env.frame = some L) (hl : Frames X m s.heap (env :: outer)) (r : Rel X m s) (hfh : ∀ b ∈ (env :: outer).filterMap (·.frame), h.get? b ≠ none)
    (hlive : ∀ b, s.heap.get? b = none → h.get? b = none) (hb : ∀ b o, X.h₀.get? b = some o → h.get? b ≠ none) (x : Exc env.frame h m s.heap msg e)
    (hQ : ∀ h' a, e = .ref a → ExcObj h m h' a msg (.at .none) → KeepX ((env :: outer).filterMap (·.frame)) h m s.heap h' → Q () { s with heap := h' }) : wpAny (md X) A (leaving env e) Q E s := by
  unfold leaving
  refine wpAny_bind (note_any hfr hf hl r hfh hlive hb x fun h' a ha y k => ?_)
  subst ha
  exact flight_exc (s := { s with heap := h' }) y fun h'' z k' => hQ h'' a rfl z (k.trans k')
end

/-! ## statements -/
inductive SRes where
  | next
  | ret (v : MV)
inductive FR : SRes → Flow → Prop where
  | next : FR .next .next
  | ret {v rv} : VR v rv → FR (.ret v) (.ret rv)

inductive EES (X : Cx) (env : Env) (m : MH) (h : Heap) (Ex : String → MH → Prop) (e : Value) (s' : Shared) : Prop
  | mk (msg : String) (m' : MH) (vars' : Vars) (x : Exc env.frame h m' s'.heap msg e) (r : Rel X m' s') (ev : EnvOk X env vars' m' s'.heap) (st : StepS (Foot env) m h m' s'.heap) (q : Ex msg m')
inductive SP (X : Cx) (env : Env) (m : MH) (h : Heap) (Q : SRes → Vars → MH → Prop) (f : Flow) (s' : Shared) : Prop
  | mk (r : SRes) (vars' : Vars) (m' : MH) (hr : FR r f) (a : Rel X m' s') (ev : EnvOk X env vars' m' s'.heap) (st : StepS (Foot env) m h m' s'.heap) (q : Q r vars' m')
noncomputable def TS (X : Cx) (n : Nat) (fe env : Env) (vars : Vars) (t : Sem Flow) (m : MH) (Q : SRes → Vars → MH → Prop) (Ex : String → MH → Prop) : Prop :=
  ∀ A s, Pre X n A fe env vars m s → wpAny (md X) A t (SP X env m s.heap Q) (EES X env m s.heap Ex) s

theorem foot_data {X : Cx} {env : Env} {vars : Vars} {m : MH} {h : Heap} (x : EnvOk X env vars m h) {b : Addr} (f : Foot env b) {o : Obj} (e : h.get? b = some o) : ∀ vs, o.data ≠ .fields vs := by
  intro vs q
  rcases f with rfl | ⟨n, f⟩
  · obtain ⟨ml, ⟨o', es, ep, ho, hd, _⟩, _⟩ := x.ns
    rw [e] at ho; cases ho; rw [q] at hd; cases hd
  · obtain ⟨v, o', ho, hd⟩ := x.live n b f
    rw [e] at ho; cases ho; rw [q] at hd; cases hd
theorem Pre.stepS {X : Cx} {n : Nat} {A : Around} {fe env : Env} {vars vars' : Vars} {m m' : MH} {s s' : Shared} (x : Pre X n A fe env vars m s) (r : Rel X m' s') (ev : EnvOk X env vars' m' s'.heap) (st : StepS (Foot env) m s.heap m' s'.heap) : Pre X n A fe env vars' m' s' :=
  ⟨x.room, (by obtain ⟨o, a, b⟩ := x.frames; exact ⟨o, a, b.step st fun b f o e => foot_data ev f e⟩), r, ev, x.apart⟩
theorem StepS.footless {S : Addr → Prop} {m m' : MH} {h h' : Heap} (x : Step m h m' h') : StepS S m h m' h' := x.mono fun _ z => z.elim
theorem EES.of_EE {X : Cx} {env : Env} {m m₁ : MH} {h : Heap} {s₁ : Shared} {vars : Vars} {Ex : String → MH → Prop} {e : Value} {s' : Shared} (ev : EnvOk X env vars m₁ s₁.heap) (st : StepS (Foot env) m h m₁ s₁.heap) (r : Rel X m₁ s₁) (x : EE X env.frame m₁ s₁.heap Ex e s') : EES X env m h Ex e s' :=
  by obtain ⟨msg, m', a, b, c, d⟩ := x; exact ⟨msg, m', vars, a.back fun _ e => st.fresh r.hr e, b, ev.step c, st.trans (.footless c), d⟩
theorem EES.back {X : Cx} {env : Env} {m m₁ : MH} {h h₁ : Heap} {Ex : String → MH → Prop} {e : Value} {s' : Shared} (st : StepS (Foot env) m h m₁ h₁) (r : HR X m₁ h₁) (x : EES X env m₁ h₁ Ex e s') : EES X env m h Ex e s' :=
  by obtain ⟨msg, m', v, a, b, c, d, f⟩ := x; exact ⟨msg, m', v, a.back fun _ e => st.fresh r e, b, c, st.trans d, f⟩
noncomputable def setv (vars : Vars) (x : String) (v : MV) : Vars := match vars with
  | [] => [(x, v)]
  | (y, u) :: r => if y = x then (x, v) :: r else (y, u) :: setv r x v
section
variable {X : Cx} {n : Nat} {fe env : Env} {vars : Vars} {m : MH} {Q : SRes → Vars → MH → Prop} {Ex : String → MH → Prop}
theorem TS.mono {t : Sem Flow} {Q' : SRes → Vars → MH → Prop} {Ex' : String → MH → Prop} (h : TS X n fe env vars t m Q Ex) (k : ∀ r v m', Q r v m' → Q' r v m') (k' : ∀ b m', Ex b m' → Ex' b m') : TS X n fe env vars t m Q' Ex' := fun A s p =>
  wpAny_mono (h A s p) (fun v s' hz => by obtain ⟨b, v', m', r, a, e, st, q⟩ := hz; exact ⟨b, v', m', r, a, e, st, k b v' m' q⟩) fun e s' hz => by obtain ⟨msg, m', v, x, a, b, st, q⟩ := hz; exact ⟨msg, m', v, x, a, b, st, k' msg m' q⟩
/-- an expression, behind a start that is further back -/
theorem Tri.goS {α β : Type} {R : β → α → Prop} {m₀ : MH} {h₀ : Heap} {A : Around} {s : Shared} {t : Sem α} {K : α → Shared → Prop} {Q : β → MH → Prop} (h : Tri X n fe env vars R t m Q Ex) (p : Pre X n A fe env vars m s) (st : StepS (Foot env) m₀ h₀ m s.heap)
    (k : ∀ b m' v s', R b v → Pre X n A fe env vars m' s' → StepS (Foot env) m₀ h₀ m' s'.heap → Q b m' → K v s') : wpAny (md X) A t K (EES X env m₀ h₀ Ex) s :=
  wpAny_mono (h A s p) (fun v s' hz => by obtain ⟨b, m', r, a, st', q⟩ := hz; exact k b m' v s' r (p.step a st') (st.trans (.footless st')) q) fun e s' x => EES.of_EE p.env st p.rel x
theorem TS.go {m₀ : MH} {h₀ : Heap} {A : Around} {s : Shared} {t : Sem Flow} {K : Flow → Shared → Prop} (h : TS X n fe env vars t m Q Ex) (p : Pre X n A fe env vars m s) (st : StepS (Foot env) m₀ h₀ m s.heap)
    (k : ∀ r vars' m' f s', FR r f → Pre X n A fe env vars' m' s' → StepS (Foot env) m₀ h₀ m' s'.heap → Q r vars' m' → K f s') : wpAny (md X) A t K (EES X env m₀ h₀ Ex) s :=
  wpAny_mono (h A s p) (fun v s' hz => by obtain ⟨b, v', m', r, a, e, st', q⟩ := hz; exact k b v' m' v s' r (p.stepS a e st') (st.trans st') q) fun e s' x => EES.back st p.rel.hr x
theorem ts_end {m₀ : MH} {h₀ : Heap} {A : Around} {s' : Shared} {r : SRes} {f : Flow} {vars' : Vars} {m' : MH} (hr : FR r f) (p : Pre X n A fe env vars' m' s') (st : StepS (Foot env) m₀ h₀ m' s'.heap) (q : Q r vars' m') :
    SP X env m₀ h₀ Q f s' := ⟨r, vars', m', hr, p.rel, p.env, st, q⟩
theorem ts_nil (h : Q .next vars m) : TS X n fe env vars (execs [] env) m Q Ex := fun A s p => wpAny_execs_nil (ts_end .next p (.refl ..) h)
noncomputable def NextQ (X : Cx) (n : Nat) (fe env : Env) (rest : List Stmt) (Q : SRes → Vars → MH → Prop) (Ex : String → MH → Prop) : SRes → Vars → MH → Prop := fun r vars' m' => match r with | .next => TS X n fe env vars' (execs rest env) m' Q Ex | r => Q r vars' m'
theorem nextQ {rest : List Stmt} (q : TS X n fe env vars (execs rest env) m Q Ex) : NextQ X n fe env rest Q Ex .next vars m := q
theorem nextR {rest : List Stmt} {v : MV} (q : Q (.ret v) vars m) : NextQ X n fe env rest Q Ex (.ret v) vars m := q
noncomputable abbrev ExprQ (vars : Vars) (Q : SRes → Vars → MH → Prop) : MV → MH → Prop := fun v m => v = .none ∧ Q .next vars m
theorem exprQ {Q : SRes → Vars → MH → Prop} (q : Q .next vars m) : ExprQ vars Q .none m := ⟨rfl, q⟩
noncomputable abbrev RetE (vars : Vars) (Q : SRes → Vars → MH → Prop) : MV → MH → Prop := fun v m => Q (.ret v) vars m
noncomputable abbrev SetQ (vars : Vars) (x : String) (Q : SRes → Vars → MH → Prop) : MV → MH → Prop := fun v m => Q .next (setv vars x v) m
noncomputable abbrev IfQ (X : Cx) (n : Nat) (fe env : Env) (vars : Vars) (b o : List Stmt) (Q : SRes → Vars → MH → Prop) (Ex : String → MH → Prop) : Bool → MH → Prop := fun c m => if c then TS X n fe env vars (execs b env) m Q Ex else TS X n fe env vars (execs o env) m Q Ex
theorem ifQ_pos {b o : List Stmt} {c : Bool} (h : c = true) (q : TS X n fe env vars (execs b env) m Q Ex) : IfQ X n fe env vars b o Q Ex c m := by subst h; exact q
theorem ifQ_neg {b o : List Stmt} {c : Bool} (h : c = false) (q : TS X n fe env vars (execs o env) m Q Ex) : IfQ X n fe env vars b o Q Ex c m := by subst h; exact q
theorem ts_cons {st rest} (h : TS X n fe env vars (exec st env) m (NextQ X n fe env rest Q Ex) Ex) : TS X n fe env vars (execs (st :: rest) env) m Q Ex := fun A s p =>
  wpAny_execs_cons (h.go p (.refl ..) fun r vars' m' f s' hr p' st' q => by
    cases hr with
    | next => exact TS.go q p' st' fun r vars' m' f s' hr p' st' q => ts_end hr p' st' q
    | ret v => exact ts_end (.ret v) p' st' q)
theorem ts_return {e pos} (h : TE X n fe env vars e m (RetE vars Q) Ex) : TS X n fe env vars (exec (.Return (some e) pos) env) m Q Ex := fun A s p =>
  wpAny_Return_some (h.goS p (.refl ..) fun v m' rv s' r p' st' q => ts_end (.ret r) p' st' q)
theorem ts_if {t b o pos} (h : TB X n fe env vars t m (IfQ X n fe env vars b o Q Ex) Ex) : TS X n fe env vars (exec (.If t b o pos) env) m Q Ex := fun A s p =>
  wpAny_If (h.goS p (.refl ..) fun c m' rc s' r p' st' q => by
    subst r
    cases c
    · exact TS.go q p' st' fun r vars' m' f s' hr p' st' q => ts_end hr p' st' q
    · exact TS.go q p' st' fun r vars' m' f s' hr p' st' q => ts_end hr p' st' q)

/-! ### stores -/
theorem setv_lookup (vars : Vars) (x y : String) (v : MV) : (setv vars x v).lookup y = if y = x then some v else vars.lookup y := by
  induction vars with
  | nil =>
    by_cases h : y = x
    · subst h; simp [setv]
    · have : (y == x) = false := by simpa using h
      simp [setv, List.lookup_cons, this, h]
  | cons p r ih =>
    obtain ⟨z, u⟩ := p
    unfold setv
    by_cases hz : z = x
    · subst hz
      rw [if_pos rfl]
      by_cases h : y = z
      · subst h; simp
      · have : (y == z) = false := by simpa using h
        simp [List.lookup_cons, this, h]
    · rw [if_neg hz, List.lookup_cons, List.lookup_cons]
      by_cases h : y = z
      · subst h; simp [hz]
      · have : (y == z) = false := by simpa using h
        rw [this]; exact ih
/-- a name is stored -/
theorem store_ok {x : String} {A : Around} {s : Shared} {v : MV} {rv : Value} {E : Value → Shared → Prop} {K : Unit → Shared → Prop} (hk : env.kindOf (S x) = some .local ∨ (env.kindOf (S x) = some .cell ∧ (env.cells.lookup (S x)).isSome = true)) (p : Pre X n A fe env vars m s) (r : VR v rv)
    (k : ∀ s', Pre X n A fe env (setv vars x v) m s' → StepS (Foot env) m s.heap m s'.heap → K () s') : wpAny (md X) A (storeName env (S x) rv) K E s := by
  have fin : ∀ (b : Addr) (h' : Heap) (t : Nat), Foot env b → Heap.SameBut b s.heap h' → (∃ o, h'.get? b = some o) → EnvOk X env (setv vars x v) m h' → Pre X n A fe env (setv vars x v) m { s with heap := h', toks := t } ∧ StepS (Foot env) m s.heap m h' := fun b h' t f sb hl ev => by
    have st : StepS (Foot env) m s.heap m h' := ⟨fun _ q => q, fun c o e => by
      by_cases q : Own m c
      · exact .inl q
      · refine .inr ⟨q, ?_⟩
        by_cases z : c = b
        · subst z; obtain ⟨o', e'⟩ := hl; exact ⟨o', e', .inl f⟩
        · exact ⟨o, (sb.2 c z).trans e, .inr (.refl o)⟩⟩
    have r' : Rel X m { s with heap := h', toks := t } := ⟨p.rel.hr.mono (fun c o e => (sb.2 c fun z => by rw [z, p.env.base b f] at e; cases e).trans (p.rel.hr.base c o e))
      (fun c o q e => (sb.2 c fun z => p.env.own b f (z ▸ q)).trans e), p.rel.gens, p.rel.os⟩
    exact ⟨Pre.stepS p r' ev st, st⟩
  rcases hk with hk | ⟨hk, hs⟩
  · obtain ⟨ml, hn, hl⟩ := p.env.ns
    refine wpAny_storeName_local hk hn (fun h' hn' sb => ?_) (by rw [p.env.kind]; rfl)
    refine (fun ev => And.elim (k _) (fin env.locals h' (s.toks + 1) (.inl rfl) sb (ns_live hn') ev)) ?_
    · refine ⟨p.env.kind, p.env.glob, p.env.blt, ⟨_, hn', fun y u e hy => ?_⟩, fun y u e => ?_, fun y c e => ?_, p.env.apart, p.env.off, p.env.own, p.env.base⟩
      · rw [setv_lookup] at e
        by_cases q : y = x
        · subst q; rw [if_pos rfl] at e; cases e; exact ⟨rv, by simp, r⟩
        · rw [if_neg q] at e
          obtain ⟨ru, e1, e2⟩ := hl y u e hy
          have : ¬ (S y = S x) := fun z => q (ofString_inj z)
          exact ⟨ru, by simp only [this, if_false]; exact e1, e2⟩
      · rw [setv_lookup] at e
        by_cases q : y = x
        · subst q; exact .inl hk
        · rw [if_neg q] at e
          refine (p.env.cell y u e).imp id fun hz => by obtain ⟨a1, c, ru, a2, a3, a4⟩ := hz; exact ⟨a1, c, ru, a2, a3.sameBut sb (p.env.off _ _ a2), a4⟩
      · obtain ⟨w, a3⟩ := p.env.live y c e
        exact ⟨w, a3.sameBut sb (p.env.off _ _ e)⟩
  · obtain ⟨c, hc⟩ := Option.isSome_iff_exists.mp hs
    obtain ⟨w, hi⟩ := p.env.live _ c hc
    refine wpAny_storeName_cell p.env.kind hk hc hi fun h' hi' sb => ?_
    have hne : ∀ y, ¬ (y = x) → ∀ c', env.cells.lookup (S y) = some c' → c' ≠ c := fun y q c' e z => q (ofString_inj (name_of_addr p.env.apart (mem_of_lookup (z ▸ e)) (mem_of_lookup hc)))
    refine (fun ev => And.elim (k _) (fin c h' s.toks (.inr ⟨_, hc⟩) sb (cell_live hi') ev)) ?_
    · obtain ⟨ml, hn, hl⟩ := p.env.ns
      refine ⟨p.env.kind, p.env.glob, p.env.blt, ⟨ml, hn.sameBut sb (Ne.symm (p.env.off _ _ hc)), fun y u e hy => ?_⟩, fun y u e => ?_, fun y c' e => ?_, p.env.apart, p.env.off, p.env.own, p.env.base⟩
      · rw [setv_lookup] at e
        by_cases q : y = x
        · subst q; rw [hk] at hy; cases hy
        · rw [if_neg q] at e; exact hl y u e hy
      · rw [setv_lookup] at e
        by_cases q : y = x
        · subst q; rw [if_pos rfl] at e; cases e; exact .inr ⟨.inl hk, c, rv, hc, hi', r⟩
        · rw [if_neg q] at e
          refine (p.env.cell y u e).imp id fun hz => by obtain ⟨a1, c', ru, a2, a3, a4⟩ := hz; exact ⟨a1, c', ru, a2, a3.sameBut sb (hne y q c' a2), a4⟩
      · obtain ⟨w', a3⟩ := p.env.live y c' e
        by_cases q : c' = c
        · subst q; exact ⟨_, hi'⟩
        · exact ⟨w', a3.sameBut sb q⟩
noncomputable def canStore (env : Env) (x : String) : Prop := env.kindOf (S x) = some .local ∨ (env.kindOf (S x) = some .cell ∧ (env.cells.lookup (S x)).isSome = true)
theorem ts_assign {x e pos' pos} (hk : canStore env x) (hs : swapsWith e (some (.Name (S x) pos')) pos.line env = pure false) (h : TE X n fe env vars e m (SetQ vars x Q) Ex) :
    TS X n fe env vars (exec (.Assign [.Name (S x) pos'] e pos) env) m Q Ex := fun A s p =>
  wpAny_Assign_Name (h.goS p (.refl ..) fun v m' rv s' r p' st' q => store_ok hk p' r fun s'' p'' st'' => ts_end .next p'' (st'.trans st'') q) hs
theorem ts_expr {e pos} (hi : interactive env = false) (hs : swapsWith e none pos.line env = pure false) (h : TE X n fe env vars e m (ExprQ vars Q) Ex) : TS X n fe env vars (exec (.Expr e pos) env) m Q Ex := fun A s p =>
  wpAny_Expr (h.goS p (.refl ..) fun v m' rv s' r p' st' hz => by
    obtain ⟨q1, q⟩ := hz
    subst q1
    first | obtain rfl := r.refE | obtain rfl := r.boolE | cases r
    exact ts_end .next p' st' q) hi hs
end

noncomputable def retv : SRes → MV
  | .next => .none
  | .ret v => v
inductive FlP (X : Cx) (m : MH) (h : Heap) (Ex : String → MH → Prop) (e : Value) (s' : Shared) : Prop
  | mk (msg : String) (m' : MH) (x : Flies h m' s'.heap msg e) (r : Rel X m' s') (st : Step m h m' s'.heap) (q : Ex msg m')
/-- the end of a call -/
noncomputable def CallEnd (X : Cx) (m : MH) (h : Heap) (Q : MV → MH → Prop) (Ex : String → MH → Prop) (r : Result) (s' : Shared) : Prop := match r with
  | .ok (.ret rv) => TP X VR m h Q rv s'
  | .ok _ => False
  | .error e => FlP X m h Ex e s'
/-- a call's promise -/
noncomputable def CallOk (X : Cx) (n : Nat) (f : Value) (args : List MV) (m : MH) (Q : MV → MH → Prop) (Ex : String → MH → Prop) : Prop :=
  ∀ A s vals, Room n A → (∃ l, A.frames = some l ∧ Frames X m s.heap l) → Rel X m s → VRs args vals → codeAny (md X) A (.call f ⟨vals, []⟩) (CallEnd X m s.heap Q Ex) s
theorem CallOk.mono {X : Cx} {n : Nat} {f : Value} {args : List MV} {m : MH} {Q Q' : MV → MH → Prop} {Ex Ex' : String → MH → Prop} (h : CallOk X n f args m Q Ex) (k : ∀ v m', Q v m' → Q' v m') (k' : ∀ b m', Ex b m' → Ex' b m') : CallOk X n f args m Q' Ex' := fun A s vals a b c d =>
  codeAny_mono (h A s vals a b c d) fun r s' x => by
    cases r with
    | ok f => cases f with
      | ret rv => obtain ⟨v, m', x1, x2, x3, x4⟩ := x; exact ⟨v, m', x1, x2, x3, k _ _ x4⟩
      | _ => exact x
    | error e => obtain ⟨v, m', x1, x2, x3, x4⟩ := x; exact ⟨v, m', x1, x2, x3, k' _ _ x4⟩
theorem CallOk.room {X : Cx} {n k : Nat} {f : Value} {args : List MV} {m : MH} {Q : MV → MH → Prop} {Ex : String → MH → Prop} (h : CallOk X k f args m Q Ex) (hk : k ≤ n) : CallOk X n f args m Q Ex := fun A s vals a b c d => h A s vals (a.mono hk) b c d

/-! ## functions -/
inductive FnObj (P : Params) (a : Addr) (sc : Scope) (qual : Str) (cd : Value) (ps : List String) (dm : List MV) (body : List Stmt) : Prop
  | mk (o : Obj) (fd : FuncData) (ho : (KK P).lookup a = some o) (hd : o.data = .func fd) (h1 : fd.scope = sc) (h2 : fd.body = .stmts body) (h3 : fd.closure = []) (h4 : fd.globals = mainGlobals) (h5 : fd.builtins = builtinsNs) (h6 : fd.qualname = qual) (h7 : fd.code = cd) (dv : List Value) (hdv : VRs dm dv) (hb : ∀ M h vals, (KK P).In h → vals.length + dm.length = ps.length → Looks M h (bindArgs fd ⟨vals, []⟩) ((ps.map S).zip (vals ++ dv)))
inductive FnCode (P : Params) (qual : Str) (cd : Value) : Prop
  | mk (c : Addr) (o : Obj) (vs : Array Value) (t : Tok) (h1 : cd = .ref c) (h2 : (KK P).lookup c = some o) (h3 : o.data = .fields vs) (h4 : vs[1]? = some (.str qual t))
structure Fn (P : Params) (a : Addr) (sc : Scope) (qual : Str) (cd : Value) (ps : List String) (dm : List MV) (body : List Stmt) : Prop where
  obj : FnObj P a sc qual cd ps dm body
  code : FnCode P qual cd
  flags : (sc.isCoroutine, sc.isGenerator, sc.kind) = (false, false, .function)
  kinds : ∀ p ∈ ps, sc.names.lookup (S p) = some .local ∨ (sc.names.lookup (S p) = some .cell ∧ ∀ n, ((cellsFrom n sc.names []).lookup (S p)).isSome = true)
  nodup : ps.Nodup
noncomputable abbrev fnEnv (sc : Scope) (qual : Str) (a : Addr) (cd : Value) (L : Addr) : Env := newEnv sc L mainGlobals (cellsFrom (L + 1) sc.names []) (qual ++ ".<locals>.") (some a) cd none builtinsNs

theorem bindL_other (kindOf : Str → Option NameKind) {y : Str} (l : List (Str × Value)) (m : Str → Option Value) (h : y ∉ l.map (·.1)) : bindL kindOf l m y = m y := by
  induction l generalizing m with
  | nil => rfl
  | cons nv r ih =>
    obtain ⟨n, v⟩ := nv
    rw [bindL, ih _ (fun q => h (.tail _ q))]
    have : ¬ y = n := fun q => h (by subst q; exact .head _)
    split
    · simp only [this, if_false]
    · rfl
theorem bindC_other (kindOf : Str → Option NameKind) {y : Str} (l : List (Str × Value)) (m : Str → Option Value) (h : y ∉ l.map (·.1)) : bindC kindOf l m y = m y := by
  induction l generalizing m with
  | nil => rfl
  | cons nv r ih =>
    obtain ⟨n, v⟩ := nv
    rw [bindC, ih _ (fun q => h (.tail _ q))]
    have : ¬ y = n := fun q => h (by subst q; exact .head _)
    split
    · rfl
    · simp only [this, if_false]
theorem notin_zip {p : String} {ps : List String} {vals : List Value} (h : p ∉ ps) : S p ∉ ((ps.map S).zip vals).map (·.1) := by
  intro z
  obtain ⟨⟨a, b⟩, h1, h2⟩ := List.mem_map.mp z
  obtain ⟨q, h3, h4⟩ := List.mem_map.mp (List.of_mem_zip h1).1
  exact h (ofString_inj (h4.trans h2) ▸ h3)
theorem bindL_zip {kindOf : Str → Option NameKind} {x : String} {v : MV} (hk : kindOf (S x) = some .local) {ps : List String} {args : List MV} {vals : List Value} {m : Str → Option Value} (hn : ps.Nodup) (hv : VRs args vals) (e : (ps.zip args).lookup x = some v) :
    ∃ rv, bindL kindOf ((ps.map S).zip vals) m (S x) = some rv ∧ VR v rv := by
  induction hv generalizing ps m with
  | nil => rw [List.zip_nil_right] at e; cases e
  | cons r rs ih =>
    cases ps with
    | nil => cases e
    | cons p ps =>
    rw [List.zip_cons_cons, List.lookup_cons] at e
    rw [List.map_cons, List.zip_cons_cons, bindL]
    by_cases h : x = p
    · subst h
      simp at e
      subst e
      refine ⟨_, ?_, r⟩
      rw [bindL_other _ _ _ (notin_zip (List.nodup_cons.mp hn).1), if_pos hk]
      simp
    · have : (x == p) = false := by simpa using h
      rw [this] at e
      exact ih (List.nodup_cons.mp hn).2 e
theorem bindC_zip {kindOf : Str → Option NameKind} {x : String} {v : MV} (hk : kindOf (S x) ≠ some .local) {ps : List String} {args : List MV} {vals : List Value} {m : Str → Option Value} (hn : ps.Nodup) (hv : VRs args vals) (e : (ps.zip args).lookup x = some v) :
    ∃ rv, bindC kindOf ((ps.map S).zip vals) m (S x) = some rv ∧ VR v rv := by
  induction hv generalizing ps m with
  | nil => rw [List.zip_nil_right] at e; cases e
  | cons r rs ih =>
    cases ps with
    | nil => cases e
    | cons p ps =>
    rw [List.zip_cons_cons, List.lookup_cons] at e
    rw [List.map_cons, List.zip_cons_cons, bindC]
    by_cases h : x = p
    · subst h
      simp at e
      subst e
      refine ⟨_, ?_, r⟩
      rw [bindC_other _ _ _ (notin_zip (List.nodup_cons.mp hn).1), if_neg hk]
      simp
    · have : (x == p) = false := by simpa using h
      rw [this] at e
      exact ih (List.nodup_cons.mp hn).2 e
theorem mem_of_zip_lookup {x : String} {v : MV} {ps : List String} {args : List MV} (e : (ps.zip args).lookup x = some v) : x ∈ ps := by
  induction ps generalizing args with
  | nil => cases e
  | cons p ps ih =>
    cases args with
    | nil => cases e
    | cons a args =>
    rw [List.zip_cons_cons, List.lookup_cons] at e
    by_cases h : x = p
    · subst h; exact .head _
    · have : (x == p) = false := by simpa using h
      rw [this] at e
      exact .tail _ (ih e)

/-- a frame's own state as its body starts -/
theorem env_of {X : Cx} {m : MH} {s s₁ : Shared} {sc : Scope} {qual : Str} {a : Addr} {cd : Value} {L : Addr} {ps : List String} {args : List MV} {vals : List Value} (r : Rel X m s) (hk : sc.kind = .function)
    (kinds : ∀ p ∈ ps, sc.names.lookup (S p) = some .local ∨ (sc.names.lookup (S p) = some .cell ∧ ∀ n, ((cellsFrom n sc.names []).lookup (S p)).isSome = true)) (nodup : ps.Nodup) (hv : VRs args vals)
    (x : InCallC s (fnEnv sc qual a cd L).locals (bindL (fnEnv sc qual a cd L).kindOf ((ps.map S).zip vals) fun _ => none) (fnEnv sc qual a cd L).cells (bindC (fnEnv sc qual a cd L).kindOf ((ps.map S).zip vals) fun _ => none) s₁) :
    EnvOk X (fnEnv sc qual a cd L) (ps.zip args) m s₁.heap ∧ ∀ b, Foot (fnEnv sc qual a cd L) b → s.heap.get? b = none := by
  have hfresh : ∀ b, Foot (fnEnv sc qual a cd L) b → s.heap.get? b = none := by
    intro b f
    apply Heap.get?_none_of_le
    rcases f with rfl | ⟨n, f⟩
    · exact x.toInCall.fresh
    · exact Nat.le_trans x.toInCall.fresh (Nat.le_of_lt (x.above n b (mem_of_lookup f)))
  refine ⟨⟨hk, rfl, rfl, ⟨_, x.toInCall.ns, fun y v e hy => bindL_zip hy nodup hv e⟩, fun y v e => ?_, fun n c e => ⟨_, x.cell n c e⟩, x.apart, fun n c e => Nat.ne_of_gt (x.above n c (mem_of_lookup e)), fun b f => r.hr.notOwn (hfresh b f), fun b f => ?_⟩, hfresh⟩
  · rcases kinds y (mem_of_zip_lookup e) with h | ⟨h, h'⟩
    · exact .inl h
    · refine .inr ⟨.inl h, ?_⟩
      obtain ⟨c, hc⟩ := Option.isSome_iff_exists.mp (h' (L + 1))
      have hkind : (fnEnv sc qual a cd L).kindOf (S y) = some .cell := h
      obtain ⟨rv, e1, e2⟩ := bindC_zip (kindOf := (fnEnv sc qual a cd L).kindOf) (m := fun _ => none) (by rw [hkind]; simp) nodup hv e
      exact ⟨c, rv, hc, e1 ▸ x.cell _ _ hc, e2⟩
  · cases q : X.h₀.get? b with
    | none => rfl
    | some o => have := r.hr.base b o q; rw [hfresh b f] at this; cases this

/-- a call of a function of the text -/
theorem call_fn {X : Cx} {n : Nat} {m : MH} {Q : MV → MH → Prop} {Ex : String → MH → Prop} {a : Addr} {sc : Scope} {qual : Str} {cd : Value} {ps : List String} {dm args : List MV} {body : List Stmt} (G : Glo X) (F : Fn X.w.params a sc qual cd ps dm body) (hlen : args.length + dm.length = ps.length)
    (h : ∀ L, TS X n (fnEnv sc qual a cd L) (fnEnv sc qual a cd L) (ps.zip (args ++ dm)) (execs body (fnEnv sc qual a cd L)) m (fun r _ m' => Q (retv r) m') Ex) : CallOk X (n + 1) (.ref a) args m Q Ex := by
  intro A s vals hroom hfr hrel hv
  obtain ⟨outer, hA, hl⟩ := hfr
  obtain ⟨o, fd, ho, hd, rfl, hb, hcl, hg, hbl, rfl, rfl, dv, hdv, hbind⟩ := F.obj
  obtain ⟨c, oc, vs, t, hc1, hc2, hc3, hc4⟩ := F.code
  have hKK := G.KK hrel.hr
  have fl := F.flags
  simp only [Prod.mk.injEq] at fl
  have hvl : vals.length + dm.length = ps.length := hv.length ▸ hlen
  have hv' := hv.append hdv
  have hEnv : ∀ L, callEnvC fd L a = fnEnv fd.scope fd.qualname a fd.code L := fun L => by unfold callEnvC fnEnv; rw [hg, hbl]
  refine codeAny_call_function hroom.lt (hKK a o ho) hd fl.1 fl.2.1 hb ⟨c, oc, vs, t, hc1, hKK c oc hc2, hc3, hc4⟩ (Looks.here (hbind _ _ vals hKK hvl) ?_)
  rw [hcl]
  refine wpAny_newFunctionEnv_cells fl.2.2 (fun x hx => ?_) fun env he s₁ x => ?_
  · have : x.1 ∈ ps.map S := (List.of_mem_zip (show (x.1, x.2) ∈ _ from hx)).1
    obtain ⟨p, hp, e⟩ := List.mem_map.mp this
    rw [← e]
    rcases F.kinds p hp with k | ⟨k, k'⟩
    · exact .inl k
    · exact .inr ⟨k, k' _⟩
  · subst he
    refine ⟨(G.noLimit hrel.hr).keeps x.toInCall.keep, codeAny_func ?_⟩
    change InCallC s (callEnvC fd s.heap.objs.size a).locals (bindL (callEnvC fd s.heap.objs.size a).kindOf _ _) (callEnvC fd s.heap.objs.size a).cells _ s₁ at x
    show wpAny _ (A.deeper (callEnvC fd s.heap.objs.size a)) (execs body (callEnvC fd s.heap.objs.size a)) _ (fun e s' => wpAny _ (A.deeper (callEnvC fd s.heap.objs.size a)) (leaving (callEnvC fd s.heap.objs.size a) e) _ _ s') s₁
    rw [hEnv] at x ⊢
    generalize hL : s.heap.objs.size = L at x ⊢
    obtain ⟨ev, hfresh⟩ := env_of hrel fl.2.2 F.kinds F.nodup hv' x
    have st0 : StepS (Foot (fnEnv fd.scope fd.qualname a fd.code L)) m s.heap m s₁.heap := .of_keeps x.toInCall.keep
    have hs₁ : Rel X m s₁ := by
      obtain ⟨h', tk, e⟩ := x.toInCall.same
      subst e
      exact hrel.keeps x.toInCall.keep
    have hLl : (fnEnv fd.scope fd.qualname a fd.code L).locals = L := rfl
    have hfr1 : Frames X m s₁.heap (fnEnv fd.scope fd.qualname a fd.code L :: outer) := by
      have hl' := hl.step (S := fun _ => False) (StepS.of_keeps x.toInCall.keep) fun _ z => z.elim
      refine ⟨⟨by show fd.scope.kind ≠ _; rw [fl.2.2]; decide, ?_, hl'.1⟩, fun b hb => ?_⟩
      · obtain ⟨oL, es, ep, hoL, hdL, _⟩ := x.toInCall.ns
        exact ⟨L, oL, rfl, ev.base _ (.inl rfl), hoL, fun vs q => by rw [hdL] at q; cases q⟩
      · rcases List.mem_cons.mp hb with e | hb
        · rw [e]; exact ev.own _ (.inl rfl)
        · exact hl.2 b hb
    have pre : Pre X n (A.deeper (fnEnv fd.scope fd.qualname a fd.code L)) (fnEnv fd.scope fd.qualname a fd.code L) (fnEnv fd.scope fd.qualname a fd.code L) (ps.zip (args ++ dm)) m s₁ :=
      ⟨⟨by have := hroom.depth; show A.depth + 1 + n ≤ _; lia, by have := hroom.units; show A.units + 3 + 8 * n ≤ _; lia, hroom.handled, hroom.guards⟩,
        ⟨outer, by show A.frames.map _ = _; rw [hA]; rfl, hfr1⟩, hs₁, ev, fun outer' hA' nm c e hc => by
          have e1 : outer' = outer := by
            have : (A.deeper (fnEnv fd.scope fd.qualname a fd.code L)).frames = some ((fnEnv fd.scope fd.qualname a fd.code L) :: outer) := by show A.frames.map _ = _; rw [hA]; rfl
            rw [this] at hA'; cases hA'; rfl
          subst e1
          obtain ⟨_, o, e', _⟩ := hl.1.mem hc
          rw [hfresh c (.inr ⟨nm, e⟩)] at e'; cases e'⟩
    have back : ∀ {b}, s₁.heap.get? b = none → s.heap.get? b = none := fun {b} e => by
      cases q : s.heap.get? b with
      | none => rfl
      | some o => have := x.toInCall.keep b o q; rw [e] at this; cases this
    refine wpAny_mono (h L _ s₁ pre) (fun f s' hp => ?_) fun e s' hp => ?_
    · obtain ⟨r, vars', m', hfr', hr', hev', hst, q⟩ := hp
      have st1 : Step m s.heap m' s'.heap := (st0.trans hst).shut hfresh
      cases hfr' with
      | next => exact ⟨.none, m', .none, hr', st1, q⟩
      | ret v => exact ⟨_, m', v, hr', st1, q⟩
    · obtain ⟨msg, m', vars', hx, hr', hev', hst, q⟩ := hp
      have st1 : Step m s.heap m' s'.heap := (st0.trans hst).shut hfresh
      have pre' := pre.stepS hr' hev' hst
      obtain ⟨outer', hA', hl'⟩ := pre'.frames
      have hlive : ∀ b, s'.heap.get? b = none → s₁.heap.get? b = none := fun b e => hst.fresh hr'.hr e
      have hb' : ∀ b o, X.h₀.get? b = some o → s₁.heap.get? b ≠ none := fun b o e => by rw [hs₁.hr.base b o e]; simp
      have hfh : ∀ b ∈ ((fnEnv fd.scope fd.qualname a fd.code L) :: outer').filterMap (·.frame), s₁.heap.get? b ≠ none := fun b hb => by
        have e1 : outer' = outer := by
          have : (A.deeper (fnEnv fd.scope fd.qualname a fd.code L)).frames = some ((fnEnv fd.scope fd.qualname a fd.code L) :: outer) := by show A.frames.map _ = _; rw [hA]; rfl
          rw [this] at hA'; cases hA'; rfl
        subst e1
        obtain ⟨_, o, e, _⟩ := hfr1.1.mem hb
        rw [e]; simp
      refine leave_any hA' rfl hl' hr' hfh hlive hb' hx fun h' b he hx' kx => ?_
      subst he
      exact ⟨msg, m', .fly (hx'.back fun _ => back), kx.rel (t := s'.toks) hr' hb' (frs_base hl') hl'.2, KeepX.step (frs := ((fnEnv fd.scope fd.qualname a fd.code L) :: outer').filterMap (·.frame)) (fun b hb => (hl'.1.mem hb).2) st1 (fun b o e q => kx b o e (q.imp (fun z y => z (back y)) id)), q⟩

noncomputable def gl : List (String × Value) := [("Refusal", .ref 44), ("MOST_LENGTH", .int 1000000 236), ("Null", .ref 63), ("Vector", .ref 92), ("room", .ref 125), ("character", .ref 132), ("length", .ref 139), ("is_vector", .ref 146), ("is_atomic", .ref 153), ("own", .ref 160), ("share", .ref 167), ("get_attr", .ref 174), ("drop_attr", .ref 181), ("put_attr", .ref 188), ("names_of", .ref 193), ("dim_of", .ref 200), ("kind_order", .ref 403), ("common_kind", .ref 410), ("item_as", .ref 473), ("is_atomic_kind", .ref 480), ("with_names", .ref 506), ("as_kind", .ref 511), ("as_list", .ref 518), ("whole_subscripts", .ref 525), ("first_places", .ref 532), ("one_name", .ref 546), ("one_whole", .ref 553), ("one_place", .ref 560), ("lacking_item", .ref 574), ("is_list_kind", .ref 581), ("one_item", .ref 595), ("vector_element", .ref 602), ("element_step", .ref 621), ("index_parts", .ref 626), ("is_long_index", .ref 633), ("element", .ref 640), ("converted_items", .ref 647), ("raised", .ref 654), ("extend_vector", .ref 661), ("first_count", .ref 668), ("delete_places", .ref 675), ("element_kind", .ref 694), ("put_element", .ref 701), ("assign_step", .ref 708), ("assign_down", .ref 715), ("assign_element", .ref 722), ("_law_row", .ref 729), ("_law_next", .ref 736), ("_law_heads", .ref 741), ("_law_value", .ref 746), ("_law_tree", .ref 751), ("_law_place", .ref 758), ("_law_step", .ref 765), ("_law_got", .ref 772), ("_law_put", .ref 777), ("_law_set", .ref 784), ("_law_kept", .ref 791)]
theorem gl_all (P : Params) : gl.map (fun p => nsIn (KK P) mainGlobals (S p.1)) = gl.map fun p => some (some p.2) := by kernel_rfl
theorem gl_ok (P : Params) {x : String} {v : Value} (h : gl.lookup x = some v) : nsIn (KK P) mainGlobals (S x) = some (some v) := by
  have := gl_all P
  generalize gl = l at this h
  induction l with
  | nil => simp at h
  | cons p r ih =>
    obtain ⟨y, u⟩ := p
    simp only [List.map_cons, List.cons.injEq] at this
    rw [List.lookup_cons] at h
    by_cases e : x = y
    · subst e; simp at h; subst h; exact this.1
    · have e' : (x == y) = false := by simpa using e
      rw [e'] at h
      exact ih this.2 h
section
variable {X : Cx} {n : Nat} {fe env : Env} {vars : Vars} {m : MH} {Q : MV → MH → Prop} {Ex : String → MH → Prop}
theorem load_global {A : Around} {E : Value → Shared → Prop} {K : Value → Shared → Prop} {s : Shared} (G : Glo X) {x : String} {v : Value} (p : Pre X n A fe env vars m s) (h : gl.lookup x = some v) (k : K v s) : wpAny (md X) A (loadGlobal env (S x)) K E s := by
  obtain ⟨mg, hg⟩ := G.g
  refine loadGlobal_global (by rw [p.env.glob]; exact hg.keeps p.rel.hr.base) (mg_of G.K hg (gl_ok _ h)) k
theorem te_glob {x pos v u} (G : Glo X) (hk : env.kindOf (S x) = some .globalImplicit) (hd : okName x = true) (h : gl.lookup x = some v) (r : VR u v) (q : Q u m) : TE X n fe env vars (.Name (S x) pos) m Q Ex := fun A s p =>
  Name_function_global p.env.kind hk (load_global G p h ⟨u, m, r, p.rel, .refl .., q⟩) (okName.debug hd)
theorem CallOk.run {f : Value} {args : List MV} {A : Around} {s : Shared} {vals : List Value} {K : Value → Shared → Prop} (h : CallOk X n f args m Q Ex) (p : Pre X n A fe env vars m s) (hv : VRs args vals) {m₀ : MH} {h₀ : Heap} (st : Step m₀ h₀ m s.heap)
    (k : ∀ v rv m' s', VR v rv → Rel X m' s' → Step m₀ h₀ m' s'.heap → Q v m' → K rv s') : wpAny (md X) A (call f vals []) K (EE X env.frame m₀ h₀ Ex) s := by
  obtain ⟨o, hA, hl⟩ := p.frames
  refine wpAny_call (codeAny_mono (h A s vals p.room ⟨_, hA, hl⟩ p.rel hv) fun r s' x => ?_)
  cases r with
  | ok f => cases f with
    | ret rv => obtain ⟨v, m', x1, x2, x3, x4⟩ := x; exact k v rv m' s' x1 x2 (st.trans x3) x4
    | _ => exact x
  | error e =>
    obtain ⟨msg, m', x1, x2, x3, x4⟩ := x
    refine EE.back st p.rel.hr ⟨msg, m', ?_, x2, x3, x4⟩
    cases x1 with
    | fly y => exact .fly y
/-- a call of a function or a class of the text -/
theorem te_call0 {x p' pos a} (G : Glo X) (hk : env.kindOf (S x) = some .globalImplicit) (hd : okName x = true) (hg : gl.lookup x = some (.ref a)) (hkeep : keepIn (KK X.w.params) (.ref a) = true)
    (h : CallOk X n (.ref a) [] m Q Ex) : TE X n fe env vars (.Call (.Name (S x) p') [] [] pos) m Q Ex := fun A s p => by
  refine wpAny_Call_NameR (Name_function_global p.env.kind hk (load_global G p hg ?_) (okName.debug hd))
  exact callWith_K0 (G.KK p.rel.hr) hkeep (h.run p .nil (.refl ..) fun v rv m' s' r x st q => ⟨v, m', r, x, st, q⟩)
theorem star_cons {e : PySem.Expr} {r : List PySem.Expr} (h : noStar e = true) : starEach (e :: r) env = (false, eval e env) :: starEach r env := by cases e <;> first | rfl | (cases h)
theorem plain_trees {pos : Pos} (l : List PySem.Expr) (hl : l.all noStar = true) : (backTo pos (starEach l env)).any (·.1) = false := by
  induction l with
  | nil => rfl
  | cons e r ih =>
    rw [List.all_cons, Bool.and_eq_true] at hl
    rw [star_cons hl.1]
    exact ih hl.2
noncomputable abbrev CallQ (X : Cx) (n : Nat) (a : Addr) (Q : MV → MH → Prop) (Ex : String → MH → Prop) : List MV → MH → Prop := fun vs m => CallOk X n (.ref a) vs m Q Ex
theorem te_call {x p' e rest pos a} (G : Glo X) (hk : env.kindOf (S x) = some .globalImplicit) (hd : okName x = true) (hg : gl.lookup x = some (.ref a)) (hkeep : keepIn (KK X.w.params) (.ref a) = true) (hs : (e :: rest).all noStar = true)
    (h : TEs X n fe env vars pos (e :: rest) m (CallQ X n a Q Ex) Ex) : TE X n fe env vars (.Call (.Name (S x) p') (e :: rest) [] pos) m Q Ex := fun A s p => by
  refine wpAny_Call_NameR (Name_function_global p.env.kind hk (load_global G p hg ?_) (okName.debug hd))
  rw [List.all_cons, Bool.and_eq_true] at hs
  exact callWith_K (h₀ := s.heap) (G.KK p.rel.hr) hkeep (h.go p (.refl ..) fun vs m₁ rvs s₁ r p₁ st q => ⟨G.KK p₁.rel.hr, q.run p₁ r st fun v rv m' s' r x st q => ⟨v, m', r, x, st, q⟩⟩) (star_cons hs.1) (plain_trees _ hs.2)
/-- an own object is made and set up -/
theorem call_cls {C fI : Addr} {args : List MV} (G : Glo X) (hm : makesIn (KK X.w.params) C = true) (hi : findIn (KK X.w.params) (.ref C) "__init__" = some (some (.ref fI))) (hf : typeIn (KK X.w.params) (.ref fI) = some (.type "function"))
    (h : ∀ x dx, m x = none → m dx = none → x ≠ dx → CallOk X n (.ref fI) (.ref x :: args) (m.set x (.inst C dx [])) (fun v m' => v = .none ∧ Q (.ref x) m') Ex) : CallOk X (n + 1) (.ref C) args m Q Ex := by
  intro A s vals hroom hfr hrel hv
  obtain ⟨hh, g, d, t, os⟩ := s
  have K := G.KK hrel.hr
  refine make_core (makes_of K hm) (looks_findIn K hi) (fun self => bind_fn K self hf) (.inl rfl) ?_
  generalize hA : A.under (.builtin "type.__call__" ⟨.ref C :: vals, []⟩) = A'
  have hd' : A'.depth = A.depth + 1 := by rw [← hA]; rfl
  have hu' : A'.units = A.units + 1 := by rw [← hA]; rfl
  have hf' : A'.frames = A.frames := by rw [← hA]; show pushEnvs [] A.frames = _; rw [pushEnvs_eq]; simp
  have hg' : A'.guards = A.guards := by rw [← hA]; show pushGuards [] A.guards = _; rw [pushGuards_eq]; simp
  have hh' : A'.handled = A.handled := by rw [← hA]; rfl
  have e1 : hh.get? hh.objs.size = none := Heap.get?_none_of_le (Nat.le_refl _)
  have e2 : hh.get? (hh.objs.size + 1) = none := Heap.get?_none_of_le (Nat.le_succ _)
  have k : ∀ b o, hh.get? b = some o → ((hh.push emptyDict).push (instObj C hh.objs.size)).get? b = some o := fun b o e => Heap.get?_push_of_some _ (Heap.get?_push_of_some _ e)
  have m1 : m (hh.objs.size + 1) = none := by
    cases q : m (hh.objs.size + 1) with
    | none => rfl
    | some o => exact absurd (.inl (by rw [q]; simp)) (hrel.hr.notOwn e2)
  have hob : OR X ((hh.push emptyDict).push (instObj C hh.objs.size)) (hh.objs.size + 1) (.inst C hh.objs.size []) := ⟨by heap_get, fun _ => none, (Heap.Ns.new hh (.type "dict")).keeps fun _ _ e => Heap.get?_push_of_some _ e, ⟨emptyDict, #[], 0, by heap_get, rfl, Nat.le_refl _⟩, fun k v e => by simp at e⟩
  obtain ⟨a, b⟩ := hrel.hr.layInst (a := hh.objs.size + 1) (dx := hh.objs.size) (c := C) (as := []) e2 e1 (Nat.succ_ne_self _) k hob
  have st := b (fun _ => False)
  refine codeAny_mono (h (hh.objs.size + 1) hh.objs.size m1 hrel.hr.freshM (Nat.succ_ne_self _) A' ⟨(hh.push emptyDict).push (instObj C hh.objs.size), g, d, t, os⟩ (.ref (hh.objs.size + 1) :: vals)
    ⟨by have := hroom.depth; lia, by have := hroom.units; lia, hh'.trans hroom.handled, hg'.trans hroom.guards⟩ ?_ ⟨a, hrel.gens, hrel.os⟩ (.cons (.ref _) hv)) fun r s' x => ?_
  · obtain ⟨l, hl, hf⟩ := hfr
    exact ⟨l, hf'.trans hl, hf.step st fun _ z => z.elim⟩
  · cases r with
    | ok f => cases f with
      | ret rv =>
        obtain ⟨v, m', x1, x2, x3, rfl, x4⟩ := x
        cases x1
        exact ⟨rfl, _, m', .ref _, x2, st.trans x3, x4⟩
      | _ => exact x
    | error e =>
      obtain ⟨msg, m', x1, x2, x3, x4⟩ := x
      exact ⟨msg, m', x1.back fun _ e => st.fresh a e, x2, st.trans x3, x4⟩
end

noncomputable def bl : List (String × Value) := [("len", .builtin "len"), ("list", .type "list"), ("dict", .type "dict"), ("isinstance", .builtin "isinstance"), ("max", .builtin "max"), ("range", .type "range"), ("str", .type "str")]
theorem bl_all : bl.map (fun p => bootBuiltins (S p.1)) = bl.map fun p => some p.2 := by decide +kernel
theorem bl_none (P : Params) : bl.map (fun p => nsIn (KK P) mainGlobals (S p.1)) = bl.map fun p => some none := by kernel_rfl
theorem bl_name : (bl.map fun p => S p.1 != ("__name__" : Str)) = bl.map fun p => true := by decide +kernel
theorem look_map {α β : Type} {f g : α → β} {l : List α} (h : l.map f = l.map g) {x} (hx : x ∈ l) : f x = g x := List.map_inj_left.mp h x hx
theorem mem_of_lookup' {β : Type} {x : String} {v : β} {l : List (String × β)} (h : l.lookup x = some v) : (x, v) ∈ l := by
  induction l with
  | nil => cases h
  | cons p r ih =>
    obtain ⟨y, u⟩ := p
    rw [List.lookup_cons] at h
    by_cases e : x = y
    · subst e; simp at h; subst h; exact .head _
    · have e' : (x == y) = false := by simpa using e
      rw [e'] at h
      exact .tail _ (ih h)
section
variable {X : Cx} {n : Nat} {fe env : Env} {vars : Vars} {m : MH} {Q : MV → MH → Prop} {Ex : String → MH → Prop}
theorem load_builtin {A : Around} {E : Value → Shared → Prop} {K : Value → Shared → Prop} {s : Shared} (G : Glo X) {x : String} {v : Value} (p : Pre X n A fe env vars m s) (h : bl.lookup x = some v) (k : K v s) : wpAny (md X) A (loadGlobal env (S x)) K E s := by
  obtain ⟨mg, hg⟩ := G.g
  obtain ⟨mb, hb, hbl⟩ := G.b
  have hm := mem_of_lookup' h
  refine loadGlobal_builtin (by rw [p.env.glob]; exact hg.keeps p.rel.hr.base) (mg_none_of G.K hg (look_map (bl_none X.w.params) hm)) (by rw [p.env.blt]; exact hb.keeps p.rel.hr.base) ?_ k
  rw [hbl _ (by have := look_map bl_name hm; simpa using this)]
  exact look_map bl_all hm
/-- a call of a builtin by its name -/
noncomputable abbrev BiQ (X : Cx) (n : Nat) (fe env : Env) (vars : Vars) (v : Value) (Q : MV → MH → Prop) (Ex : String → MH → Prop) : List MV → MH → Prop := fun vs m => ∀ rvs, VRs vs rvs → TV X n fe env vars (call v rvs []) m Q Ex
theorem te_bi {x p' e rest pos v} (G : Glo X) (hk : env.kindOf (S x) = some .globalImplicit) (hd : okName x = true) (hg : bl.lookup x = some v) (hs : (e :: rest).all noStar = true)
    (h : TEs X n fe env vars pos (e :: rest) m (BiQ X n fe env vars v Q Ex) Ex) : TE X n fe env vars (.Call (.Name (S x) p') (e :: rest) [] pos) m Q Ex := fun A s p => by
  refine wpAny_Call_NameR (Name_function_global p.env.kind hk (load_builtin G p hg ?_) (okName.debug hd))
  rw [List.all_cons, Bool.and_eq_true] at hs
  have he := star_cons (env := env) (r := rest) hs.1
  have hp : (backTo pos (starEach (e :: rest) env)).any (·.1) = false := plain_trees _ (by rw [List.all_cons, Bool.and_eq_true]; exact hs)
  have ev : wpAny (md X) A (evalArgs v true (backTo pos (starEach (e :: rest) env)) []) (fun a s₁ => wpAny (md X) A (call v ([] ++ a.pos) a.kw) (TP X VR m s.heap Q) (EE X env.frame m s.heap Ex) s₁) (EE X env.frame m s.heap Ex) s := by
    have := h.go (K := fun vs s₁ => wpAny (md X) A (call v vs []) (TP X VR m s.heap Q) (EE X env.frame m s.heap Ex) s₁) p (.refl ..) fun vs m₁ rvs s₁ r p₁ st q => (q rvs r).go p₁ st fun c m₂ rc s₂ r₂ p₂ st₂ q => ⟨c, m₂, r₂, p₂.rel, st₂, q⟩
    rw [he] at this ⊢
    exact evalArgs_plain this
  have hb : (∃ id, v = .builtin id) ∨ ∃ T, v = .type T := by
    have hm := mem_of_lookup' hg
    simp only [bl, List.mem_cons, Prod.mk.injEq, List.not_mem_nil, or_false] at hm
    rcases hm with ⟨_, h⟩ | ⟨_, h⟩ | ⟨_, h⟩ | ⟨_, h⟩ | ⟨_, h⟩ | ⟨_, h⟩ | ⟨_, h⟩ <;> first | exact .inl ⟨_, h⟩ | exact .inr ⟨_, h⟩
  rcases hb with ⟨id, rfl⟩ | ⟨T, rfl⟩
  · exact callWith_builtin hp ev
  · exact PySem.callWith_type hp ev

noncomputable def lenM (m : MH) : MV → Option Nat
  | .ref a => match m a with
    | some (.list xs) => some xs.length
    | some (.sd es) => some es.length
    | some (.idd es) => some es.length
    | _ => none
  | _ => none
theorem sysOff {X : Cx} (G : Glo X) {m : MH} {h : Heap} (r : HR X m h) {a : Addr} {o : MO} (e : m a = some o) (hr : o.isRo = false) : (a == sysModules) = false := by
  have h1 := r.free a o e hr
  have h2 : X.h₀.get? 1 = some (boot_o_1 X.w.params) := G.K 1 _ (by rfl)
  refine beq_eq_false_iff_ne.mpr fun z => ?_
  subst z
  rw [show sysModules = 1 from rfl] at h1
  rw [h1] at h2; cases h2
theorem call_len (G : Glo X) {a : MV} {k : Nat} (hk : lenM m a = some k) (hs : k ≤ 1000000) (q : Q (.int k) m) : ∀ rvs, VRs [a] rvs → TV X n fe env vars (call (.builtin "len") rvs []) m Q Ex := fun rvs hv A s p => by
  cases hv with
  | cons r rs =>
  cases rs
  have fin : ∀ t t', TP X VR m s.heap Q (.int k t) { s with toks := t' } := fun t t' => ⟨_, m, .int _ t, p.rel.tok, .refl .., q⟩
  cases r <;> try (simp [lenM] at hk; done)
  rename_i a
  simp only [lenM] at hk
  cases e : m a with
  | none => rw [e] at hk; cases hk
  | some o =>
    rw [e] at hk
    have y := p.rel.hr.obj a o e
    cases o with
    | list xs =>
      cases hk
      obtain ⟨vs, n, g, r⟩ := y
      refine call_len_list (items := ⟨vs⟩) ⟨_, g, rfl, n, rfl⟩ (by have := r.length; simp; lia) ?_
      have := fin (s.toks + 1) (s.toks + 1 + 1)
      rw [r.length] at this
      exact this
    | ro xs => cases hk
    | raw xs => cases hk
    | tup xs => cases hk
    | sd es =>
      cases hk
      obtain ⟨kvs, g, r⟩ := y
      refine call_len_dict (sysOff G p.rel.hr e rfl) g (by have := r.length; lia) ?_
      have := fin (s.toks + 1) (s.toks + 1 + 1)
      rw [r.length] at this
      exact this
    | idd es =>
      cases hk
      obtain ⟨kvs, g, r⟩ := y
      refine call_len_dict (sysOff G p.rel.hr e rfl) g (by have := r.length; lia) ?_
      have := fin (s.toks + 1) (s.toks + 1 + 1)
      rw [r.length] at this
      exact this
    | inst c dx as => cases hk

theorem call_list {a : Addr} {xs : List MV} (e : m a = some (.list xs)) (hs : xs.length ≤ 1000000) (q : ∀ b, m b = none → Q (.ref b) (m.set b (.list xs))) : ∀ rvs, VRs [.ref a] rvs → TV X n fe env vars (call (.type "list") rvs []) m Q Ex := fun rvs hv A s p => by
  cases hv with
  | cons r rs =>
  cases rs
  first | obtain rfl := r.refE | obtain rfl := r.boolE | cases r
  obtain ⟨vs, k, g, hv⟩ := p.rel.hr.obj a _ e
  refine call_list_seq (items := ⟨vs⟩) a (.inl rfl) g rfl rfl (fun h' c' kp hn => ?_) (by have := hv.length; show vs.length ≤ _; rw [← this]; exact sizeLine_big hs)
  obtain ⟨x, st⟩ := p.rel.hr.lay (a := s.heap.objs.size) (o := .list xs) (Heap.get?_none_of_le (Nat.le_refl _)) kp ⟨vs, c', hn, hv⟩ (fun _ _ _ z => by cases z) rfl
  exact ⟨_, _, .ref _, ⟨x, p.rel.gens, p.rel.os⟩, st _, q _ p.rel.hr.freshM⟩
theorem call_dict (G : Glo X) {a : Addr} {es : List (String × MV)} (e : m a = some (.sd es)) (hs : es.length ≤ 1000000) (q : ∀ b, m b = none → Q (.ref b) (m.set b (.sd es))) : ∀ rvs, VRs [.ref a] rvs → TV X n fe env vars (call (.type "dict") rvs []) m Q Ex := fun rvs hv A s p => by
  cases hv with
  | cons r rs =>
  cases rs
  first | obtain rfl := r.refE | obtain rfl := r.boolE | cases r
  obtain ⟨kvs, g, hv⟩ := p.rel.hr.obj a _ e
  refine kt_call_dict (sysOff G p.rel.hr e rfl) g (by rw [← hv.length]; exact sizeLine_big hs) fun h' hd hsb => ?_
  obtain ⟨x, st⟩ := p.rel.hr.lay (h' := h') (a := s.heap.objs.size) (o := .sd es) (Heap.get?_none_of_le (Nat.le_refl _)) (fun b o e => (hsb.2 b (fun z => by subst z; exact absurd (Heap.lt_size e) (Nat.lt_irrefl _))).trans (Heap.get?_push_of_some _ e)) ⟨kvs, hd, hv⟩ (fun _ _ _ z => by cases z) rfl
  exact ⟨_, _, .ref _, ⟨x, p.rel.gens, p.rel.os⟩, st _, q _ p.rel.hr.freshM⟩
theorem call_max (a b : Int) (q : Q (.int (if b > a then b else a)) m) : ∀ rvs, VRs [.int a, .int b] rvs → TV X n fe env vars (call (.builtin "max") rvs []) m Q Ex := fun rvs hv A s p => by
  obtain ⟨_, _, rfl, r, rs⟩ := hv.consE
  obtain ⟨_, _, rfl, r', rs⟩ := rs.consE
  obtain rfl := rs.nilE
  obtain ⟨_, rfl⟩ := r.intE; obtain ⟨_, rfl⟩ := r'.intE
  refine PySem.max_two_ints p.room.handled fun h' tk k => ?_
  refine ⟨.int (if b > a then b else a), m, ?_, p.rel.keeps k, .of_keeps k, q⟩
  split <;> exact .int _ _

/-! ### isinstance -/
theorem cls_inst (P : Params) : ∀ c, clsOk c = true → plainGet (KK P) c "__class__" = true ∧ hasDictIn (KK P) c = true ∧ findIn (KK P) (.ref c) "__class__" = some (some (.builtin "object.__class__")) ∧ specialIn (KK P) (.builtin "object.__class__") "__get__" = some (some (.builtin "getset_descriptor.__get__")) ∧ takesIn (KK P) (.builtin "object.__class__") = some true ∧ mroIn (KK P) c (.type "object") = some true ∧ kin_notT (KK P) c "str" = true := by
  intro c h
  simp only [clsOk, Bool.or_eq_true, beq_iff_eq] at h
  rcases h with rfl | rfl
  · exact ⟨by kernel_rfl, by kernel_rfl, by kernel_rfl, by kernel_rfl, by kernel_rfl, by kernel_rfl, by kernel_rfl⟩
  · exact ⟨by kernel_rfl, by kernel_rfl, by kernel_rfl, by kernel_rfl, by kernel_rfl, by kernel_rfl, by kernel_rfl⟩
theorem null_not (P : Params) : kin_not (KK P) cNull cVector = true := by kernel_rfl
theorem isi_class (G : Glo X) {a c dx : Addr} {as : List (String × MV)} (e : m a = some (.inst c dx as)) (hc : clsOk c = true) (q : Q (.bool (c == cVector)) m) : ∀ rvs, VRs [.ref a, .ref cVector] rvs → TV X n fe env vars (call (.builtin "isinstance") rvs []) m Q Ex := fun rvs hv A s p => by
  obtain ⟨_, _, rfl, r, rs⟩ := hv.consE
  obtain ⟨_, _, rfl, r', rs⟩ := rs.consE
  obtain rfl := rs.nilE
  obtain rfl := r.refE; obtain rfl := r'.refE
  obtain ⟨od, _, I⟩ := instAt_of (p.rel.hr.obj a _ e)
  obtain ⟨f1, f2, f3, f4, f5, f6, f7⟩ := cls_inst X.w.params c hc
  have fin : ∀ b t, b = (c == cVector) → TP X VR m s.heap Q (.bool b) { s with toks := t } := fun b t h => ⟨.bool b, m, .bool b, p.rel.tok, .refl .., h ▸ q⟩
  simp only [clsOk, Bool.or_eq_true, beq_iff_eq] at hc
  rcases hc with rfl | rfl
  · exact kin_callC (G.KK p.rel.hr) I (null_not _) f1 f2 f3 f4 f5 f6 (fin false _ rfl)
  · refine call_isinstance_of ?_ (by intro z; cases z)
    unfold Builtin.«isinstance.nested»
    refine wpAny_bind ((I.type (M := md X)).here ?_)
    rw [if_pos (by simp)]
    repeat (first | refine wpAny_pure ?_ | refine wpAny_rule ?_ | refine wpAny_bind ?_)
    exact fin true s.toks rfl
theorem isi_strI (G : Glo X) {a c dx : Addr} {as : List (String × MV)} (e : m a = some (.inst c dx as)) (hc : clsOk c = true) {w} (hw : w = Value.type "str") (q : Q (.bool false) m) : ∀ ra, VR (.ref a) ra → TV X n fe env vars (call (.builtin "isinstance") [ra, w] []) m Q Ex := fun rvs hv A s p => by
  subst hw
  first | obtain rfl := hv.refE | obtain rfl := hv.boolE | cases hv
  obtain ⟨od, _, I⟩ := instAt_of (p.rel.hr.obj a _ e)
  obtain ⟨f1, f2, f3, f4, f5, f6, f7⟩ := cls_inst X.w.params c hc
  exact kin_callT (G.KK p.rel.hr) I f7 (by kernel_rfl) f1 f2 f3 f4 f5 f6 ⟨.bool false, m, .bool _, p.rel.tok, .refl .., q⟩
theorem isi_strS {x : String} {w} (hw : w = Value.type "str") (q : Q (.bool true) m) : ∀ ra, VR (.str x) ra → TV X n fe env vars (call (.builtin "isinstance") [ra, w] []) m Q Ex := fun rvs hv A s p => by
  subst hw
  first | obtain rfl := hv.refE | obtain rfl := hv.boolE | cases hv
  exact call_isinstance_yes (typeIs_str s _ _) (by kernel_rfl) (by rw [isSubtype_type]; kernel_rfl) ⟨.bool true, m, .bool _, p.rel, .refl .., q⟩
theorem isi_strN {x : Int} {w} (hw : w = Value.type "str") (q : Q (.bool false) m) : ∀ ra, VR (.int x) ra → TV X n fe env vars (call (.builtin "isinstance") [ra, w] []) m Q Ex := fun rvs hv A s p => by
  subst hw
  first | obtain rfl := hv.refE | obtain rfl := hv.boolE | cases hv
  exact call_isinstance (isinstance_false_int (by kernel_rfl) (by kernel_rfl) (by rw [isSubtype_type]; kernel_rfl)) ⟨.bool false, m, .bool _, p.rel.tok, .refl .., q⟩
/-- isinstance(e, str) -/
theorem te_isiStr {p' p'' e pos} (G : Glo X) (hk : env.kindOf (S "isinstance") = some .globalImplicit) (hk' : env.kindOf (S "str") = some .globalImplicit) (hs : noStar e = true)
    (h : TE X n fe env vars e m (fun a m₁ => ∀ ra, VR a ra → TV X n fe env vars (call (.builtin "isinstance") [ra, .type "str"] []) m₁ Q Ex) Ex) : TE X n fe env vars (.Call (.Name (S "isinstance") p') [e, .Name (S "str") p''] [] pos) m Q Ex := fun A s p => by
  refine wpAny_Call_NameR (Name_function_global p.env.kind hk (load_builtin G p (x := "isinstance") (v := .builtin "isinstance") rfl ?_) (by decide +kernel))
  have he : starEach [e, .Name (S "str") p''] env = [(false, eval e env), (false, eval (.Name (S "str") p'') env)] := by cases e <;> first | rfl | (cases hs)
  rw [he]
  refine callWith_builtin rfl (evalArgs_plain (spliced_cons (h.go p (.refl ..) fun a m₁ ra s₁ r₁ p₁ st₁ q => spliced_cons (Name_function_global p₁.env.kind hk' (load_builtin G p₁ (x := "str") (v := .type "str") rfl (spliced_nil ?_)) (by decide +kernel)))))
  exact (q ra r₁).go p₁ st₁ fun c m₂ rc s₂ r₂ p₂ st₂ q => ⟨c, m₂, r₂, p₂.rel, st₂, q⟩
end

section
variable {X : Cx} {n : Nat} {fe env : Env} {vars : Vars} {m : MH} {Q : MV → MH → Prop} {Ex : String → MH → Prop}
/-! ### membership -/
noncomputable def isStrV (k : Str) : Value → Bool
  | .str y _ => y.cps.toList == k.cps.toList
  | _ => false
theorem strs_any {x : String} {ss : List String} {vs : List Value} (h : VRs (ss.map .str) vs) : vs.any (isStrV (S x)) = decide (x ∈ ss) := by
  induction ss generalizing vs with
  | nil => cases h; rfl
  | cons s ss ih =>
    cases h with
    | cons r rs =>
    cases r
    rw [List.any_cons, ih rs]
    show ((S s).cps.toList == (S x).cps.toList || _) = _
    rw [str_beq]
    by_cases h : s = x
    · subst h; simp
    · simp [h, Ne.symm h]
theorem strs_eq {x : String} {t : Tok} {ss : List String} {vs : List Value} (h : VRs (ss.map .str) vs) : ∀ y, y ∈ vs → MeetsSeq.EqGives y (.str (S x) t) (isStrV (S x) y) := by
  intro y hy
  induction ss generalizing vs with
  | nil => cases h; cases hy
  | cons s ss ih =>
    cases h with
    | cons r rs =>
      rcases List.mem_cons.mp hy with e | hy
      · subst e; cases r; exact SeqRoads2.EqGives.str _ _ _ _
      · exact ih rs hy
theorem in_strs {x : String} {a : Addr} {ss : List String} (e : m a = some (.list (ss.map .str)) ∨ m a = some (.tup (ss.map .str))) (h : Q (.bool (decide (x ∈ ss))) m) : CmpQ X n fe env vars .In (.str x) (.ref a) m Q Ex := fun ra rb ha hb A s p => by
  obtain ⟨_, rfl⟩ := ha.strE; obtain rfl := hb.refE
  rcases e with e | e
  · obtain ⟨vs, k, g, r⟩ := p.rel.hr.obj a _ e
    refine SeqRoads2.in_list (isStrV (S x)) (fun y hy => strs_eq r y (by simpa using hy)) g ⟨.bool _, m, .bool _, p.rel, .refl .., ?_⟩
    rw [show (⟨vs⟩ : Array Value).any (isStrV (S x)) = vs.any (isStrV (S x)) from by simp, strs_any r]; exact h
  · obtain ⟨vs, k, g, r⟩ := p.rel.hr.obj a _ e
    refine SeqRoads2.in_tuple (isStrV (S x)) (fun y hy => strs_eq r y (by simpa using hy)) g ⟨.bool _, m, .bool _, p.rel, .refl .., ?_⟩
    rw [show (⟨vs⟩ : Array Value).any (isStrV (S x)) = vs.any (isStrV (S x)) from by simp, strs_any r]; exact h
theorem notIn_strs {x : String} {a : Addr} {ss : List String} (e : m a = some (.list (ss.map .str)) ∨ m a = some (.tup (ss.map .str))) (h : Q (.bool (!decide (x ∈ ss))) m) : CmpQ X n fe env vars .NotIn (.str x) (.ref a) m Q Ex := fun ra rb ha hb A s p => by
  obtain ⟨_, rfl⟩ := ha.strE; obtain rfl := hb.refE
  rcases e with e | e
  · obtain ⟨vs, k, g, r⟩ := p.rel.hr.obj a _ e
    refine SeqRoads2.notIn_list (isStrV (S x)) (fun y hy => strs_eq r y (by simpa using hy)) g ⟨.bool _, m, .bool _, p.rel, .refl .., ?_⟩
    rw [show (⟨vs⟩ : Array Value).any (isStrV (S x)) = vs.any (isStrV (S x)) from by simp, strs_any r]; exact h
  · obtain ⟨vs, k, g, r⟩ := p.rel.hr.obj a _ e
    refine SeqRoads2.notIn_tuple (isStrV (S x)) (fun y hy => strs_eq r y (by simpa using hy)) g ⟨.bool _, m, .bool _, p.rel, .refl .., ?_⟩
    rw [show (⟨vs⟩ : Array Value).any (isStrV (S x)) = vs.any (isStrV (S x)) from by simp, strs_any r]; exact h
theorem sd_some {es : List (String × MV)} {kvs : List (Str × Value)} (h : All2 SR es kvs) (k : String) : (valueAt kvs (S k)).isSome = (es.lookup k).isSome := by
  cases e : es.lookup k with
  | none => rw [lookup_All2_none h e]; rfl
  | some v => obtain ⟨rv, e', _⟩ := lookup_All2 h e; rw [e']; rfl
theorem in_sd (G : Glo X) {x : String} {a : Addr} {es : List (String × MV)} (e : m a = some (.sd es)) (h : Q (.bool (es.lookup x).isSome) m) : CmpQ X n fe env vars .In (.str x) (.ref a) m Q Ex := fun ra rb ha hb A s p => by
  obtain ⟨_, rfl⟩ := ha.strE; obtain rfl := hb.refE
  obtain ⟨kvs, g, r⟩ := p.rel.hr.obj a _ e
  refine wpAny_in_of (knd := strKind pw X.w) (k := S x) (isStrKey _ _) (sysOff G p.rel.hr e rfl) g.mapOf ⟨.bool _, m, .bool _, p.rel.tok, .refl .., ?_⟩
  rw [sd_some r]; exact h
theorem notIn_sd (G : Glo X) {x : String} {a : Addr} {es : List (String × MV)} (e : m a = some (.sd es)) (h : Q (.bool (!(es.lookup x).isSome)) m) : CmpQ X n fe env vars .NotIn (.str x) (.ref a) m Q Ex := fun ra rb ha hb A s p => by
  obtain ⟨_, rfl⟩ := ha.strE; obtain rfl := hb.refE
  obtain ⟨kvs, g, r⟩ := p.rel.hr.obj a _ e
  refine PySem.wpAny_notIn_of (knd := strKind pw X.w) (k := S x) (isStrKey _ _) (sysOff G p.rel.hr e rfl) g.mapOf ⟨.bool _, m, .bool _, p.rel.tok, .refl .., ?_⟩
  rw [sd_some r]; exact h
theorem idd_some {es : List (Int × MV)} {kvs : List (Int × Value)} (h : All2 IR es kvs) (k : Int) : (valueAt kvs k).isSome = (es.lookup k).isSome := by
  induction h with
  | nil => rfl
  | @cons a b _ _ r _ ih =>
    obtain ⟨x, v⟩ := a
    obtain ⟨y, u⟩ := b
    obtain ⟨e, _⟩ := r
    simp only at e
    subst e
    unfold valueAt at *
    rw [List.find?_cons, List.lookup_cons]
    by_cases h : k = y
    · subst h; simp
    · have h' : (k == y) = false := by simpa using h
      have h2 : decide (y = k) = false := by simpa using fun z => h z.symm
      simp only [h', h2]
      exact ih
theorem range_true (k : Nat) : ((List.range k).all fun _ => true) = true := by simp [List.all_eq_true]
theorem notIn_idd (G : Glo X) {x : Int} {a : Addr} {es : List (Int × MV)} (e : m a = some (.idd es)) (h : Q (.bool (!(es.lookup x).isSome)) m) : CmpQ X n fe env vars .NotIn (.int x) (.ref a) m Q Ex := fun ra rb ha hb A s p => by
  obtain ⟨_, rfl⟩ := ha.intE; obtain rfl := hb.refE
  obtain ⟨kvs, g, r⟩ := p.rel.hr.obj a _ e
  refine PySem.wpAny_notIn_of (knd := intKind pw X.w) (k := x) (isIntKey _ _) (sysOff G p.rel.hr e rfl) g.mapOf ⟨.bool _, m, .bool _, p.rel.tok, .refl .., ?_⟩
  rw [idd_some r]; exact h

/-! ### equality of trees -/
noncomputable def Same (m : MH) : Nat → MV → MV → Prop
  | 0, _, _ => False
  | d + 1, .none, .none => True
  | d + 1, .bool a, .bool b => a = b
  | d + 1, .int a, .int b => a = b
  | d + 1, .str a, .str b => a = b
  | d + 1, .ref a, .ref b => a = b ∨ (∃ xs ys, m a = some (.list xs) ∧ m b = some (.list ys) ∧ All2 (Same m d) xs ys) ∨ (∃ xs ys, m a = some (.tup xs) ∧ m b = some (.tup ys) ∧ All2 (Same m d) xs ys)
  | _ + 1, _, _ => False
theorem isL {X : Cx} {m : MH} {h : Heap} (r : HR X m h) {a : Addr} {xs : List MV} (e : m a = some (.list xs)) : ∃ vs : List Value, h.IsList a vs.toArray ∧ VRs xs vs := by
  obtain ⟨vs, k, g, q⟩ := r.obj a _ e
  exact ⟨vs, ⟨_, g, rfl, k, by simp⟩, q⟩
theorem isT {X : Cx} {m : MH} {h : Heap} (r : HR X m h) {a : Addr} {xs : List MV} (e : m a = some (.tup xs)) : ∃ vs : List Value, h.IsTuple a vs.toArray ∧ VRs xs vs := by
  obtain ⟨vs, k, g, q⟩ := r.obj a _ e
  exact ⟨vs, ⟨_, g, rfl, k, by simp⟩, q⟩
theorem all2_at {α β γ δ : Type} {P : α → β → Prop} {R : α → γ → Prop} {T : β → δ → Prop} : ∀ {xs : List α} {ys : List β} {us : List γ} {vs : List δ}, All2 P xs ys → All2 R xs us → All2 T ys vs → ∀ j (h1 : j < us.length) (h2 : j < vs.length), ∃ x y, P x y ∧ R x us[j] ∧ T y vs[j] := by
  intro xs ys us vs h
  induction h generalizing us vs with
  | nil => intro hu _ j h1 _; cases hu; exact absurd h1 (Nat.not_lt_zero _)
  | cons p _ ih =>
    intro hu hv j h1 h2
    cases hu with
    | cons r rs => cases hv with
      | cons t ts => cases j with
        | zero => exact ⟨_, _, p, r, t⟩
        | succ j => exact ih rs ts j (Nat.lt_of_succ_lt_succ h1) (Nat.lt_of_succ_lt_succ h2)
theorem same_eq {X : Cx} {m : MH} {s : Shared} (r : HR X m s.heap) (d : Nat) {A : Around} {a b : MV} {ra rb : Value} (hu : A.units + d < cLine) (h : Same m d a b) (ha : VR a ra) (hb : VR b rb) : SeqAt.EqAt A s ra rb true := by
  induction d generalizing A a b ra rb with
  | zero => exact h.elim
  | succ d ih =>
    cases ha <;> cases hb <;> first | exact (h.elim) | skip
    · exact SeqAt.EqAt.same _
    · have : _ = _ := h; subst this; exact SeqAt.EqAt.same _
    · have : _ = _ := h; subst this
      rename_i i t t'
      simpa using SeqAt.EqAt.int_int (A := A) (s := s) i t i t'
    · have : _ = _ := h; subst this
      rename_i i t t'
      simpa using SeqAt.EqAt.str_str (A := A) (s := s) (S i) t (S i) t'
    · rename_i a b
      by_cases hab : a = b
      · subst hab; exact SeqAt.EqAt.same _
      · rcases h with h | ⟨xs, ys, e1, e2, h⟩ | ⟨xs, ys, e1, e2, h⟩
        · exact absurd h hab
        · obtain ⟨us, g1, r1⟩ := isL r e1
          obtain ⟨vs, g2, r2⟩ := isL r e2
          refine .of_refs hab ?_
          have hl : us.toArray.size = vs.toArray.size := by simp; rw [← r1.length, ← r2.length, h.length]
          have := SeqAt.RcAt.lists (A := A) (e := fun _ => true) g1 g2 hl (by lia) fun j h1 h2 => by
            obtain ⟨x, y, p1, p2, p3⟩ := all2_at h r1 r2 j (by simpa using h1) (by simpa using h2)
            exact ih (by show A.units + 1 + d < _; rw [Nat.add_assoc, Nat.add_comm 1]; exact hu) p1 p2 p3
          rw [range_true] at this
          exact this
        · obtain ⟨us, g1, r1⟩ := isT r e1
          obtain ⟨vs, g2, r2⟩ := isT r e2
          refine .of_refs hab ?_
          have hl : us.toArray.size = vs.toArray.size := by simp; rw [← r1.length, ← r2.length, h.length]
          have := SeqAt.RcAt.tuples (A := A) (e := fun _ => true) g1 g2 (by lia) fun j h1 h2 => by
            obtain ⟨x, y, p1, p2, p3⟩ := all2_at h r1 r2 j (by simpa using h1) (by simpa using h2)
            exact ih (by show A.units + 1 + d < _; rw [Nat.add_assoc, Nat.add_comm 1]; exact hu) p1 p2 p3
          rw [range_true, hl] at this
          simpa using this
theorem of_rcne {prog : Program} {w : World} {A : Around} {E : Value → Shared → Prop} {s : Shared} {K : Value → Shared → Prop} {a b : Value} {k : Bool} (h : SeqAt.RcNeAt A s a b k) (hq : K (.bool k) s) : wpAny (model prog w) A (compareOp .NotEq a b) K E s := h prog w E K hq
theorem eq_same {a b : MV} {d : Nat} (hd : d ≤ 50) (h : Same m d a b) (q : Q (.bool false) m) (hk : ∀ x y, a = .ref x → b = .ref y → (∃ xs ys, m x = some (.list xs) ∧ m y = some (.list ys)) ∨ ∃ xs ys, m x = some (.tup xs) ∧ m y = some (.tup ys)) : CmpQ X n fe env vars .NotEq a b m Q Ex := fun ra rb ha hb A s p => by
  have hu : A.units + 60 < cLine := by have := p.room.units; unfold cLine; lia
  have fin : TP X VR m s.heap Q (.bool false) s := ⟨.bool false, m, .bool _, p.rel, .refl .., q⟩
  cases d with
  | zero => exact h.elim
  | succ d =>
    cases ha <;> cases hb <;> first | exact (h.elim) | skip
    · exact of_rcne SeqAt.RcNeAt.none_none fin
    · have : _ = _ := h; subst this
      exact of_rcne (SeqAt.RcNeAt.bool_bool _ _) (by simpa using fin)
    · have : _ = _ := h; subst this
      exact of_rcne (SeqAt.RcNeAt.int_int _ _ _ _) (by simpa using fin)
    · have : _ = _ := h; subst this
      exact of_rcne (SeqAt.RcNeAt.str_str _ _ _ _) (by simpa using fin)
    · rename_i a b
      have r := p.rel.hr
      have eqs : ∀ {xs ys : List MV} {us vs : List Value}, (a = b ∨ All2 (Same m d) xs ys) → (a = b → us = vs) → VRs xs us → VRs ys vs → ∀ j (h1 : j < us.toArray.size) (h2 : j < vs.toArray.size), SeqAt.EqAt A.in1 s us.toArray[j] vs.toArray[j] true := by
        intro xs ys us vs h0 h' r1 r2 j h1 h2
        by_cases hab : a = b
        · have := h' hab; subst this; exact SeqAt.EqAt.same _
        · obtain ⟨x, y, p1, p2, p3⟩ := all2_at (h0.resolve_left hab) r1 r2 j (by simpa using h1) (by simpa using h2)
          exact same_eq r d (by show A.units + 1 + d < _; lia) p1 (by simpa using p2) (by simpa using p3)
      have un : ∀ {h : Heap} {a : Addr} {us vs : List Value}, h.IsList a us.toArray → h.IsList a vs.toArray → us = vs := by
        rintro h a us vs ⟨o, g, _, _, d1⟩ ⟨o', g', _, _, d2⟩
        rw [g] at g'; cases g'; rw [d1] at d2; simpa using (Data.seq.inj d2).1
      have un' : ∀ {h : Heap} {a : Addr} {us vs : List Value}, h.IsTuple a us.toArray → h.IsTuple a vs.toArray → us = vs := by
        rintro h a us vs ⟨o, g, _, _, d1⟩ ⟨o', g', _, _, d2⟩
        rw [g] at g'; cases g'; rw [d1] at d2; simpa using (Data.seq.inj d2).1
      rcases hk a b rfl rfl with ⟨xs, ys, e1, e2⟩ | ⟨xs, ys, e1, e2⟩
      · have hh : a = b ∨ All2 (Same m d) xs ys := by
          rcases h with h | ⟨xs', ys', e1', e2', h⟩ | ⟨xs', ys', e1', e2', h⟩
          · exact .inl h
          · rw [e1] at e1'; rw [e2] at e2'; cases e1'; cases e2'; exact .inr h
          · rw [e1] at e1'; cases e1'
        obtain ⟨us, g1, r1⟩ := isL r e1
        obtain ⟨vs, g2, r2⟩ := isL r e2
        have huv : a = b → us = vs := fun z => by subst z; exact un g1 g2
        have hl : us.toArray.size = vs.toArray.size := by
          rcases hh with z | z
          · rw [huv z]
          · simp; rw [← r1.length, ← r2.length, z.length]
        have := SeqAt.RcNeAt.lists (A := A) (e := fun _ => true) g1 g2 hl (by lia) (eqs hh huv r1 r2)
        rw [range_true] at this
        exact of_rcne this fin
      · have hh : a = b ∨ All2 (Same m d) xs ys := by
          rcases h with h | ⟨xs', ys', e1', e2', h⟩ | ⟨xs', ys', e1', e2', h⟩
          · exact .inl h
          · rw [e1] at e1'; cases e1'
          · rw [e1] at e1'; rw [e2] at e2'; cases e1'; cases e2'; exact .inr h
        obtain ⟨us, g1, r1⟩ := isT r e1
        obtain ⟨vs, g2, r2⟩ := isT r e2
        have huv : a = b → us = vs := fun z => by subst z; exact un' g1 g2
        have hl : us.toArray.size = vs.toArray.size := by
          rcases hh with z | z
          · rw [huv z]
          · simp; rw [← r1.length, ← r2.length, z.length]
        have := SeqAt.RcNeAt.tuples (A := A) (e := fun _ => true) g1 g2 (by lia) (eqs hh huv r1 r2)
        rw [range_true, hl] at this
        exact of_rcne this (by simpa using fin)
theorem ne_nil {a b : Addr} {xs : List MV} (e1 : m a = some (.list xs)) (e2 : m b = some (.list [])) (q : Q (.bool (!xs.isEmpty)) m) : CmpQ X n fe env vars .NotEq (.ref a) (.ref b) m Q Ex := fun ra rb ha hb A s p => by
  have hu : A.units + 60 < cLine := by have := p.room.units; unfold cLine; lia
  obtain rfl := ha.refE; obtain rfl := hb.refE
  obtain ⟨us, g1, r1⟩ := isL p.rel.hr e1
  obtain ⟨vs, g2, r2⟩ := isL p.rel.hr e2
  cases r2
  cases r1 with
  | nil =>
    have := SeqAt.RcNeAt.lists (A := A) (e := fun _ => true) g1 g2 rfl (by lia) (fun j h1 h2 => by simp at h1)
    rw [range_true] at this
    exact of_rcne this ⟨.bool false, m, .bool _, p.rel, .refl .., q⟩
  | cons r rs =>
    exact of_rcne (SeqAt.RcNeAt.lists_lengths g1 g2 (by simp) (by lia)) ⟨.bool true, m, .bool _, p.rel, .refl .., q⟩
end

theorem list_turn {X : Cx} {m : MH} {s : Shared} {a : Addr} {xs ys : List MV} {vs : List Value} {k : Nat} (r : Rel X m s) (e : m a = some (.list xs)) (g : s.heap.get? a = some (listO vs k)) (f : Array Value → Array Value) (hy : VRs ys (f ⟨vs⟩).toList) :
    Rel X (m.set a (.list ys)) { s with heap := s.heap.update a (Obj.mapSeq f) } ∧ Step m s.heap (m.set a (.list ys)) (s.heap.update a (Obj.mapSeq f)) := by
  obtain ⟨x, st⟩ := r.hr.turn (h' := s.heap.update a (Obj.mapSeq f)) (o' := .list ys) e (fun b hb => Heap.get?_update_other _ _ (Ne.symm hb)) ⟨(f ⟨vs⟩).toList, _, Heap.get?_update_self (Obj.mapSeq f) g rfl, hy⟩ (fun _ _ _ z => by cases z) (fun _ _ _ z => by cases z) rfl rfl
  exact ⟨⟨x, r.gens, r.os⟩, st _⟩
theorem list_at {X : Cx} {m : MH} {h : Heap} (r : HR X m h) {a : Addr} {xs : List MV} (e : m a = some (.list xs)) : ∃ vs k, h.get? a = some (listO vs k) ∧ VRs xs vs := r.obj a _ e
section
variable {X : Cx} {n : Nat} {fe env : Env} {vars : Vars} {m : MH} {Q : MV → MH → Prop} {Ex : String → MH → Prop}
theorem trees1 {e : PySem.Expr} {pos : Pos} (hs : noStar e = true) : backTo pos (starEach [e] env) = [(false, eval e env)] := by cases e <;> first | rfl | (cases hs)
theorem te_append {o e : PySem.Expr} {apos pos : Pos} (hb : noNullCall o = true) (hl : (apos.endLine == pos.line) = true) (hs : noStar e = true)
    (h : TE X n fe env vars o m (fun ov m₁ => ∃ a, ov = .ref a ∧ (∃ xs, m₁ a = some (.list xs)) ∧ TE X n fe env vars e m₁ (fun v m₂ => ∃ xs, m₂ a = some (.list xs) ∧ xs.length ≤ 999999 ∧ Q .none (m₂.set a (.list (xs ++ [v])))) Ex) Ex) :
    TE X n fe env vars (.Call (.Attribute o (S "append") apos) [e] [] pos) m Q Ex := fun A s p =>
  wpAny_Call_method1_late (attributeBase_plain hb _ _ _) hl (trees1 hs) (h.go p (.refl ..) fun ov m₁ rv s₁ r₁ p₁ st₁ hz => by
    obtain ⟨a, ha, ⟨xs, hx⟩, q⟩ := hz
    subst ha
    first | obtain rfl := r₁.refE | obtain rfl := r₁.boolE | cases r₁
    obtain ⟨vs, k, g, _⟩ := list_at p₁.rel.hr hx
    refine ⟨"list", "list.append", F.plainAttrs_list, F.slot_list_append, F.type_list_append, ⟨_, g, rfl⟩, fun b hb => ?_, ?_⟩
    · cases hb; exact ⟨_, g, rfl⟩
    · refine P.append_list (q.go p₁ st₁ fun v m₂ rv s₂ r₂ p₂ st₂ hz => ?_)
      obtain ⟨xs, hx, hlen, q⟩ := hz
      obtain ⟨vs, k, g, hv⟩ := list_at p₂.rel.hr hx
      obtain ⟨x, st⟩ := list_turn (ys := xs ++ [v]) p₂.rel hx g (fun y => y.push rv) (by simpa using hv.append (.cons r₂ .nil))
      exact ⟨⟨vs⟩, k, by show vs.length ≤ _; rw [← hv.length]; exact sizeLine_big (by lia), g, .none, _, .none, x, st₂.trans st, q⟩)
theorem te_extend {o e : PySem.Expr} {apos pos : Pos} (hb : noNullCall o = true) (hl : (apos.endLine == pos.line) = true) (hs : noStar e = true)
    (h : TE X n fe env vars o m (fun ov m₁ => ∃ a, ov = .ref a ∧ (∃ xs, m₁ a = some (.list xs)) ∧ TE X n fe env vars e m₁ (fun v m₂ => ∃ b xs ys, v = .ref b ∧ m₂ a = some (.list xs) ∧ m₂ b = some (.list ys) ∧ xs.length + ys.length ≤ 999999 ∧ Q .none (m₂.set a (.list (xs ++ ys)))) Ex) Ex) :
    TE X n fe env vars (.Call (.Attribute o (S "extend") apos) [e] [] pos) m Q Ex := fun A s p =>
  wpAny_Call_method1_late (attributeBase_plain hb _ _ _) hl (trees1 hs) (h.go p (.refl ..) fun ov m₁ rv s₁ r₁ p₁ st₁ hz => by
    obtain ⟨a, ha, ⟨xs, hx⟩, q⟩ := hz
    subst ha
    first | obtain rfl := r₁.refE | obtain rfl := r₁.boolE | cases r₁
    obtain ⟨vs, k, g, _⟩ := list_at p₁.rel.hr hx
    refine ⟨"list", "list.extend", F.plainAttrs_list, F.slot_list_extend, F.type_list_extend, ⟨_, g, rfl⟩, fun b hb => ?_, ?_⟩
    · cases hb; exact ⟨_, g, rfl⟩
    · refine P.extend_list (q.go p₁ st₁ fun v m₂ rv s₂ r₂ p₂ st₂ hz => ?_)
      obtain ⟨b, xs, ys, hv, hx, hy, hlen, q⟩ := hz
      subst hv
      first | obtain rfl := r₂.refE | obtain rfl := r₂.boolE | cases r₂
      obtain ⟨vs, k, g, hv⟩ := list_at p₂.rel.hr hx
      obtain ⟨us, k', g', hu⟩ := list_at p₂.rel.hr hy
      obtain ⟨x, st⟩ := list_turn (ys := xs ++ ys) p₂.rel hx g (fun y => y ++ us.toArray) (by simpa using hv.append hu)
      refine ⟨b, ⟨vs⟩, ⟨us⟩, k, k', ?_, ?_, ?_, rfl, g, g', .none, _, .none, x, st₂.trans st, q⟩
      · show vs.length ≤ _; rw [← hv.length]; exact sizeLine_big (Nat.le_trans (Nat.le_add_right _ _) (Nat.le_trans hlen (by decide)))
      · show vs.length + us.length ≤ _; rw [← hv.length, ← hu.length]; exact Nat.le_succ_of_le (sizeLine_big (Nat.le_trans hlen (by decide)))
      · have : ¬ (Builtin.List.listTooLong (vs.length + us.length) = true) := by
          unfold Builtin.List.listTooLong sizeLine; rw [← hv.length, ← hu.length]; simp; lia
        simp only [Bool.and_eq_true, not_and]
        exact fun _ => this)
theorem te_reverse {o : PySem.Expr} {apos pos : Pos} (hb : noNullCall o = true) (hl : (apos.endLine == pos.line) = true)
    (h : TE X n fe env vars o m (fun ov m₁ => ∃ a xs, ov = .ref a ∧ m₁ a = some (.list xs) ∧ xs.length ≤ 999999 ∧ Q .none (m₁.set a (.list xs.reverse))) Ex) :
    TE X n fe env vars (.Call (.Attribute o (S "reverse") apos) [] [] pos) m Q Ex := fun A s p =>
  wpAny_Call_method0_late (attributeBase_plain hb _ _ _) hl (h.go p (.refl ..) fun ov m₁ rv s₁ r₁ p₁ st₁ hz => by
    obtain ⟨a, xs, ha, hx, hlen, q⟩ := hz
    subst ha
    first | obtain rfl := r₁.refE | obtain rfl := r₁.boolE | cases r₁
    obtain ⟨vs, k, g, hv⟩ := list_at p₁.rel.hr hx
    refine ⟨"list", "list.reverse", F.plainAttrs_list, F.slot_list_reverse, F.type_list_reverse, ⟨_, g, rfl⟩, fun b hb => ?_, ?_⟩
    · cases hb; exact ⟨_, g, rfl⟩
    · obtain ⟨x, st⟩ := list_turn (ys := xs.reverse) p₁.rel hx g (fun y => y.reverse) (by simpa using hv.reverse)
      exact P.reverse_list g ⟨.none, _, .none, x, st₁.trans st, q⟩ (by show vs.length ≤ _; rw [← hv.length]; exact sizeLine_big (by lia)))
theorem te_pop {o : PySem.Expr} {apos pos : Pos} (hb : noNullCall o = true) (hl : (apos.endLine == pos.line) = true)
    (h : TE X n fe env vars o m (fun ov m₁ => ∃ a xs v, ov = .ref a ∧ m₁ a = some (.list (xs ++ [v])) ∧ xs.length ≤ 999999 ∧ Q v (m₁.set a (.list xs))) Ex) :
    TE X n fe env vars (.Call (.Attribute o (S "pop") apos) [] [] pos) m Q Ex := fun A s p =>
  wpAny_Call_method0_late (attributeBase_plain hb _ _ _) hl (h.go p (.refl ..) fun ov m₁ rv s₁ r₁ p₁ st₁ hz => by
    obtain ⟨a, xs, v, ha, hx, hlen, q⟩ := hz
    subst ha
    first | obtain rfl := r₁.refE | obtain rfl := r₁.boolE | cases r₁
    obtain ⟨vs, k, g, hv⟩ := list_at p₁.rel.hr hx
    have hlen' : vs.length = xs.length + 1 := by rw [← hv.length]; simp
    refine ⟨"list", "list.pop", F.plainAttrs_list, F.slot_list_pop, F.type_list_pop, ⟨_, g, rfl⟩, fun b hb => ?_, ?_⟩
    · cases hb; exact ⟨_, g, rfl⟩
    · obtain ⟨y, hy, r⟩ := hv.get (i := xs.length) (a := v) (by simp)
      have hd : VRs xs ((fun y : Array Value => y.eraseIdxIfInBounds ((⟨vs⟩ : Array Value).size - 1)) ⟨vs⟩).toList := by
        have h1 := hv.take xs.length
        rw [List.take_left'] at h1
        · have : ((⟨vs⟩ : Array Value).eraseIdxIfInBounds ((⟨vs⟩ : Array Value).size - 1)).toList = vs.take xs.length := by
            show (Array.eraseIdxIfInBounds ⟨vs⟩ (vs.length - 1)).toList = _
            rw [Array.eraseIdxIfInBounds, dif_pos (by show vs.length - 1 < vs.length; rw [hlen']; exact Nat.lt_succ_self _), Array.toList_eraseIdx]
            show vs.eraseIdx (vs.length - 1) = _
            rw [List.eraseIdx_eq_take_drop_succ, List.drop_of_length_le (Nat.le_of_eq (by rw [hlen']; rfl)), List.append_nil, hlen']
            rfl
          rw [this]; exact h1
        · rfl
      obtain ⟨x, st⟩ := list_turn (ys := xs) p₁.rel hx g (fun y => y.eraseIdxIfInBounds ((⟨vs⟩ : Array Value).size - 1)) hd
      refine P.pop_list g ?_ ⟨v, _, r, x, st₁.trans st, q⟩ (by show vs.length ≤ _; rw [hlen']; exact sizeLine_big (by lia))
      show (⟨vs⟩ : Array Value)[vs.length - 1]? = some y
      rw [hlen']
      simpa using hy)
/-- the first place of a text -/
noncomputable def firstAt (x : String) : List String → Nat
  | [] => 0
  | y :: r => if y = x then 0 else firstAt x r + 1
theorem firstAt_spec {x : String} {ss : List String} (h : x ∈ ss) : ss[firstAt x ss]? = some x ∧ ∀ j, j < firstAt x ss → ∀ y, ss[j]? = some y → y ≠ x := by
  induction ss with
  | nil => cases h
  | cons y r ih =>
    unfold firstAt
    by_cases e : y = x
    · rw [if_pos e]; exact ⟨by simp [e], fun j hj => absurd hj (Nat.not_lt_zero _)⟩
    · rw [if_neg e]
      obtain ⟨a, b⟩ := ih ((List.mem_cons.mp h).resolve_left fun z => e z.symm)
      refine ⟨by simpa using a, fun j hj z hz => ?_⟩
      cases j with
      | zero => simp at hz; subst hz; exact e
      | succ j => exact b j (Nat.lt_of_succ_lt_succ hj) z hz
theorem te_indexL {o e : PySem.Expr} {apos pos : Pos} (hb : noNullCall o = true) (hl : (apos.endLine == pos.line) = true) (hs : noStar e = true)
    (h : TE X n fe env vars o m (fun ov m₁ => ∃ a, ov = .ref a ∧ (∃ xs, m₁ a = some (.list xs)) ∧ TE X n fe env vars e m₁ (fun v m₂ => ∃ x ss, v = .str x ∧ m₂ a = some (.list (ss.map .str)) ∧ ss.length ≤ 999999 ∧ x ∈ ss ∧ Q (.int (firstAt x ss)) m₂) Ex) Ex) :
    TE X n fe env vars (.Call (.Attribute o (S "index") apos) [e] [] pos) m Q Ex := fun A s p =>
  wpAny_Call_method1_late (attributeBase_plain hb _ _ _) hl (trees1 hs) (h.go p (.refl ..) fun ov m₁ rv s₁ r₁ p₁ st₁ hz => by
    obtain ⟨a, ha, ⟨xs, hx⟩, q⟩ := hz
    subst ha
    first | obtain rfl := r₁.refE | obtain rfl := r₁.boolE | cases r₁
    obtain ⟨vs, k, g, _⟩ := list_at p₁.rel.hr hx
    refine ⟨"list", "list.index", F.plainAttrs_list, F.slot_list_index, F.type_list_index, ⟨_, g, rfl⟩, fun b hb => ?_, ?_⟩
    · cases hb; exact ⟨_, g, rfl⟩
    · refine P.index_list (q.go p₁ st₁ fun v m₂ rv s₂ r₂ p₂ st₂ hz => ?_)
      obtain ⟨x, ss, hv, hx, hlen, hm, q⟩ := hz
      subst hv
      first | obtain rfl := r₂.refE | obtain rfl := r₂.boolE | cases r₂
      obtain ⟨vs, k, g, hv⟩ := list_at p₂.rel.hr hx
      obtain ⟨e1, e2⟩ := firstAt_spec hm
      have hlen' : vs.length = ss.length := by rw [← hv.length]; simp
      have hj : firstAt x ss < ss.length := (List.getElem?_eq_some_iff.mp e1).1
      have at_ : ∀ j (hj : j < vs.length), ∃ y t, ss[j]? = some y ∧ vs[j] = .str (S y) t := fun j hj => by
        obtain ⟨b, hb, r⟩ := hv.get' (i := j) (b := vs[j]) (by simp [hj])
        rw [List.getElem?_map] at hb
        cases hy : ss[j]? with
        | none => rw [hy] at hb; cases hb
        | some y => rw [hy] at hb; simp at hb; subst hb; generalize vs[j] = z at r ⊢; cases r; exact ⟨y, _, rfl, rfl⟩
      refine ⟨⟨vs⟩, k, isStrV (S x), firstAt x ss, by show _ < vs.length; lia, g, fun y hy => strs_eq hv y (by simpa using hy), by lia, ?_, fun j hj' hlt => ?_, .int _, m₂, .int _ _, p₂.rel.tok, st₂, q⟩
      · obtain ⟨y, t, a1, a2⟩ := at_ (firstAt x ss) (by lia)
        rw [e1] at a1; cases a1
        show isStrV (S x) vs[firstAt x ss] = true
        rw [a2]; show ((S x).cps.toList == (S x).cps.toList) = true; simp
      · obtain ⟨y, t, a1, a2⟩ := at_ j hj'
        show isStrV (S x) vs[j] = false
        rw [a2]; show ((S y).cps.toList == (S x).cps.toList) = false
        rw [str_beq]; simpa using e2 j hlt y a1)
end

/-- a new attribute, or a turned one -/
noncomputable def seta (as : List (String × MV)) (x : String) (v : MV) : List (String × MV) := setv as x v
noncomputable def sstored (es : List (String × MV)) (k : String) (v : MV) : List (String × MV) := if es.any (fun kv => kv.1 = k) then es.map fun kv => if kv.1 = k then (k, v) else kv else es ++ [(k, v)]
noncomputable def istored (es : List (Int × MV)) (k : Int) (v : MV) : List (Int × MV) := if es.any (fun kv => kv.1 = k) then es.map fun kv => if kv.1 = k then (k, v) else kv else es ++ [(k, v)]
theorem all2_map {α β γ δ : Type} {R : α → β → Prop} {T : γ → δ → Prop} {f : α → γ} {g : β → δ} (k : ∀ a b, R a b → T (f a) (g b)) {as : List α} {bs : List β} (h : All2 R as bs) : All2 T (as.map f) (bs.map g) := by
  induction h with
  | nil => exact .nil
  | cons r _ ih => exact .cons (k _ _ r) ih
theorem all2_any {α β : Type} {R : α → β → Prop} {f : α → Bool} {g : β → Bool} (k : ∀ a b, R a b → f a = g b) {as : List α} {bs : List β} (h : All2 R as bs) : as.any f = bs.any g := by
  induction h with
  | nil => rfl
  | cons r _ ih => rw [List.any_cons, List.any_cons, k _ _ r, ih]
theorem sd_stored {es : List (String × MV)} {kvs : List (Str × Value)} {k : String} {v : MV} {rv : Value} (h : All2 SR es kvs) (r : VR v rv) : All2 SR (sstored es k v) (stored kvs (S k) rv) := by
  have key : ∀ (a : String × MV) (b : Str × Value), SR a b → (b.1 = S k ↔ a.1 = k) := fun a b q => ⟨fun z => ofString_inj (q.1.symm.trans z), fun z => by rw [q.1, z]⟩
  unfold sstored stored
  rw [all2_any (g := fun kv => decide (kv.1 = S k)) (fun a b q => decide_eq_decide.mpr (key a b q).symm) h]
  split
  · refine all2_map (fun a b q => ?_) h
    by_cases e : a.1 = k
    · rw [if_pos e, if_pos ((key a b q).mpr e)]; exact ⟨(key a b q).mpr e, r⟩
    · rw [if_neg e, if_neg fun z => e ((key a b q).mp z)]; exact q
  · exact h.append (.cons ⟨rfl, r⟩ .nil)
theorem idd_stored {es : List (Int × MV)} {kvs : List (Int × Value)} {k : Int} {v : MV} {rv : Value} (h : All2 IR es kvs) (r : VR v rv) : All2 IR (istored es k v) (stored kvs k rv) := by
  have key : ∀ (a : Int × MV) (b : Int × Value), IR a b → (b.1 = k ↔ a.1 = k) := fun a b q => by rw [q.1]
  unfold istored stored
  rw [all2_any (g := fun kv => decide (kv.1 = k)) (fun a b q => decide_eq_decide.mpr (key a b q).symm) h]
  split
  · refine all2_map (fun a b q => ?_) h
    by_cases e : a.1 = k
    · rw [if_pos e, if_pos ((key a b q).mpr e)]; exact ⟨(key a b q).mpr e, r⟩
    · rw [if_neg e, if_neg fun z => e ((key a b q).mp z)]; exact q
  · exact h.append (.cons ⟨rfl, r⟩ .nil)

theorem setItem_list' {prog : Program} {w : World} {A : Around} {E : Value → Shared → Prop} {s : Shared} {l : Addr} {items : Array Value} {k : Int} {t : Tok} {v : Value} {K : Unit → Shared → Prop} (hl : s.heap.IsList l items)
    (h0 : 0 ≤ k) (hfit : k < 2 ^ 63) (hn : k < items.size)
    (hQ : K () { s with heap := s.heap.update l (Obj.mapSeq (·.setIfInBounds k.toNat v)) }) :
    wpAny (model prog w) A (setItem (.ref l) (.int k t) v) K E s := by
  obtain ⟨o, ho, hc, ne, hd⟩ := id hl
  unfold setItem
  try with_reducible refine wpAny_holding ?_
  first | refine wpAny_bind (wpAny_pure ?_) | skip
  refine wpAny_bind (wpAny_sequenceKey hl.typeIs (by decide) ?_)
  refine wpAny_bind (wpAny_callSpecial?_slot (name := Str.ofString "__setitem__") hl.typeIs slot_list_setitem
    (wpAny_call_entry slot_list_setitem hl.typeIs entry_list_setitem ?_ (args_list_setitem _ _ _)))
  show wpAny _ _ (Builtin.List.listSubscript? (.int k t) >>= _) _ _ s
  refine wpAny_bind (wpAny_listSubscript_int (fitsIndex_of h0 hfit) ?_)
  clear hfit
  obtain ⟨j, rfl⟩ := Int.eq_ofNat_of_zero_le h0
  have hj : j < items.size := by lia
  have hx' : items[j]? = some items[j] := Array.getElem?_eq_getElem hj
  show wpAny _ _ ((seqItemAt l j >>= fun r => pure (r.map (j, ·))) >>= _) _ _ s
  refine wpAny_bind (wpAny_bind (wpAny_seqItemAt ho hd (wpAny_pure ?_)))
  rw [hx']
  show wpAny _ _ (setSeqItemAt l j v >>= _) _ _ s
  refine wpAny_bind (wpAny_setSeqItemAt ho hd ?_)
  first
    | exact wpAny_bind (wpAny_pure (wpAny_pure ⟨.none, rfl, wpAny_pure hQ⟩))
    | exact wpAny_pure ⟨.none, rfl, wpAny_pure hQ⟩
/-- a name is put into a namespace; its size is told too -/
theorem nsSet_z {M : Model} {A : Around} {E : Value → Shared → Prop} {s : Shared} {a : Addr} {m : Str → Option Value} {name : Str} {v : Value} {K : Unit → Shared → Prop} {B : Nat} (hn : s.heap.Ns a m) (hz : DictLe s.heap a B)
    (h : ∀ h', h'.Ns a (fun x => if x = name then some v else m x) → Heap.SameBut a s.heap h' → DictLe h' a (if (m name).isSome then B else B + 1) → K () { s with heap := h', toks := s.toks + 1 }) : wpAny M A (nsSet a name v) K E s := fun Γ p _ => by
  obtain ⟨o, es, ep, ho, hd, hk, hm⟩ := hn
  obtain ⟨o', es', ep', ho', hd', hB⟩ := hz
  rw [ho] at ho'; cases ho'
  rw [hd] at hd'; cases hd'
  simp only [nsSet, strHash, Sem.wp_bind', Sem.wp_cmd_ask, Sem.wp_pure', Sem.wp_cmd_mkText]
  rw [Sem.wp_loadPart_of M Γ (fun e _ s' => E e s') p { s with toks := s.toks + 1 } (o := o) _ ho]
  have hany : es.any (·.refKey) = false := by
    rw [Array.any_eq_false']; intro e he; obtain ⟨n, t, h⟩ := hk e he; simp [DictEntry.refKey, h]
  simp only [hd, aRefKeyMayBeTheName_at, hany, Bool.and_false, Bool.false_eq_true, if_false, Sem.wp_cmd_updatePart]
  have hmn : (m name).isSome = (es.findIdx? (·.key.isStr name)).isSome := by
    rw [← hm, nsFind, findBy_of_findIdx?]
    cases hi : es.findIdx? (·.key.isStr name) with
    | none => rfl
    | some i =>
      have := (Array.findIdx?_eq_some_iff_getElem.mp hi).1
      simp [this]
  refine ⟨by rw [ho]; rfl, h _ ?_ (Heap.SameBut.update ..) ?_⟩
  · obtain ⟨c, d, dt, sl⟩ := o
    subst hd
    cases hi : es.findIdx? (·.key.isStr name) with
    | some i =>
      refine ⟨_, _, ep, Heap.get?_update_self _ ho (by simp only [Obj.putName_eq, Obj.putNameByArray, hi]; rfl), by simp only [Obj.putName_eq, Obj.putNameByArray, hi]; rfl, hk.modify _ _, fun x => ?_⟩
      show _ = if x = name then some v else m x
      rw [← hm]; exact findBy_modify (fun n v => v.isStr n) Value.isStr_inj es name x v i hi
    | none =>
      refine ⟨_, _, ep + 1, Heap.get?_update_self _ ho (by simp only [Obj.putName_eq, Obj.putNameByArray, hi]; rfl), by simp only [Obj.putName_eq, Obj.putNameByArray, hi]; rfl, hk.push _ _ _ _, fun x => ?_⟩
      show _ = if x = name then some v else m x
      rw [← hm]
      exact findBy_push (fun n v => v.isStr n) es name x _ _ v (fun y => by
        show (name == y) = decide (y = name)
        by_cases h : y = name
        · subst h; simp
        · have : ¬ name = y := fun e => h e.symm
          simp [h, this]) hi
  · obtain ⟨c, d, dt, sl⟩ := o
    subst hd
    rw [hmn]
    cases hi : es.findIdx? (·.key.isStr name) with
    | some i => exact ⟨_, _, ep, Heap.get?_update_self _ ho (by simp only [Obj.putName_eq, Obj.putNameByArray, hi]; rfl), by simp only [Obj.putName_eq, Obj.putNameByArray, hi]; rfl, by simpa using hB⟩
    | none => exact ⟨_, _, ep + 1, Heap.get?_update_self _ ho (by simp only [Obj.putName_eq, Obj.putNameByArray, hi]; rfl), by simp only [Obj.putName_eq, Obj.putNameByArray, hi]; rfl, by simpa using hB⟩
theorem setv_length (as : List (String × MV)) (k : String) (v : MV) : (setv as k v).length = if (as.lookup k).isSome then as.length else as.length + 1 := by
  induction as with
  | nil => rfl
  | cons p r ih =>
    obtain ⟨y, u⟩ := p
    unfold setv
    rw [List.lookup_cons]
    by_cases h : y = k
    · subst h; simp
    · have h' : (k == y) = false := by simpa using Ne.symm h
      rw [if_neg h, List.length_cons, ih, h']
      split <;> simp
section
variable {X : Cx} {n : Nat} {fe env : Env} {vars : Vars} {m : MH} {Q : SRes → Vars → MH → Prop} {Ex : String → MH → Prop}
theorem at_set (P : Params) : ∀ c k, clsOk c = true → atOk k = true → takerIn (KK P) c (S k) = some none ∧ (clsIn (KK P) c).any (·.hasDict) = true := by
  intro c k h hk
  refine ⟨(at_facts P c k h hk).2, ?_⟩
  simp only [clsOk, Bool.or_eq_true, beq_iff_eq] at h
  rcases h with rfl | rfl <;> kernel_rfl
/-- an attribute is stored -/
theorem set_attr {A : Around} {s : Shared} {E : Value → Shared → Prop} {K : Unit → Shared → Prop} (G : Glo X) {k : String} (hk : atOk k = true) {x c dx : Addr} {as : List (String × MV)} (r : Rel X m s) (e : m x = some (.inst c dx as)) (hc : clsOk c = true) {v : MV} {rv : Value} (hv : VR v rv) (hlen : as.length ≤ 100)
    (q : ∀ s', Rel X (m.set x (.inst c dx (seta as k v))) s' → Step m s.heap (m.set x (.inst c dx (seta as k v))) s'.heap → K () s') : wpAny (md X) A (setAttr (.ref x) (S k) rv) K E s := by
  obtain ⟨f1, f2, f3, f4⟩ := cls_facts X.w.params c hc
  obtain ⟨g1, g2⟩ := at_set X.w.params c k hc hk
  have o := r.hr.obj x _ e
  obtain ⟨hx, ml, hn, hz, hl⟩ := o
  obtain ⟨od, ho, -⟩ := getL_of_ns hn (S k)
  have I : InstAt s.heap x (instObj c dx) c (some od) := ⟨hx, rfl, rfl, ho⟩
  refine set_plain (G.KK r.hr) I f3 ?_
  refine osa_open (s := { s with toks := s.toks + 1 }) (G.KK r.hr) I f4 g1 fun b => ?_
  obtain ⟨cd, hcd, hd'⟩ := any_some g2
  refine wpAny_bind (wpAny_pure (wpAny_bind (wpAny_bind (wpAny_loadPart hx (wpAny_bind ((looks_clsIn (G.KK r.hr) hcd).here (s := { s with toks := s.toks + 1 }) ?_))))))
  rw [hd']
  refine wpAny_pure (a := some dx) (wpAny_bind (wpAny_pure (wpAny_bind (nsSet_z (s := { s with toks := s.toks + 1 }) hn hz fun h' hn' sb hz' => ?_))))
  have hz2 : DictLe h' dx (seta as k v).length := by
    obtain ⟨o', es', ep', e1, e2, e3⟩ := hz'
    refine ⟨o', es', ep', e1, e2, Nat.le_trans e3 ?_⟩
    rw [seta, setv_length]
    cases hlk : as.lookup k with
    | none => simp; split <;> lia
    | some u =>
      obtain ⟨ru, e4, _⟩ := hl k u hlk
      rw [e4]; simp
  have hle : (seta as k v).length ≤ 101 := by rw [seta, setv_length]; split <;> lia
  obtain ⟨o', es', ep', e1, e2, e3⟩ := id hz2
  refine wpAny_bind (wpAny_lookBehind e1 (by rw [e2]; exact pastItsLine_dict (by have := sizeLine_big (k := es'.size) (by lia); lia)) (wpAny_pure ?_))
  have hxd : x ≠ dx := by
    rintro rfl
    obtain ⟨a, b⟩ := r.hr.dict x c x as e
    rw [a] at e; cases e
  have hns : NsR h' dx (seta as k v) := by
    refine ⟨_, hn', hz2, fun z u hz => ?_⟩
    rw [seta, setv_lookup] at hz
    by_cases q : z = k
    · subst q; rw [if_pos rfl] at hz; cases hz; exact ⟨rv, by simp, hv⟩
    · rw [if_neg q] at hz
      obtain ⟨ru, e1, e2⟩ := hl z u hz
      have : ¬ (S z = S k) := fun z => q (ofString_inj z)
      exact ⟨ru, by simp only [this, if_false]; exact e1, e2⟩
  obtain ⟨y, st⟩ := r.hr.turnInst (h' := h') (as' := seta as k v) e (fun b hb => sb.2 b hb) hns
  exact q _ ⟨y, r.gens, r.os⟩ (st _)
theorem ts_setattr {o value : PySem.Expr} {pos' pos : Pos} (G : Glo X) {k : String} (hk : atOk k = true) (hs : swapsWith value (some (.Attribute o (S k) pos')) pos.line env = pure false)
    (h : TE X n fe env vars value m (fun v m₁ => TE X n fe env vars o m₁ (fun ov m₂ => ∃ x c dx as, ov = .ref x ∧ m₂ x = some (.inst c dx as) ∧ clsOk c = true ∧ as.length ≤ 100 ∧ Q .next vars (m₂.set x (.inst c dx (seta as k v)))) Ex) Ex) :
    TS X n fe env vars (exec (.Assign [.Attribute o (S k) pos'] value pos) env) m Q Ex := fun A s p =>
  plainObj_wpAny_Assign_Attribute (h.goS p (.refl ..) fun v m₁ rv s₁ r₁ p₁ st₁ h₁ => h₁.goS p₁ st₁ fun ov m₂ ro s₂ r₂ p₂ st₂ hz => by
    obtain ⟨x, c, dx, as, e, hx, hc, hlen, q⟩ := hz
    subst e
    first | obtain rfl := r₂.refE | obtain rfl := r₂.boolE | cases r₂
    exact set_attr G hk p₂.rel hx hc r₁ hlen fun s' r st => ts_end .next (p₂.step r st) (st₂.trans (.footless st)) q) hs
/-- what a place of a list, or of a dict, is turned to -/
noncomputable def setM (m : MH) (a i v : MV) : Option MH := match a with
  | .ref x => match m x, i with
    | some (.list xs), .int k => if 0 ≤ k ∧ k < xs.length ∧ xs.length ≤ 1000000 then some (m.set x (.list (xs.set k.toNat v))) else none
    | some (.sd es), .str k => if es.length ≤ 1000000 then some (m.set x (.sd (sstored es k v))) else none
    | some (.idd es), .int k => if es.length ≤ 1000000 then some (m.set x (.idd (istored es k v))) else none
    | _, _ => none
  | _ => none
theorem set_item {A : Around} {s : Shared} {E : Value → Shared → Prop} {K : Unit → Shared → Prop} {a i v : MV} {ra ri rv : Value} {m' : MH} (r : Rel X m s) (e : setM m a i v = some m') (ha : VR a ra) (hi : VR i ri) (hv : VR v rv)
    (q : ∀ s', Rel X m' s' → Step m s.heap m' s'.heap → K () s') : wpAny (md X) A (setItem ra ri rv) K E s := by
  unfold setM at e
  split at e
  · rename_i x
    first | obtain rfl := ha.refE | obtain rfl := ha.boolE | cases ha
    split at e
    · rename_i xs k hm
      cases hi
      split at e
      · rename_i hk
        cases e
        obtain ⟨vs, k0, g, hvs⟩ := list_at r.hr hm
        obtain ⟨x1, st⟩ := list_turn (ys := xs.set k.toNat v) r hm g (fun y => y.setIfInBounds k.toNat rv) (by simpa using hvs.set hv k.toNat)
        exact setItem_list' (items := ⟨vs⟩) ⟨_, g, rfl, k0, rfl⟩ hk.1 (by lia) (by show k < (vs.length : Int); rw [← hvs.length]; exact hk.2.1) (q _ x1 st)
      · cases e
    · rename_i es k hm
      cases hi
      split at e
      · rename_i hk
        cases e
        obtain ⟨kvs, g, hvs⟩ := r.hr.obj x _ hm
        refine wpAny_setItem_pairs (k := S k) (isStrKey _ _) g (fun h' hd sb => ?_) (by rw [← hvs.length]; exact sizeLine_big hk)
        obtain ⟨y, st⟩ := r.hr.turn (h' := h') (o' := .sd (sstored es k v)) hm (fun b hb => sb.2 b hb) ⟨_, hd, sd_stored hvs hv⟩ (fun _ _ _ z => by cases z) (fun _ _ _ z => by cases z) rfl rfl
        exact q _ ⟨y, r.gens, r.os⟩ (st _)
      · cases e
    · rename_i es k hm
      cases hi
      split at e
      · rename_i hk
        cases e
        obtain ⟨kvs, g, hvs⟩ := r.hr.obj x _ hm
        refine wpAny_setItem_pairs (k := k) (isIntKey _ _) g (fun h' hd sb => ?_) (by rw [← hvs.length]; exact sizeLine_big hk)
        obtain ⟨y, st⟩ := r.hr.turn (h' := h') (o' := .idd (istored es k v)) hm (fun b hb => sb.2 b hb) ⟨_, hd, idd_stored hvs hv⟩ (fun _ _ _ z => by cases z) (fun _ _ _ z => by cases z) rfl rfl
        exact q _ ⟨y, r.gens, r.os⟩ (st _)
      · cases e
    · cases e
  · cases e
theorem ts_setitem {o i value : PySem.Expr} {pos' pos : Pos} (hs : swapsWith value (some (.Subscript o i pos')) pos.line env = pure false)
    (h : TE X n fe env vars value m (fun v m₁ => TE X n fe env vars o m₁ (fun ov m₂ => TE X n fe env vars i m₂ (fun iv m₃ => ∃ m', setM m₃ ov iv v = some m' ∧ Q .next vars m') Ex) Ex) Ex) :
    TS X n fe env vars (exec (.Assign [.Subscript o i pos'] value pos) env) m Q Ex := fun A s p =>
  wpAny_Assign_Subscript (h.goS p (.refl ..) fun v m₁ rv s₁ r₁ p₁ st₁ h₁ => h₁.goS p₁ st₁ fun ov m₂ ro s₂ r₂ p₂ st₂ h₂ => h₂.goS p₂ st₂ fun iv m₃ ri s₃ r₃ p₃ st₃ hz => by
    obtain ⟨m', e, q⟩ := hz
    exact set_item p₃.rel e r₂ r₃ r₁ fun s' r st => ts_end .next (p₃.step r st) (st₃.trans (.footless st)) q) hs
end

section
variable {X : Cx} {n : Nat} {fe env : Env} {vars : Vars} {m : MH} {Q : MV → MH → Prop} {Ex : String → MH → Prop}
theorem new_list {A : Around} {E : Value → Shared → Prop} {K : Value → Shared → Prop} {s : Shared} {xs : List MV} {vs : Array Value} (r : Rel X m s) (hv : VRs xs vs.toList) {h' : Heap} (kp : ∀ b o, s.heap.get? b = some o → h'.get? b = some o) (a : Addr) (hn : s.heap.get? a = none) (g : h'.get? a = some { cls := .type "list", data := .seq vs })
    (q : m a = none → ∀ t, Rel X (m.set a (.list xs)) { s with heap := h', toks := t } → Step m s.heap (m.set a (.list xs)) h' → K (.ref a) { s with heap := h', toks := t }) (t : Nat) : K (.ref a) { s with heap := h', toks := t } := by
  obtain ⟨x, st⟩ := r.hr.lay (h' := h') (a := a) (o := .list xs) hn kp ⟨vs.toList, 0, g, hv⟩ (fun _ _ _ z => by cases z) rfl
  refine q ?_ t ⟨x, r.gens, r.os⟩ (st _)
  cases e : m a with
  | none => rfl
  | some o => exact absurd (.inl (by rw [e]; simp)) (r.hr.notOwn hn)
theorem pick_upto (vs : Array Value) {y : Int} (h : 0 ≤ y) : (slicePick vs none (some y) none).toList = vs.toList.take y.toNat := by
  have e : sliceBounds none (some y) none vs.size = (((0 : Nat) : Int), ((min y.toNat vs.size : Nat) : Int), 1) := by
    simp only [sliceBounds, Option.getD_none, show (1 : Int) > 0 by decide, if_true, if_neg (show ¬ (y < 0) by lia)]
    congr 1
    congr 1
    obtain ⟨k, rfl⟩ : ∃ k : Nat, y = k := ⟨_, (Int.toNat_of_nonneg h).symm⟩
    rw [Int.toNat_natCast]
    exact (Int.max_eq_right (Int.le_min.mpr ⟨Int.natCast_nonneg _, Int.natCast_nonneg _⟩)).trans (by rw [Int.min_def, Nat.min_def]; split <;> split <;> first | rfl | contradiction | (rename_i a b; exact absurd (Int.ofNat_le.mp a) b) | (rename_i a b; exact absurd (Int.ofNat_le.mpr b) a))
  rw [kmk_pick_nat _ e]
  show (vs.toList.drop 0).take (min y.toNat vs.size - 0) = _
  rw [List.drop_zero, Nat.sub_zero, ← Array.length_toList, kmk_take_min]
theorem pick_from (vs : Array Value) {x : Int} (h : 0 ≤ x) : (slicePick vs (some x) none none).toList = vs.toList.drop x.toNat := by
  have e : sliceBounds (some x) none none vs.size = (((min x.toNat vs.size : Nat) : Int), ((vs.size : Nat) : Int), 1) := by
    simp only [sliceBounds, Option.getD_none, show (1 : Int) > 0 by decide, if_true, if_neg (show ¬ (x < 0) by lia)]
    congr 1
    lia
  rw [kmk_pick_nat _ e]
  show (vs.toList.drop (min x.toNat vs.size)).take (vs.size - min x.toNat vs.size) = _
  rw [← Array.length_toList, kmk_drop_min, List.take_of_length_le (by rw [List.length_drop]; exact Nat.sub_le_sub_left (Nat.min_le_left _ _) _)]
theorem te_upto {value e : PySem.Expr} {p' pos : Pos} (ht : ∀ o r, letTemporaryGo value o r = pure ()) (h : TE X n fe env vars value m (fun a m₁ => TE X n fe env vars e m₁ (fun b m₂ => ∃ l xs k, a = .ref l ∧ m₂ l = some (.list xs) ∧ xs.length ≤ 1000000 ∧ b = .int k ∧ 0 ≤ k ∧ ∀ c, m₂ c = none → Q (.ref c) (m₂.set c (.list (xs.take k.toNat)))) Ex) Ex) :
    TE X n fe env vars (.Subscript value (.Slice none (some e) none p') pos) m Q Ex := fun A s p =>
  wpAny_Subscript_Slice slot_list_getitem.lookup (h.go p (.refl ..) fun a m₁ ra s₁ r₁ p₁ st₁ h₁ => wpAny_Slice (wpAny_pure (h₁.go p₁ st₁ fun b m₂ rb s₂ r₂ p₂ st₂ hz => wpAny_pure (by
    obtain ⟨l, xs, k, ha, hm, hl, hb, hk, q⟩ := hz
    subst ha hb
    obtain rfl := r₁.refE; obtain ⟨tk, rfl⟩ := r₂.intE
    obtain ⟨vs, k0, g, hv⟩ := list_at p₂.rel.hr hm
    have hl' : ∀ o, (s₂.heap.push o).IsList l ⟨vs⟩ := fun o => ⟨_, Heap.get?_push_of_some _ g, rfl, k0, rfl⟩
    refine ⟨⟨_, Heap.get?_push_of_some _ g, rfl⟩, wpAny_getItem_list_slice (hl' _) (Heap.IsSliceOf.new ..) .none (.int _ _) .none (by simp) ?_ (by show vs.length ≤ _; rw [← hv.length]; exact sizeLine_big hl)⟩
    refine new_list (K := TP X VR m s.heap Q) (A := A) (E := fun _ _ => True) (xs := xs.take k.toNat) p₂.rel (by rw [pick_upto _ hk]; exact hv.take _) (fun b o e => Heap.get?_push_of_some _ (Heap.get?_push_of_some _ e)) _ (Heap.get?_none_of_le (by rw [Heap.size_push]; exact Nat.le_succ _)) (Heap.get?_push_size _ rfl)
      (fun hn t r st => ⟨_, _, .ref _, r, st₂.trans st, q _ hn⟩) _))) ) ht
theorem te_from {value e : PySem.Expr} {p' pos : Pos} (ht : ∀ o r, letTemporaryGo value o r = pure ()) (h : TE X n fe env vars value m (fun a m₁ => TE X n fe env vars e m₁ (fun b m₂ => ∃ l xs k, a = .ref l ∧ m₂ l = some (.list xs) ∧ xs.length ≤ 1000000 ∧ b = .int k ∧ 0 ≤ k ∧ ∀ c, m₂ c = none → Q (.ref c) (m₂.set c (.list (xs.drop k.toNat)))) Ex) Ex) :
    TE X n fe env vars (.Subscript value (.Slice (some e) none none p') pos) m Q Ex := fun A s p =>
  wpAny_Subscript_Slice slot_list_getitem.lookup (h.go p (.refl ..) fun a m₁ ra s₁ r₁ p₁ st₁ h₁ => wpAny_Slice (h₁.go p₁ st₁ fun b m₂ rb s₂ r₂ p₂ st₂ hz => wpAny_pure (wpAny_pure (by
    obtain ⟨l, xs, k, ha, hm, hl, hb, hk, q⟩ := hz
    subst ha hb
    obtain rfl := r₁.refE; obtain ⟨tk, rfl⟩ := r₂.intE
    obtain ⟨vs, k0, g, hv⟩ := list_at p₂.rel.hr hm
    have hl' : ∀ o, (s₂.heap.push o).IsList l ⟨vs⟩ := fun o => ⟨_, Heap.get?_push_of_some _ g, rfl, k0, rfl⟩
    refine ⟨⟨_, Heap.get?_push_of_some _ g, rfl⟩, wpAny_getItem_list_slice (hl' _) (Heap.IsSliceOf.new ..) (.int _ _) .none .none (by simp) ?_ (by show vs.length ≤ _; rw [← hv.length]; exact sizeLine_big hl)⟩
    refine new_list (K := TP X VR m s.heap Q) (A := A) (E := fun _ _ => True) (xs := xs.drop k.toNat) p₂.rel (by rw [pick_from _ hk]; exact hv.drop _) (fun b o e => Heap.get?_push_of_some _ (Heap.get?_push_of_some _ e)) _ (Heap.get?_none_of_le (by rw [Heap.size_push]; exact Nat.le_succ _)) (Heap.get?_push_size _ rfl)
      (fun hn t r st => ⟨_, _, .ref _, r, st₂.trans st, q _ hn⟩) _)))) ht
theorem bin_addL {a b : Addr} {xs ys : List MV} (e1 : m a = some (.list xs)) (e2 : m b = some (.list ys)) (hl : xs.length + ys.length ≤ 1000000) (q : ∀ c, m c = none → Q (.ref c) (m.set c (.list (xs ++ ys)))) : BinQ X n fe env vars .Add (.ref a) (.ref b) m Q Ex := fun ra rb ha hb A s p => by
  obtain rfl := ha.refE; obtain rfl := hb.refE
  obtain ⟨vs, k, g, hv⟩ := list_at p.rel.hr e1
  obtain ⟨us, k', g', hu⟩ := list_at p.rel.hr e2
  refine P.add_list g g' ?_ (by show vs.length + us.length ≤ _; rw [← hv.length, ← hu.length]; exact sizeLine_big hl)
  exact new_list (K := TP X VR m s.heap Q) (A := A) (E := fun _ _ => True) (xs := xs ++ ys) p.rel (by simpa using hv.append hu) (fun b o e => Heap.get?_push_of_some _ e) _ (Heap.get?_none_of_le (Nat.le_refl _)) (Heap.get?_push_size _ rfl)
      (fun hn t r st => ⟨_, _, .ref _, r, st, q _ hn⟩) _
theorem mul_list' {prog : Program} {w : World} {A : Around} {E : Value → Shared → Prop} {s : Shared} {l : Addr} {items : Array Value} {k : Nat} {x : Int} {u : Tok} {K : Value → Shared → Prop}
    (hl : s.heap.get? l = some { cls := .type "list", dict := none, data := .seq items k, slots := #[] })
    (hlo : -(2 ^ 63 : Int) ≤ x) (hhi : x < 2 ^ 63) (hsz : items.size * x.toNat ≤ 2 ^ 24)
    (h : K (.ref s.heap.objs.size) { s with heap := s.heap.push { cls := .type "list", data := .seq (List.foldl (fun x1 x2 => x1 ++ x2) #[] (List.replicate (if items.isEmpty = true then 0 else x.toNat) items)) } }) :
    wpAny (model prog w) A (binaryOp .Mult (.ref l) (.int x u)) K E s :=
  wpAny_binaryOp_repeat_ref (T := "list") (U := "int") (by decide) ⟨_, hl, rfl⟩ (fun s' => typeIs_int s' x u) noFill_list_mul F.fills_int_mul F.slot_int_rmul repeat_list F.slot_int_index.lookup
    (call_meets F.slot_int_rmul (typeIs_int s x u) F.entry_int_rmul (F.args_int_rmul_2 _ _) (int___rmul___int_list x u l items k)
      ⟨hl, rfl, ⟨_, hl, rfl⟩, call_meets F.slot_list_mul ⟨_, hl, rfl⟩ F.entry_list_mul (F.args_list_mul_2 _ _)
        (AutoListH.list___mul___list_int_3 l items k x u (by simp [Builtin.List.listFitsIndex]; lia) (by lia) (by simp [Builtin.List.listTooLong, sizeLine]; lia))
        ⟨hl, h⟩⟩)
theorem fold_rep (v : Value) : ∀ (k : Nat) (acc : Array Value), (List.foldl (fun x1 x2 => x1 ++ x2) acc (List.replicate k #[v])).toList = acc.toList ++ List.replicate k v
  | 0, acc => by simp
  | k + 1, acc => by
    rw [List.replicate_succ, List.foldl_cons, fold_rep v k]
    simp [List.replicate_succ]
/-- [v] * k -/
theorem bin_rep {a : Addr} {v : MV} {k : Int} (e1 : m a = some (.list [v])) (hk : k ≤ 1000000) (q : ∀ c, m c = none → Q (.ref c) (m.set c (.list (List.replicate k.toNat v)))) (hlo : 0 ≤ k) : BinQ X n fe env vars .Mult (.ref a) (.int k) m Q Ex := fun ra rb ha hb A s p => by
  obtain rfl := ha.refE; obtain ⟨_, rfl⟩ := hb.intE
  obtain ⟨vs, k0, g, hv⟩ := list_at p.rel.hr e1
  obtain ⟨rv, _, rfl, r, rs⟩ := hv.consE
  obtain rfl := rs.nilE
  refine mul_list' (items := #[rv]) g (by lia) (by lia) (by simp; lia) ?_
  exact new_list (K := TP X VR m s.heap Q) (A := A) (E := fun _ _ => True) (xs := List.replicate k.toNat v) p.rel
      (by rw [show (#[rv] : Array Value).isEmpty = false from rfl, if_neg (by decide), fold_rep]; simpa using All2.replicate r _) (fun b o e => Heap.get?_push_of_some _ e) _ (Heap.get?_none_of_le (Nat.le_refl _)) (Heap.get?_push_size _ rfl)
      (fun hn t r st => ⟨_, _, .ref _, r, st, q _ hn⟩) _
/-! ### dicts -/
theorem te_dict0s {pos} (q : ∀ c, m c = none → Q (.ref c) (m.set c (.sd []))) : TE X n fe env vars (.Dict [] [] pos) m Q Ex := fun A s p => by
  refine wpAny_Dict_empty ?_
  obtain ⟨x, st⟩ := p.rel.hr.lay (h' := s.heap.push { cls := .type "dict", data := .dict #[] }) (a := s.heap.objs.size) (o := .sd []) (Heap.get?_none_of_le (Nat.le_refl _)) (fun _ _ e => Heap.get?_push_of_some _ e) ⟨[], Heap.DictOf.new s.heap, .nil⟩ (fun _ _ _ z => by cases z) rfl
  exact ⟨_, _, .ref _, ⟨x, p.rel.gens, p.rel.os⟩, st _, q _ p.rel.hr.freshM⟩
theorem te_dict0i {pos} (q : ∀ c, m c = none → Q (.ref c) (m.set c (.idd []))) : TE X n fe env vars (.Dict [] [] pos) m Q Ex := fun A s p => by
  refine wpAny_Dict_empty ?_
  obtain ⟨x, st⟩ := p.rel.hr.lay (h' := s.heap.push { cls := .type "dict", data := .dict #[] }) (a := s.heap.objs.size) (o := .idd []) (Heap.get?_none_of_le (Nat.le_refl _)) (fun _ _ e => Heap.get?_push_of_some _ e) ⟨[], Heap.DictOf.new s.heap, .nil⟩ (fun _ _ _ z => by cases z) rfl
  exact ⟨_, _, .ref _, ⟨x, p.rel.gens, p.rel.os⟩, st _, q _ p.rel.hr.freshM⟩
theorem te_dict1 {k : String} {i : Nat} {p' pos : Pos} {value : PySem.Expr} (h : ∀ d, m d = none → TE X n fe env vars value (m.set d (.sd [])) (fun v m₁ => m₁ d = some (.sd []) ∧ Q (.ref d) (m₁.set d (.sd [(k, v)]))) Ex) :
    TE X n fe env vars (.Dict [some (.Constant (.str (S k)) i p')] [value] pos) m Q Ex := fun A s p => by
  obtain ⟨x, st⟩ := p.rel.hr.lay (h' := s.heap.push { cls := .type "dict", data := .dict #[] }) (a := s.heap.objs.size) (o := .sd []) (Heap.get?_none_of_le (Nat.le_refl _)) (fun _ _ e => Heap.get?_push_of_some _ e) ⟨[], Heap.DictOf.new s.heap, .nil⟩ (fun _ _ _ z => by cases z) rfl
  refine wpAny_Dict_pairs (knd := strKind pw X.w) (pairs := [(eval (.Constant (.str (S k)) i p') env, do let x ← eval value env; standAt pos; pure x)]) rfl (by simp) (by simp) ?_
  have p₁ : Pre X n A fe env vars (m.set s.heap.objs.size (.sd [])) { s with heap := s.heap.push { cls := .type "dict", data := .dict #[] } } := p.step ⟨x, p.rel.gens, p.rel.os⟩ (st _)
  refine wpAny_bind (Constant_str (wpAny_bind (wpAny_holding (wpAny_bind ?_))))
  have p₂ : Pre X n A fe env vars (m.set s.heap.objs.size (.sd [])) { s with heap := s.heap.push { cls := .type "dict", data := .dict #[] }, toks := s.toks + 1 } := ⟨p₁.room, p₁.frames, p₁.rel.tok, p₁.env, p₁.apart⟩
  refine (h _ p.rel.hr.freshM).go p₂ (st _) fun v m₁ rv s₁ r₁ p₃ st₁ hz => wpAny_bind (wpAny_standAt (wpAny_pure (wpAny_bind (wpAny_holding (wpAny_pure (wpAny_pure ?_))))))
  obtain ⟨hd, q⟩ := hz
  obtain ⟨kvs, g, hk⟩ := p₃.rel.hr.obj _ _ hd
  cases hk
  refine ⟨[(S k, rv)], ⟨isStrKey _ _, rfl, trivial⟩, g, fun h' hd' sb => ?_⟩
  obtain ⟨y, st'⟩ := p₃.rel.hr.turn (h' := h') (o' := .sd [(k, v)]) hd (fun b hb => sb.2 b hb) ⟨_, hd', .cons ⟨rfl, r₁⟩ .nil⟩ (fun _ _ _ z => by cases z) (fun _ _ _ z => by cases z) rfl rfl
  exact ⟨_, _, .ref _, ⟨y, p₃.rel.gens, p₃.rel.os⟩, st₁.trans (st' _), q⟩
theorem te_get1 (G : Glo X) {o e : PySem.Expr} {apos pos : Pos} (hb : noNullCall o = true) (hl : (apos.endLine == pos.line) = true) (hs : noStar e = true)
    (h : TE X n fe env vars o m (fun ov m₁ => ∃ a, ov = .ref a ∧ (∃ es, m₁ a = some (.sd es)) ∧ TE X n fe env vars e m₁ (fun v m₂ => ∃ x es, v = .str x ∧ m₂ a = some (.sd es) ∧ Q ((es.lookup x).getD .none) m₂) Ex) Ex) :
    TE X n fe env vars (.Call (.Attribute o (S "get") apos) [e] [] pos) m Q Ex := fun A s p =>
  wpAny_Call_method1_late (attributeBase_plain hb _ _ _) hl (trees1 hs) (h.go p (.refl ..) fun ov m₁ rv s₁ r₁ p₁ st₁ hz => by
    obtain ⟨a, ha, ⟨xs, hx⟩, q⟩ := hz
    subst ha
    first | obtain rfl := r₁.refE | obtain rfl := r₁.boolE | cases r₁
    obtain ⟨kvs, g, _⟩ := p₁.rel.hr.obj _ _ hx
    refine ⟨"dict", "dict.get", F.plainAttrs_dict, F.slot_dict_get, F.type_dict_get, g.typeIs, fun b hb => ?_, ?_⟩
    · cases hb; obtain ⟨ob, _, _, e1, ⟨_, e2, _⟩, _⟩ := g; exact ⟨_, e1, e2⟩
    · refine wpAny_dict_get1 (knd := strKind pw X.w) (sysOff G p₁.rel.hr hx rfl) (q.go p₁ st₁ fun v m₂ rv s₂ r₂ p₂ st₂ hz => ?_)
      obtain ⟨x, es, hv, hx, q⟩ := hz
      subst hv
      first | obtain rfl := r₂.refE | obtain rfl := r₂.boolE | cases r₂
      obtain ⟨kvs, g, hk⟩ := p₂.rel.hr.obj _ _ hx
      refine ⟨S x, _, isStrKey _ _, g.mapOf, (es.lookup x).getD .none, m₂, ?_, p₂.rel.tok, st₂, q⟩
      cases e : es.lookup x with
      | none => rw [lookup_All2_none hk e]; exact .none
      | some v => obtain ⟨rv, e', r⟩ := lookup_All2 hk e; rw [e']; exact r)
theorem tree_cons {e : PySem.Expr} {rest : List PySem.Expr} {pos : Pos} (hs : noStar e = true) : backTo pos (starEach (e :: rest) env) = (false, eval e env) :: backTo pos (starEach rest env) := by cases e <;> first | rfl | (cases hs)
theorem trees2 {e f : PySem.Expr} {pos : Pos} (hs : noStar e = true) (hs' : noStar f = true) : backTo pos (starEach [e, f] env) = [(false, eval e env), (false, eval f env)] := by rw [tree_cons hs, tree_cons hs']; rfl
theorem te_get2 (G : Glo X) {o e f : PySem.Expr} {apos pos : Pos} (hb : noNullCall o = true) (hl : (apos.endLine == pos.line) = true) (hs : noStar e = true) (hs' : noStar f = true)
    (h : TE X n fe env vars o m (fun ov m₁ => ∃ a, ov = .ref a ∧ (∃ es, m₁ a = some (.sd es)) ∧ TE X n fe env vars e m₁ (fun v m₂ => TE X n fe env vars f m₂ (fun u m₃ => ∃ x es, v = .str x ∧ m₃ a = some (.sd es) ∧ Q ((es.lookup x).getD u) m₃) Ex) Ex) Ex) :
    TE X n fe env vars (.Call (.Attribute o (S "get") apos) [e, f] [] pos) m Q Ex := fun A s p =>
  wpAny_Call_method2_late (attributeBase_plain hb _ _ _) hl (trees2 hs hs') (h.go p (.refl ..) fun ov m₁ rv s₁ r₁ p₁ st₁ hz => by
    obtain ⟨a, ha, ⟨xs, hx⟩, q⟩ := hz
    subst ha
    first | obtain rfl := r₁.refE | obtain rfl := r₁.boolE | cases r₁
    obtain ⟨kvs, g, _⟩ := p₁.rel.hr.obj _ _ hx
    refine ⟨"dict", "dict.get", F.plainAttrs_dict, F.slot_dict_get, F.type_dict_get, g.typeIs, fun b hb => ?_, ?_⟩
    · cases hb; obtain ⟨ob, _, _, e1, ⟨_, e2, _⟩, _⟩ := g; exact ⟨_, e1, e2⟩
    · refine wpAny_dict_get2 (knd := strKind pw X.w) (sysOff G p₁.rel.hr hx rfl) (q.go p₁ st₁ fun v m₂ rv s₂ r₂ p₂ st₂ h₂ => h₂.go p₂ st₂ fun u m₃ ru s₃ r₃ p₃ st₃ hz => ?_)
      obtain ⟨x, es, hv, hx', q₃⟩ := hz
      subst hv
      first | obtain rfl := r₂.refE | obtain rfl := r₂.boolE | cases r₂
      obtain ⟨kvs, g, hk⟩ := p₃.rel.hr.obj _ _ hx'
      refine ⟨S x, _, isStrKey _ _, g.mapOf, (es.lookup x).getD u, m₃, ?_, p₃.rel.tok, st₃, q₃⟩
      cases e : es.lookup x with
      | none => rw [lookup_All2_none hk e]; exact r₃
      | some v => obtain ⟨rv, e', r⟩ := lookup_All2 hk e; rw [e']; exact r)
end
/-! ### unpacking -/
section
variable {X : Cx} {n : Nat} {fe env : Env} {vars : Vars} {m : MH} {Q : SRes → Vars → MH → Prop} {Ex : String → MH → Prop}
noncomputable def setvs (vars : Vars) : List String → List MV → Vars
  | x :: xs, v :: vs => setvs (setv vars x v) xs vs
  | _, _ => vars
theorem names_each (xs : List String) (ps : List Pos) : (assignEach ((xs.zip ps).map fun p => PySem.Expr.Name (S p.1) p.2) env) = (xs.zip ps).map fun p => (false, assign (.Name (S p.1) p.2) env) := by
  generalize xs.zip ps = l
  induction l with
  | nil => rfl
  | cons p r ih => rw [List.map_cons, List.map_cons, ← ih]; rfl
theorem assign_names {A : Around} {E : Value → Shared → Prop} {K : Unit → Shared → Prop} {m₀ : MH} {h₀ : Heap} (xs : List String) : ∀ (ps : List Pos) (vs : List MV) (rvs : List Value) (vars : Vars) (s : Shared), (∀ x ∈ xs, canStore env x) → xs.length = vs.length → ps.length = xs.length → VRs vs rvs →
    Pre X n A fe env vars m s → StepS (Foot env) m₀ h₀ m s.heap → (∀ s', Pre X n A fe env (setvs vars xs vs) m s' → StepS (Foot env) m₀ h₀ m s'.heap → K () s') →
    wpAny (md X) A (assignInOrder ((xs.zip ps).map fun p => assign (.Name (S p.1) p.2) env) rvs) K E s := by
  induction xs with
  | nil =>
    intro ps vs rvs vars s _ hl _ hv p st k
    cases vs with
    | nil => cases hv; exact wpAny_pure (k _ p st)
    | cons _ _ => simp at hl
  | cons x xs ih =>
    intro ps vs rvs vars s hk hl hp hv p st k
    cases hv with
    | nil => simp at hl
    | cons r rs =>
      cases ps with
      | nil => simp at hp
      | cons p' ps =>
        rw [List.zip_cons_cons, List.map_cons]
        refine wpAny_bind (m := holding _ (assign (.Name (S x) p') env _)) (wpAny_holding (wpAny_assign_Name (store_ok (hk x (.head _)) p r fun s' p₁ st₁ => ?_)))
        exact ih ps _ _ _ s' (fun y hy => hk y (.tail _ hy)) (by simpa using hl) (by simpa using hp) rs p₁ (st.trans st₁) k
/-- a row of names takes a list or a tuple apart -/
theorem ts_unpack {value : PySem.Expr} {xs : List String} {ps : List Pos} {k : Nat} {p' pos : Pos} {ts : List PySem.Expr} (hts : ts = (xs.zip ps).map fun p => PySem.Expr.Name (S p.1) p.2) (hp : ps.length = xs.length) (hk : ∀ x ∈ xs, canStore env x)
    (hs : swapsWithSole [.Tuple ts k p'] value pos.line env = pure false) (hw : swappedStores [.Tuple ts k p'] value env = pure none)
    (h : TE X n fe env vars value m (fun v m₁ => ∃ a vs, v = .ref a ∧ (m₁ a = some (.list vs) ∨ m₁ a = some (.tup vs)) ∧ vs.length = xs.length ∧ Q .next (setvs vars xs vs) m₁) Ex) :
    TS X n fe env vars (exec (.Assign [.Tuple ts k p'] value pos) env) m Q Ex := fun A s p => by
  refine wpAny_Assign_stores (h.goS p (.refl ..) fun v m₁ rv s₁ r₁ p₁ st₁ hz => ?_) hs hw
  obtain ⟨a, vs, ha, hm, hl, q⟩ := hz
  subst ha
  first | obtain rfl := r₁.refE | obtain rfl := r₁.boolE | cases r₁
  show wpAny _ _ (assign (.Tuple ts k p') env (.ref a)) _ _ _
  have hlen : (assignEach ts env).length = xs.length := by rw [hts, names_each]; simp [hp]
  have hstar : (assignEach ts env).findIdx? (·.1) = none := by rw [hts, names_each]; simp [List.findIdx?_map, List.findIdx?_eq_none_iff]
  have hmap : (assignEach ts env).map (·.2) = (xs.zip ps).map fun p => assign (.Name (S p.1) p.2) env := by rw [hts, names_each, List.map_map]; rfl
  have go : ∀ us : List Value, VRs vs us → ∀ h', Heap.ExtBut s₁.heap.objs.size s₁.heap h' → wpAny (md X) A (assignInOrder ((assignEach ts env).map (·.2)) us) (fun _ s' => SP X env m s.heap Q Flow.next s') (EES X env m s.heap Ex) { s₁ with heap := h' } := fun us hu h' he => by
    have kp : ∀ b o, s₁.heap.get? b = some o → h'.get? b = some o := fun b o e => he b o (fun z => by subst z; exact absurd (Heap.lt_size e) (Nat.lt_irrefl _)) e
    have p₂ : Pre X n A fe env vars m₁ { s₁ with heap := h' } := p₁.step (p₁.rel.keeps (t := s₁.toks) kp) (.of_keeps kp)
    rw [hmap]
    exact assign_names xs ps vs us vars _ hk hl.symm hp hu p₂ (st₁.trans (.of_keeps kp)) fun s' p₃ st₃ => ts_end .next p₃ st₃ q
  rcases hm with hm | hm
  · obtain ⟨us, g, hu⟩ := isL p₁.rel.hr hm
    have := kun_itemsOf (prog := pw) (w := X.w) (A := A) (E := EES X env m s.heap Ex) (s := s₁) (Q := fun vs s' => wpAny (md X) A (assignInOrder ((assignEach ts env).map (·.2)) vs) (fun _ s' => SP X env m s.heap Q Flow.next s') (EES X env m s.heap Ex) s') p₁.room.handled g (by simpa using go us hu)
    rw [arm_assign_Tuple]
    refine wpAny_bind (wpAny_standAt ?_)
    unfold unpack
    rw [hlen, hstar, ← hl, hu.length]
    exact wpAny_bind (wpAny_holding (by simpa using this))
  · obtain ⟨us, g, hu⟩ := isT p₁.rel.hr hm
    exact wpAny_assign_Tuple p₁.room.handled g (by rw [hlen, ← hl, hu.length]; simp) hstar (go us hu)
end

/-- what a loop draws from -/
structure Src (X : Cx) (I : Addr) (N : Nat) (v : Nat → MV) (P : MH → Prop) (St : Nat → Heap → Prop) : Prop where
  keep : ∀ i h h', St i h → (∀ o, h.get? I = some o → ∃ o', h'.get? I = some o' ∧ KeepO o o') → St i h'
  live : ∀ i h, St i h → ∃ o, h.get? I = some o
  self : ∀ A s K E i, St i s.heap → K (.ref I) s → wpAny (md X) A (pyIter (.ref I)) K E s
  next : ∀ A s m K E i, St i s.heap → Rel X m s → P m → i < N → (∀ h' t rv, VR (v i) rv → St (i + 1) h' → Heap.SameBut I s.heap h' → K (some rv) { s with heap := h', toks := t }) → wpAny (md X) A (pyNext (.ref I)) K E s
  off : ∀ m₁ m₂ D o, m₁ D = none → P m₁ → P m₂ → P (m₂.set D o)
  done : ∀ A s m K E, A.handled = none → St N s.heap → Rel X m s → P m → (∀ h', Heap.ExtBut I s.heap h' → K none { s with heap := h' }) → wpAny (md X) A (pyNext (.ref I)) K E s
noncomputable def nthv (xs : List MV) (i : Nat) : MV := xs.getD i .none
theorem src_list {X : Cx} {I l : Addr} {xs : List MV} : Src X I xs.length (nthv xs) (fun m => m l = some (.list xs)) (fun i h => h.IsListIter I l i) where
  keep := fun i h h' st k => by
    obtain ⟨o, e, c, d⟩ := st
    obtain ⟨o', e', q⟩ := k o e
    exact ⟨o', e', q.cls.trans c, q.data.trans d⟩
  live := fun i h hz => by obtain ⟨o, e, _⟩ := hz; exact ⟨o, e⟩
  self := fun A s K E i st k => wpAny_pyIter_listiter st k
  off := fun m₁ m₂ D o e p q => (MH.set_other m₂ o (fun z => by subst z; rw [e] at p; cases p)).trans q
  next := fun A s m K E i st r hm hi k => by
    obtain ⟨vs, hl, hv⟩ := isL r.hr hm
    obtain ⟨rv, hrv, q⟩ := hv.get (i := i) (a := nthv xs i) (by unfold nthv; rw [List.getD_eq_getElem?_getD]; simp [hi])
    exact wpAny_pyNext_list_item st hl (by simpa using hrv) fun h' st' sb => k h' s.toks rv q st' sb
  done := fun A s m K E hh st r hm k => by
    obtain ⟨vs, hl, hv⟩ := isL r.hr hm
    exact wpAny_pyNext_list_end hh st hl (by simp [hv.length]) k
theorem src_range {X : Cx} {I : Addr} {a : Int} {N : Nat} : Src X I N (fun i => .int (a + i)) (fun _ => True) (fun i h => IsRangeIter h I (a + i) ((N : Int) - i) 1) where
  keep := fun i h h' st k => by
    obtain ⟨o', e', q⟩ := k _ st
    rw [q.fields rfl] at e'
    exact e'
  live := fun i h e => ⟨_, e⟩
  self := fun A s K E i st k => wpAny_pyIter_rangeiter st k
  off := fun _ _ _ _ _ _ _ => trivial
  next := fun A s m K E i st r hm hi k => wpAny_pyNext_range_item st (by lia) fun h' st' sb => k h' _ _ (.int _ _) (by
    have e1 : a + ((i + 1 : Nat) : Int) = a + i + 1 := by lia
    have e2 : (N : Int) - ((i + 1 : Nat) : Int) = N - i - 1 := by lia
    rw [e1, e2]; exact st') sb
  done := fun A s m K E hh st r hm k => wpAny_pyNext_range_end hh st (by lia) k

inductive IP (X : Cx) (m : MH) (h : Heap) (R : Nat → (Nat → MV) → (MH → Prop) → MH → Prop) (itv : Value) (s₂ : Shared) : Prop
  | mk (I : Addr) (N : Nat) (v : Nat → MV) (P : MH → Prop) (St : Nat → Heap → Prop) (m₁ : MH) (e : itv = .ref I) (src : Src X I N v P St) (st0 : St 0 s₂.heap) (rl : Rel X m₁ s₂) (st : Step m h m₁ s₂.heap) (hI : h.get? I = none) (hIo : ¬ Own m₁ I) (hP : P m₁) (q : R N v P m₁)
/-- an iterable is made, and its iterator -/
noncomputable def TI (X : Cx) (n : Nat) (fe env : Env) (vars : Vars) (it : PySem.Expr) (m : MH) (R : Nat → (Nat → MV) → (MH → Prop) → MH → Prop) (Ex : String → MH → Prop) : Prop :=
  ∀ A s, Pre X n A fe env vars m s → wpAny (md X) A (eval it env) (fun xv s₁ => wpAny (md X) A (pyIter xv) (IP X m s.heap R) (EE X env.frame m s.heap Ex) s₁) (EE X env.frame m s.heap Ex) s
section
variable {X : Cx} {n : Nat} {fe env : Env} {vars : Vars} {m : MH} {R : Nat → (Nat → MV) → (MH → Prop) → MH → Prop} {Ex : String → MH → Prop}
theorem ti_list {it : PySem.Expr} (h : TE X n fe env vars it m (fun a m₁ => ∃ l xs, a = .ref l ∧ m₁ l = some (.list xs) ∧ R xs.length (nthv xs) (fun m => m l = some (.list xs)) m₁) Ex) : TI X n fe env vars it m R Ex := fun A s p =>
  h.go p (.refl ..) fun a m₁ ra s₁ r₁ p₁ st₁ hz => by
    obtain ⟨l, xs, e, hm, q⟩ := hz
    subst e
    first | obtain rfl := r₁.refE | obtain rfl := r₁.boolE | cases r₁
    obtain ⟨vs, hl, hv⟩ := isL p₁.rel.hr hm
    have hn : s₁.heap.get? s₁.heap.objs.size = none := Heap.get?_none_of_le (Nat.le_refl _)
    exact wpAny_pyIter_list hl ⟨_, _, _, _, _, m₁, rfl, src_list (l := l), ⟨_, Heap.get?_push_size _ rfl, rfl, rfl⟩, p₁.rel.push _, st₁.trans (.of_keeps fun _ _ e => Heap.get?_push_of_some _ e), st₁.fresh p₁.rel.hr hn, p₁.rel.hr.notOwn hn, hm, q⟩
theorem ti_range {A : Around} {s s₁ : Shared} {m₁ : MH} {a b : Int} {r : Addr} {t u w : Tok} (r₁ : Rel X m₁ s₁) (st₁ : Step m s.heap m₁ s₁.heap) (hr : IsRange s₁.heap r a b 1 t u w) (ha : -(2 ^ 62) ≤ a) (ha' : a < 2 ^ 62) (hb : -(2 ^ 62) ≤ b) (hb' : b < 2 ^ 62) (q : R (b - a).toNat (fun i => .int (a + i)) (fun _ => True) m₁) :
    wpAny (md X) A (pyIter (.ref r)) (IP X m s.heap R) (EE X env.frame m s.heap Ex) s₁ := by
  refine wpAny_pyIter_range hr (small_one ha ha' hb hb') ?_
  have hn : s₁.heap.get? s₁.heap.objs.size = none := Heap.get?_none_of_le (Nat.le_refl _)
  refine ⟨_, _, _, _, _, m₁, rfl, src_range (a := a) (N := (b - a).toNat), ?_, r₁.push _, st₁.trans (.of_keeps fun _ _ e => Heap.get?_push_of_some _ e), st₁.fresh r₁.hr hn, r₁.hr.notOwn hn, trivial, q⟩
  have e1 : a + ((0 : Nat) : Int) = a := by simp
  have e2 : (((b - a).toNat : Nat) : Int) - ((0 : Nat) : Int) = Builtin.Range.rangeSize a b 1 := by rw [rangeSize_one]; split <;> lia
  show IsRangeIter _ _ (a + ((0 : Nat) : Int)) ((((b - a).toNat : Nat) : Int) - ((0 : Nat) : Int)) 1
  rw [e1, e2]
  exact Heap.get?_push_size _ rfl
theorem ti_range1 {e : PySem.Expr} {p' pos : Pos} (G : Glo X) (hk : env.kindOf (S "range") = some .globalImplicit) (hs : noStar e = true)
    (h : TE X n fe env vars e m (fun a m₁ => ∃ k, a = .int k ∧ -(2 ^ 62) ≤ k ∧ k < 2 ^ 62 ∧ R k.toNat (fun i => .int i) (fun _ => True) m₁) Ex) : TI X n fe env vars (.Call (.Name (S "range") p') [e] [] pos) m R Ex := fun A s p => by
  refine wpAny_Call_NameR (Name_function_global p.env.kind hk (load_builtin G p (x := "range") (v := .type "range") rfl ?_) (by decide +kernel))
  rw [trees1 hs]
  refine PySem.callWith_type rfl (evalArgs_plain (spliced_cons (h.go p (.refl ..) fun a m₁ ra s₁ r₁ p₁ st₁ hz => spliced_nil ?_)))
  obtain ⟨k, e, h1, h2, q⟩ := hz
  subst e
  first | obtain rfl := r₁.refE | obtain rfl := r₁.boolE | cases r₁
  refine call_range_1 ?_
  refine ti_range (p₁.rel.push _).tok (st₁.trans (.of_keeps fun _ _ e => Heap.get?_push_of_some _ e)) (IsRange.new ..) (by decide) (by decide) h1 h2 ?_
  have : (fun i : Nat => MV.int (0 + (i : Int))) = fun i : Nat => MV.int i := by funext i; simp
  rw [this, Int.sub_zero]
  exact q
theorem ti_range2 {e f : PySem.Expr} {p' pos : Pos} (G : Glo X) (hk : env.kindOf (S "range") = some .globalImplicit) (hs : noStar e = true) (hs' : noStar f = true)
    (h : TE X n fe env vars e m (fun a m₁ => TE X n fe env vars f m₁ (fun b m₂ => ∃ k l, a = .int k ∧ b = .int l ∧ -(2 ^ 62) ≤ k ∧ k < 2 ^ 62 ∧ -(2 ^ 62) ≤ l ∧ l < 2 ^ 62 ∧ R (l - k).toNat (fun i => .int (k + i)) (fun _ => True) m₂) Ex) Ex) : TI X n fe env vars (.Call (.Name (S "range") p') [e, f] [] pos) m R Ex := fun A s p => by
  refine wpAny_Call_NameR (Name_function_global p.env.kind hk (load_builtin G p (x := "range") (v := .type "range") rfl ?_) (by decide +kernel))
  rw [trees2 hs hs']
  refine PySem.callWith_type rfl (evalArgs_plain (spliced_cons (h.go p (.refl ..) fun a m₁ ra s₁ r₁ p₁ st₁ h₁ => spliced_cons (h₁.go p₁ st₁ fun b m₂ rb s₂ r₂ p₂ st₂ hz => spliced_nil ?_))))
  obtain ⟨k, l, e, e', h1, h2, h3, h4, q⟩ := hz
  subst e e'
  obtain ⟨_, rfl⟩ := r₁.intE; obtain ⟨_, rfl⟩ := r₂.intE
  refine call_range_2 ?_
  exact ti_range (p₂.rel.push _).tok (st₂.trans (.of_keeps fun _ _ e => Heap.get?_push_of_some _ e)) (IsRange.new ..) h1 h2 h3 h4 q
end

/-! ### for -/
section
variable {X : Cx} {n : Nat} {env : Env} {vars : Vars} {m : MH} {Q : SRes → Vars → MH → Prop} {Ex : String → MH → Prop}
theorem EnvOk.keepF {m : MH} {h h' : Heap} (x : EnvOk X env vars m h) (k : ∀ b, Foot env b → ∀ o, h.get? b = some o → ∃ o', h'.get? b = some o' ∧ KeepO o o') : EnvOk X env vars m h' := by
  refine ⟨x.kind, x.glob, x.blt, ?_, fun y v e => ?_, fun n c hm => ?_, x.apart, x.off, x.own, x.base⟩
  · obtain ⟨ml, q, r⟩ := x.ns
    exact ⟨ml, ns_keepO q (k _ (.inl rfl)), r⟩
  · refine (x.cell y v e).imp id fun hz => by obtain ⟨q, c, rv, e1, e2, e3⟩ := hz; exact ⟨q, c, rv, e1, cell_keepO e2 (k _ (.inr ⟨_, e1⟩)), e3⟩
  · obtain ⟨v, q⟩ := x.live n c hm
    exact ⟨v, cell_keepO q (k _ (.inr ⟨n, hm⟩))⟩
theorem KeepX.keepO {frs : List Addr} {h g g' : Heap} {m : MH} (x : KeepX frs h m g g') (hf : ∀ b ∈ frs, ∃ o, g.get? b = some o ∧ ∀ vs, o.data ≠ .fields vs) {b : Addr} {o : Obj} (e : g.get? b = some o) (hb : h.get? b ≠ none) : ∃ o', g'.get? b = some o' ∧ KeepO o o' := by
  obtain ⟨⟨sl, e2⟩, k⟩ := x b o e (.inl hb)
  refine ⟨_, e2, sl, rfl, ?_⟩
  by_cases hb : b ∈ frs
  · obtain ⟨o'', e3, k'⟩ := hf b hb
    rw [e] at e3; cases e3
    exact .inr k'
  · have := k hb
    rw [e2] at this
    exact .inl (congrArg Obj.slots (Option.some.inj this))
/-- the frame that an exception passes, told at the start of a statement -/
theorem pass_facts {A : Around} {s₀ : Shared} {vars₀ : Vars} {m₀ : MH} (p₀ : Pre X n A env env vars₀ m₀ s₀) {m' : MH} {vars' : Vars} {h' : Heap} (ev : EnvOk X env vars' m' h') (st : StepS (Foot env) m₀ s₀.heap m' h') :
    ∃ outer, A.frames = some (env :: outer) ∧ Frames X m' h' (env :: outer) ∧ (∀ b ∈ (env :: outer).filterMap (·.frame), s₀.heap.get? b ≠ none) ∧ (∀ b o, X.h₀.get? b = some o → s₀.heap.get? b ≠ none) ∧ ∀ b, Foot env b → s₀.heap.get? b ≠ none := by
  obtain ⟨outer, hA, hl⟩ := p₀.frames
  refine ⟨outer, hA, hl.step st fun b f o e => foot_data ev f e, fun b hb => ?_, fun b o e => by rw [p₀.rel.hr.base b o e]; simp, fun b f => ?_⟩
  · obtain ⟨_, o, e, _⟩ := hl.1.mem hb; rw [e]; simp
  · obtain ⟨o, e⟩ := p₀.env.footLive f; rw [e]; simp
/-- an exception is noted by the frame -/
theorem ees_noted {A : Around} {s₀ : Shared} {vars₀ : Vars} {m₀ : MH} (p₀ : Pre X n A env env vars₀ m₀ s₀) {e : Value} {s' : Shared} {L : Addr} (hf : env.frame = some L) (x : EES X env m₀ s₀.heap Ex e s') (R : Value → Shared → Prop)
    (k : ∀ s'', (∃ msg m' vars' a, e = .ref a ∧ ExcObj s₀.heap m' s''.heap a msg (.at (rawInt L)) ∧ Rel X m' s'' ∧ EnvOk X env vars' m' s''.heap ∧ StepS (Foot env) m₀ s₀.heap m' s''.heap ∧ Ex msg m') → R e s'') : notedBy (md X) A env R e s' := by
  obtain ⟨msg, m', vars', hx, r, ev, st, q⟩ := x
  obtain ⟨outer, hA, hl', hfh, hb, hfl⟩ := pass_facts p₀ ev st
  refine note_any hA hf hl' r hfh (fun b e => st.fresh r.hr e) hb hx fun h' a he hx' kx => k _ ?_
  have hfo : ∀ b ∈ (env :: outer).filterMap (·.frame), ∃ o, s'.heap.get? b = some o ∧ ∀ vs, o.data ≠ .fields vs := fun b hb => (hl'.1.mem hb).2
  exact ⟨msg, m', vars', a, he, hx', kx.rel (t := s'.toks) r hb (frs_base hl') hl'.2, ev.keepF fun b f o e => kx.keepO hfo e (hfl b f), KeepX.step hfo st kx, q⟩
/-- a loop's end by an exception -/
theorem ees_back {A : Around} {s₀ : Shared} {vars₀ : Vars} {m₀ : MH} (p₀ : Pre X n A env env vars₀ m₀ s₀) {e : Value} {s' : Shared} {L : Addr} (hf : env.frame = some L)
    (x : ∃ msg m' vars' a, e = .ref a ∧ ExcObj s₀.heap m' s'.heap a msg (.at (rawInt L)) ∧ Rel X m' s' ∧ EnvOk X env vars' m' s'.heap ∧ StepS (Foot env) m₀ s₀.heap m' s'.heap ∧ Ex msg m') : cameBackBy (md X) A env (EES X env m₀ s₀.heap Ex) e s' := by
  obtain ⟨msg, m', vars', a, rfl, hx, r, ev, st, q⟩ := x
  obtain ⟨outer, hA, hl', hfh, hb, hfl⟩ := pass_facts p₀ ev st
  have hfo : ∀ b ∈ (env :: outer).filterMap (·.frame), ∃ o, s'.heap.get? b = some o ∧ ∀ vs, o.data ≠ .fields vs := fun b hb => (hl'.1.mem hb).2
  obtain ⟨dx, vs, sl, es, n', t, e1, e2, e3, e4, e5, e6, e7, T, oT, ts, g1, g2, g3, g4, g5, g6, g7, g8⟩ := id hx
  unfold cameBackBy
  refine wpAny_bind (wpAny_field e2 rfl g1 ?_)
  rw [show (Value.ref T == Value.none) = false from by simp]
  simp only [Bool.false_eq_true, if_false]
  rw [hf]
  refine flight_exc (frs := (env :: outer).filterMap (·.frame)) hx fun h' hx' kx => ?_
  refine ⟨msg, m', vars', .held hf hx', kx.rel (t := s'.toks) r hb (frs_base hl') hl'.2, ev.keepF fun b f o e => kx.keepO hfo e (hfl b f), KeepX.step hfo st kx, q⟩

theorem frames_keep {base h h' : Heap} {l : List Env} (hl : h.FunFrames base l) (k : ∀ b ∈ l.filterMap (·.frame), ∀ o, h.get? b = some o → ∃ o', h'.get? b = some o' ∧ o'.data = o.data) : h'.FunFrames base l := by
  induction l with
  | nil => trivial
  | cons env rest ih =>
    obtain ⟨hk, ⟨L, o, hf, hn, e, hd⟩, hr⟩ := hl
    obtain ⟨o', e', hd'⟩ := k L (by rw [List.filterMap_cons, hf]; exact .head _) o e
    exact ⟨hk, ⟨L, o', hf, hn, e', fun vs => hd' ▸ hd vs⟩, ih hr fun b hb => k b (by rw [List.filterMap_cons, hf]; exact .tail _ hb)⟩
inductive ForP (X : Cx) (n : Nat) (env : Env) (vars : Vars) (x : String) (body : List Stmt) (Q : SRes → Vars → MH → Prop) (Ex : String → MH → Prop) (N : Nat) (v : Nat → MV) (P : MH → Prop) (m₁ : MH) : Prop
  | mk (Inv : Nat → Vars → MH → Prop) (i0 : Inv 0 vars m₁) (turn : ∀ i vars' m', i < N → Inv i vars' m' → P m' → TS X n env env (setv vars' x (v i)) (execs body env) m' (fun r vars'' m'' => match r with | .next => P m'' ∧ Inv (i + 1) vars'' m'' | r => Q r vars'' m'') Ex) (fin : ∀ vars' m', Inv N vars' m' → P m' → Q .next vars' m')
inductive FInv (X : Cx) (n : Nat) (A : Around) (env : Env) (N : Nat) (St : Nat → Heap → Prop) (m : MH) (h : Heap) (I : Addr) (P : MH → Prop) (Inv : Nat → Vars → MH → Prop) (k : Nat) (s' : Shared) : Prop
  | mk (i : Nat) (vars' : Vars) (m' : MH) (e : i + k = N) (st : St i s'.heap) (p : Pre X n A env env vars' m' s') (sg : StepS (Foot env) m h m' s'.heap) (o : ¬ Own m' I) (hP : P m') (hi : Inv i vars' m')
theorem ts_for {x : String} {it : PySem.Expr} {p' pos : Pos} {body : List Stmt} {L : Addr} (hf : env.frame = some L) (hk : canStore env x) (hs : ∀ x, foldedSetIterable it env x = pure x) (hlet : ∀ I v, letOwnedTupleGo (.Name (S x) p') (.ref I) v = pure ())
    (h : TI X n env env vars it m (ForP X n env vars x body Q Ex) Ex) :
    TS X n env env vars (exec (.For (.Name (S x) p') it body [] pos) env) m Q Ex := fun A s p => by
  refine wpAny_For (wpAny_mono (h A s p) (fun xv s₁ h₁ => wpAny_mono h₁ (fun itv s₂ h₂ => ?_) fun e s' z => ?_) fun e s' z => ?_) hs
  · obtain ⟨I, N, v, P, St, m₁, rfl, hsrc, hst, r₂, st₂, hI, hIo, hP, Inv, i0, turn, fin⟩ := h₂
    have hIf : ∀ b, Foot env b → b ≠ I := fun b f z => by
      obtain ⟨o, e⟩ := p.env.footLive f
      rw [z, hI] at e; cases e
    have hIb : X.h₀.get? I = none := by
      cases q : X.h₀.get? I with
      | none => rfl
      | some o => have := p.rel.hr.base I o q; rw [hI] at this; cases this
    refine codeAny_forLoop (FInv X n A env N St m s.heap I P Inv) ?_ N ⟨0, vars, m₁, by simp, hst, p.step r₂ st₂, .footless st₂, hIo, hP, i0⟩ (hlet I)
    rintro k s' ⟨i, vars', m', hik, hst', p', st', hIo', hP', hi⟩
    have noErr : ∀ e s'', EES X env m s.heap Ex e s'' → notedBy (md X) A env (fun e s' => (match (Except.error e : Result) with | .ok f => (SP X env m s.heap Q f s') | .error e => cameBackBy (md X) A env (EES X env m s.heap Ex) e s')) e s'' := fun e s'' x =>
      ees_noted p hf x _ fun s3 x3 => ees_back p hf x3
    -- what changes at the iterator alone
    have only : ∀ h', (∀ b o, b ≠ I → s'.heap.get? b = some o → h'.get? b = some o) → ∀ t, Pre X n A env env vars' m' { s' with heap := h', toks := t } ∧ StepS (Foot env) m s.heap m' h' := by
      intro h' kp t
      have r' : Rel X m' { s' with heap := h', toks := t } := ⟨p'.rel.hr.mono (fun b o e => kp b o (fun z => by subst z; rw [hIb] at e; cases e) (p'.rel.hr.base b o e)) (fun b o q e => kp b o (fun z => hIo' (by rw [← z]; exact q)) e), p'.rel.gens, p'.rel.os⟩
      refine ⟨⟨p'.room, ?_, r', p'.env.keepF fun b f o e => ⟨o, kp b o (hIf b f) e, .refl o⟩, p'.apart⟩, ?_⟩
      · obtain ⟨outer, hA, hl'⟩ := p'.frames
        obtain ⟨outer', hA', _, hfh, _, _⟩ := pass_facts p p'.env st'
        rw [hA] at hA'; cases hA'
        exact ⟨outer, hA, frames_keep hl'.1 fun b hb o e => ⟨o, kp b o (fun z => hfh b hb (z ▸ hI)) e, rfl⟩, hl'.2⟩
      · refine ⟨st'.grow, fun b o e => ?_⟩
        have hb : b ≠ I := fun z => by rw [z, hI] at e; cases e
        rcases st'.stay b o e with q | ⟨q, o', e', z⟩
        · exact .inl q
        · exact .inr ⟨q, o', kp b o' hb e', z⟩
    have keepI : ∀ {j : Nat} {m₁ m₂ : MH} {g g' : Heap}, St j g → ¬ Own m₁ I → StepS (Foot env) m₁ g m₂ g' → St j g' ∧ ¬ Own m₂ I := fun hj hn sg => by
      obtain ⟨o, e⟩ := hsrc.live _ _ hj
      exact ⟨hsrc.keep _ _ _ hj fun o e => sg.keep e hn fun f => hIf I f rfl, sg.notOwn e hn⟩
    by_cases hlt : i < N
    · refine hsrc.next A s' m' _ _ i hst' p'.rel hP' hlt fun h' t rv hr hst'' sb => ?_
      obtain ⟨p'', st''⟩ := only h' (fun b o z e => (sb.2 b z).trans e) t
      refine wpAny_assign_Name (store_ok hk p'' hr fun s₃ p₃ st₃ => ?_)
      obtain ⟨k3, o3⟩ := keepI hst'' hIo' st₃
      refine wpAny_mono ((turn i vars' m' hlt hi hP') A s₃ p₃) (fun f s₄ hz => ?_) fun e s₄ x => noErr e s₄ (x.back (st''.trans st₃) p₃.rel.hr)
      obtain ⟨r, vars₄, m₄, hfr, r₄, ev₄, st₄, q₄⟩ := hz
      obtain ⟨k4, o4⟩ := keepI k3 o3 st₄
      cases hfr with
      | next => exact ⟨k - 1, by lia, i + 1, vars₄, m₄, by lia, k4, p₃.stepS r₄ ev₄ st₄, (st''.trans st₃).trans st₄, o4, q₄.1, q₄.2⟩
      | ret w => exact ⟨_, vars₄, m₄, .ret w, r₄, ev₄, (st''.trans st₃).trans st₄, q₄⟩
    · have hiN : i = N := by lia
      subst hiN
      refine hsrc.done A s' m' _ _ p'.room.handled hst' p'.rel hP' fun h' he => ?_
      obtain ⟨p'', st''⟩ := only h' (fun b o z e => he b o z e) s'.toks
      exact wpAny_execs_nil ⟨.next, vars', m', .next, p''.rel, p''.env, st'', fin vars' m' hi hP'⟩
  · obtain ⟨msg, m', x1, x2, x3, x4⟩ := z; exact ⟨msg, m', vars, x1, x2, p.env.step x3, .footless x3, x4⟩
  · obtain ⟨msg, m', x1, x2, x3, x4⟩ := z; exact ⟨msg, m', vars, x1, x2, p.env.step x3, .footless x3, x4⟩
end

noncomputable def clOf (names : List (Str × NameKind)) (cells : List (Str × Addr)) : List (Str × Addr) := (names.filter fun p => p.2 == .free).reverse.map fun p => (p.1, (cells.lookup p.1).getD 0)
theorem forIn_fold {α β : Type} (f : α → β → Sem (ForInStep β)) (g : β → α → β) (l : List α) (b : β) (h : ∀ x ∈ l, ∀ b, f x b = pure (.yield (g b x))) : forIn l b f = (pure (l.foldl g b) : Sem β) := by
  induction l generalizing b with
  | nil => rfl
  | cons x r ih =>
    rw [List.forIn_cons, h x (.head _) b, pure_bind]
    exact ih _ fun y hy => h y (.tail _ hy)
theorem fold_cl (cells : List (Str × Addr)) (l : List (Str × NameKind)) (cs : List (Str × Addr)) : l.foldl (fun cs p => if p.2 == NameKind.free then (p.1, (cells.lookup p.1).getD 0) :: cs else cs) cs = clOf l cells ++ cs := by
  induction l generalizing cs with
  | nil => rfl
  | cons p r ih =>
    rw [List.foldl_cons, ih]
    unfold clOf
    by_cases hk : (p.2 == NameKind.free) = true
    · simp [hk]
    · simp [hk]
theorem closureFor_eq {scope : Scope} {env : Env} (h : ∀ p ∈ scope.names, p.2 = .free → (env.cells.lookup p.1).isSome = true) : closureFor scope env = pure (clOf scope.names env.cells) := by
  simp only [closureFor]
  rw [forIn_fold _ (fun cs p => if p.2 == NameKind.free then (p.1, (env.cells.lookup p.1).getD 0) :: cs else cs) scope.names [] fun p hp cs => ?_, fold_cl, List.append_nil]
  · rfl
  · obtain ⟨nm, k⟩ := p
    by_cases hk : k = .free
    · subst hk
      obtain ⟨c, hc⟩ := Option.isSome_iff_exists.mp (h (nm, .free) hp rfl)
      have hc' : env.cells.lookup nm = some c := hc
      simp [cellOf, hc']
    · have hk' : (k == NameKind.free) = false := by simpa using hk
      simp [hk']
noncomputable def compOkB (env : Env) (scope : Scope) (x : String) (capt : List String) : Bool :=
  scope.kind == .function && decide (scope.names.map (·.1)).Nodup && scope.names.all (fun p => p.2 != .cell) && scope.names.all (fun p => p.2 != .free || (env.cells.lookup p.1).isSome) && scope.names.lookup (S x) == some .local &&
    capt.all fun y => scope.names.lookup (S y) == some .free && env.kindOf (S y) == some .cell
structure CompOk (env : Env) (scope : Scope) (x : String) (capt : List String) : Prop where
  kind : scope.kind = .function
  nodup : (scope.names.map (·.1)).Nodup
  noCell : ∀ p ∈ scope.names, p.2 ≠ .cell
  free : ∀ p ∈ scope.names, p.2 = .free → (env.cells.lookup p.1).isSome = true
  target : scope.names.lookup (S x) = some .local
  capt : ∀ y ∈ capt, scope.names.lookup (S y) = some .free ∧ env.kindOf (S y) = some .cell
theorem compOk_of {env : Env} {scope : Scope} {x : String} {capt : List String} (h : compOkB env scope x capt = true) : CompOk env scope x capt := by
  unfold compOkB at h
  simp only [Bool.and_eq_true, decide_eq_true_eq, beq_iff_eq, List.all_eq_true, bne_iff_ne, Bool.or_eq_true] at h
  obtain ⟨⟨⟨⟨⟨h1, h2⟩, h3⟩, h4⟩, h5⟩, h6⟩ := h
  exact ⟨h1, h2, h3, fun p hp hf => (h4 p hp).resolve_left fun z => z hf, h5, h6⟩
noncomputable def captv (vars : Vars) (capt : List String) : Vars := capt.filterMap fun y => (vars.lookup y).map fun v => (y, v)
theorem captv_lookup {vars : Vars} {y : String} {v : MV} {capt : List String} (h : (captv vars capt).lookup y = some v) : y ∈ capt ∧ vars.lookup y = some v := by
  induction capt with
  | nil => cases h
  | cons z r ih =>
    unfold captv at h
    rw [List.filterMap_cons] at h
    cases e : vars.lookup z with
    | none => rw [e] at h; obtain ⟨a, b⟩ := ih h; exact ⟨.tail _ a, b⟩
    | some u =>
      rw [e] at h
      simp only [Option.map_some, List.lookup_cons] at h
      by_cases q : y = z
      · subst q; simp at h; subst h; exact ⟨.head _, e⟩
      · have q' : (y == z) = false := by simpa using q
        rw [q'] at h
        obtain ⟨a, b⟩ := ih h
        exact ⟨.tail _ a, b⟩
theorem clOf_mem {names : List (Str × NameKind)} {cells : List (Str × Addr)} (h : ∀ p ∈ names, p.2 = .free → (cells.lookup p.1).isSome = true) {nm : Str} {c : Addr} (hm : (nm, c) ∈ clOf names cells) : cells.lookup nm = some c ∧ (nm, NameKind.free) ∈ names := by
  unfold clOf at hm
  simp only [List.mem_map, List.mem_reverse, List.mem_filter, beq_iff_eq, Prod.mk.injEq] at hm
  obtain ⟨⟨a, k⟩, ⟨h1, h2⟩, rfl, h3⟩ := hm
  simp only at h2 h3
  subst h2
  obtain ⟨c', hc⟩ := Option.isSome_iff_exists.mp (h _ h1 rfl)
  simp only at hc
  rw [hc] at h3
  exact ⟨by rw [hc]; exact congrArg some h3, h1⟩
theorem lookup_map_f {f : Str → Addr} {y : Str} {l : List (Str × NameKind)} (h : y ∈ l.map (·.1)) : (l.map fun p => (p.1, f p.1)).lookup y = some (f y) := by
  induction l with
  | nil => cases h
  | cons p r ih =>
    obtain ⟨a, k⟩ := p
    rw [List.map_cons, List.lookup_cons]
    by_cases e : y = a
    · subst e; simp
    · have e' : (y == a) = false := by simpa using e
      rw [e']
      refine ih ?_
      rw [List.map_cons] at h
      exact (List.mem_cons.mp h).resolve_left e
theorem clOf_lookup {names : List (Str × NameKind)} {cells : List (Str × Addr)} {y : Str} {c : Addr} (h : names.lookup y = some .free) (hc : cells.lookup y = some c) : (clOf names cells).lookup y = some c := by
  unfold clOf
  rw [lookup_map_f (f := fun n => (cells.lookup n).getD 0), hc]
  · rfl
  · have hm := mem_of_lookup h
    exact List.mem_map.mpr ⟨_, List.mem_reverse.mpr (List.mem_filter.mpr ⟨hm, by simp⟩), rfl⟩
theorem clOf_apart {names : List (Str × NameKind)} {cells : List (Str × Addr)} (h : ∀ p ∈ names, p.2 = .free → (cells.lookup p.1).isSome = true) (hn : (names.map (·.1)).Nodup) (ha : cells.Pairwise fun x y => x.2 ≠ y.2) : (clOf names cells).Pairwise fun x y => x.2 ≠ y.2 := by
  have h1 : (clOf names cells).Pairwise fun x y => x.1 ≠ y.1 := by
    unfold clOf
    rw [List.pairwise_map]
    have : (names.filter fun p => p.2 == .free).Pairwise fun x y => x.1 ≠ y.1 := by
      have : names.Pairwise fun x y => x.1 ≠ y.1 := List.pairwise_map.mp hn
      exact this.filter _
    rw [List.pairwise_reverse]
    exact this.imp fun z => Ne.symm z
  refine List.Pairwise.imp_of_mem (fun {a b} ha' hb' hab z => ?_) h1
  obtain ⟨a1, a2⟩ := a
  obtain ⟨b1, b2⟩ := b
  simp only at z hab
  subst z
  exact hab (name_of_addr ha (mem_of_lookup (clOf_mem h ha').1) (mem_of_lookup (clOf_mem h hb').1))

/-- what changes at a place that is nobody's -/
theorem aside {X : Cx} {n : Nat} {A : Around} {fe env : Env} {vars₀ vars' : Vars} {S : Addr → Prop} {m₀ m' : MH} {s₀ s' : Shared} {C : Addr} (p₀ : Pre X n A fe env vars₀ m₀ s₀) (hC : s₀.heap.get? C = none) (p' : Pre X n A fe env vars' m' s') (st : StepS S m₀ s₀.heap m' s'.heap) (ho : ¬ Own m' C)
    {h' : Heap} (kp : ∀ b o, b ≠ C → s'.heap.get? b = some o → h'.get? b = some o) (t : Nat) : Pre X n A fe env vars' m' { s' with heap := h', toks := t } ∧ StepS S m₀ s₀.heap m' h' := by
  have hCb : X.h₀.get? C = none := by
    cases q : X.h₀.get? C with
    | none => rfl
    | some o => have := p₀.rel.hr.base C o q; rw [hC] at this; cases this
  have hCf : ∀ b, Foot env b → b ≠ C := fun b f z => by
    obtain ⟨o, e⟩ := p₀.env.footLive f
    rw [z, hC] at e; cases e
  have r' : Rel X m' { s' with heap := h', toks := t } := ⟨p'.rel.hr.mono (fun b o e => kp b o (fun z => by subst z; rw [hCb] at e; cases e) (p'.rel.hr.base b o e)) (fun b o q e => kp b o (fun z => ho (by rw [← z]; exact q)) e), p'.rel.gens, p'.rel.os⟩
  refine ⟨⟨p'.room, ?_, r', p'.env.keepF fun b f o e => ⟨o, kp b o (hCf b f) e, .refl o⟩, p'.apart⟩, ?_⟩
  · obtain ⟨outer, hA, hl'⟩ := p'.frames
    obtain ⟨outer', hA', hl₀⟩ := p₀.frames
    rw [hA] at hA'; cases hA'
    exact ⟨outer, hA, frames_keep hl'.1 fun b hb o e => ⟨o, kp b o (fun z => by obtain ⟨_, o', e', _⟩ := hl₀.1.mem hb; rw [z, hC] at e'; cases e') e, rfl⟩, hl'.2⟩
  · refine ⟨st.grow, fun b o e => ?_⟩
    have hb : b ≠ C := fun z => by rw [z, hC] at e; cases e
    rcases st.stay b o e with q | ⟨q, o', e', z⟩
    · exact .inl q
    · exact .inr ⟨q, o', kp b o' hb e', z⟩
theorem relabel_cell {env : Env} (hk : env.scope.kind = .function) {names : List (Str × NameKind)} {x : Str} (h : names.lookup x = some .free) (hx : env.kindOf x = some .cell) :
    (names.map fun (n, k) => if (k == NameKind.free && env.scope.kind == .function && env.kindOf n == some .cell) then (n, NameKind.cell) else (n, k)).lookup x = some .cell := by
  induction names with
  | nil => cases h
  | cons p r ih =>
    obtain ⟨n, k⟩ := p
    show List.lookup x ((if (k == NameKind.free && env.scope.kind == .function && env.kindOf n == some .cell) = true then (n, NameKind.cell) else (n, k)) :: _) = _
    cases hxn : x == n with
    | true =>
      simp only [List.lookup_cons, hxn] at h
      cases h
      have : x = n := by simpa using hxn
      subst this
      simp [hk, hx]
    | false =>
      simp only [List.lookup_cons, hxn] at h
      have ih := ih h
      by_cases hc : (k == NameKind.free && env.scope.kind == .function && env.kindOf n == some .cell) = true
      · rw [if_pos hc]; simp only [List.lookup_cons, hxn]; exact ih
      · rw [if_neg hc]; simp only [List.lookup_cons, hxn]; exact ih
theorem lookup_nodup {y : Str} {k : NameKind} {l : List (Str × NameKind)} (hn : (l.map (·.1)).Nodup) (h : (y, k) ∈ l) : l.lookup y = some k := by
  induction l with
  | nil => cases h
  | cons p r ih =>
    obtain ⟨a, b⟩ := p
    rw [List.map_cons, List.nodup_cons] at hn
    rw [List.lookup_cons]
    rcases List.mem_cons.mp h with e | h
    · cases e; simp
    · have : (y == a) = false := by
        have : y ≠ a := fun z => hn.1 (List.mem_map.mpr ⟨_, h, z⟩)
        simpa using this
      rw [this]; exact ih hn.2 h
noncomputable abbrev cEnv (scope : Scope) (C : Addr) (env : Env) : Env := compEnvC scope (clOf scope.names env.cells) C env
/-- the state of a comprehension's own names -/
theorem comp_env {X : Cx} {n : Nat} {A : Around} {fe env : Env} {vars : Vars} {m' : MH} {s' : Shared} {scope : Scope} {x : String} {capt : List String} {C : Addr} {v : MV} {rv : Value} {ml : Str → Option Value} (ok : CompOk env scope x capt) (p : Pre X n A fe env vars m' s') (hC : ¬ Own m' C) (hb : X.h₀.get? C = none) (hf : ∀ b, Foot env b → b ≠ C) (hn : s'.heap.Ns C ml) (hx : ml (S x) = some rv) (r : VR v rv) :
    EnvOk X (cEnv scope C env) ((x, v) :: captv vars capt) m' s'.heap := by
  have look : ∀ y u, List.lookup y ((x, v) :: captv vars capt) = some u → (y = x ∧ u = v) ∨ (y ∈ capt ∧ vars.lookup y = some u) := fun y u e => by
    rw [List.lookup_cons] at e
    by_cases q : y = x
    · subst q; simp at e; exact .inl ⟨rfl, e.symm⟩
    · have q' : (y == x) = false := by simpa using q
      rw [q'] at e; exact .inr (captv_lookup e)
  have kx : (cEnv scope C env).kindOf (S x) = some .local := lookup_relabel_local ok.target
  have ky : ∀ y ∈ capt, (cEnv scope C env).kindOf (S y) = some .cell := fun y hy => relabel_cell p.env.kind (ok.capt y hy).1 (ok.capt y hy).2
  have cl : ∀ nm c, (clOf scope.names env.cells).lookup nm = some c → env.cells.lookup nm = some c := fun nm c e => (clOf_mem ok.free (mem_of_lookup e)).1
  have foot : ∀ b, Foot (cEnv scope C env) b → b = C ∨ Foot env b := fun b f => by
    rcases f with f | ⟨nm, f⟩
    · exact .inl f
    · exact .inr (.inr ⟨nm, cl nm b f⟩)
  refine ⟨ok.kind, p.env.glob, p.env.blt, ⟨ml, hn, fun y u e hy => ?_⟩, fun y u e => ?_, fun nm c e => p.env.live nm c (cl nm c e), clOf_apart ok.free ok.nodup p.env.apart, fun nm c e => hf c (.inr ⟨nm, cl nm c e⟩), fun b f => ?_, fun b f => ?_⟩
  · rcases look y u e with ⟨rfl, rfl⟩ | ⟨hy', _⟩
    · exact ⟨rv, hx, r⟩
    · rw [ky y hy'] at hy; cases hy
  · rcases look y u e with ⟨rfl, rfl⟩ | ⟨hy', e'⟩
    · exact .inl kx
    · refine .inr ⟨.inl (ky y hy'), ?_⟩
      rcases p.env.cell y u e' with hk | ⟨_, c, rv, a1, a2, a3⟩
      · rw [(ok.capt y hy').2] at hk; cases hk
      · exact ⟨c, rv, clOf_lookup (ok.capt y hy').1 a1, a2, a3⟩
  · rcases foot b f with rfl | f
    · exact hC
    · exact p.env.own b f
  · rcases foot b f with rfl | f
    · exact hb
    · exact p.env.base b f
section
variable {X : Cx} {n : Nat} {fe env : Env} {vars : Vars} {m : MH} {Ex : String → MH → Prop}
inductive CInv (X : Cx) (n : Nat) (A : Around) (fe env : Env) (vars : Vars) (N : Nat) (St : Nat → Heap → Prop) (m : MH) (h : Heap) (I C D : Addr) (P : MH → Prop) (Inv : Nat → List MV → MH → Prop) (k : Nat) (s' : Shared) : Prop
  | mk (i : Nat) (ys : List MV) (m' : MH) (ml : Str → Option Value) (e : i + k = N) (st : St i s'.heap) (p : Pre X n A fe env vars m' s') (sg : Step m h m' s'.heap) (o : ¬ Own m' I) (oC : ¬ Own m' C) (hP : P m') (hD : m' D = some (.list ys)) (hl : ys.length = i) (hi : Inv i ys m') (hn : s'.heap.Ns C ml)
theorem comp_run {A : Around} {s : Shared} {elt iter : PySem.Expr} {x : String} {px pos : Pos} {scope : Scope} {capt : List String} (ok : CompOk env scope x capt) (G : Glo X) (p : Pre X n A fe env vars m s) {Q : Addr → MH → Prop} {E : Value → Shared → Prop} (hE : ∀ e s', EE X env.frame m s.heap Ex e s' → E e s')
    (h : TI X n fe env vars iter m (fun N v P m₁ => N ≤ 1000000 ∧ ∀ D, m₁ D = none → ∃ Inv : Nat → List MV → MH → Prop, Inv 0 [] (m₁.set D (.list [])) ∧
      (∀ i ys m' C, i < N → Inv i ys m' → P m' → m' D = some (.list ys) → ys.length = i → TE X n fe (cEnv scope C env) ((x, v i) :: captv vars capt) elt m' (fun u m'' => m'' D = some (.list ys) ∧ P m'' ∧ Inv (i + 1) (ys ++ [u]) (m''.set D (.list (ys ++ [u])))) fun _ _ => False) ∧
      ∀ ys m', ys.length = N → Inv N ys m' → m' D = some (.list ys) → Q D m') Ex) {RR : Value → Addr → Result → Shared → Prop}
    (hRR : ∀ D C ml m' s', Pre X n A fe env vars m' s' → Step m s.heap m' s'.heap → s'.heap.Ns C ml → s.heap.get? C = none → ¬ Own m' C → (∀ b, Foot env b → b ≠ C) → Q D m' → RR (.ref D) C (.ok .next) s') :
    wpAny (md X) A (eval iter env) (fun xv s₁ => wpAny (md X) A (pyIter xv) (fun it s₂ => wpAny (md X) A (newList []) (fun acc s₃ => wpAny (md X) A (newFunctionEnv scope env.globals (clOf scope.names env.cells) [] env.qual none .none (some env)) (fun cenv s₄ =>
      codeAny (md X) A (.compStart (.ListComp elt [⟨.Name (S x) px, iter, [], 0⟩] scope pos) 0 it acc { cenv with scope := relabel scope env }) (RR acc cenv.locals) s₄) E s₃) E s₂) E s₁) E s := by
  refine wpAny_mono (h A s p) (fun xv s₁ h₁ => wpAny_mono h₁ (fun itv s₂ h₂ => ?_) hE) hE
  obtain ⟨I, N, v, P, St, m₁, rfl, hsrc, hst, r₂, st₂, hI, hIo, hP, hN, hD⟩ := h₂
  refine wpAny_newList (wpAny_newFunctionEnv ok.noCell (by intro y hy; simp at hy) (fun h₁ hns₁ hsb₁ => ?_) ok.kind) (Nat.zero_le _)
  dsimp only at hns₁ hsb₁ ⊢
  obtain ⟨Inv, i0, turn, fin⟩ := hD _ r₂.hr.freshM
  obtain ⟨x1, y1⟩ := r₂.hr.lay (h' := s₂.heap.push (listO [] 0)) (o := .list []) (Heap.get?_none_of_le (Nat.le_refl _)) (fun _ _ e => Heap.get?_push_of_some _ e) ⟨[], 0, Heap.get?_push_size _ rfl, .nil⟩ (fun _ _ _ z => by cases z) rfl
  have y1 := y1 (fun _ => False)
  have hDn : m₁ s₂.heap.objs.size = none := r₂.hr.freshM
  generalize hDe : s₂.heap.objs.size = D at *
  have hH2 : (s₂.heap.push (listO [] 0)).objs.size = D + 1 := by rw [Heap.size_push, hDe]
  generalize hHe : s₂.heap.push (listO [] 0) = H2 at *
  have hC2 : H2.get? H2.objs.size = none := Heap.get?_none_of_le (Nat.le_refl _)
  have k1 : ∀ b o, H2.get? b = some o → h₁.get? b = some o := fun b o e => hsb₁.extBut b o (Nat.ne_of_lt (Heap.lt_size e)) (Heap.get?_push_of_some _ e)
  have hCo : ¬ Own (m₁.set D (.list [])) H2.objs.size := x1.notOwn hC2
  generalize hCe : H2.objs.size = C at *
  have hstep : Step m s.heap (m₁.set D (.list [])) H2 := st₂.trans y1
  have hCs : s.heap.get? C = none := hstep.fresh x1 hC2
  have r₃ : Rel X (m₁.set D (.list [])) { s₂ with heap := h₁, toks := s₂.toks + 0 } := ⟨x1.keeps k1, r₂.gens, r₂.os⟩
  have st₃ : Step m s.heap (m₁.set D (.list [])) h₁ := hstep.trans (.of_keeps k1)
  have hI2 : ¬ Own (m₁.set D (.list [])) I := by
    obtain ⟨o, e⟩ := hsrc.live _ _ hst
    exact y1.notOwn e hIo
  have hst₁ : St 0 h₁ := hsrc.keep _ _ _ hst fun o e => ⟨o, k1 _ _ (by rw [← hHe]; exact Heap.get?_push_of_some _ e), .refl o⟩
  have hIC : I ≠ C := fun z => by
    obtain ⟨o, e⟩ := hsrc.live _ _ hst
    have : H2.get? I = some o := by rw [← hHe]; exact Heap.get?_push_of_some _ e
    rw [z, hC2] at this; cases this
  have hCf : ∀ b, Foot env b → b ≠ C := fun b f z => by
    obtain ⟨o, e⟩ := p.env.footLive f
    rw [z, hCs] at e; cases e
  have hCb : X.h₀.get? C = none := by
    cases q : X.h₀.get? C with
    | none => rfl
    | some o => have := p.rel.hr.base C o q; rw [hCs] at this; cases this
  have loop : codeAny (md X) A (.compLoop (.ListComp elt [⟨.Name (S x) px, iter, [], 0⟩] scope pos) 0 (.ref I) (.ref D) (cEnv scope C env)) (RR (.ref D) C) { s₂ with heap := h₁, toks := s₂.toks + ([] : List (Str × Value)).length } := by
    refine codeAny_compLoop_tests (CInv X n A fe env vars N St m s.heap I C D P Inv) ?_ N
      ⟨0, [], _, _, by simp, hst₁, p.step r₃ st₃, st₃, hI2, hCo, hsrc.off _ _ _ _ hDn hP hP, MH.set_same _ _ _, rfl, i0, hns₁⟩
    rintro k s' ⟨i, ys, m', ml, hik, hst', p', st', hIo', hCo', hP', hD', hyl, hi, hn⟩
    by_cases hlt : i < N
    · refine hsrc.next A s' m' _ _ i hst' p'.rel hP' hlt fun h' t rv hr hst'' sb => ?_
      obtain ⟨p'', st''⟩ := aside p hI p' st' hIo' (fun b o z e => (sb.2 b z).trans e) t
      have hn'' : h'.Ns C ml := hn.sameBut sb (Ne.symm hIC)
      refine wpAny_assign_Name (wpAny_storeName_local (lookup_relabel_local ok.target) hn'' (fun h₃ hn₃ hs₃ => ?_) (by simp [compEnvC, relabel, ok.kind]))
      obtain ⟨p₃, st₃⟩ := aside p hCs p'' st'' hCo' (h' := h₃) (fun b o z e => (hs₃.2 b z).trans e) (t + 1)
      refine wpAny_tests_nil ?_
      simp only [if_true]
      have pc : Pre X n A fe (cEnv scope C env) ((x, v i) :: captv vars capt) m' { s' with heap := h₃, toks := t + 1 } := ⟨p₃.room, p₃.frames, p₃.rel, comp_env ok p₃ hCo' hCb hCf hn₃ (by simp) hr, fun outer hA nm c e => p₃.apart outer hA nm c (clOf_mem ok.free (mem_of_lookup e)).1⟩
      have hst₃ : St (i + 1) h₃ := hsrc.keep _ _ _ hst'' fun o e => ⟨o, (hs₃.2 I hIC).trans e, .refl o⟩
      refine wpAny_mono ((turn i ys m' C hlt hi hP' hD' hyl) A _ pc) (fun u s₄ hz => ?_) fun e s₄ hz => by obtain ⟨_, _, _, _, _, z⟩ := hz; exact z.elim
      obtain ⟨b, m'', hb, r₄, st₄, q1, q2, q3⟩ := hz
      obtain ⟨vs, k0, g, hv⟩ := list_at r₄.hr q1
      refine append_at (its := ⟨vs⟩) (n := k0) g (fun h₅ hs₅ hD₅ => ?_) (by show vs.length ≤ _; rw [← hv.length]; exact sizeLine_big (by lia))
      obtain ⟨x5, y5⟩ := r₄.hr.turn (h' := h₅) (o' := .list (ys ++ [b])) q1 (fun b hb => hs₅.2 b hb) ⟨vs ++ [u], k0 + 1, by simpa using hD₅, hv.append (.cons hb .nil)⟩ (fun _ _ _ z => by cases z) (fun _ _ _ z => by cases z) rfl rfl
      have y5 := y5 (fun _ => False)
      have st45 : Step m' h₃ (m''.set D (.list (ys ++ [b]))) h₅ := st₄.trans y5
      have r5 : Rel X (m''.set D (.list (ys ++ [b]))) { s₄ with heap := h₅ } := ⟨x5, r₄.gens, r₄.os⟩
      have keep : ∀ b', ¬ Own m' b' → ∀ o, h₃.get? b' = some o → (∃ o', h₅.get? b' = some o' ∧ KeepO o o') ∧ ¬ Own (m''.set D (.list (ys ++ [b]))) b' := fun b' ho o e => ⟨st45.keep e ho (fun z => z), st45.notOwn e ho⟩
      obtain ⟨oI, eI⟩ := hsrc.live _ _ hst₃
      obtain ⟨oC, eC⟩ := ns_live hn₃
      refine ⟨k - 1, by lia, i + 1, ys ++ [b], _, _, by lia, hsrc.keep _ _ _ hst₃ fun o e => (keep I hIo' o e).1, p₃.step r5 st45, st₃.trans st45, (keep I hIo' oI eI).2, (keep C hCo' oC eC).2, hsrc.off _ _ _ _ hDn hP q2, MH.set_same _ _ _, by simp [hyl], q3, ns_keepO hn₃ fun o e => (keep C hCo' o e).1⟩
    · have hiN : i = N := by lia
      subst hiN
      refine hsrc.done A s' m' _ _ p'.room.handled hst' p'.rel hP' fun h' he => ?_
      obtain ⟨p'', st''⟩ := aside p hI p' st' hIo' (fun b o z e => he b o z e) s'.toks
      refine hRR D C ml m' _ p'' st'' (ns_keepO hn fun o e => ⟨o, he C o (Ne.symm hIC) e, .refl o⟩) hCs hCo' hCf (fin ys m' hyl hi hD')
  exact codeAny_compStart_list loop (hsrc.self A _ _ _ 0 hst₁ loop)
noncomputable abbrev CompTI (X : Cx) (n : Nat) (fe env : Env) (vars : Vars) (elt iter : PySem.Expr) (x : String) (scope : Scope) (capt : List String) (m : MH) (Q : Addr → MH → Prop) (Ex : String → MH → Prop) : Prop :=
  TI X n fe env vars iter m (fun N v P m₁ => N ≤ 1000000 ∧ ∀ D, m₁ D = none → ∃ Inv : Nat → List MV → MH → Prop, Inv 0 [] (m₁.set D (.list [])) ∧
      (∀ i ys m' C, i < N → Inv i ys m' → P m' → m' D = some (.list ys) → ys.length = i → TE X n fe (cEnv scope C env) ((x, v i) :: captv vars capt) elt m' (fun u m'' => m'' D = some (.list ys) ∧ P m'' ∧ Inv (i + 1) (ys ++ [u]) (m''.set D (.list (ys ++ [u])))) fun _ _ => False) ∧
      ∀ ys m', ys.length = N → Inv N ys m' → m' D = some (.list ys) → Q D m') Ex
theorem comp_names {scope : Scope} (h : (scope.names.map (·.1)).Nodup) : ∀ y ∈ scope.names, y.2 = .local → scope.names.lookup y.1 = some .local := fun y hy e => lookup_nodup h (by obtain ⟨a, b⟩ := y; simp only at e; subst e; exact hy)
theorem te_comp {elt iter : PySem.Expr} {x : String} {px pos : Pos} {scope : Scope} {capt : List String} {Q : MV → MH → Prop} (ok : CompOk env scope x capt) (G : Glo X) (hs : ∀ x, foldedSetIterable iter env x = pure x)
    (h : CompTI X n fe env vars elt iter x scope capt m (fun D m' => Q (.ref D) m') Ex) : TE X n fe env vars (.ListComp elt [⟨.Name (S x) px, iter, [], 0⟩] scope pos) m Q Ex := fun A s p => by
  rw [eval_ListComp]
  refine wpAny_comprehension_free (use := none) rfl hs (closureFor_eq ok.free) ok.kind (comp_names ok.nodup) (comp_run ok G p (fun _ _ e => e) h fun D C ml m' s' p' st hn hC hCo hCf q => ?_)
  refine ⟨ml, hn, fun h' hs' => ?_⟩
  obtain ⟨p'', st''⟩ := aside p hC p' st hCo (h' := h') (fun b o z e => (hs'.2 b z).trans e) s'.toks
  exact ⟨.ref D, m', .ref _, p''.rel, st'', q⟩
theorem ts_assign_comp {elt iter : PySem.Expr} {x y : String} {px py pos spos : Pos} {scope : Scope} {capt : List String} {Q : SRes → Vars → MH → Prop} (ok : CompOk env scope x capt) (G : Glo X) (hs : ∀ x, foldedSetIterable iter env x = pure x) (hk : canStore env y)
    (hsw : swapsWith (.ListComp elt [⟨.Name (S x) px, iter, [], 0⟩] scope pos) (some (.Name (S y) py)) spos.line env = pure true)
    (h : CompTI X n fe env vars elt iter x scope capt m (fun D m' => Q .next (setv vars y (.ref D)) m') Ex) : TS X n fe env vars (exec (.Assign [.Name (S y) py] (.ListComp elt [⟨.Name (S x) px, iter, [], 0⟩] scope pos) spos) env) m Q Ex := fun A s p => by
  rw [exec_Assign_Name_used _ _ _ _ hsw]
  refine wpAny_bind (wpAny_standAt (wpAny_bind ?_))
  show wpAny _ A (do let _ ← comprehension (.ListComp elt [⟨.Name (S x) px, iter, [], 0⟩] scope pos) scope env _ (newList []) false (eval iter env) (some (assign (.Name (S y) py) env))) _ _ s
  refine wpAny_bind (wpAny_mono (wpAny_comprehension_free (use := some (assign (.Name (S y) py) env)) (Q := fun _ s' => SP X env m s.heap Q Flow.next s') rfl hs (closureFor_eq ok.free) ok.kind (comp_names ok.nodup)
    (comp_run ok G p (fun e s' x => EES.of_EE p.env (.refl ..) p.rel x) h fun D C ml m' s' p' st hn hC hCo hCf q => ?_)) (fun _ s' hq => wpAny_pure (wpAny_pure hq)) fun _ _ e => e)
  show wpAny _ A (assign (.Name (S y) py) env (.ref D)) _ _ _
  refine wpAny_assign_Name (store_ok hk p' (.ref D) fun s'' p'' st'' => ?_)
  obtain ⟨oC, eC⟩ := ns_live hn
  obtain ⟨o2, e2, k2⟩ := st''.keep eC hCo fun f => hCf _ f rfl
  refine ⟨ml, ns_keepO hn fun o e => by rw [eC] at e; cases e; exact ⟨o2, e2, k2⟩, fun h' hs' => ?_⟩
  obtain ⟨p3, st3⟩ := aside p hC p'' ((StepS.footless st).trans st'') hCo (h' := h') (fun b o z e => (hs'.2 b z).trans e) s''.toks
  exact ⟨.next, _, m', .next, p3.rel, p3.env, st3, q⟩
end

theorem refuse_own (self : Value) : refuseLoop self "__setattr__" [.ref 44, .ref 24, .type "Exception", .type "BaseException", .type "object"] = pure () := by
  rw [refuseLoop_ref, refuseLoop_ref]; exact PySem.F.store_Exception.passes self
noncomputable def cd44 (P : Params) : ClassData := match o44 P with | ⟨_, _, .cls cd, _⟩ => cd | _ => match o44 P with | ⟨_, _, .cls cd, _⟩ => cd | _ => ⟨default, [], [], 0, default, false, [], [], false, none, false⟩
theorem cls44 (P : Params) : clsIn (KK P) 44 = some (cd44 P) := by kernel_rfl
theorem mro44 (P : Params) : (cd44 P).mro = [.ref 44, .ref 24, .type "Exception", .type "BaseException", .type "object"] := by kernel_rfl
theorem sa44 (P : Params) : findIn (KK P) (.ref 44) "__setattr__" = some (some (.builtin "object.__setattr__")) := by kernel_rfl
theorem msg44 (P : Params) : findIn (KK P) (.ref 44) "message" = some none := by kernel_rfl
theorem obj44 (P : Params) : mroIn (KK P) 44 (.type "object") = some true := by kernel_rfl
theorem hd44 (P : Params) : (cd44 P).hasDict = true := by kernel_rfl
theorem exc_set {X : Cx} {A : Around} {E : Value → Shared → Prop} {s : Shared} {Q : Unit → Shared → Prop} {e : Addr} {oe : Obj} {v : Value} {vs : Array Value} (K : (KK X.w.params).In s.heap) (he : s.heap.get? e = some oe) (hc : oe.cls = .ref 44) (hdn : oe.dict = none) (hdt : oe.data = .fields vs)
    (h : ∀ h' t t', (∀ b o, b ≠ e → s.heap.get? b = some o → h'.get? b = some o) → h'.get? e = some { oe with dict := some s.heap.objs.size } → h'.get? s.heap.objs.size = some (dictOf [⟨PyData.keyHash X.w.params "message", .str "message" t, v⟩] 1) → Q () { s with heap := h', toks := t' }) :
    wpAny (md X) A (setAttr (.ref e) "message" v) Q E s := by
  have I : InstAt s.heap e oe 44 none := ⟨he, hc, by unfold notCls; rw [hdt], by rw [hdn]; trivial⟩
  refine set_plain K I (sa44 _) ?_
  have SF := PySem.F.store_object
  have I : InstAt ({ s with toks := s.toks + 1 } : Shared).heap e oe 44 none := I
  have sub : Looks (md X) s.heap (isInstance (.ref e) (.type "object")) true := I.type.andThen (looks_mroIn K (obj44 _))
  refine codeAny_call_builtin SF.slot.plain SF.entry (@check_slot (md X) _ _ { s with toks := s.toks + 1 } "object.__setattr__" "object" "__setattr__" (.ref e) [.str "message" s.toks, v] [] _ SF.kind SF.split sub (SF.args (.ref e) (.str "message" s.toks) v) ?_)
  have hm : Looks (md X) s.heap (mroOf (.ref 44)) (cd44 X.w.params).mro := (looks_clsIn K (cls44 _)).andThen .now
  rw [osa_eq, refuse_eq]
  refine wpAny_bind (wpAny_bind (I.type.here (wpAny_bind (hm.here (s := { s with toks := s.toks + 1 }) ?_))))
  rw [mro44, refuse_own]
  refine wpAny_pure (wpAny_bind (I.type.here (wpAny_bind ((looks_findIn K (msg44 _)).here (s := { s with toks := s.toks + 1 }) (wpAny_bind (wpAny_pure (a := none) ?_))))))
  refine wpAny_bind (wpAny_pure (wpAny_bind (wpAny_bind (wpAny_loadPart he ?_))))
  rw [hc]
  refine wpAny_bind ((looks_clsIn K (cls44 _)).here (s := { s with toks := s.toks + 1 }) ?_)
  rw [hd44]
  obtain ⟨oc, od, odt, osl⟩ := oe
  dsimp only at hc hdn hdt
  subst hc hdn hdt
  have hes : e ≠ s.heap.objs.size := Nat.ne_of_lt (Heap.lt_size he)
  have he₁ : (s.heap.push { cls := .type "dict", data := .dict #[] }).get? e = some _ := Heap.get?_push_of_some _ he
  refine wpAny_bind (wpAny_alloc ?_)
  refine wpAny_bind (wpAny_update he₁ ?_)
  refine wpAny_pure (a := some s.heap.objs.size) ?_
  have hgd : ((s.heap.push { cls := .type "dict", data := .dict #[] }).update e fun o => { cls := o.cls, dict := some s.heap.objs.size, data := o.data, slots := o.slots }).get? s.heap.objs.size
          = some { cls := .type "dict", data := .dict #[] } :=
        (Heap.get?_update_ne _ _ _ _ hes.symm).trans (Heap.get?_push_at rfl rfl)
  have hge := Heap.get?_update_self (fun o => ({ cls := o.cls, dict := some s.heap.objs.size, data := o.data, slots := o.slots } : Obj)) he₁ rfl
  refine wpAny_bind (wpAny_pure (wpAny_bind ?_))
  unfold nsSet
  refine wpAny_bind (wpAny_bind (wpAny_askSetting (wpAny_pure (wpAny_bind (wpAny_mkText (wpAny_bind (wpAny_loadPart hgd ?_)))))))
  dsimp only
  rw [aRefKeyMayBeTheName_at, show (!(#[] : Array DictEntry).any (·.key.isStr "message") && (#[] : Array DictEntry).any (·.refKey)) = false from by simp]
  rw [if_neg Bool.false_ne_true]
  refine wpAny_updatePart hgd ?_
  have hf : (Obj.putName "message" (PyData.keyHash X.w.params "message") (.str "message" (s.toks + 1)) v ({ cls := .type "dict", data := .dict #[] } : Obj)) = dictOf [⟨PyData.keyHash X.w.params "message", .str "message" (s.toks + 1), v⟩] 1 := by kernel_rfl
  have hgd' := Heap.get?_update_self (Obj.putName "message" (PyData.keyHash X.w.params "message") (.str "message" (s.toks + 1)) v) hgd (by rw [hf]; rfl)
  rw [hf] at hgd'
  refine wpAny_bind (wpAny_lookBehind hgd' (pastItsLine_dict (by simp [sizeLine_eq])) (wpAny_pure ?_))
  refine h _ (s.toks + 1) _ (fun b o hb e' => ?_) ?_ hgd'
  · rw [Heap.get?_update_ne _ _ _ _ (Nat.ne_of_lt (Heap.lt_size e')), Heap.get?_update_ne _ _ _ _ hb]
    exact Heap.get?_push_of_some _ e'
  · exact (Heap.get?_update_ne _ _ _ _ hes).trans hge

theorem lookup_isSome_append {l r : List (Str × Addr)} {x : Str} (h : (r.lookup x).isSome = true) : ((l ++ r).lookup x).isSome = true := by
  induction l with
  | nil => exact h
  | cons p l ih =>
    obtain ⟨y, u⟩ := p
    rw [List.cons_append, List.lookup_cons]
    split
    · rfl
    · exact ih
theorem cellsFrom_keeps {x : Str} (names : List (Str × NameKind)) (n : Nat) (acc : List (Str × Addr)) (h : (acc.lookup x).isSome = true) : ((cellsFrom n names acc).lookup x).isSome = true := by
  induction names generalizing n acc with
  | nil => exact h
  | cons p r ih =>
    obtain ⟨y, k⟩ := p
    unfold cellsFrom
    split
    · refine ih _ _ ?_
      rw [List.lookup_cons]
      split
      · rfl
      · exact h
    · exact ih _ _ h
theorem cellsFrom_cell {x : Str} (names : List (Str × NameKind)) (n : Nat) (acc : List (Str × Addr)) (h : (x, NameKind.cell) ∈ names) : ((cellsFrom n names acc).lookup x).isSome = true := by
  induction names generalizing n acc with
  | nil => cases h
  | cons p r ih =>
    obtain ⟨y, k⟩ := p
    unfold cellsFrom
    rcases List.mem_cons.mp h with e | h
    · cases e
      rw [if_pos (by decide)]
      exact cellsFrom_keeps r _ _ (by simp)
    · split
      · exact ih _ _ h
      · exact ih _ _ h
noncomputable def kindsB (sc : Scope) (ps : List String) : Bool := ps.all fun p => sc.names.lookup (S p) == some .local || sc.names.lookup (S p) == some .cell
theorem kinds_of {sc : Scope} {ps : List String} (h : kindsB sc ps = true) : ∀ p ∈ ps, sc.names.lookup (S p) = some .local ∨ (sc.names.lookup (S p) = some .cell ∧ ∀ n, ((cellsFrom n sc.names []).lookup (S p)).isSome = true) := by
  intro p hp
  have := List.all_eq_true.mp h p hp
  rw [Bool.or_eq_true, beq_iff_eq, beq_iff_eq] at this
  exact this.imp id fun e => ⟨e, fun n => cellsFrom_cell _ _ _ (mem_of_lookup e)⟩

/-! ## the exception is made -/
theorem own24 {P : Params} {h : Heap} (K : (KK P).In h) : OwnTail h [.type "Exception", .type "BaseException", .type "object"] [.ref 24, .type "Exception", .type "BaseException", .type "object"] :=
  tail_of_in K (by kernel_rfl)
theorem ns43 {P : Params} {h : Heap} (K : (KK P).In h) : h.Ns 43 (h.nsMap 43) := .of_isNs (isNs_of_in K (by kernel_rfl))
theorem init44 (P : Params) : findIn (KK P) (.ref 44) "__init__" = some (some (.ref 41)) := by kernel_rfl
theorem typ41 (P : Params) : typeIn (KK P) (.ref 41) = some (.type "function") := by kernel_rfl
noncomputable abbrev o44e (P : Params) : Obj := excClassObj (S "Refusal") (S "Refusal") 44 43 [.ref 24] [.ref 24, .type "Exception", .type "BaseException", .type "object"] true [] [] false none none (some (vr 28)) none (some (vs "Refusal" 209)) (some (vs "Refusal" 217)) (some (.bool true)) "Exception.__new__"
theorem get44 {P : Params} {h : Heap} (K : (KK P).In h) : h.get? 44 = some (o44e P) := K 44 _ (by kernel_rfl)
noncomputable def fd41 (P : Params) : FuncData := match o41 P with | ⟨_, _, .func fd, _⟩ => fd | _ => { name := S "", qualname := S "", params := noargs, body := .stmts [], scope := noscope, globals := 0, closure := [], defaults := .none, kwdefaults := .none, doc := .none, pyModule := .none, annotations := none, code := .none, closureTuple := .none, builtins := 0 }
noncomputable abbrev env41 (L : Addr) : Env := fnEnv (fScope (sc 2 0)) (S "Refusal.__init__") 41 (.ref 40) L
theorem body41 : ∃ p1 p2 p3 p4, fBody (sc 2 0) = [.Assign [.Attribute (.Name (S "self") p1) (S "message") p2] (.Name (S "message") p3) p4] := ⟨_, _, _, _, rfl⟩
theorem self_local (L : Addr) : (env41 L).kindOf (S "self") = some .local := by kernel_rfl
theorem msg_local (L : Addr) : (env41 L).kindOf (S "message") = some .local := by kernel_rfl
theorem init_refusal {X : Cx} {A : Around} {s : Shared} {R : Result → Shared → Prop} {e : Addr} {oe : Obj} {v : Value} {vs : Array Value} (K : (KK X.w.params).In s.heap) (hl : s.heap.NoLimit) (hd : A.depth < recursionLimit) (he : s.heap.get? e = some oe) (hc : oe.cls = .ref 44) (hdn : oe.dict = none) (hdt : oe.data = .fields vs)
    (h : ∀ h' t t' D, (∀ b o, b ≠ e → s.heap.get? b = some o → h'.get? b = some o) → s.heap.get? D = none → h'.get? e = some { oe with dict := some D } → h'.get? D = some (dictOf [⟨PyData.keyHash X.w.params "message", .str "message" t, v⟩] 1) → R (.ok (.ret .none)) { s with heap := h', toks := t' }) :
    codeAny (md X) A (.call (.ref 41) ⟨[.ref e, v], []⟩) R s := by
  have hb : Looks (md X) s.heap (bindArgs (fd41 X.w.params) ⟨[.ref e, v], []⟩) [(S "self", .ref e), (S "message", v)] := Looks.of_peek K (by kernel_rfl)
  refine codeAny_call_function (fd := fd41 X.w.params) hd (K 41 (o41 X.w.params) (by kernel_rfl)) rfl (by kernel_rfl) (by kernel_rfl) rfl ⟨40, o40 X.w.params, _, 222, rfl, K 40 (o40 X.w.params) (by kernel_rfl), rfl, by kernel_rfl⟩ (Looks.here hb ?_)
  refine wpAny_newFunctionEnv_cells (by kernel_rfl) (fun x hx => ?_) fun env he' s₁ x => ?_
  · rcases List.mem_cons.mp hx with rfl | hx
    · exact .inl (by kernel_rfl)
    · rcases List.mem_cons.mp hx with rfl | hx
      · exact .inl (by kernel_rfl)
      · cases hx
  · subst he'
    refine ⟨hl.keeps x.toInCall.keep, codeAny_func ?_⟩
    obtain ⟨p1, p2, p3, p4, hbody⟩ := body41
    have hE : callEnvC (fd41 X.w.params) s.heap.objs.size 41 = env41 s.heap.objs.size := by kernel_rfl
    change InCallC s (callEnvC (fd41 X.w.params) s.heap.objs.size 41).locals (bindL (callEnvC (fd41 X.w.params) s.heap.objs.size 41).kindOf _ _) (callEnvC (fd41 X.w.params) s.heap.objs.size 41).cells _ s₁ at x
    show wpAny _ (A.deeper (callEnvC (fd41 X.w.params) s.heap.objs.size 41)) (execs (fBody (sc 2 0)) (callEnvC (fd41 X.w.params) s.heap.objs.size 41)) _ (fun e s' => wpAny _ (A.deeper (callEnvC (fd41 X.w.params) s.heap.objs.size 41)) (leaving (callEnvC (fd41 X.w.params) s.heap.objs.size 41) e) _ _ s') s₁
    rw [hE] at x ⊢
    rw [hbody]
    have hn := x.toInCall.ns
    have kp := x.toInCall.keep
    obtain ⟨h₁, tk, rfl⟩ := x.toInCall.same
    have e1 : (bindL (env41 s.heap.objs.size).kindOf [(S "self", Value.ref e), (S "message", v)] fun _ => none) (S "self") = some (.ref e) := by
      rw [bindL, if_pos (self_local _), bindL, if_pos (msg_local _), bindL, if_neg (by decide +kernel), if_pos rfl]
    have e2 : (bindL (env41 s.heap.objs.size).kindOf [(S "self", Value.ref e), (S "message", v)] fun _ => none) (S "message") = some v := by
      rw [bindL, if_pos (self_local _), bindL, if_pos (msg_local _), bindL, if_pos rfl]
    refine wpAny_execs_cons (plainObj_wpAny_Assign_Attribute (wpAny_Name (wpAny_loadName_local rfl (msg_local _) hn e2 (wpAny_Name (wpAny_loadName_local rfl (self_local _) hn e1 ?_) (by decide +kernel))) (by decide +kernel)))
    refine exc_set (K.keeps kp) (kp _ _ he) hc hdn hdt fun h' t t' k1 k2 k3 => wpAny_execs_nil ?_
    refine h h' t t' _ (fun b o hb e' => k1 b o hb (kp _ _ e')) ?_ k2 k3
    cases q : s.heap.get? h₁.objs.size with
    | none => rfl
    | some o => exact absurd (Heap.lt_size (kp _ _ q)) (Nat.lt_irrefl _)

/-- the exception as it was made -/
noncomputable def Made (h : Heap) (h' : Heap) (a : Addr) (msg : String) : Prop :=
  ∃ dx tp es n t, (∀ b o, h.get? b = some o → h'.get? b = some o) ∧ h.get? a = none ∧ h.get? dx = none ∧ h'.get? a = some ⟨.ref 44, some dx, .fields #[.ref tp, .none, .none, .none, .bool false, .none], #[]⟩ ∧ h'.get? dx = some (dictOf es n) ∧ getL "message" es = some (some (.str (S msg) t))
theorem type_call44 {X : Cx} {A : Around} {E : Value → Shared → Prop} {h : Heap} {g : Array GenState} {d : Drawn} {t : Nat} {os : OsState} {msg : String} {tk : Tok} {Q : Fin → Shared → Prop} (K : (KK X.w.params).In h) (hl : h.NoLimit) (hd : A.depth < recursionLimit)
    (hq : ∀ h' t' a, Made h h' a msg → Q (.done (.ret (.ref a))) ⟨h', g, d, t', os⟩) :
    wpAny (md X) A (Builtin.«type.__call__» ⟨[.ref 44, .str (S msg) tk], []⟩) Q E ⟨h, g, d, t, os⟩ := by
  have hC := get44 K
  have T := own24 K
  have hn := ns43 K
  have F := PySem.F.excBase_Exception
  repeat (first | with_reducible refine wpAny_loadPart_at hC ?_ | with_reducible refine wpAny_madeBy_exc hC ?_ | wp_step)
  refine codeAny_call_builtin_code (Code.quiet_builtin _ F.quiet) (wpAny_check_new_subU F (by decide) T hC ?_)
  refine codeAny_exc_new_subU F (by decide) F T hC ?_ (by show 1 ≤ _; rw [sizeLine_eq]; lia)
  show wpAny _ _ _ _ _ _
  generalize hh1 : (h.push { cls := .type "tuple", data := .seq [.str (S msg) tk].toArray }).push { cls := .ref 44, data := .fields #[.ref h.objs.size, .none, .none, .none, .bool false, .none] } = h₁
  have k : ∀ b o, h.get? b = some o → h₁.get? b = some o := fun b o e => by rw [← hh1]; exact Heap.get?_push_of_some _ (Heap.get?_push_of_some _ e)
  have hget : h₁.get? (h.objs.size + 1) = some { cls := .ref 44, data := .fields #[.ref h.objs.size, .none, .none, .none, .bool false, .none] } := by rw [← hh1]; heap_get
  have hs1 : h₁.objs.size = h.objs.size + 2 := by rw [← hh1, Heap.size_push, Heap.size_push]
  have K₁ := K.keeps k
  have t1 : Looks (md X) h₁ (typeOf (.ref (h.objs.size + 1))) (.ref 44) := (Looks.ld hget).andThen .now
  have s1 : Looks (md X) h₁ (isSubtype (.ref 44) (.ref 44)) true := looks_mroIn K₁ (by kernel_rfl)
  have i1 : Looks (md X) h₁ (typeLookup (.ref 44) "__init__") (some (.ref 41)) := looks_findIn K₁ (init44 _)
  have b1 : Looks (md X) h₁ (bindSpecial (.ref 41) (.ref (h.objs.size + 1))) (.ref 41, [.ref (h.objs.size + 1)]) := bind_fn K₁ _ (typ41 _)
  unfold isInstance callSpecial? specialOf
  repeat (first | with_reducible refine wpAny_call ?_ | lk)
  refine init_refusal (s := ⟨h₁, g, d, t, os⟩) K₁ (hl.keeps k) ?_ hget rfl rfl rfl fun h' t' t'' D k1 k2 k3 k4 => ?_
  · exact hd
  · refine wpAny_pure (wpAny_pure (hq h' t'' _ ?_))
    have hle : ∀ a, h.objs.size ≤ a → h.get? a = none := fun a ha => Heap.get?_none_of_le ha
    refine ⟨D, _, _, _, tk, fun b o e => k1 b o (Nat.ne_of_lt (Nat.lt_succ_of_lt (Heap.lt_size e))) (k _ _ e), hle _ (Nat.le_succ _), ?_, k3, k4, ?_⟩
    · cases q : h.get? D with
      | none => rfl
      | some o => rw [k _ _ q] at k2; cases k2
    · unfold getL; kernel_rfl
theorem call_refusal {X : Cx} {A : Around} {E : Value → Shared → Prop} {s : Shared} {msg : String} {tk : Tok} {Q : Value → Shared → Prop} (K : (KK X.w.params).In s.heap) (hl : s.heap.NoLimit) (hd : A.depth + 1 < recursionLimit)
    (hq : ∀ h' t' a, Made s.heap h' a msg → Q (.ref a) { s with heap := h', toks := t' }) : wpAny (md X) A (call (.ref 44) [.str (S msg) tk] []) Q E s := by
  obtain ⟨h, g, d, t, os⟩ := s
  have hC := get44 K
  have f1 := tc_lookup
  have f2 := tc_bind (.ref 44)
  have hT : (⟨h, g, d, t, os⟩ : Shared).TypeIs (.ref 44) "type" := ⟨_, hC, rfl⟩
  refine wpAny_call (codeAny_of_tree ?_)
  show wpAny _ _ (callAny (.ref 44) _) _ _ _
  repeat (any_goals (first | assumption | with_reducible refine wpAny_loadPart_at hC ?_ | wp_step))
  refine ⟨rfl, ?_⟩
  refine codeAny_call_builtin_at (Code.quiet_builtin _ (by decide +kernel)) entry_typeCall (wpAny_check_type_call_sub hC (type_call44 K hl ?_ fun h' t' e hm => ?_))
  · exact hd
  · exact hq h' t' e hm
theorem raise_made {X : Cx} {A : Around} {E : Value → Shared → Prop} {s : Shared} {env : Env} {x : Sem Value} {Q : Flow → Shared → Prop} (hh : A.handled = none)
    (h : wpAny (md X) A x (fun v s₁ => (KK X.w.params).In s₁.heap ∧ ∃ e dx t, v = .ref e ∧ s₁.heap.get? e = some ⟨.ref 44, some dx, .fields #[.ref t, .none, .none, .none, .bool false, .none], #[]⟩ ∧ E (.ref e) s₁) E s) :
    wpAny (md X) A (raiseStmt env (some x) none) Q E s := by
  unfold raiseStmt
  refine wpAny_bind (wpAny_mono h (fun v s₁ h₁ => ?_) fun _ _ x => x)
  obtain ⟨K, e, dx, t, rfl, he, hE⟩ := h₁
  obtain ⟨hp, g, d, tk, os⟩ := s₁
  have hC := get44 K
  have hcB : (Value.ref 44 :: [Value.ref 24, .type "Exception", .type "BaseException", .type "object"]).contains (.type "BaseException") = true := by decide
  repeat (first | with_reducible refine wpAny_loadPart_at he ?_ | with_reducible refine wpAny_loadPart_at hC ?_ | (with_reducible refine wpAny_isSubtype_exc hC ?_; rw [hcB]) | wp_step)
  exact wpAny_raiseNew_none hh hE
section
variable {X : Cx} {n : Nat} {env : Env} {vars : Vars} {m : MH} {Q : SRes → Vars → MH → Prop} {Ex : String → MH → Prop}
theorem keep44 (P : Params) : keepIn (KK P) (.ref 44) = true := by kernel_rfl
theorem ts_raise {e : PySem.Expr} {np cpos pos : Pos} (G : Glo X) (hk : env.kindOf (S "Refusal") = some .globalImplicit) (hs : noStar e = true)
    (h : TE X (n + 2) env env vars e m (fun v m' => ∃ msg, v = .str msg ∧ Ex msg m') Ex) : TS X (n + 2) env env vars (exec (.Raise (some (.Call (.Name (S "Refusal") np) [e] [] cpos)) none pos) env) m Q Ex := fun A s p => by
  rw [arm_exec_Raise]
  have key : wpAny (md X) A (eval (.Call (.Name (S "Refusal") np) [e] [] cpos) env) (fun v s₁ => (KK X.w.params).In s₁.heap ∧ ∃ e dx t, v = .ref e ∧ s₁.heap.get? e = some ⟨.ref 44, some dx, .fields #[.ref t, .none, .none, .none, .bool false, .none], #[]⟩ ∧ EES X env m s.heap Ex (.ref e) s₁) (EES X env m s.heap Ex) s := by
    refine wpAny_Call_NameR (Name_function_global p.env.kind hk (load_global G p (x := "Refusal") (v := .ref 44) rfl ?_) (by decide +kernel))
    have he : starEach [e] env = (false, eval e env) :: starEach [] env := by cases e <;> first | rfl | (cases hs)
    refine callWith_K (h₀ := s.heap) (G.KK p.rel.hr) (keep44 _) ?_ he (plain_trees _ rfl)
    have : backTo cpos (starEach [e] env) = [(false, eval e env)] := trees1 hs
    rw [this]
    refine spliced_cons (h.goS p (.refl ..) fun v m₁ rv s₁ r₁ p₁ st₁ hz => spliced_nil ?_)
    obtain ⟨msg, hv, q⟩ := hz
    subst hv
    first | obtain rfl := r₁.refE | obtain rfl := r₁.boolE | cases r₁
    refine ⟨G.KK p₁.rel.hr, call_refusal (G.KK p₁.rel.hr) (G.noLimit p₁.rel.hr) (by have := p₁.room.depth; unfold recursionLimit; lia) fun h' t' a hm => ?_⟩
    obtain ⟨dx, tp, es, k, t, k1, k2, k3, k4, k5, k6⟩ := hm
    have r' : Rel X m₁ { s₁ with heap := h', toks := t' } := p₁.rel.keeps k1
    refine ⟨G.KK r'.hr, a, dx, tp, rfl, k4, msg, m₁, vars, .new ⟨dx, _, _, es, k, t, st₁.fresh p₁.rel.hr k2, k4, st₁.fresh p₁.rel.hr k3, k5, k6, p₁.rel.hr.notOwn k2, p₁.rel.hr.notOwn k3, rfl⟩, r', (p₁.env.step (.of_keeps k1)), st₁.trans (.of_keeps k1), q⟩
  first
    | exact wpAny_bind (wpAny_standAt (raise_made p.room.handled (wpAny_bind (wpAny_mono key (fun v s₃ h₃ => wpAny_bind (wpAny_standAt (wpAny_pure h₃))) fun _ _ x => x))))
    | (simp only [evalOpt, Option.map]; exact wpAny_bind (wpAny_standAt (raise_made p.room.handled (wpAny_bind (wpAny_mono key (fun v s₃ h₃ => wpAny_bind (wpAny_standAt (wpAny_pure h₃))) fun _ _ x => x)))))
end

theorem ga44 (P : Params) : findIn (KK P) (.ref 44) "__getattribute__" = some (some (.builtin "BaseException.__getattribute__")) := by kernel_rfl
theorem gt44 (P : Params) : findIn (KK P) (.ref 44) "__getattr__" = some none := by kernel_rfl
theorem be44 (P : Params) : mroIn (KK P) 44 (.type "BaseException") = some true := by kernel_rfl
theorem ga_slot : Slot "Exception" "__getattribute__" "BaseException.__getattribute__" :=
  .of (owner := "BaseException") (n := "__getattribute__") (by rw [typeLookup_type, builtinLookup_eq_fast]; kernel_rfl) (by decide +kernel) (by decide +kernel) (by decide +kernel)
    (by first | exact .inl (by decide +kernel) | exact .inr (by decide +kernel)) (by rw [isSubtype_type]; kernel_rfl)
theorem exc_get {X : Cx} {A : Around} {E : Value → Shared → Prop} {s : Shared} {Q : Value → Shared → Prop} {e dx : Addr} {oe : Obj} {es : List DictEntry} {n : Nat} {v : Value} {vs : Array Value} {expr : Bool} (K : (KK X.w.params).In s.heap) (he : s.heap.get? e = some oe) (hc : oe.cls = .ref 44) (hdx : oe.dict = some dx) (hdt : oe.data = .fields vs) (hd : s.heap.get? dx = some (dictOf es n)) (hg : getL "message" es = some (some v))
    (hv : handedIn v = true) (hq : Q v { s with toks := s.toks + 1 }) : wpAny (md X) A (getAttr (.ref e) "message" expr) Q E s := by
  obtain ⟨h, g, d, t, os⟩ := s
  have I : InstAt h e oe 44 (some (dictOf es n)) := ⟨he, hc, by unfold notCls; rw [hdt], by rw [hdx]; exact hd⟩
  have L0 := I.type (M := md X)
  have L1 := looks_findIn (M := md X) K (ga44 _)
  have L2 := looks_findIn (M := md X) K (gt44 _)
  have L3 := looks_mroIn (M := md X) K (be44 _)
  have hf : findObj (KK X.w.params) 44 (some (dictOf es n)) "message" = some (.value v) := by
    unfold findObj
    rw [cls44, msg44]
    simp only [Option.bind_some]
    unfold PySem.W.ownOf
    rw [hd44, if_pos rfl]
    show ((lookIn "message" (dictOf es n)).bind _) = _
    rw [lookIn_dict, hg]; rfl
  have L4 := looks_find (M := md X) K I hf
  have hx0 : (expr && onTheHeap (Value.builtin "BaseException.__getattribute__")) = false := by cases expr <;> rfl
  unfold getAttr getAttrBy
  refine wpAny_bind (wpAny_mkText (wpAny_holding (wpAny_bind (L0.at (wpAny_bind (L1.at ?_))))))
  dsimp only
  rw [if_neg (by decide +kernel)]
  unfold getAttrByItsOwn hookBefore
  rw [if_pos (show onTheHeap (Value.ref 44) = true from rfl)]
  refine wpAny_bind (L2.at (wpAny_bind (wpAny_attempt (wpAny_holding ?_))))
  unfold callGetattribute
  rw [hx0, if_neg (by decide)]
  unfold boundAndCalled
  rw [ga_slot.bind]
  refine wpAny_bind (wpAny_pure (wpAny_call ?_))
  have sub : Looks (md X) h (isInstance (.ref e) (.type "BaseException")) true := L0.andThen L3
  refine codeAny_call_builtin ga_slot.plain PySem.F.entry_bexc_ga (@check_slot (md X) _ _ ⟨h, g, d, t + 1, os⟩ "BaseException.__getattribute__" "BaseException" "__getattribute__" (.ref e) [.str "message" t] [] _ (by decide +kernel) (by decide +kernel) sub (PySem.F.args_bexc_ga _ _) ?_)
  refine wpAny_bind (wpAny_pure (wpAny_bind (wpAny_pure (wpAny_bind (L0.at (wpAny_bind (L4.at ?_)))))))
  refine wpAny_pure ?_
  show wpAny _ _ (handedOut v) _ _ _
  rw [handedOut_of hv]; exact wpAny_pure hq
section
variable {X : Cx} {n : Nat} {env : Env} {vars : Vars} {m : MH} {Q : SRes → Vars → MH → Prop} {Ex : String → MH → Prop}
/-- an exception is noted by the frame, whatever comes next -/
theorem ees_note {A : Around} {s₀ : Shared} {vars₀ : Vars} {m₀ : MH} {K : Unit → Shared → Prop} {E : Value → Shared → Prop} (p₀ : Pre X n A env env vars₀ m₀ s₀) {e : Value} {s' : Shared} {L : Addr} (hf : env.frame = some L) (x : EES X env m₀ s₀.heap Ex e s')
    (k : ∀ a s'' msg m' vars', e = .ref a → ExcObj s₀.heap m' s''.heap a msg (.at (rawInt L)) → Rel X m' s'' → EnvOk X env vars' m' s''.heap → StepS (Foot env) m₀ s₀.heap m' s''.heap → Ex msg m' → K () s'') : wpAny (md X) A (noteFrame e env) K E s' := by
  obtain ⟨msg, m', vars', hx, r, ev, st, q⟩ := x
  obtain ⟨outer, hA, hl', hfh, hb, hfl⟩ := pass_facts p₀ ev st
  refine note_any hA hf hl' r hfh (fun b e => st.fresh r.hr e) hb hx fun h' a he hx' kx => ?_
  have hfo : ∀ b ∈ (env :: outer).filterMap (·.frame), ∃ o, s'.heap.get? b = some o ∧ ∀ vs, o.data ≠ .fields vs := fun b hb => (hl'.1.mem hb).2
  exact k a _ msg m' vars' he hx' (kx.rel (t := s'.toks) r hb (frs_base hl') hl'.2) (ev.keepF fun b f o e => kx.keepO hfo e (hfl b f)) (KeepX.step hfo st kx) q
/-- the flight of a noted exception is let go -/
theorem ees_flight {A : Around} {s₀ : Shared} {vars₀ : Vars} {m₀ : MH} {K : Unit → Shared → Prop} {E : Value → Shared → Prop} (p₀ : Pre X n A env env vars₀ m₀ s₀) {a : Addr} {s' : Shared} {msg : String} {m' : MH} {vars' : Vars} {v : Value} {A' : Around}
    (hx : ExcObj s₀.heap m' s'.heap a msg (.at v)) (r : Rel X m' s') (ev : EnvOk X env vars' m' s'.heap) (st : StepS (Foot env) m₀ s₀.heap m' s'.heap)
    (k : ∀ s'', ExcObj s₀.heap m' s''.heap a msg (.at .none) → Rel X m' s'' → EnvOk X env vars' m' s''.heap → StepS (Foot env) m₀ s₀.heap m' s''.heap → K () s'') : wpAny (md X) A' (setFlight (.ref a) none) K E s' := by
  obtain ⟨outer, hA, hl', hfh, hb, hfl⟩ := pass_facts p₀ ev st
  have hfo : ∀ b ∈ (env :: outer).filterMap (·.frame), ∃ o, s'.heap.get? b = some o ∧ ∀ vs, o.data ≠ .fields vs := fun b hb => (hl'.1.mem hb).2
  refine flight_exc (m := m') (frs := (env :: outer).filterMap (·.frame)) hx fun h' hx' kx => ?_
  exact k _ hx' (kx.rel (t := s'.toks) r hb (frs_base hl') hl'.2) (ev.keepF fun b f o e => kx.keepO hfo e (hfl b f)) (KeepX.step hfo st kx)
theorem load_global' {A : Around} {E : Value → Shared → Prop} {K : Value → Shared → Prop} {s : Shared} (G : Glo X) {x : String} {v : Value} (r : Rel X m s) (hglob : env.globals = mainGlobals) (h : gl.lookup x = some v) (k : K v s) : wpAny (md X) A (loadGlobal env (S x)) K E s := by
  obtain ⟨mg, hg⟩ := G.g
  refine loadGlobal_global (by rw [hglob]; exact hg.keeps r.hr.base) (mg_of G.K hg (gl_ok _ h)) k
theorem catch44 (P : Params) : exmOne (KK P) (.ref 44) (.ref 44) = some true := by kernel_rfl
theorem ts_try {body : List Stmt} {p1 p2 p3 p4 p5 pos : Pos} (G : Glo X) {L : Addr} (hf : env.frame = some L) (hk : env.kindOf (S "Refusal") = some .globalImplicit) (hke : env.kindOf (S "error") = some .local)
    (h : TS X n env env vars (execs body env) m (fun r vars' m' => match r with | .next => False | r => Q r vars' m') (fun msg m' => Q (.ret (.str msg)) [] m')) :
    TS X n env env vars (exec (.Try body [.ExceptHandler (some (.Name (S "Refusal") p1)) (some (S "error")) [.Return (some (.Attribute (.Name (S "error") p2) (S "message") p3)) p4] p5] [] [] pos) env) m Q Ex := fun A s p => by
  have hp : (env.scope.kind == .class || (env.scope.kind == .module && env.locals != env.globals)) = false := by rw [p.env.kind]; rfl
  refine wpAny_Try_except (wpAny_mono (h A s p) (fun f s₁ hz => ?_) fun e s₁ x => ?_)
  · obtain ⟨r, vars', m', hr, r₁, ev, st, q⟩ := hz
    cases hr with
    | next => exact q.elim
    | ret v => exact ⟨_, vars', m', .ret v, r₁, ev, st, q⟩
  · refine ees_note p hf x fun a s₂ msg m' vars' he hx r ev st q => ?_
    subst he
    refine ees_flight p hx r ev st fun s₃ hx r ev st => ?_
    refine wpAny_handleBy_cons (codeAny_handlers_test (Name_function_global p.env.kind hk (load_global' G (x := "Refusal") (v := .ref 44) r ev.glob rfl ?_) (by decide +kernel))) (by intro q; cases q)
    obtain ⟨dx, vs, sl, es, k, t, e1, e2, e3, e4, e5, e6, e7, e8⟩ := id hx
    have LT : Looks (md X) s₃.heap (typeOf (.ref a)) (.ref 44) := (Looks.ld (part := some headPart) e2).andThen .now
    refine (exm_one (G.KK r.hr) LT (catch44 _)).here ?_
    refine codeAny_handlers_suite_as (ees_flight p hx r ev st fun s₄ hx r ev st => ?_)
    obtain ⟨ml, hn, hl⟩ := ev.ns
    refine wpAny_storeName_local hke hn (fun h₅ hn₅ hs₅ => ?_) hp
    obtain ⟨dx, vs, sl, es, k, t, e1, e2, e3, e4, e5, e6, e7, e8⟩ := id hx
    have hL0 : ∃ o, s.heap.get? env.locals = some o := p.env.footLive (.inl rfl)
    have ne : ∀ b, s.heap.get? b = none → b ≠ env.locals := fun b hb z => by obtain ⟨o, e⟩ := hL0; rw [← z, hb] at e; cases e
    have e2' := (hs₅.2 a (ne a e1)).trans e2
    have e4' := (hs₅.2 dx (ne dx e3)).trans e4
    have r5 : Rel X m' { s₄ with heap := h₅, toks := s₄.toks + 1 } := ⟨r.hr.mono (fun c o e => (hs₅.2 c fun z => by rw [z, p.env.base _ (.inl rfl)] at e; cases e).trans (r.hr.base c o e)) (fun c o q e => (hs₅.2 c fun z => ev.own _ (.inl rfl) (z ▸ q)).trans e), r.gens, r.os⟩
    refine wpAny_execs_cons (wpAny_Return_some ?_)
    show wpAny _ _ (do
      let o ← attributeBase (.Name (S "error") p2) (S "message") env (eval (.Name (S "error") p2) env)
      standAt p3.atName
      let r ← holding [o] (getAttr o (S "message") true)
      letTemporaryGo (.Name (S "error") p2) o r
      pure r) _ _ _
    rw [attributeBase_plain rfl]
    refine wpAny_bind (wpAny_Name (wpAny_loadName_local p.env.kind hke hn₅ (by simp; rfl) ?_) (by decide +kernel))
    refine wpAny_bind (wpAny_standAt (wpAny_bind (wpAny_holding ?_)))
    refine exc_get (G.KK r5.hr) e2' rfl rfl rfl e4' e5 rfl ?_
    refine wpAny_bind (wpAny_letTemporaryGo (wpAny_pure ?_))
    refine wpAny_nameGoes hke hn₅ hp fun h₆ m₆ hn₆ hs₆ => ?_
    have hs56 : Heap.SameBut env.locals s₄.heap h₆ := hs₅.trans hs₆
    have keepL : ∀ b o, s₄.heap.get? b = some o → b ≠ env.locals → h₆.get? b = some o := fun b o e z => (hs56.2 b z).trans e
    refine ⟨.ret (.str msg), [], m', .ret (.str msg _), ⟨r.hr.mono (fun c o e => keepL c o (r.hr.base c o e) fun z => by rw [z, p.env.base _ (.inl rfl)] at e; cases e) (fun c o q e => keepL c o e fun z => ev.own _ (.inl rfl) (z ▸ q)), r.gens, r.os⟩, ?_, ?_, q⟩
    · exact ⟨ev.kind, ev.glob, ev.blt, ⟨m₆, hn₆, fun y u e _ => by simp at e⟩, fun y u e => by simp at e, fun y c e => by
        obtain ⟨w, hw⟩ := ev.live y c e
        exact ⟨w, hw.sameBut hs56 (ev.off _ _ e)⟩, ev.apart, ev.off, ev.own, ev.base⟩
    · refine st.trans ⟨fun _ q => q, fun b o e => ?_⟩
      by_cases z : Own m' b
      · exact .inl z
      · refine .inr ⟨z, ?_⟩
        by_cases y : b = env.locals
        · obtain ⟨o', e'⟩ := ns_live hn₆
          exact ⟨o', y ▸ e', .inl (.inl y)⟩
        · exact ⟨o, keepL b o e y, .inr (.refl o)⟩
end

theorem Rel.retype {X : Cx} {m : MH} {s : Shared} {a : Addr} {o o' : MO} (r : Rel X m s) (hm : m a = some o) (ho : OR X s.heap a o') (hp : ∀ c dx as, o ≠ .inst c dx as) (hp' : ∀ c dx as, o' ≠ .inst c dx as) (hr : o.isRo = false) (hr' : o'.isRo = false) : Rel X (m.set a o') s ∧ ∀ S, StepS S m s.heap (m.set a o') s.heap := by
  obtain ⟨x, y⟩ := r.hr.turn (h' := s.heap) hm (fun _ _ => rfl) ho hp hp' hr hr'
  exact ⟨⟨x, r.gens, r.os⟩, y⟩
section
variable {X : Cx} {n : Nat} {fe env : Env} {vars : Vars} {m : MH} {Q : SRes → Vars → MH → Prop} {Ex : String → MH → Prop}
theorem ts_return0 {pos} (h : Q (.ret .none) vars m) : TS X n fe env vars (exec (.Return none pos) env) m Q Ex := fun A s p =>
  wpAny_Return_none (ts_end (.ret .none) p (.refl ..) h)
/-- the end's plain heap is told otherwise -/
theorem ts_ghost {t : Sem Flow} {Q' : SRes → Vars → MH → Prop} (h : TS X n fe env vars t m Q' Ex) (k : ∀ r vars' m' s', Q' r vars' m' → Rel X m' s' → ∃ m'', Rel X m'' s' ∧ StepS (fun _ => False) m' s'.heap m'' s'.heap ∧ Q r vars' m'') : TS X n fe env vars t m Q Ex := fun A s p =>
  wpAny_mono (h A s p) (fun f s' hz => by
    obtain ⟨r, v', m', hr, r', ev, st, q⟩ := hz
    obtain ⟨m'', r'', st', q'⟩ := k r v' m' s' q r'
    exact ⟨r, v', m'', hr, r'', ev.step st', st.trans (.footless st'), q'⟩) fun e s' x => x
theorem ts_while {test : PySem.Expr} {body : List Stmt} {pos : Pos} {L : Addr} (hf : env.frame = some L) (μ : Vars → MH → Nat) (Inv : Vars → MH → Prop) (i0 : Inv vars m)
    (turn : ∀ vars' m', Inv vars' m' → TB X n env env vars' test m' (fun c m'' => if c then TS X n env env vars' (execs body env) m'' (fun r vars'' m3 => match r with | .next => Inv vars'' m3 ∧ μ vars'' m3 < μ vars' m' | r => Q r vars'' m3) Ex else Q .next vars' m'') Ex) :
    TS X n env env vars (exec (.While test body [] pos) env) m Q Ex := fun A s p => by
  refine wpAny_While (codeAny_whileLoop (fun k s' => ∃ vars' m', k = μ vars' m' ∧ Pre X n A env env vars' m' s' ∧ StepS (Foot env) m s.heap m' s'.heap ∧ Inv vars' m') ?_ (μ vars m) ⟨vars, m, rfl, p, .refl .., i0⟩)
  rintro k s' ⟨vars', m', rfl, p', st', hi⟩
  have noErr : ∀ e s'', EES X env m s.heap Ex e s'' → notedBy (md X) A env (fun e s' => (match (Except.error e : Result) with | .ok f => (SP X env m s.heap Q f s') | .error e => cameBackBy (md X) A env (EES X env m s.heap Ex) e s')) e s'' := fun e s'' x =>
    ees_noted p hf x _ fun s3 x3 => ees_back p hf x3
  refine wpAny_mono ((turn vars' m' hi).goS (K := fun (b : Bool) s₂ => if b then ∃ m'', Pre X n A env env vars' m'' s₂ ∧ StepS (Foot env) m s.heap m'' s₂.heap ∧ TS X n env env vars' (execs body env) m'' (fun r vars'' m3 => match r with | .next => Inv vars'' m3 ∧ μ vars'' m3 < μ vars' m' | r => Q r vars'' m3) Ex else ∃ m'', Pre X n A env env vars' m'' s₂ ∧ StepS (Foot env) m s.heap m'' s₂.heap ∧ Q .next vars' m'') p' st' fun c m'' rc s₂ r p₂ st₂ q => ?_) (fun c s₂ q => ?_) noErr
  · subst r
    cases c
    · exact ⟨m'', p₂, st₂, q⟩
    · exact ⟨m'', p₂, st₂, q⟩
  · cases c
    · obtain ⟨m'', p₂, st₂, q⟩ := q
      rw [if_neg (by decide)]
      exact wpAny_execs_nil (ts_end .next p₂ st₂ q)
    · obtain ⟨m'', p₂, st₂, q⟩ := q
      rw [if_pos rfl]
      refine wpAny_mono (q.go (K := fun f s₃ => ∃ r vars'' m3, FR r f ∧ Pre X n A env env vars'' m3 s₃ ∧ StepS (Foot env) m s.heap m3 s₃.heap ∧ (match r with | .next => Inv vars'' m3 ∧ μ vars'' m3 < μ vars' m' | r => Q r vars'' m3)) p₂ st₂ fun r vars'' m3 f s₃ hr p₃ st₃ q₃ => ⟨r, vars'', m3, hr, p₃, st₃, q₃⟩) (fun f s₃ q => ?_) noErr
      obtain ⟨r, vars'', m3, hr, p₃, st₃, q₃⟩ := q
      cases hr with
      | next => exact ⟨_, q₃.2, vars'', m3, rfl, p₃, st₃, q₃.1⟩
      | ret v => exact ts_end (.ret v) p₃ st₃ q₃

/-! ### a loop over a dict -/
theorem src_dict {X : Cx} (G : Glo X) {I d : Addr} {o : Obj} {es : List (String × MV)} {kvs : List (Str × Value)} {ep : Nat} (hes : All2 SR es kvs) (hd : ∀ h : Heap, h.get? d = some o → h.DictAt (strKind pw X.w) d kvs ep) (hne : d ≠ I) :
    Src X I es.length (nthv (es.map fun p => .str p.1)) (fun m => m d = some (.raw o)) (fun i h => h.IsKeyIter I d i kvs.length ep) where
  keep := fun i h h' st k => by
    obtain ⟨ob, e, c, dt⟩ := st
    obtain ⟨o', e', q⟩ := k ob e
    exact ⟨o', e', q.cls.trans c, q.data.trans dt⟩
  live := fun i h hz => by obtain ⟨o, e, _⟩ := hz; exact ⟨o, e⟩
  self := fun A s K E i st k => wpAny_pyIter_keyiter st k
  off := fun m₁ m₂ D ob e p q => (MH.set_other m₂ ob (fun z => by subst z; rw [e] at p; cases p)).trans q
  next := fun A s m K E i st r hm hi k => by
    have ha := hd s.heap (r.hr.obj d _ hm)
    have hi' : i < kvs.length := by rw [← hes.length]; exact hi
    obtain ⟨⟨kk, x⟩, hx⟩ : ∃ p, kvs[i]? = some p := ⟨kvs[i], by simp [hi']⟩
    obtain ⟨⟨ks, u⟩, hu, hs⟩ := hes.get' hx
    refine wpAny_pyNext_dict_item st ha hx fun key h' hkey hit' hs' => ?_
    have hk : kk = S ks := hs.1
    subst hk
    refine k h' s.toks key ?_ hit' hs'
    unfold nthv
    rw [List.getD_eq_getElem?_getD, List.getElem?_map, hu]
    obtain ⟨t, rfl⟩ : ∃ t, key = .str (S ks) t := by
      have : Value.isStrOf (S ks) key = true := hkey
      cases key <;> simp [Value.isStrOf] at this
      rename_i y t
      exact ⟨t, by rw [this]⟩
    exact .str ks t
  done := fun A s m K E hh st r hm k => by
    have ha := hd s.heap (r.hr.obj d _ hm)
    exact wpAny_pyNext_dict_end hh st ha (by rw [hes.length]; simp) k
theorem ts_for_dict {x : String} {it : PySem.Expr} {p' pos : Pos} {body : List Stmt} {L : Addr} (G : Glo X) (hf : env.frame = some L) (hk : canStore env x) (hs : ∀ x, foldedSetIterable it env x = pure x) (hlet : ∀ I v, letOwnedTupleGo (.Name (S x) p') (.ref I) v = pure ())
    (h : TE X n env env vars it m (fun a m₁ => ∃ d es, a = .ref d ∧ m₁ d = some (.sd es) ∧ ∀ o, ∃ Inv : Nat → Vars → MH → Prop, Inv 0 vars (m₁.set d (.raw o)) ∧
      (∀ i vars' m', i < es.length → Inv i vars' m' → m' d = some (.raw o) → TS X n env env (setv vars' x (nthv (es.map fun p => .str p.1) i)) (execs body env) m' (fun r vars'' m'' => match r with | .next => m'' d = some (.raw o) ∧ Inv (i + 1) vars'' m'' | r => Q r vars'' m'') Ex) ∧
      ∀ vars' m', Inv es.length vars' m' → m' d = some (.raw o) → Q .next vars' (m'.set d (.sd es))) Ex) :
    TS X n env env vars (exec (.For (.Name (S x) p') it body [] pos) env) m Q Ex := by
  refine ts_ghost (Q' := fun r vars' m' => match r with | .next => ∃ d es o, (∀ h : Heap, h.get? d = some o → OR X h d (.sd es)) ∧ m' d = some (.raw o) ∧ Q .next vars' (m'.set d (.sd es)) | r => Q r vars' m') ?_ fun r vars' m' s' q r' => ?_
  · refine ts_for hf hk hs hlet fun A s p => ?_
    refine h.go p (.refl ..) fun a m₁ ra s₁ r₁ p₁ st₁ hz => ?_
    obtain ⟨d, es, e, hm, q⟩ := hz
    subst e
    first | obtain rfl := r₁.refE | obtain rfl := r₁.boolE | cases r₁
    obtain ⟨kvs, hd, hes⟩ := p₁.rel.hr.obj d _ hm
    obtain ⟨o, dd, ep, ho, g2, g3, g4, g5, g6⟩ := id hd
    have hn : s₁.heap.get? s₁.heap.objs.size = none := Heap.get?_none_of_le (Nat.le_refl _)
    have hda : ∀ h : Heap, h.get? d = some o → h.DictAt (strKind pw X.w) d kvs ep := fun h e => ⟨o, dd, e, g2, g3, g4, g5, g6⟩
    refine wpAny_pyIter_dict (knd := strKind pw X.w) (sysOff G p₁.rel.hr hm rfl) (hda _ ho) ?_
    obtain ⟨r2, st2⟩ := p₁.rel.retype (o' := .raw o) hm ho (fun _ _ _ z => by cases z) (fun _ _ _ z => by cases z) rfl rfl
    have st2 := st2 (fun _ => False)
    obtain ⟨Inv, i0, turn, fin⟩ := q o
    have hdI : d ≠ s₁.heap.objs.size := Nat.ne_of_lt (Heap.lt_size ho)
    refine ⟨_, _, _, _, _, m₁.set d (.raw o), rfl, src_dict G hes hda hdI, ⟨_, Heap.get?_push_size _ rfl, rfl, rfl⟩, r2.push _, (st₁.trans st2).trans (.of_keeps fun _ _ e => Heap.get?_push_of_some _ e), st₁.fresh p₁.rel.hr hn, r2.hr.notOwn hn, MH.set_same _ _ _, Inv, i0, fun i vars' m' hi hv hP => ?_, fun vars' m' hv hP => ?_⟩
    · refine (turn i vars' m' hi hv hP).mono (fun r v m' z => ?_) fun _ _ z => z
      cases r <;> exact z
    · exact ⟨d, es, o, fun h e => ⟨kvs, ⟨o, dd, ep, e, g2, g3, g4, g5, g6⟩, hes⟩, hP, fin vars' m' hv hP⟩
  · cases r with
    | ret v => exact ⟨m', r', .refl .., q⟩
    | next =>
      obtain ⟨d, es, o, hO, hm, q⟩ := q
      obtain ⟨r2, st2⟩ := r'.retype (o' := .sd es) hm (hO _ (r'.hr.obj d _ hm)) (fun _ _ _ z => by cases z) (fun _ _ _ z => by cases z) rfl rfl
      exact ⟨_, r2, st2 _, q⟩
end
section
variable {X : Cx} {n : Nat} {fe env : Env} {vars : Vars} {m : MH} {Q : MV → MH → Prop} {Ex : String → MH → Prop}
theorem te_upto_ro {value e : PySem.Expr} {p' pos : Pos} (ht : ∀ o r, letTemporaryGo value o r = pure ()) (h : TE X n fe env vars value m (fun a m₁ => TE X n fe env vars e m₁ (fun b m₂ => ∃ l xs k, a = .ref l ∧ m₂ l = some (.ro xs) ∧ xs.length ≤ 1000000 ∧ b = .int k ∧ 0 ≤ k ∧ ∀ c, m₂ c = none → Q (.ref c) (m₂.set c (.list (xs.take k.toNat)))) Ex) Ex) :
    TE X n fe env vars (.Subscript value (.Slice none (some e) none p') pos) m Q Ex := fun A s p =>
  wpAny_Subscript_Slice slot_list_getitem.lookup (h.go p (.refl ..) fun a m₁ ra s₁ r₁ p₁ st₁ h₁ => wpAny_Slice (wpAny_pure (h₁.go p₁ st₁ fun b m₂ rb s₂ r₂ p₂ st₂ hz => wpAny_pure (by
    obtain ⟨l, xs, k, ha, hm, hl, hb, hk, q⟩ := hz
    subst ha hb
    obtain rfl := r₁.refE; obtain ⟨tk, rfl⟩ := r₂.intE
    obtain ⟨vs, g, hv⟩ := p₂.rel.hr.obj _ _ hm
    have hl' : ∀ o, (s₂.heap.push o).IsList l ⟨vs⟩ := fun o => by obtain ⟨ob, e1, e2⟩ := g; exact ⟨ob, Heap.get?_push_of_some _ e1, by simpa using e2⟩
    refine ⟨(hl' _).typeIs, wpAny_getItem_list_slice (hl' _) (Heap.IsSliceOf.new ..) .none (.int _ _) .none (by simp) ?_ (by show vs.length ≤ _; rw [← hv.length]; exact sizeLine_big hl)⟩
    refine new_list (K := TP X VR m s.heap Q) (A := A) (E := fun _ _ => True) (xs := xs.take k.toNat) p₂.rel (by rw [pick_upto _ hk]; exact hv.take _) (fun b o e => Heap.get?_push_of_some _ (Heap.get?_push_of_some _ e)) _ (Heap.get?_none_of_le (by rw [Heap.size_push]; exact Nat.le_succ _)) (Heap.get?_push_size _ rfl)
      (fun hn t r st => ⟨_, _, .ref _, r, st₂.trans st, q _ hn⟩) _))) ) ht
/-! ### a method of an own object -/
theorem found_le (es : List DictEntry) (ks : List Str) (hn : ks.Nodup) (h : ∀ k ∈ ks, ∃ e ∈ es, e.key.isStr k = true) : ks.length ≤ es.length := by
  induction es generalizing ks with
  | nil =>
    cases ks with
    | nil => exact Nat.le_refl _
    | cons k r => obtain ⟨e, he, _⟩ := h k (.head _); cases he
  | cons e r ih =>
    by_cases q : ∃ k ∈ ks, e.key.isStr k = true
    · obtain ⟨k, hk, hek⟩ := q
      have := ih (ks.erase k) (hn.erase k) fun k' hk' => by
        rw [hn.mem_erase_iff] at hk'
        obtain ⟨e', he', q'⟩ := h k' hk'.2
        rcases List.mem_cons.mp he' with rfl | he'
        · exact absurd (Value.isStr_inj _ _ _ q' hek) hk'.1
        · exact ⟨e', he', q'⟩
      rw [List.length_erase_of_mem hk] at this
      exact Nat.le_succ_of_pred_le this
    · have := ih ks hn fun k hk => by
        obtain ⟨e', he', q'⟩ := h k hk
        rcases List.mem_cons.mp he' with rfl | he'
        · exact absurd ⟨k, hk, q'⟩ q
        · exact ⟨e', he', q'⟩
      exact Nat.le_succ_of_le this
theorem ns_found {es : Array DictEntry} {k : Str} (h : (nsFind es k).isSome = true) : ∃ e ∈ es.toList, e.key.isStr k = true := by
  unfold nsFind findBy at h
  rw [← Array.find?_toList, Option.isSome_map] at h
  obtain ⟨e, he⟩ := Option.isSome_iff_exists.mp h
  exact ⟨e, List.mem_of_find?_eq_some he, by have := List.find?_some he; exact this⟩
theorem ns_absent {h : Heap} {d : Addr} {as : List (String × MV)} {k : String} (x : NsR h d as) (hn : (as.map (·.1)).Nodup) (hk : k ∉ as.map (·.1)) : ∃ od, h.get? d = some od ∧ lookIn (S k) od = some none := by
  obtain ⟨ml, hns, ⟨o', es', ep', e1, e2, e3⟩, hl⟩ := x
  obtain ⟨od, ho, hlk⟩ := getL_of_ns hns (S k)
  refine ⟨od, ho, hlk.trans (congrArg some ?_)⟩
  obtain ⟨o, es, ep, f1, f2, f3, f4⟩ := hns
  rw [f1] at e1; cases e1
  have e2 := e2
  rw [f2] at e2
  obtain ⟨rfl, rfl⟩ := Data.dict.inj e2
  cases q : ml (S k) with
  | none => rfl
  | some v =>
    exfalso
    have hmem : ∀ y ∈ as.map (·.1), ∃ v, as.lookup y = some v := fun y hy => by
      obtain ⟨p, hp, rfl⟩ := List.mem_map.mp hy
      cases e : as.lookup p.1 with
      | some v => exact ⟨v, rfl⟩
      | none =>
        rw [List.lookup_eq_none_iff] at e
        have := e p hp
        simp at this
    have := found_le es.toList ((k :: as.map (·.1)).map S) (by
      rw [List.Nodup, List.pairwise_map]
      have : (k :: as.map (·.1)).Nodup := List.nodup_cons.mpr ⟨hk, hn⟩
      exact this.imp fun a b => a (ofString_inj b)) fun s hs => by
        obtain ⟨y, hy, rfl⟩ := List.mem_map.mp hs
        refine ns_found ?_
        rw [f4]
        rcases List.mem_cons.mp hy with rfl | hy
        · rw [q]; rfl
        · obtain ⟨v, hv⟩ := hmem y hy
          obtain ⟨rv, h1, _⟩ := hl y v hv
          rw [h1]; rfl
    simp at this
    lia
theorem copy_facts (P : Params) : findIn (KK P) (.ref cVector) "copy" = some (some (.ref 89)) ∧ typeIn (KK P) (.ref 89) = some (.type "function") ∧ keepIn (KK P) (.ref 89) = true := ⟨by kernel_rfl, by kernel_rfl, by kernel_rfl⟩
theorem te_copy {o : PySem.Expr} {apos pos : Pos} {pl : Sem Bool} (G : Glo X) (he : eval (.Call (.Attribute o (S "copy") apos) [] [] pos) env = (do
      let ov ← eval o env
      standAt apos.atName
      let (f, first) ← holding [ov] (getMethod ov (S "copy") pl)
      callWith pos f first (backTo pos (starEach [] env)) (backToKw pos (keywordEach [] env))))
    (h : TE X n fe env vars o m (fun ov m₁ => ∃ x dx as, ov = .ref x ∧ m₁ x = some (.inst cVector dx as) ∧ (as.map (·.1)).Nodup ∧ "copy" ∉ as.map (·.1) ∧ CallOk X n (.ref 89) [.ref x] m₁ Q Ex) Ex) :
    TE X n fe env vars (.Call (.Attribute o (S "copy") apos) [] [] pos) m Q Ex := fun A s p => by
  rw [he]
  refine wpAny_bind (h.go p (.refl ..) fun ov m₁ ro s₁ r₁ p₁ st₁ hz => ?_)
  obtain ⟨x, dx, as, e, hm, hn, hk, q⟩ := hz
  subst e
  first | obtain rfl := r₁.refE | obtain rfl := r₁.boolE | cases r₁
  have K := G.KK p₁.rel.hr
  have o := p₁.rel.hr.obj x _ hm
  obtain ⟨od, ho, hlk⟩ := ns_absent o.2 hn hk
  have I : InstAt s₁.heap x (instObj cVector dx) cVector (some od) := ⟨o.1, rfl, rfl, ho⟩
  obtain ⟨f1, f2, f3, f4⟩ := cls_facts X.w.params cVector rfl
  obtain ⟨c1, c2, c3⟩ := copy_facts X.w.params
  refine wpAny_bind (wpAny_standAt (wpAny_bind (wpAny_holding (method_fn K I (plainGet_of f1).1 (plainGet_of f1).2 c1 c2 (by show (lookIn (S "copy") od).map _ = _; rw [hlk]; rfl) ?_))))
  refine callWith_K0 K c3 ?_
  exact q.run p₁ (.cons (.ref x) .nil) st₁ fun v rv m' s' r x st q => ⟨v, m', r, x, st, q⟩
end

noncomputable def kinds7 : List String := ["NULL", "logical", "integer", "double", "character", "list", "expression"]
theorem tup_index (a : Addr) (vs : List Value) (n : Nat) (t : Tok) (hv : VRs (kinds7.map .str) vs) : Meets (Builtin.«tuple.index» ⟨[.ref a, .str (S "integer") t], []⟩)
    (fun _ R s => s.heap.get? a = some (tupO vs n) ∧ R (.ok (.ret (.int 2 s.toks))) { s with toks := s.toks + 1 }) := by
  intro prog w A R s h
  obtain ⟨hp, g, d, tk, os⟩ := s
  obtain ⟨hl, h⟩ := h
  obtain ⟨_, _, rfl, r0, hv⟩ := hv.consE
  obtain ⟨_, _, rfl, r1, hv⟩ := hv.consE
  obtain ⟨_, _, rfl, r2, hv⟩ := hv.consE
  obtain ⟨_, _, rfl, r3, hv⟩ := hv.consE
  obtain ⟨_, _, rfl, r4, hv⟩ := hv.consE
  obtain ⟨_, _, rfl, r5, hv⟩ := hv.consE
  obtain ⟨_, _, rfl, r6, hv⟩ := hv.consE
  obtain rfl := hv.nilE
  obtain ⟨_, rfl⟩ := r0.strE; obtain ⟨_, rfl⟩ := r1.strE; obtain ⟨_, rfl⟩ := r2.strE
  clear r3 r4 r5 r6 hv
  unfold Builtin.«tuple.index»
  simp only [Std.Legacy.Range.forIn_eq_forIn_range']
  wp_walk using wpAny_loadPart' hl
  generalize hL : List.range' 0 _ = L
  have hL' : L = [0, 1, 2, 3, 4, 5, 6] := by rw [← hL]; simp [Std.Legacy.Range.size]; decide
  subst hL'
  unfold List.forIn'.loop
  dsimp only
  have e0 : ((S "NULL").cps.toList == (S "integer").cps.toList) = false := by decide +kernel
  have e1 : ((S "logical").cps.toList == (S "integer").cps.toList) = false := by decide +kernel
  have e2 : ((S "integer").cps.toList == (S "integer").cps.toList) = true := by decide +kernel
  refine wpAny_bind (wpAny_bind (SeqRoads2.EqGives.str _ _ _ _ _ _ _ _ _ _ ?_))
  rw [e0]
  refine wpAny_pure ?_
  dsimp only
  unfold List.forIn'.loop
  refine wpAny_bind (wpAny_bind (SeqRoads2.EqGives.str _ _ _ _ _ _ _ _ _ _ ?_))
  rw [e1]
  refine wpAny_pure ?_
  dsimp only
  unfold List.forIn'.loop
  refine wpAny_bind (wpAny_bind (SeqRoads2.EqGives.str _ _ _ _ _ _ _ _ _ _ ?_))
  rw [e2]
  refine wpAny_bind ?_
  wp_walk
  exact h
/-- kinds.index(kind), of the whole numbers -/
theorem te_kindIndex {X : Cx} {n : Nat} {fe env : Env} {vars : Vars} {m : MH} {Q : MV → MH → Prop} {Ex : String → MH → Prop} {o e : PySem.Expr} {apos pos : Pos} (hb : noNullCall o = true) (hl : (apos.endLine == pos.line) = true) (hs : noStar e = true)
    (h : TE X n fe env vars o m (fun ov m₁ => ∃ a, ov = .ref a ∧ m₁ a = some (.tup (kinds7.map .str)) ∧ TE X n fe env vars e m₁ (fun v m₂ => v = .str "integer" ∧ m₂ a = some (.tup (kinds7.map .str)) ∧ Q (.int 2) m₂) Ex) Ex) :
    TE X n fe env vars (.Call (.Attribute o (S "index") apos) [e] [] pos) m Q Ex := fun A s p =>
  wpAny_Call_method1_late (attributeBase_plain hb _ _ _) hl (trees1 hs) (h.go p (.refl ..) fun ov m₁ rv s₁ r₁ p₁ st₁ hz => by
    obtain ⟨a, ha, hx, q⟩ := hz
    subst ha
    first | obtain rfl := r₁.refE | obtain rfl := r₁.boolE | cases r₁
    obtain ⟨vs, k, g, _⟩ := p₁.rel.hr.obj a _ hx
    refine ⟨"tuple", "tuple.index", F.plainAttrs_tuple, F.slot_tuple_index, F.type_tuple_index, ⟨_, g, rfl⟩, fun b hb => ?_, ?_⟩
    · cases hb; exact ⟨_, g, rfl⟩
    · refine seqMethod1_meets F.slot_tuple_index F.entry_tuple_index (q.go p₁ st₁ fun v m₂ rv s₂ r₂ p₂ st₂ hz => ?_)
      obtain ⟨hv, hx, q⟩ := hz
      subst hv
      first | obtain rfl := r₂.refE | obtain rfl := r₂.boolE | cases r₂
      obtain ⟨vs, k, g, hv⟩ := p₂.rel.hr.obj a _ hx
      exact ⟨⟨_, g, rfl⟩, F.args_tuple_index_2 _ _, _, tup_index a vs k _ hv, g, .int 2, m₂, .int _ _, p₂.rel.tok, st₂, q⟩)

local macro_rules | `(tactic| walk_at "nb") => `(tactic| first | exact List.not_mem_nil | simp)
noncomputable def vecAs (k : String) (i a : MV) (sh : Bool) : List (String × MV) := [("kind", .str k), ("items", i), ("attrs", a), ("shared", .bool sh), ("loose", .bool false)]
noncomputable def nullAs : List (String × MV) := [("kind", .str "NULL"), ("attrs", .none)]
noncomputable def VecAt (m : MH) (x : Addr) (k : String) (i a : MV) : Prop := ∃ dx sh, m x = some (.inst cVector dx (vecAs k i a sh))
noncomputable def NullAt (m : MH) (x : Addr) : Prop := ∃ dx, m x = some (.inst cNull dx nullAs)
noncomputable def LeO (o o' : MO) : Prop := o' = o ∨ ∃ dx k i a sh sh', o = .inst cVector dx (vecAs k i a sh) ∧ o' = .inst cVector dx (vecAs k i a sh')
theorem LeO.trans {a b c : MO} (x : LeO a b) (y : LeO b c) : LeO a c := by
  rcases x with rfl | ⟨dx, k, i, at', sh, sh', rfl, rfl⟩
  · exact y
  · rcases y with rfl | ⟨dx', k', i', a', s1, s2, e, rfl⟩
    · exact .inr ⟨dx, k, i, at', sh, sh', rfl, rfl⟩
    · simp only [vecAs, MO.inst.injEq, List.cons.injEq, Prod.mk.injEq, MV.str.injEq, MV.bool.injEq, true_and, and_true] at e
      obtain ⟨rfl, rfl, rfl, rfl, rfl⟩ := e
      exact .inr ⟨_, _, _, _, _, _, rfl, rfl⟩
/-- all but the places of B stand, but for a Vector's mark of sharing -/
noncomputable def Upd (B : List Addr) (m m' : MH) : Prop := ∀ x o, m x = some o → x ∉ B → ∃ o', m' x = some o' ∧ LeO o o'
theorem Upd.refl (B : List Addr) (m : MH) : Upd B m m := fun x o e _ => ⟨o, e, .inl rfl⟩
theorem Upd.trans {B : List Addr} {m m' m'' : MH} (x : Upd B m m') (y : Upd B m' m'') : Upd B m m'' := fun a o e h => by
  obtain ⟨o', e', l⟩ := x a o e h
  obtain ⟨o'', e'', l'⟩ := y a o' e' h
  exact ⟨o'', e'', l.trans l'⟩
theorem Upd.mono {B B' : List Addr} {m m' : MH} (x : Upd B m m') (h : ∀ b ∈ B, b ∈ B') : Upd B' m m' := fun a o e q => x a o e fun z => q (h a z)
theorem Upd.any {B : List Addr} {m m' : MH} (x : Upd [] m m') : Upd B m m' := x.mono fun b h => by cases h
/-- the places that did not stand -/
theorem Upd.shut {B B' : List Addr} {m m' : MH} (x : Upd B m m') (h : ∀ b ∈ B, b ∈ B' ∨ m b = none) : Upd B' m m' := fun a o e q => x a o e fun z => by
  rcases h a z with h | h
  · exact q h
  · rw [h] at e; cases e
theorem Upd.shut1 {b : Addr} {m m' : MH} (x : Upd [b] m m') (h : m b = none) : Upd [] m m' := x.shut fun c hc => .inr (by rw [List.mem_singleton.mp hc]; exact h)
theorem Upd.set {m : MH} {a : Addr} {o : MO} : Upd [a] m (m.set a o) := fun x o' e h => ⟨o', by rw [MH.set_other _ _ (by simpa using h)]; exact e, .inl rfl⟩
theorem Upd.new {m : MH} {a : Addr} {o : MO} (h : m a = none) : Upd [] m (m.set a o) := Upd.set.shut1 h
theorem Upd.share {m : MH} {a dx : Addr} {k : String} {i at' : MV} {sh sh' : Bool} (h : m a = some (.inst cVector dx (vecAs k i at' sh))) : Upd [] m (m.set a (.inst cVector dx (vecAs k i at' sh'))) := fun x o e _ => by
  by_cases q : x = a
  · subst q; rw [h] at e; cases e; exact ⟨_, MH.set_same _ _ _, .inr ⟨_, _, _, _, _, _, rfl, rfl⟩⟩
  · exact ⟨o, by rw [MH.set_other _ _ q]; exact e, .inl rfl⟩
section
variable {B : List Addr} {m m' : MH}
theorem Upd.vec {x : Addr} {k : String} {i a : MV} (u : Upd B m m') (h : VecAt m x k i a) (hB : x ∉ B := by walk_at "nb") : VecAt m' x k i a := by
  obtain ⟨dx, sh, e⟩ := h
  obtain ⟨o', e', l⟩ := u x _ e hB
  rcases l with rfl | ⟨dx', k', i', a', s1, s2, q, rfl⟩
  · exact ⟨dx, sh, e'⟩
  · simp only [vecAs, MO.inst.injEq, List.cons.injEq, Prod.mk.injEq, MV.str.injEq, MV.bool.injEq, true_and, and_true] at q
    obtain ⟨rfl, rfl, rfl, rfl, rfl⟩ := q
    exact ⟨_, _, e'⟩
theorem Upd.eq {x : Addr} {o : MO} (u : Upd B m m') (h : m x = some o) (hn : ∀ c dx as, o ≠ .inst c dx as) (hB : x ∉ B := by walk_at "nb") : m' x = some o := by
  obtain ⟨o', e', l⟩ := u x _ h hB
  rcases l with rfl | ⟨dx', k', i', a', s1, s2, q, rfl⟩
  · exact e'
  · exact absurd q (hn _ _ _)
theorem Upd.list {x : Addr} {xs : List MV} (u : Upd B m m') (h : m x = some (.list xs)) (hB : x ∉ B := by walk_at "nb") : m' x = some (.list xs) := u.eq h (fun _ _ _ z => by cases z) hB
theorem Upd.tup {x : Addr} {xs : List MV} (u : Upd B m m') (h : m x = some (.tup xs)) (hB : x ∉ B := by walk_at "nb") : m' x = some (.tup xs) := u.eq h (fun _ _ _ z => by cases z) hB
theorem Upd.sd {x : Addr} {xs : List (String × MV)} (u : Upd B m m') (h : m x = some (.sd xs)) (hB : x ∉ B := by walk_at "nb") : m' x = some (.sd xs) := u.eq h (fun _ _ _ z => by cases z) hB
theorem Upd.idd {x : Addr} {xs : List (Int × MV)} (u : Upd B m m') (h : m x = some (.idd xs)) (hB : x ∉ B := by walk_at "nb") : m' x = some (.idd xs) := u.eq h (fun _ _ _ z => by cases z) hB
theorem Upd.ro {x : Addr} {xs : List MV} (u : Upd B m m') (h : m x = some (.ro xs)) (hB : x ∉ B := by walk_at "nb") : m' x = some (.ro xs) := u.eq h (fun _ _ _ z => by cases z) hB
theorem Upd.raw {x : Addr} {o : Obj} (u : Upd B m m') (h : m x = some (.raw o)) (hB : x ∉ B := by walk_at "nb") : m' x = some (.raw o) := u.eq h (fun _ _ _ z => by cases z) hB
theorem Upd.null {x : Addr} (u : Upd B m m') (h : NullAt m x) (hB : x ∉ B := by walk_at "nb") : NullAt m' x := by
  obtain ⟨dx, e⟩ := h
  obtain ⟨o', e', l⟩ := u x _ e hB
  rcases l with rfl | ⟨dx', k', i', a', s1, s2, q, rfl⟩
  · exact ⟨dx, e'⟩
  · simp [vecAs, nullAs] at q
theorem Upd.none' {x : Addr} (u : Upd B m m') (h : m' x = none) (hB : x ∉ B := by walk_at "nb") : m x = none := by
  cases e : m x with
  | none => rfl
  | some o => obtain ⟨o', e', _⟩ := u x o e hB; rw [h] at e'; cases e'
theorem Upd.some' {x : Addr} (u : Upd B m m') (h : m x ≠ none) (hB : x ∉ B := by walk_at "nb") : m' x ≠ none := fun z => h (u.none' z hB)
end

/-! ## the datum -/
inductive T where
  | null
  | ints (xs : List (Option Int)) (nm : Option (List String))
  | list (ts : List T) (nm : Option (List String))
noncomputable def oint : Option Int → MV
  | none => .none
  | some i => .int i
inductive NmP (F : Addr → Prop) (m : MH) (a : MV) (ss : List String) : Prop
  | mk (d v l : Addr) (e : a = .ref d) (fd : F d) (hd : m d = some (.sd [("names", .ref v)])) (fv : F v) (hv : VecAt m v "character" (.ref l) .none) (fl : F l) (hl : m l = some (.list (ss.map .str)))
noncomputable def NmAt (F : Addr → Prop) (m : MH) (a : MV) : Option (List String) → Prop
  | none => a = .none
  | some ss => NmP F m a ss
noncomputable def NmLen (nm : Option (List String)) (n : Nat) : Prop := ∀ ss, nm = some ss → ss.length = n
inductive IntsP (F : Addr → Prop) (K : Nat) (m : MH) (xs : List (Option Int)) (nm : Option (List String)) (v : MV) : Prop
  | mk (x l : Addr) (a : MV) (e : v = .ref x) (fx : F x) (hv : VecAt m x "integer" (.ref l) a) (fl : F l) (hl : m l = some (.list (xs.map oint))) (hn : NmAt F m a nm) (h : NmLen nm xs.length ∧ xs.length ≤ K)
inductive ListP (F : Addr → Prop) (K : Nat) (m : MH) (R : T → MV → Prop) (ts : List T) (nm : Option (List String)) (v : MV) : Prop
  | mk (x l : Addr) (a : MV) (vs : List MV) (e : v = .ref x) (fx : F x) (hv : VecAt m x "list" (.ref l) a) (fl : F l) (hl : m l = some (.list vs)) (hvs : All2 R ts vs) (hn : NmAt F m a nm) (h : NmLen nm ts.length ∧ ts.length ≤ K)
noncomputable def IsT (F : Addr → Prop) (K : Nat) (m : MH) : Nat → T → MV → Prop
  | _, .null, v => ∃ x, v = .ref x ∧ F x ∧ NullAt m x
  | _, .ints xs nm, v => IntsP F K m xs nm v
  | 0, .list _ _, _ => False
  | d + 1, .list ts nm, v => ListP F K m (IsT F K m d) ts nm v
theorem All2.imp {α β : Type} {R R' : α → β → Prop} (k : ∀ a b, R a b → R' a b) {as : List α} {bs : List β} (h : All2 R as bs) : All2 R' as bs := by
  induction h with
  | nil => exact .nil
  | cons r _ ih => exact .cons (k _ _ r) ih
theorem isT_ints {F : Addr → Prop} {K d : Nat} {m : MH} {xs : List (Option Int)} {nm : Option (List String)} {v : MV} : IsT F K m d (.ints xs nm) v ↔ IntsP F K m xs nm v := by cases d <;> exact Iff.rfl
theorem isT_null {F : Addr → Prop} {K d : Nat} {m : MH} {v : MV} : IsT F K m d .null v ↔ ∃ x, v = .ref x ∧ F x ∧ NullAt m x := by cases d <;> exact Iff.rfl
theorem NmAt.upd {F : Addr → Prop} {B : List Addr} {m m' : MH} {a : MV} {nm : Option (List String)} (u : Upd B m m') (hF : ∀ b, F b → b ∉ B) (h : NmAt F m a nm) : NmAt F m' a nm := by
  cases nm with
  | none => exact h
  | some ss =>
    obtain ⟨d, v, l, e, fd, hd, fv, hv, fl, hl⟩ := h
    exact ⟨d, v, l, e, fd, u.sd hd (hF d fd), fv, u.vec hv (hF v fv), fl, u.list hl (hF l fl)⟩
theorem IsT.upd {F : Addr → Prop} {K : Nat} {B : List Addr} {m m' : MH} (u : Upd B m m') (hF : ∀ b, F b → b ∉ B) {d : Nat} {t : T} {v : MV} (h : IsT F K m d t v) : IsT F K m' d t v := by
  induction d generalizing t v with
  | zero =>
    cases t with
    | null => obtain ⟨x, e, fx, h⟩ := h; exact ⟨x, e, fx, u.null h (hF x fx)⟩
    | «ints» xs nm => obtain ⟨x, l, a, e, fx, h1, fl, h2, h3, h4⟩ := h; exact ⟨x, l, a, e, fx, u.vec h1 (hF x fx), fl, u.list h2 (hF l fl), h3.upd u hF, h4⟩
    | list ts nm => exact h.elim
  | succ d ih =>
    cases t with
    | null => obtain ⟨x, e, fx, h⟩ := h; exact ⟨x, e, fx, u.null h (hF x fx)⟩
    | «ints» xs nm => obtain ⟨x, l, a, e, fx, h1, fl, h2, h3, h4⟩ := h; exact ⟨x, l, a, e, fx, u.vec h1 (hF x fx), fl, u.list h2 (hF l fl), h3.upd u hF, h4⟩
    | list ts nm => obtain ⟨x, l, a, vs, e, fx, h1, fl, h2, h3, h4, h5⟩ := h; exact ⟨x, l, a, vs, e, fx, u.vec h1 (hF x fx), fl, u.list h2 (hF l fl), h3.imp fun _ _ => ih, h4.upd u hF, h5⟩
noncomputable abbrev FT : Addr → Prop := fun _ => True
theorem NmAt.weak {F F' : Addr → Prop} {m : MH} {a : MV} {nm : Option (List String)} (hF : ∀ b, F b → F' b) (h : NmAt F m a nm) : NmAt F' m a nm := by
  cases nm with
  | none => exact h
  | some ss =>
    obtain ⟨d, v, l, e, fd, hd, fv, hv, fl, hl⟩ := h
    exact ⟨d, v, l, e, hF _ fd, hd, hF _ fv, hv, hF _ fl, hl⟩
theorem IsT.weak {F F' : Addr → Prop} {K K' : Nat} {m : MH} (hF : ∀ b, F b → F' b) (hK : K ≤ K') {d d' : Nat} {t : T} {v : MV} (hd : d ≤ d') (h : IsT F K m d t v) : IsT F' K' m d' t v := by
  induction d generalizing d' t v with
  | zero =>
    cases t with
    | null => obtain ⟨x, e, fx, h⟩ := h; exact isT_null.mpr ⟨x, e, hF _ fx, h⟩
    | «ints» xs nm => obtain ⟨x, l, a, e, fx, h1, fl, h2, h3, h4, h5⟩ := h; exact isT_ints.mpr ⟨x, l, a, e, hF _ fx, h1, hF _ fl, h2, h3.weak hF, h4, Nat.le_trans h5 hK⟩
    | list ts nm => exact h.elim
  | succ d ih =>
    cases t with
    | null => obtain ⟨x, e, fx, h⟩ := h; exact isT_null.mpr ⟨x, e, hF _ fx, h⟩
    | «ints» xs nm => obtain ⟨x, l, a, e, fx, h1, fl, h2, h3, h4, h5⟩ := h; exact isT_ints.mpr ⟨x, l, a, e, hF _ fx, h1, hF _ fl, h2, h3.weak hF, h4, Nat.le_trans h5 hK⟩
    | list ts nm =>
      cases d' with
      | zero => cases hd
      | succ d' => obtain ⟨x, l, a, vs, e, fx, h1, fl, h2, h3, h4, h5, h6⟩ := h; exact ⟨x, l, a, vs, e, hF _ fx, h1, hF _ fl, h2, h3.imp fun _ _ => ih (Nat.le_of_succ_le_succ hd), h4.weak hF, h5, Nat.le_trans h6 hK⟩

theorem vals1 {vals : List Value} {d e : Nat} (h : vals.length + d = 1 + e) (hd : d = e) : ∃ a, vals = [a] := by
  subst hd
  have h := Nat.add_right_cancel h
  exact List.length_eq_one_iff.mp h
theorem vals2 {vals : List Value} {d e : Nat} (h : vals.length + d = 2 + e) (hd : d = e) : ∃ a b, vals = [a, b] := by
  subst hd
  have h := Nat.add_right_cancel h
  cases vals with
  | nil => cases h
  | cons a r => obtain ⟨b, rfl⟩ := vals1 (d := 0) (e := 0) (Nat.succ.inj h) rfl; exact ⟨a, b, rfl⟩
theorem vals3 {vals : List Value} {d e : Nat} (h : vals.length + d = 3 + e) (hd : d = e) : ∃ a b c, vals = [a, b, c] := by
  subst hd
  have h := Nat.add_right_cancel h
  cases vals with
  | nil => cases h
  | cons a r => obtain ⟨b, c, rfl⟩ := vals2 (d := 0) (e := 0) (Nat.succ.inj h) rfl; exact ⟨a, b, c, rfl⟩
theorem vals4 {vals : List Value} {d e : Nat} (h : vals.length + d = 4 + e) (hd : d = e) : ∃ a b c d, vals = [a, b, c, d] := by
  subst hd
  have h := Nat.add_right_cancel h
  cases vals with
  | nil => cases h
  | cons a r => obtain ⟨b, c, d, rfl⟩ := vals3 (d := 0) (e := 0) (Nat.succ.inj h) rfl; exact ⟨a, b, c, d, rfl⟩
theorem vals5 {vals : List Value} {d e : Nat} (h : vals.length + d = 5 + e) (hd : d = e) : ∃ a b c d e, vals = [a, b, c, d, e] := by
  subst hd
  have h := Nat.add_right_cancel h
  cases vals with
  | nil => cases h
  | cons a r => obtain ⟨b, c, d, e, rfl⟩ := vals4 (d := 0) (e := 0) (Nat.succ.inj h) rfl; exact ⟨a, b, c, d, e, rfl⟩
noncomputable abbrev v_room : Addr := 125
noncomputable abbrev e_room (L : Addr) : Env := fnEnv (fScope (st 8)) (S "room") 125 (.ref 124) L
theorem f_room (P : Params) : Fn P 125 (fScope (st 8)) (S "room") (.ref 124) ["n"] [] (fBody (st 8)) where
  obj := ⟨o125 P, _, by kernel_rfl, rfl, rfl, rfl, rfl, rfl, rfl, rfl, rfl, [], .nil, fun M h vals K hl => by
    obtain ⟨a, rfl⟩ := vals1 hl rfl
    exact Looks.of_peek K (by kernel_rfl)⟩
  code := ⟨124, o124 P, _, 346, rfl, by kernel_rfl, rfl, by kernel_rfl⟩
  flags := by kernel_rfl
  kinds := kinds_of (by kernel_rfl)
  nodup := by decide +kernel
noncomputable abbrev v_character : Addr := 132
noncomputable abbrev e_character (L : Addr) : Env := fnEnv (fScope (st 9)) (S "character") 132 (.ref 131) L
theorem f_character (P : Params) : Fn P 132 (fScope (st 9)) (S "character") (.ref 131) ["items"] [] (fBody (st 9)) where
  obj := ⟨o132 P, _, by kernel_rfl, rfl, rfl, rfl, rfl, rfl, rfl, rfl, rfl, [], .nil, fun M h vals K hl => by
    obtain ⟨a, rfl⟩ := vals1 hl rfl
    exact Looks.of_peek K (by kernel_rfl)⟩
  code := ⟨131, o131 P, _, 353, rfl, by kernel_rfl, rfl, by kernel_rfl⟩
  flags := by kernel_rfl
  kinds := kinds_of (by kernel_rfl)
  nodup := by decide +kernel
noncomputable abbrev v_length : Addr := 139
noncomputable abbrev e_length (L : Addr) : Env := fnEnv (fScope (st 10)) (S "length") 139 (.ref 138) L
theorem f_length (P : Params) : Fn P 139 (fScope (st 10)) (S "length") (.ref 138) ["v"] [] (fBody (st 10)) where
  obj := ⟨o139 P, _, by kernel_rfl, rfl, rfl, rfl, rfl, rfl, rfl, rfl, rfl, [], .nil, fun M h vals K hl => by
    obtain ⟨a, rfl⟩ := vals1 hl rfl
    exact Looks.of_peek K (by kernel_rfl)⟩
  code := ⟨138, o138 P, _, 360, rfl, by kernel_rfl, rfl, by kernel_rfl⟩
  flags := by kernel_rfl
  kinds := kinds_of (by kernel_rfl)
  nodup := by decide +kernel
noncomputable abbrev v_is_vector : Addr := 146
noncomputable abbrev e_is_vector (L : Addr) : Env := fnEnv (fScope (st 11)) (S "is_vector") 146 (.ref 145) L
theorem f_is_vector (P : Params) : Fn P 146 (fScope (st 11)) (S "is_vector") (.ref 145) ["v"] [] (fBody (st 11)) where
  obj := ⟨o146 P, _, by kernel_rfl, rfl, rfl, rfl, rfl, rfl, rfl, rfl, rfl, [], .nil, fun M h vals K hl => by
    obtain ⟨a, rfl⟩ := vals1 hl rfl
    exact Looks.of_peek K (by kernel_rfl)⟩
  code := ⟨145, o145 P, _, 368, rfl, by kernel_rfl, rfl, by kernel_rfl⟩
  flags := by kernel_rfl
  kinds := kinds_of (by kernel_rfl)
  nodup := by decide +kernel
noncomputable abbrev v_is_atomic : Addr := 153
noncomputable abbrev e_is_atomic (L : Addr) : Env := fnEnv (fScope (st 12)) (S "is_atomic") 153 (.ref 152) L
theorem f_is_atomic (P : Params) : Fn P 153 (fScope (st 12)) (S "is_atomic") (.ref 152) ["v"] [] (fBody (st 12)) where
  obj := ⟨o153 P, _, by kernel_rfl, rfl, rfl, rfl, rfl, rfl, rfl, rfl, rfl, [], .nil, fun M h vals K hl => by
    obtain ⟨a, rfl⟩ := vals1 hl rfl
    exact Looks.of_peek K (by kernel_rfl)⟩
  code := ⟨152, o152 P, _, 375, rfl, by kernel_rfl, rfl, by kernel_rfl⟩
  flags := by kernel_rfl
  kinds := kinds_of (by kernel_rfl)
  nodup := by decide +kernel
noncomputable abbrev v_own : Addr := 160
noncomputable abbrev e_own (L : Addr) : Env := fnEnv (fScope (st 13)) (S "own") 160 (.ref 159) L
theorem f_own (P : Params) : Fn P 160 (fScope (st 13)) (S "own") (.ref 159) ["v"] [] (fBody (st 13)) where
  obj := ⟨o160 P, _, by kernel_rfl, rfl, rfl, rfl, rfl, rfl, rfl, rfl, rfl, [], .nil, fun M h vals K hl => by
    obtain ⟨a, rfl⟩ := vals1 hl rfl
    exact Looks.of_peek K (by kernel_rfl)⟩
  code := ⟨159, o159 P, _, 382, rfl, by kernel_rfl, rfl, by kernel_rfl⟩
  flags := by kernel_rfl
  kinds := kinds_of (by kernel_rfl)
  nodup := by decide +kernel
noncomputable abbrev v_share : Addr := 167
noncomputable abbrev e_share (L : Addr) : Env := fnEnv (fScope (st 14)) (S "share") 167 (.ref 166) L
theorem f_share (P : Params) : Fn P 167 (fScope (st 14)) (S "share") (.ref 166) ["v"] [] (fBody (st 14)) where
  obj := ⟨o167 P, _, by kernel_rfl, rfl, rfl, rfl, rfl, rfl, rfl, rfl, rfl, [], .nil, fun M h vals K hl => by
    obtain ⟨a, rfl⟩ := vals1 hl rfl
    exact Looks.of_peek K (by kernel_rfl)⟩
  code := ⟨166, o166 P, _, 389, rfl, by kernel_rfl, rfl, by kernel_rfl⟩
  flags := by kernel_rfl
  kinds := kinds_of (by kernel_rfl)
  nodup := by decide +kernel
noncomputable abbrev v_get_attr : Addr := 174
noncomputable abbrev e_get_attr (L : Addr) : Env := fnEnv (fScope (st 16)) (S "get_attr") 174 (.ref 173) L
theorem f_get_attr (P : Params) : Fn P 174 (fScope (st 16)) (S "get_attr") (.ref 173) ["v", "name"] [] (fBody (st 16)) where
  obj := ⟨o174 P, _, by kernel_rfl, rfl, rfl, rfl, rfl, rfl, rfl, rfl, rfl, [], .nil, fun M h vals K hl => by
    obtain ⟨a, b, rfl⟩ := vals2 hl rfl
    exact Looks.of_peek K (by kernel_rfl)⟩
  code := ⟨173, o173 P, _, 398, rfl, by kernel_rfl, rfl, by kernel_rfl⟩
  flags := by kernel_rfl
  kinds := kinds_of (by kernel_rfl)
  nodup := by decide +kernel
noncomputable abbrev v_drop_attr : Addr := 181
noncomputable abbrev e_drop_attr (L : Addr) : Env := fnEnv (fScope (st 17)) (S "drop_attr") 181 (.ref 180) L
theorem f_drop_attr (P : Params) : Fn P 181 (fScope (st 17)) (S "drop_attr") (.ref 180) ["v", "name"] [] (fBody (st 17)) where
  obj := ⟨o181 P, _, by kernel_rfl, rfl, rfl, rfl, rfl, rfl, rfl, rfl, rfl, [], .nil, fun M h vals K hl => by
    obtain ⟨a, b, rfl⟩ := vals2 hl rfl
    exact Looks.of_peek K (by kernel_rfl)⟩
  code := ⟨180, o180 P, _, 406, rfl, by kernel_rfl, rfl, by kernel_rfl⟩
  flags := by kernel_rfl
  kinds := kinds_of (by kernel_rfl)
  nodup := by decide +kernel
noncomputable abbrev v_put_attr : Addr := 188
noncomputable abbrev e_put_attr (L : Addr) : Env := fnEnv (fScope (st 18)) (S "put_attr") 188 (.ref 187) L
theorem f_put_attr (P : Params) : Fn P 188 (fScope (st 18)) (S "put_attr") (.ref 187) ["v", "name", "value"] [] (fBody (st 18)) where
  obj := ⟨o188 P, _, by kernel_rfl, rfl, rfl, rfl, rfl, rfl, rfl, rfl, rfl, [], .nil, fun M h vals K hl => by
    obtain ⟨a, b, c, rfl⟩ := vals3 hl rfl
    exact Looks.of_peek K (by kernel_rfl)⟩
  code := ⟨187, o187 P, _, 414, rfl, by kernel_rfl, rfl, by kernel_rfl⟩
  flags := by kernel_rfl
  kinds := kinds_of (by kernel_rfl)
  nodup := by decide +kernel
noncomputable abbrev v_names_of : Addr := 193
noncomputable abbrev e_names_of (L : Addr) : Env := fnEnv (fScope (st 19)) (S "names_of") 193 (.ref 192) L
theorem f_names_of (P : Params) : Fn P 193 (fScope (st 19)) (S "names_of") (.ref 192) ["v"] [] (fBody (st 19)) where
  obj := ⟨o193 P, _, by kernel_rfl, rfl, rfl, rfl, rfl, rfl, rfl, rfl, rfl, [], .nil, fun M h vals K hl => by
    obtain ⟨a, rfl⟩ := vals1 hl rfl
    exact Looks.of_peek K (by kernel_rfl)⟩
  code := ⟨192, o192 P, _, 423, rfl, by kernel_rfl, rfl, by kernel_rfl⟩
  flags := by kernel_rfl
  kinds := kinds_of (by kernel_rfl)
  nodup := by decide +kernel
noncomputable abbrev v_dim_of : Addr := 200
noncomputable abbrev e_dim_of (L : Addr) : Env := fnEnv (fScope (st 20)) (S "dim_of") 200 (.ref 199) L
theorem f_dim_of (P : Params) : Fn P 200 (fScope (st 20)) (S "dim_of") (.ref 199) ["v"] [] (fBody (st 20)) where
  obj := ⟨o200 P, _, by kernel_rfl, rfl, rfl, rfl, rfl, rfl, rfl, rfl, rfl, [], .nil, fun M h vals K hl => by
    obtain ⟨a, rfl⟩ := vals1 hl rfl
    exact Looks.of_peek K (by kernel_rfl)⟩
  code := ⟨199, o199 P, _, 429, rfl, by kernel_rfl, rfl, by kernel_rfl⟩
  flags := by kernel_rfl
  kinds := kinds_of (by kernel_rfl)
  nodup := by decide +kernel
noncomputable abbrev v_kind_order : Addr := 403
noncomputable abbrev e_kind_order (L : Addr) : Env := fnEnv (fScope (st 57)) (S "kind_order") 403 (.ref 402) L
theorem f_kind_order (P : Params) : Fn P 403 (fScope (st 57)) (S "kind_order") (.ref 402) ["kind"] [] (fBody (st 57)) where
  obj := ⟨o403 P, _, by kernel_rfl, rfl, rfl, rfl, rfl, rfl, rfl, rfl, rfl, [], .nil, fun M h vals K hl => by
    obtain ⟨a, rfl⟩ := vals1 hl rfl
    exact Looks.of_peek K (by kernel_rfl)⟩
  code := ⟨402, o402 P, _, 724, rfl, by kernel_rfl, rfl, by kernel_rfl⟩
  flags := by kernel_rfl
  kinds := kinds_of (by kernel_rfl)
  nodup := by decide +kernel
noncomputable abbrev v_common_kind : Addr := 410
noncomputable abbrev e_common_kind (L : Addr) : Env := fnEnv (fScope (st 58)) (S "common_kind") 410 (.ref 409) L
theorem f_common_kind (P : Params) : Fn P 410 (fScope (st 58)) (S "common_kind") (.ref 409) ["kinds"] [] (fBody (st 58)) where
  obj := ⟨o410 P, _, by kernel_rfl, rfl, rfl, rfl, rfl, rfl, rfl, rfl, rfl, [], .nil, fun M h vals K hl => by
    obtain ⟨a, rfl⟩ := vals1 hl rfl
    exact Looks.of_peek K (by kernel_rfl)⟩
  code := ⟨409, o409 P, _, 732, rfl, by kernel_rfl, rfl, by kernel_rfl⟩
  flags := by kernel_rfl
  kinds := kinds_of (by kernel_rfl)
  nodup := by decide +kernel
noncomputable abbrev v_item_as : Addr := 473
noncomputable abbrev e_item_as (L : Addr) : Env := fnEnv (fScope (st 67)) (S "item_as") 473 (.ref 472) L
theorem f_item_as (P : Params) : Fn P 473 (fScope (st 67)) (S "item_as") (.ref 472) ["kind", "item", "to", "notes"] [] (fBody (st 67)) where
  obj := ⟨o473 P, _, by kernel_rfl, rfl, rfl, rfl, rfl, rfl, rfl, rfl, rfl, [], .nil, fun M h vals K hl => by
    obtain ⟨a, b, c, d, rfl⟩ := vals4 hl rfl
    exact Looks.of_peek K (by kernel_rfl)⟩
  code := ⟨472, o472 P, _, 810, rfl, by kernel_rfl, rfl, by kernel_rfl⟩
  flags := by kernel_rfl
  kinds := kinds_of (by kernel_rfl)
  nodup := by decide +kernel
noncomputable abbrev v_is_atomic_kind : Addr := 480
noncomputable abbrev e_is_atomic_kind (L : Addr) : Env := fnEnv (fScope (st 68)) (S "is_atomic_kind") 480 (.ref 479) L
theorem f_is_atomic_kind (P : Params) : Fn P 480 (fScope (st 68)) (S "is_atomic_kind") (.ref 479) ["kind"] [] (fBody (st 68)) where
  obj := ⟨o480 P, _, by kernel_rfl, rfl, rfl, rfl, rfl, rfl, rfl, rfl, rfl, [], .nil, fun M h vals K hl => by
    obtain ⟨a, rfl⟩ := vals1 hl rfl
    exact Looks.of_peek K (by kernel_rfl)⟩
  code := ⟨479, o479 P, _, 820, rfl, by kernel_rfl, rfl, by kernel_rfl⟩
  flags := by kernel_rfl
  kinds := kinds_of (by kernel_rfl)
  nodup := by decide +kernel
noncomputable abbrev v_with_names : Addr := 506
noncomputable abbrev e_with_names (L : Addr) : Env := fnEnv (fScope (st 72)) (S "with_names") 506 (.ref 505) L
theorem f_with_names (P : Params) : Fn P 506 (fScope (st 72)) (S "with_names") (.ref 505) ["v", "names"] [] (fBody (st 72)) where
  obj := ⟨o506 P, _, by kernel_rfl, rfl, rfl, rfl, rfl, rfl, rfl, rfl, rfl, [], .nil, fun M h vals K hl => by
    obtain ⟨a, b, rfl⟩ := vals2 hl rfl
    exact Looks.of_peek K (by kernel_rfl)⟩
  code := ⟨505, o505 P, _, 851, rfl, by kernel_rfl, rfl, by kernel_rfl⟩
  flags := by kernel_rfl
  kinds := kinds_of (by kernel_rfl)
  nodup := by decide +kernel
noncomputable abbrev v_as_kind : Addr := 511
noncomputable abbrev e_as_kind (L : Addr) : Env := fnEnv (fScope (st 73)) (S "as_kind") 511 (.ref 510) L
theorem f_as_kind (P : Params) : Fn P 511 (fScope (st 73)) (S "as_kind") (.ref 510) ["v", "kind", "notes"] [] (fBody (st 73)) where
  obj := ⟨o511 P, _, by kernel_rfl, rfl, rfl, rfl, rfl, rfl, rfl, rfl, rfl, [], .nil, fun M h vals K hl => by
    obtain ⟨a, b, c, rfl⟩ := vals3 hl rfl
    exact Looks.of_peek K (by kernel_rfl)⟩
  code := ⟨510, o510 P, _, 859, rfl, by kernel_rfl, rfl, by kernel_rfl⟩
  flags := by kernel_rfl
  kinds := kinds_of (by kernel_rfl)
  nodup := by decide +kernel
noncomputable abbrev v_as_list : Addr := 518
noncomputable abbrev e_as_list (L : Addr) : Env := fnEnv (fScope (st 74)) (S "as_list") 518 (.ref 517) L
theorem f_as_list (P : Params) : Fn P 518 (fScope (st 74)) (S "as_list") (.ref 517) ["v"] [] (fBody (st 74)) where
  obj := ⟨o518 P, _, by kernel_rfl, rfl, rfl, rfl, rfl, rfl, rfl, rfl, rfl, [], .nil, fun M h vals K hl => by
    obtain ⟨a, rfl⟩ := vals1 hl rfl
    exact Looks.of_peek K (by kernel_rfl)⟩
  code := ⟨517, o517 P, _, 865, rfl, by kernel_rfl, rfl, by kernel_rfl⟩
  flags := by kernel_rfl
  kinds := kinds_of (by kernel_rfl)
  nodup := by decide +kernel
noncomputable abbrev v_whole_subscripts : Addr := 525
noncomputable abbrev e_whole_subscripts (L : Addr) : Env := fnEnv (fScope (st 76)) (S "whole_subscripts") 525 (.ref 524) L
theorem f_whole_subscripts (P : Params) : Fn P 525 (fScope (st 76)) (S "whole_subscripts") (.ref 524) ["ix"] [] (fBody (st 76)) where
  obj := ⟨o525 P, _, by kernel_rfl, rfl, rfl, rfl, rfl, rfl, rfl, rfl, rfl, [], .nil, fun M h vals K hl => by
    obtain ⟨a, rfl⟩ := vals1 hl rfl
    exact Looks.of_peek K (by kernel_rfl)⟩
  code := ⟨524, o524 P, _, 874, rfl, by kernel_rfl, rfl, by kernel_rfl⟩
  flags := by kernel_rfl
  kinds := kinds_of (by kernel_rfl)
  nodup := by decide +kernel
noncomputable abbrev v_first_places : Addr := 532
noncomputable abbrev e_first_places (L : Addr) : Env := fnEnv (fScope (st 77)) (S "first_places") 532 (.ref 531) L
theorem f_first_places (P : Params) : Fn P 532 (fScope (st 77)) (S "first_places") (.ref 531) ["names"] [] (fBody (st 77)) where
  obj := ⟨o532 P, _, by kernel_rfl, rfl, rfl, rfl, rfl, rfl, rfl, rfl, rfl, [], .nil, fun M h vals K hl => by
    obtain ⟨a, rfl⟩ := vals1 hl rfl
    exact Looks.of_peek K (by kernel_rfl)⟩
  code := ⟨531, o531 P, _, 883, rfl, by kernel_rfl, rfl, by kernel_rfl⟩
  flags := by kernel_rfl
  kinds := kinds_of (by kernel_rfl)
  nodup := by decide +kernel
noncomputable abbrev v_one_name : Addr := 546
noncomputable abbrev e_one_name (L : Addr) : Env := fnEnv (fScope (st 79)) (S "one_name") 546 (.ref 545) L
theorem f_one_name (P : Params) : Fn P 546 (fScope (st 79)) (S "one_name") (.ref 545) ["item", "names", "exact"] [] (fBody (st 79)) where
  obj := ⟨o546 P, _, by kernel_rfl, rfl, rfl, rfl, rfl, rfl, rfl, rfl, rfl, [], .nil, fun M h vals K hl => by
    obtain ⟨a, b, c, rfl⟩ := vals3 hl rfl
    exact Looks.of_peek K (by kernel_rfl)⟩
  code := ⟨545, o545 P, _, 904, rfl, by kernel_rfl, rfl, by kernel_rfl⟩
  flags := by kernel_rfl
  kinds := kinds_of (by kernel_rfl)
  nodup := by decide +kernel
noncomputable abbrev v_one_whole : Addr := 553
noncomputable abbrev e_one_whole (L : Addr) : Env := fnEnv (fScope (st 80)) (S "one_whole") 553 (.ref 552) L
theorem f_one_whole (P : Params) : Fn P 553 (fScope (st 80)) (S "one_whole") (.ref 552) ["item", "n"] [] (fBody (st 80)) where
  obj := ⟨o553 P, _, by kernel_rfl, rfl, rfl, rfl, rfl, rfl, rfl, rfl, rfl, [], .nil, fun M h vals K hl => by
    obtain ⟨a, b, rfl⟩ := vals2 hl rfl
    exact Looks.of_peek K (by kernel_rfl)⟩
  code := ⟨552, o552 P, _, 913, rfl, by kernel_rfl, rfl, by kernel_rfl⟩
  flags := by kernel_rfl
  kinds := kinds_of (by kernel_rfl)
  nodup := by decide +kernel
noncomputable abbrev v_one_place : Addr := 560
noncomputable abbrev e_one_place (L : Addr) : Env := fnEnv (fScope (st 81)) (S "one_place") 560 (.ref 559) L
theorem f_one_place (P : Params) : Fn P 560 (fScope (st 81)) (S "one_place") (.ref 559) ["ix", "n", "names", "exact"] [] (fBody (st 81)) where
  obj := ⟨o560 P, _, by kernel_rfl, rfl, rfl, rfl, rfl, rfl, rfl, rfl, rfl, [], .nil, fun M h vals K hl => by
    obtain ⟨a, b, c, d, rfl⟩ := vals4 hl rfl
    exact Looks.of_peek K (by kernel_rfl)⟩
  code := ⟨559, o559 P, _, 921, rfl, by kernel_rfl, rfl, by kernel_rfl⟩
  flags := by kernel_rfl
  kinds := kinds_of (by kernel_rfl)
  nodup := by decide +kernel
noncomputable abbrev v_lacking_item : Addr := 574
noncomputable abbrev e_lacking_item (L : Addr) : Env := fnEnv (fScope (st 84)) (S "lacking_item") 574 (.ref 573) L
theorem f_lacking_item (P : Params) : Fn P 574 (fScope (st 84)) (S "lacking_item") (.ref 573) ["kind"] [] (fBody (st 84)) where
  obj := ⟨o574 P, _, by kernel_rfl, rfl, rfl, rfl, rfl, rfl, rfl, rfl, rfl, [], .nil, fun M h vals K hl => by
    obtain ⟨a, rfl⟩ := vals1 hl rfl
    exact Looks.of_peek K (by kernel_rfl)⟩
  code := ⟨573, o573 P, _, 944, rfl, by kernel_rfl, rfl, by kernel_rfl⟩
  flags := by kernel_rfl
  kinds := kinds_of (by kernel_rfl)
  nodup := by decide +kernel
noncomputable abbrev v_is_list_kind : Addr := 581
noncomputable abbrev e_is_list_kind (L : Addr) : Env := fnEnv (fScope (st 85)) (S "is_list_kind") 581 (.ref 580) L
theorem f_is_list_kind (P : Params) : Fn P 581 (fScope (st 85)) (S "is_list_kind") (.ref 580) ["kind"] [] (fBody (st 85)) where
  obj := ⟨o581 P, _, by kernel_rfl, rfl, rfl, rfl, rfl, rfl, rfl, rfl, rfl, [], .nil, fun M h vals K hl => by
    obtain ⟨a, rfl⟩ := vals1 hl rfl
    exact Looks.of_peek K (by kernel_rfl)⟩
  code := ⟨580, o580 P, _, 951, rfl, by kernel_rfl, rfl, by kernel_rfl⟩
  flags := by kernel_rfl
  kinds := kinds_of (by kernel_rfl)
  nodup := by decide +kernel
noncomputable abbrev v_one_item : Addr := 595
noncomputable abbrev e_one_item (L : Addr) : Env := fnEnv (fScope (st 87)) (S "one_item") 595 (.ref 594) L
theorem f_one_item (P : Params) : Fn P 595 (fScope (st 87)) (S "one_item") (.ref 594) ["v", "place"] [] (fBody (st 87)) where
  obj := ⟨o595 P, _, by kernel_rfl, rfl, rfl, rfl, rfl, rfl, rfl, rfl, rfl, [], .nil, fun M h vals K hl => by
    obtain ⟨a, b, rfl⟩ := vals2 hl rfl
    exact Looks.of_peek K (by kernel_rfl)⟩
  code := ⟨594, o594 P, _, 965, rfl, by kernel_rfl, rfl, by kernel_rfl⟩
  flags := by kernel_rfl
  kinds := kinds_of (by kernel_rfl)
  nodup := by decide +kernel
noncomputable abbrev v_vector_element : Addr := 602
noncomputable abbrev e_vector_element (L : Addr) : Env := fnEnv (fScope (st 88)) (S "vector_element") 602 (.ref 601) L
theorem f_vector_element (P : Params) : Fn P 602 (fScope (st 88)) (S "vector_element") (.ref 601) ["v", "ix", "exact"] [] (fBody (st 88)) where
  obj := ⟨o602 P, _, by kernel_rfl, rfl, rfl, rfl, rfl, rfl, rfl, rfl, rfl, [], .nil, fun M h vals K hl => by
    obtain ⟨a, b, c, rfl⟩ := vals3 hl rfl
    exact Looks.of_peek K (by kernel_rfl)⟩
  code := ⟨601, o601 P, _, 973, rfl, by kernel_rfl, rfl, by kernel_rfl⟩
  flags := by kernel_rfl
  kinds := kinds_of (by kernel_rfl)
  nodup := by decide +kernel
noncomputable abbrev v_element_step : Addr := 621
noncomputable abbrev e_element_step (L : Addr) : Env := fnEnv (fScope (st 91)) (S "element_step") 621 (.ref 620) L
theorem f_element_step (P : Params) : Fn P 621 (fScope (st 91)) (S "element_step") (.ref 620) ["v", "ix", "exact"] [] (fBody (st 91)) where
  obj := ⟨o621 P, _, by kernel_rfl, rfl, rfl, rfl, rfl, rfl, rfl, rfl, rfl, [], .nil, fun M h vals K hl => by
    obtain ⟨a, b, c, rfl⟩ := vals3 hl rfl
    exact Looks.of_peek K (by kernel_rfl)⟩
  code := ⟨620, o620 P, _, 1007, rfl, by kernel_rfl, rfl, by kernel_rfl⟩
  flags := by kernel_rfl
  kinds := kinds_of (by kernel_rfl)
  nodup := by decide +kernel
noncomputable abbrev v_index_parts : Addr := 626
noncomputable abbrev e_index_parts (L : Addr) : Env := fnEnv (fScope (st 92)) (S "index_parts") 626 (.ref 625) L
theorem f_index_parts (P : Params) : Fn P 626 (fScope (st 92)) (S "index_parts") (.ref 625) ["ix"] [] (fBody (st 92)) where
  obj := ⟨o626 P, _, by kernel_rfl, rfl, rfl, rfl, rfl, rfl, rfl, rfl, rfl, [], .nil, fun M h vals K hl => by
    obtain ⟨a, rfl⟩ := vals1 hl rfl
    exact Looks.of_peek K (by kernel_rfl)⟩
  code := ⟨625, o625 P, _, 1013, rfl, by kernel_rfl, rfl, by kernel_rfl⟩
  flags := by kernel_rfl
  kinds := kinds_of (by kernel_rfl)
  nodup := by decide +kernel
noncomputable abbrev v_is_long_index : Addr := 633
noncomputable abbrev e_is_long_index (L : Addr) : Env := fnEnv (fScope (st 93)) (S "is_long_index") 633 (.ref 632) L
theorem f_is_long_index (P : Params) : Fn P 633 (fScope (st 93)) (S "is_long_index") (.ref 632) ["ix"] [] (fBody (st 93)) where
  obj := ⟨o633 P, _, by kernel_rfl, rfl, rfl, rfl, rfl, rfl, rfl, rfl, rfl, [], .nil, fun M h vals K hl => by
    obtain ⟨a, rfl⟩ := vals1 hl rfl
    exact Looks.of_peek K (by kernel_rfl)⟩
  code := ⟨632, o632 P, _, 1019, rfl, by kernel_rfl, rfl, by kernel_rfl⟩
  flags := by kernel_rfl
  kinds := kinds_of (by kernel_rfl)
  nodup := by decide +kernel
noncomputable abbrev v_element : Addr := 640
noncomputable abbrev e_element (L : Addr) : Env := fnEnv (fScope (st 94)) (S "element") 640 (.ref 639) L
theorem f_element (P : Params) : Fn P 640 (fScope (st 94)) (S "element") (.ref 639) ["v", "indexes", "exact"] [] (fBody (st 94)) where
  obj := ⟨o640 P, _, by kernel_rfl, rfl, rfl, rfl, rfl, rfl, rfl, rfl, rfl, [], .nil, fun M h vals K hl => by
    obtain ⟨a, b, c, rfl⟩ := vals3 hl rfl
    exact Looks.of_peek K (by kernel_rfl)⟩
  code := ⟨639, o639 P, _, 1026, rfl, by kernel_rfl, rfl, by kernel_rfl⟩
  flags := by kernel_rfl
  kinds := kinds_of (by kernel_rfl)
  nodup := by decide +kernel
noncomputable abbrev v_converted_items : Addr := 647
noncomputable abbrev e_converted_items (L : Addr) : Env := fnEnv (fScope (st 96)) (S "converted_items") 647 (.ref 646) L
theorem f_converted_items (P : Params) : Fn P 647 (fScope (st 96)) (S "converted_items") (.ref 646) ["v", "kind", "notes"] [] (fBody (st 96)) where
  obj := ⟨o647 P, _, by kernel_rfl, rfl, rfl, rfl, rfl, rfl, rfl, rfl, rfl, [], .nil, fun M h vals K hl => by
    obtain ⟨a, b, c, rfl⟩ := vals3 hl rfl
    exact Looks.of_peek K (by kernel_rfl)⟩
  code := ⟨646, o646 P, _, 1040, rfl, by kernel_rfl, rfl, by kernel_rfl⟩
  flags := by kernel_rfl
  kinds := kinds_of (by kernel_rfl)
  nodup := by decide +kernel
noncomputable abbrev v_raised : Addr := 654
noncomputable abbrev e_raised (L : Addr) : Env := fnEnv (fScope (st 97)) (S "raised") 654 (.ref 653) L
theorem f_raised (P : Params) : Fn P 654 (fScope (st 97)) (S "raised") (.ref 653) ["v", "kind", "notes"] [] (fBody (st 97)) where
  obj := ⟨o654 P, _, by kernel_rfl, rfl, rfl, rfl, rfl, rfl, rfl, rfl, rfl, [], .nil, fun M h vals K hl => by
    obtain ⟨a, b, c, rfl⟩ := vals3 hl rfl
    exact Looks.of_peek K (by kernel_rfl)⟩
  code := ⟨653, o653 P, _, 1049, rfl, by kernel_rfl, rfl, by kernel_rfl⟩
  flags := by kernel_rfl
  kinds := kinds_of (by kernel_rfl)
  nodup := by decide +kernel
noncomputable abbrev v_extend_vector : Addr := 661
noncomputable abbrev e_extend_vector (L : Addr) : Env := fnEnv (fScope (st 98)) (S "extend_vector") 661 (.ref 660) L
theorem f_extend_vector (P : Params) : Fn P 661 (fScope (st 98)) (S "extend_vector") (.ref 660) ["v", "count", "names", "added"] [] (fBody (st 98)) where
  obj := ⟨o661 P, _, by kernel_rfl, rfl, rfl, rfl, rfl, rfl, rfl, rfl, rfl, [], .nil, fun M h vals K hl => by
    obtain ⟨a, b, c, d, rfl⟩ := vals4 hl rfl
    exact Looks.of_peek K (by kernel_rfl)⟩
  code := ⟨660, o660 P, _, 1059, rfl, by kernel_rfl, rfl, by kernel_rfl⟩
  flags := by kernel_rfl
  kinds := kinds_of (by kernel_rfl)
  nodup := by decide +kernel
noncomputable abbrev v_first_count : Addr := 668
noncomputable abbrev e_first_count (L : Addr) : Env := fnEnv (fScope (st 99)) (S "first_count") 668 (.ref 667) L
theorem f_first_count (P : Params) : Fn P 668 (fScope (st 99)) (S "first_count") (.ref 667) ["places"] [] (fBody (st 99)) where
  obj := ⟨o668 P, _, by kernel_rfl, rfl, rfl, rfl, rfl, rfl, rfl, rfl, rfl, [], .nil, fun M h vals K hl => by
    obtain ⟨a, rfl⟩ := vals1 hl rfl
    exact Looks.of_peek K (by kernel_rfl)⟩
  code := ⟨667, o667 P, _, 1072, rfl, by kernel_rfl, rfl, by kernel_rfl⟩
  flags := by kernel_rfl
  kinds := kinds_of (by kernel_rfl)
  nodup := by decide +kernel
noncomputable abbrev v_delete_places : Addr := 675
noncomputable abbrev e_delete_places (L : Addr) : Env := fnEnv (fScope (st 100)) (S "delete_places") 675 (.ref 674) L
theorem f_delete_places (P : Params) : Fn P 675 (fScope (st 100)) (S "delete_places") (.ref 674) ["v", "places"] [] (fBody (st 100)) where
  obj := ⟨o675 P, _, by kernel_rfl, rfl, rfl, rfl, rfl, rfl, rfl, rfl, rfl, [], .nil, fun M h vals K hl => by
    obtain ⟨a, b, rfl⟩ := vals2 hl rfl
    exact Looks.of_peek K (by kernel_rfl)⟩
  code := ⟨674, o674 P, _, 1081, rfl, by kernel_rfl, rfl, by kernel_rfl⟩
  flags := by kernel_rfl
  kinds := kinds_of (by kernel_rfl)
  nodup := by decide +kernel
noncomputable abbrev v_element_kind : Addr := 694
noncomputable abbrev e_element_kind (L : Addr) : Env := fnEnv (fScope (st 103)) (S "element_kind") 694 (.ref 693) L
theorem f_element_kind (P : Params) : Fn P 694 (fScope (st 103)) (S "element_kind") (.ref 693) ["v", "value"] [] (fBody (st 103)) where
  obj := ⟨o694 P, _, by kernel_rfl, rfl, rfl, rfl, rfl, rfl, rfl, rfl, rfl, [], .nil, fun M h vals K hl => by
    obtain ⟨a, b, rfl⟩ := vals2 hl rfl
    exact Looks.of_peek K (by kernel_rfl)⟩
  code := ⟨693, o693 P, _, 1116, rfl, by kernel_rfl, rfl, by kernel_rfl⟩
  flags := by kernel_rfl
  kinds := kinds_of (by kernel_rfl)
  nodup := by decide +kernel
noncomputable abbrev v_put_element : Addr := 701
noncomputable abbrev e_put_element (L : Addr) : Env := fnEnv (fScope (st 104)) (S "put_element") 701 (.ref 700) L
theorem f_put_element (P : Params) : Fn P 701 (fScope (st 104)) (S "put_element") (.ref 700) ["v", "place", "name", "value", "notes"] [] (fBody (st 104)) where
  obj := ⟨o701 P, _, by kernel_rfl, rfl, rfl, rfl, rfl, rfl, rfl, rfl, rfl, [], .nil, fun M h vals K hl => by
    obtain ⟨a, b, c, d, e, rfl⟩ := vals5 hl rfl
    exact Looks.of_peek K (by kernel_rfl)⟩
  code := ⟨700, o700 P, _, 1124, rfl, by kernel_rfl, rfl, by kernel_rfl⟩
  flags := by kernel_rfl
  kinds := kinds_of (by kernel_rfl)
  nodup := by decide +kernel
noncomputable abbrev v_assign_step : Addr := 708
noncomputable abbrev e_assign_step (L : Addr) : Env := fnEnv (fScope (st 105)) (S "assign_step") 708 (.ref 707) L
theorem f_assign_step (P : Params) : Fn P 708 (fScope (st 105)) (S "assign_step") (.ref 707) ["v", "ix", "value", "notes"] [] (fBody (st 105)) where
  obj := ⟨o708 P, _, by kernel_rfl, rfl, rfl, rfl, rfl, rfl, rfl, rfl, rfl, [], .nil, fun M h vals K hl => by
    obtain ⟨a, b, c, d, rfl⟩ := vals4 hl rfl
    exact Looks.of_peek K (by kernel_rfl)⟩
  code := ⟨707, o707 P, _, 1139, rfl, by kernel_rfl, rfl, by kernel_rfl⟩
  flags := by kernel_rfl
  kinds := kinds_of (by kernel_rfl)
  nodup := by decide +kernel
noncomputable abbrev v_assign_down : Addr := 715
noncomputable abbrev e_assign_down (L : Addr) : Env := fnEnv (fScope (st 106)) (S "assign_down") 715 (.ref 714) L
theorem f_assign_down (P : Params) : Fn P 715 (fScope (st 106)) (S "assign_down") (.ref 714) ["v", "parts", "value", "notes"] [] (fBody (st 106)) where
  obj := ⟨o715 P, _, by kernel_rfl, rfl, rfl, rfl, rfl, rfl, rfl, rfl, rfl, [], .nil, fun M h vals K hl => by
    obtain ⟨a, b, c, d, rfl⟩ := vals4 hl rfl
    exact Looks.of_peek K (by kernel_rfl)⟩
  code := ⟨714, o714 P, _, 1153, rfl, by kernel_rfl, rfl, by kernel_rfl⟩
  flags := by kernel_rfl
  kinds := kinds_of (by kernel_rfl)
  nodup := by decide +kernel
noncomputable abbrev v_assign_element : Addr := 722
noncomputable abbrev e_assign_element (L : Addr) : Env := fnEnv (fScope (st 107)) (S "assign_element") 722 (.ref 721) L
theorem f_assign_element (P : Params) : Fn P 722 (fScope (st 107)) (S "assign_element") (.ref 721) ["v", "indexes", "value", "notes"] [] (fBody (st 107)) where
  obj := ⟨o722 P, _, by kernel_rfl, rfl, rfl, rfl, rfl, rfl, rfl, rfl, rfl, [], .nil, fun M h vals K hl => by
    obtain ⟨a, b, c, d, rfl⟩ := vals4 hl rfl
    exact Looks.of_peek K (by kernel_rfl)⟩
  code := ⟨721, o721 P, _, 1164, rfl, by kernel_rfl, rfl, by kernel_rfl⟩
  flags := by kernel_rfl
  kinds := kinds_of (by kernel_rfl)
  nodup := by decide +kernel
noncomputable abbrev v__law_row : Addr := 729
noncomputable abbrev e__law_row (L : Addr) : Env := fnEnv (fScope (st 109)) (S "_law_row") 729 (.ref 728) L
theorem f__law_row (P : Params) : Fn P 729 (fScope (st 109)) (S "_law_row") (.ref 728) ["script"] [] (fBody (st 109)) where
  obj := ⟨o729 P, _, by kernel_rfl, rfl, rfl, rfl, rfl, rfl, rfl, rfl, rfl, [], .nil, fun M h vals K hl => by
    obtain ⟨a, rfl⟩ := vals1 hl rfl
    exact Looks.of_peek K (by kernel_rfl)⟩
  code := ⟨728, o728 P, _, 1178, rfl, by kernel_rfl, rfl, by kernel_rfl⟩
  flags := by kernel_rfl
  kinds := kinds_of (by kernel_rfl)
  nodup := by decide +kernel
noncomputable abbrev v__law_next : Addr := 736
noncomputable abbrev e__law_next (L : Addr) : Env := fnEnv (fScope (st 110)) (S "_law_next") 736 (.ref 735) L
theorem f__law_next (P : Params) : Fn P 736 (fScope (st 110)) (S "_law_next") (.ref 735) ["row"] [] (fBody (st 110)) where
  obj := ⟨o736 P, _, by kernel_rfl, rfl, rfl, rfl, rfl, rfl, rfl, rfl, rfl, [], .nil, fun M h vals K hl => by
    obtain ⟨a, rfl⟩ := vals1 hl rfl
    exact Looks.of_peek K (by kernel_rfl)⟩
  code := ⟨735, o735 P, _, 1189, rfl, by kernel_rfl, rfl, by kernel_rfl⟩
  flags := by kernel_rfl
  kinds := kinds_of (by kernel_rfl)
  nodup := by decide +kernel
noncomputable abbrev v__law_heads : Addr := 741
noncomputable abbrev e__law_heads (L : Addr) : Env := fnEnv (fScope (st 111)) (S "_law_heads") 741 (.ref 740) L
theorem f__law_heads (P : Params) : Fn P 741 (fScope (st 111)) (S "_law_heads") (.ref 740) ["row", "many"] [] (fBody (st 111)) where
  obj := ⟨o741 P, _, by kernel_rfl, rfl, rfl, rfl, rfl, rfl, rfl, rfl, rfl, [], .nil, fun M h vals K hl => by
    obtain ⟨a, b, rfl⟩ := vals2 hl rfl
    exact Looks.of_peek K (by kernel_rfl)⟩
  code := ⟨740, o740 P, _, 1196, rfl, by kernel_rfl, rfl, by kernel_rfl⟩
  flags := by kernel_rfl
  kinds := kinds_of (by kernel_rfl)
  nodup := by decide +kernel
noncomputable abbrev v__law_value : Addr := 746
noncomputable abbrev e__law_value (L : Addr) : Env := fnEnv (fScope (st 112)) (S "_law_value") 746 (.ref 745) L
theorem f__law_value (P : Params) : Fn P 746 (fScope (st 112)) (S "_law_value") (.ref 745) ["row", "deep"] [] (fBody (st 112)) where
  obj := ⟨o746 P, _, by kernel_rfl, rfl, rfl, rfl, rfl, rfl, rfl, rfl, rfl, [], .nil, fun M h vals K hl => by
    obtain ⟨a, b, rfl⟩ := vals2 hl rfl
    exact Looks.of_peek K (by kernel_rfl)⟩
  code := ⟨745, o745 P, _, 1202, rfl, by kernel_rfl, rfl, by kernel_rfl⟩
  flags := by kernel_rfl
  kinds := kinds_of (by kernel_rfl)
  nodup := by decide +kernel
noncomputable abbrev v__law_tree : Addr := 751
noncomputable abbrev e__law_tree (L : Addr) : Env := fnEnv (fScope (st 113)) (S "_law_tree") 751 (.ref 750) L
theorem f__law_tree (P : Params) : Fn P 751 (fScope (st 113)) (S "_law_tree") (.ref 750) ["v"] [] (fBody (st 113)) where
  obj := ⟨o751 P, _, by kernel_rfl, rfl, rfl, rfl, rfl, rfl, rfl, rfl, rfl, [], .nil, fun M h vals K hl => by
    obtain ⟨a, rfl⟩ := vals1 hl rfl
    exact Looks.of_peek K (by kernel_rfl)⟩
  code := ⟨750, o750 P, _, 1208, rfl, by kernel_rfl, rfl, by kernel_rfl⟩
  flags := by kernel_rfl
  kinds := kinds_of (by kernel_rfl)
  nodup := by decide +kernel
noncomputable abbrev v__law_place : Addr := 758
noncomputable abbrev e__law_place (L : Addr) : Env := fnEnv (fScope (st 114)) (S "_law_place") 758 (.ref 757) L
theorem f__law_place (P : Params) : Fn P 758 (fScope (st 114)) (S "_law_place") (.ref 757) ["node", "key"] [] (fBody (st 114)) where
  obj := ⟨o758 P, _, by kernel_rfl, rfl, rfl, rfl, rfl, rfl, rfl, rfl, rfl, [], .nil, fun M h vals K hl => by
    obtain ⟨a, b, rfl⟩ := vals2 hl rfl
    exact Looks.of_peek K (by kernel_rfl)⟩
  code := ⟨757, o757 P, _, 1214, rfl, by kernel_rfl, rfl, by kernel_rfl⟩
  flags := by kernel_rfl
  kinds := kinds_of (by kernel_rfl)
  nodup := by decide +kernel
noncomputable abbrev v__law_step : Addr := 765
noncomputable abbrev e__law_step (L : Addr) : Env := fnEnv (fScope (st 115)) (S "_law_step") 765 (.ref 764) L
theorem f__law_step (P : Params) : Fn P 765 (fScope (st 115)) (S "_law_step") (.ref 764) ["node", "key"] [] (fBody (st 115)) where
  obj := ⟨o765 P, _, by kernel_rfl, rfl, rfl, rfl, rfl, rfl, rfl, rfl, rfl, [], .nil, fun M h vals K hl => by
    obtain ⟨a, b, rfl⟩ := vals2 hl rfl
    exact Looks.of_peek K (by kernel_rfl)⟩
  code := ⟨764, o764 P, _, 1222, rfl, by kernel_rfl, rfl, by kernel_rfl⟩
  flags := by kernel_rfl
  kinds := kinds_of (by kernel_rfl)
  nodup := by decide +kernel
noncomputable abbrev v__law_got : Addr := 772
noncomputable abbrev e__law_got (L : Addr) : Env := fnEnv (fScope (st 116)) (S "_law_got") 772 (.ref 771) L
theorem f__law_got (P : Params) : Fn P 772 (fScope (st 116)) (S "_law_got") (.ref 771) ["node", "keys"] [] (fBody (st 116)) where
  obj := ⟨o772 P, _, by kernel_rfl, rfl, rfl, rfl, rfl, rfl, rfl, rfl, rfl, [], .nil, fun M h vals K hl => by
    obtain ⟨a, b, rfl⟩ := vals2 hl rfl
    exact Looks.of_peek K (by kernel_rfl)⟩
  code := ⟨771, o771 P, _, 1231, rfl, by kernel_rfl, rfl, by kernel_rfl⟩
  flags := by kernel_rfl
  kinds := kinds_of (by kernel_rfl)
  nodup := by decide +kernel
noncomputable abbrev v__law_put : Addr := 777
noncomputable abbrev e__law_put (L : Addr) : Env := fnEnv (fScope (st 117)) (S "_law_put") 777 (.ref 776) L
theorem f__law_put (P : Params) : Fn P 777 (fScope (st 117)) (S "_law_put") (.ref 776) ["node", "key", "value"] [] (fBody (st 117)) where
  obj := ⟨o777 P, _, by kernel_rfl, rfl, rfl, rfl, rfl, rfl, rfl, rfl, rfl, [], .nil, fun M h vals K hl => by
    obtain ⟨a, b, c, rfl⟩ := vals3 hl rfl
    exact Looks.of_peek K (by kernel_rfl)⟩
  code := ⟨776, o776 P, _, 1241, rfl, by kernel_rfl, rfl, by kernel_rfl⟩
  flags := by kernel_rfl
  kinds := kinds_of (by kernel_rfl)
  nodup := by decide +kernel
noncomputable abbrev v__law_set : Addr := 784
noncomputable abbrev e__law_set (L : Addr) : Env := fnEnv (fScope (st 118)) (S "_law_set") 784 (.ref 783) L
theorem f__law_set (P : Params) : Fn P 784 (fScope (st 118)) (S "_law_set") (.ref 783) ["node", "keys", "value"] [] (fBody (st 118)) where
  obj := ⟨o784 P, _, by kernel_rfl, rfl, rfl, rfl, rfl, rfl, rfl, rfl, rfl, [], .nil, fun M h vals K hl => by
    obtain ⟨a, b, c, rfl⟩ := vals3 hl rfl
    exact Looks.of_peek K (by kernel_rfl)⟩
  code := ⟨783, o783 P, _, 1247, rfl, by kernel_rfl, rfl, by kernel_rfl⟩
  flags := by kernel_rfl
  kinds := kinds_of (by kernel_rfl)
  nodup := by decide +kernel
noncomputable abbrev v__law_kept : Addr := 791
noncomputable abbrev e__law_kept (L : Addr) : Env := fnEnv (fScope (st 119)) (S "_law_kept") 791 (.ref 790) L
theorem f__law_kept (P : Params) : Fn P 791 (fScope (st 119)) (S "_law_kept") (.ref 790) ["ask"] [] (fBody (st 119)) where
  obj := ⟨o791 P, _, by kernel_rfl, rfl, rfl, rfl, rfl, rfl, rfl, rfl, rfl, [], .nil, fun M h vals K hl => by
    obtain ⟨a, rfl⟩ := vals1 hl rfl
    exact Looks.of_peek K (by kernel_rfl)⟩
  code := ⟨790, o790 P, _, 1259, rfl, by kernel_rfl, rfl, by kernel_rfl⟩
  flags := by kernel_rfl
  kinds := kinds_of (by kernel_rfl)
  nodup := by decide +kernel
noncomputable abbrev v_Vectorinit : Addr := 82
noncomputable abbrev e_Vectorinit (L : Addr) : Env := fnEnv (fScope (sc 6 0)) (S "Vector.__init__") 82 (.ref 81) L
theorem f_Vectorinit (P : Params) : Fn P 82 (fScope (sc 6 0)) (S "Vector.__init__") (.ref 81) ["self", "kind", "items", "attrs"] [] (fBody (sc 6 0)) where
  obj := ⟨o82 P, _, by kernel_rfl, rfl, rfl, rfl, rfl, rfl, rfl, rfl, rfl, [], .nil, fun M h vals K hl => by
    obtain ⟨a, b, c, d, rfl⟩ := vals4 hl rfl
    exact Looks.of_peek K (by kernel_rfl)⟩
  code := ⟨81, o81 P, _, 280, rfl, by kernel_rfl, rfl, by kernel_rfl⟩
  flags := by kernel_rfl
  kinds := kinds_of (by kernel_rfl)
  nodup := by decide +kernel
theorem f_Vectorinit1 (P : Params) : Fn P 82 (fScope (sc 6 0)) (S "Vector.__init__") (.ref 81) ["self", "kind", "items", "attrs"] [.none] (fBody (sc 6 0)) where
  obj := ⟨o82 P, _, by kernel_rfl, rfl, rfl, rfl, rfl, rfl, rfl, rfl, rfl, [.none], .cons .none .nil, fun M h vals K hl => by
    obtain ⟨a, b, c, rfl⟩ := vals3 hl rfl
    exact Looks.of_peek K (by kernel_rfl)⟩
  code := ⟨81, o81 P, _, 280, rfl, by kernel_rfl, rfl, by kernel_rfl⟩
  flags := by kernel_rfl
  kinds := kinds_of (by kernel_rfl)
  nodup := by decide +kernel
noncomputable abbrev v_Vectorcopy : Addr := 89
noncomputable abbrev e_Vectorcopy (L : Addr) : Env := fnEnv (fScope (sc 6 1)) (S "Vector.copy") 89 (.ref 88) L
theorem f_Vectorcopy (P : Params) : Fn P 89 (fScope (sc 6 1)) (S "Vector.copy") (.ref 88) ["self"] [] (fBody (sc 6 1)) where
  obj := ⟨o89 P, _, by kernel_rfl, rfl, rfl, rfl, rfl, rfl, rfl, rfl, rfl, [], .nil, fun M h vals K hl => by
    obtain ⟨a, rfl⟩ := vals1 hl rfl
    exact Looks.of_peek K (by kernel_rfl)⟩
  code := ⟨88, o88 P, _, 290, rfl, by kernel_rfl, rfl, by kernel_rfl⟩
  flags := by kernel_rfl
  kinds := kinds_of (by kernel_rfl)
  nodup := by decide +kernel
noncomputable abbrev v_Nullinit : Addr := 60
noncomputable abbrev e_Nullinit (L : Addr) : Env := fnEnv (fScope (sc 5 0)) (S "Null.__init__") 60 (.ref 59) L
theorem f_Nullinit (P : Params) : Fn P 60 (fScope (sc 5 0)) (S "Null.__init__") (.ref 59) ["self"] [] (fBody (sc 5 0)) where
  obj := ⟨o60 P, _, by kernel_rfl, rfl, rfl, rfl, rfl, rfl, rfl, rfl, rfl, [], .nil, fun M h vals K hl => by
    obtain ⟨a, rfl⟩ := vals1 hl rfl
    exact Looks.of_peek K (by kernel_rfl)⟩
  code := ⟨59, o59 P, _, 251, rfl, by kernel_rfl, rfl, by kernel_rfl⟩
  flags := by kernel_rfl
  kinds := kinds_of (by kernel_rfl)
  nodup := by decide +kernel

/-! ## rules in terms of Upd -/
theorem CallOk.use {X : Cx} {n k : Nat} {f : Value} {args : List MV} {m : MH} {Q Q0 : MV → MH → Prop} {Ex Ex0 : String → MH → Prop} (h : CallOk X k f args m Q0 Ex0) (hk : k ≤ n) (e : ∀ b m', Ex0 b m' → Ex b m') (q : ∀ v m', Q0 v m' → Q v m') : CallOk X n f args m Q Ex := (h.room hk).mono q e
noncomputable abbrev FE : String → MH → Prop := fun _ _ => False
section
variable {X : Cx} {n k : Nat} {g : Value} {args : List MV} {m : MH} {Q : MV → MH → Prop} {Ex Ex0 : String → MH → Prop}
theorem CallOk.u01 {f : MV} {A1 : MH → Prop} (h : CallOk X k g args m (fun v m' => v = f ∧ A1 m') Ex0) (hk : k ≤ n) (e : ∀ b m', Ex0 b m' → Ex b m') (q : ∀  m', A1 m' → Q f m') : CallOk X n g args m Q Ex :=
  h.use hk e fun v m' z => by obtain ⟨rfl, h1⟩ := z; exact q  m' h1
theorem CallOk.u03 {f : MV} {A1 A2 A3 : MH → Prop} (h : CallOk X k g args m (fun v m' => v = f ∧ A1 m' ∧ A2 m' ∧ A3 m') Ex0) (hk : k ≤ n) (e : ∀ b m', Ex0 b m' → Ex b m') (q : ∀  m', A1 m' → A2 m' → A3 m' → Q f m') : CallOk X n g args m Q Ex :=
  h.use hk e fun v m' z => by obtain ⟨rfl, h1, h2, h3⟩ := z; exact q  m' h1 h2 h3
theorem CallOk.u12 {α1 : Type} {f : α1 → MV} {A1 A2 : α1 → MH → Prop} (h : CallOk X k g args m (fun v m' => ∃ x, v = f x ∧ A1 x m' ∧ A2 x m') Ex0) (hk : k ≤ n) (e : ∀ b m', Ex0 b m' → Ex b m') (q : ∀ x m', A1 x m' → A2 x m' → Q (f x) m') : CallOk X n g args m Q Ex :=
  h.use hk e fun v m' z => by obtain ⟨x, rfl, h1, h2⟩ := z; exact q x m' h1 h2
theorem CallOk.u13 {α1 : Type} {f : α1 → MV} {A1 A2 A3 : α1 → MH → Prop} (h : CallOk X k g args m (fun v m' => ∃ x, v = f x ∧ A1 x m' ∧ A2 x m' ∧ A3 x m') Ex0) (hk : k ≤ n) (e : ∀ b m', Ex0 b m' → Ex b m') (q : ∀ x m', A1 x m' → A2 x m' → A3 x m' → Q (f x) m') : CallOk X n g args m Q Ex :=
  h.use hk e fun v m' z => by obtain ⟨x, rfl, h1, h2, h3⟩ := z; exact q x m' h1 h2 h3
theorem CallOk.u14 {α1 : Type} {f : α1 → MV} {A1 A2 A3 A4 : α1 → MH → Prop} (h : CallOk X k g args m (fun v m' => ∃ x, v = f x ∧ A1 x m' ∧ A2 x m' ∧ A3 x m' ∧ A4 x m') Ex0) (hk : k ≤ n) (e : ∀ b m', Ex0 b m' → Ex b m') (q : ∀ x m', A1 x m' → A2 x m' → A3 x m' → A4 x m' → Q (f x) m') : CallOk X n g args m Q Ex :=
  h.use hk e fun v m' z => by obtain ⟨x, rfl, h1, h2, h3, h4⟩ := z; exact q x m' h1 h2 h3 h4
theorem CallOk.u23 {α1 α2 : Type} {f : α1 → α2 → MV} {A1 A2 A3 : α1 → α2 → MH → Prop} (h : CallOk X k g args m (fun v m' => ∃ x, ∃ y, v = f x y ∧ A1 x y m' ∧ A2 x y m' ∧ A3 x y m') Ex0) (hk : k ≤ n) (e : ∀ b m', Ex0 b m' → Ex b m') (q : ∀ x y m', A1 x y m' → A2 x y m' → A3 x y m' → Q (f x y) m') : CallOk X n g args m Q Ex :=
  h.use hk e fun v m' z => by obtain ⟨x, y, rfl, h1, h2, h3⟩ := z; exact q x y m' h1 h2 h3
theorem CallOk.u24 {α1 α2 : Type} {f : α1 → α2 → MV} {A1 A2 A3 A4 : α1 → α2 → MH → Prop} (h : CallOk X k g args m (fun v m' => ∃ x, ∃ y, v = f x y ∧ A1 x y m' ∧ A2 x y m' ∧ A3 x y m' ∧ A4 x y m') Ex0) (hk : k ≤ n) (e : ∀ b m', Ex0 b m' → Ex b m') (q : ∀ x y m', A1 x y m' → A2 x y m' → A3 x y m' → A4 x y m' → Q (f x y) m') : CallOk X n g args m Q Ex :=
  h.use hk e fun v m' z => by obtain ⟨x, y, rfl, h1, h2, h3, h4⟩ := z; exact q x y m' h1 h2 h3 h4
theorem CallOk.u25 {α1 α2 : Type} {f : α1 → α2 → MV} {A1 A2 A3 A4 A5 : α1 → α2 → MH → Prop} (h : CallOk X k g args m (fun v m' => ∃ x, ∃ y, v = f x y ∧ A1 x y m' ∧ A2 x y m' ∧ A3 x y m' ∧ A4 x y m' ∧ A5 x y m') Ex0) (hk : k ≤ n) (e : ∀ b m', Ex0 b m' → Ex b m') (q : ∀ x y m', A1 x y m' → A2 x y m' → A3 x y m' → A4 x y m' → A5 x y m' → Q (f x y) m') : CallOk X n g args m Q Ex :=
  h.use hk e fun v m' z => by obtain ⟨x, y, rfl, h1, h2, h3, h4, h5⟩ := z; exact q x y m' h1 h2 h3 h4 h5
theorem CallOk.u34 {α1 α2 α3 : Type} {f : α1 → α2 → α3 → MV} {A1 A2 A3 A4 : α1 → α2 → α3 → MH → Prop} (h : CallOk X k g args m (fun v m' => ∃ x, ∃ y, ∃ z, v = f x y z ∧ A1 x y z m' ∧ A2 x y z m' ∧ A3 x y z m' ∧ A4 x y z m') Ex0) (hk : k ≤ n) (e : ∀ b m', Ex0 b m' → Ex b m') (q : ∀ x y z m', A1 x y z m' → A2 x y z m' → A3 x y z m' → A4 x y z m' → Q (f x y z) m') : CallOk X n g args m Q Ex :=
  h.use hk e fun v m' z => by obtain ⟨x, y, z, rfl, h1, h2, h3, h4⟩ := z; exact q x y z m' h1 h2 h3 h4
theorem CallOk.u36 {α1 α2 α3 : Type} {f : α1 → α2 → α3 → MV} {A1 A2 A3 A4 A5 A6 : α1 → α2 → α3 → MH → Prop} (h : CallOk X k g args m (fun v m' => ∃ x, ∃ y, ∃ z, v = f x y z ∧ A1 x y z m' ∧ A2 x y z m' ∧ A3 x y z m' ∧ A4 x y z m' ∧ A5 x y z m' ∧ A6 x y z m') Ex0) (hk : k ≤ n) (e : ∀ b m', Ex0 b m' → Ex b m') (q : ∀ x y z m', A1 x y z m' → A2 x y z m' → A3 x y z m' → A4 x y z m' → A5 x y z m' → A6 x y z m' → Q (f x y z) m') : CallOk X n g args m Q Ex :=
  h.use hk e fun v m' z => by obtain ⟨x, y, z, rfl, h1, h2, h3, h4, h5, h6⟩ := z; exact q x y z m' h1 h2 h3 h4 h5 h6
theorem CallOk.u44 {α1 α2 α3 α4 : Type} {f : α1 → α2 → α3 → α4 → MV} {A1 A2 A3 A4 : α1 → α2 → α3 → α4 → MH → Prop} (h : CallOk X k g args m (fun v m' => ∃ x, ∃ y, ∃ z, ∃ w, v = f x y z w ∧ A1 x y z w m' ∧ A2 x y z w m' ∧ A3 x y z w m' ∧ A4 x y z w m') Ex0) (hk : k ≤ n) (e : ∀ b m', Ex0 b m' → Ex b m') (q : ∀ x y z w m', A1 x y z w m' → A2 x y z w m' → A3 x y z w m' → A4 x y z w m' → Q (f x y z w) m') : CallOk X n g args m Q Ex :=
  h.use hk e fun v m' z => by obtain ⟨x, y, z, w, rfl, h1, h2, h3, h4⟩ := z; exact q x y z w m' h1 h2 h3 h4
theorem CallOk.u47 {α1 α2 α3 α4 : Type} {f : α1 → α2 → α3 → α4 → MV} {A1 A2 A3 A4 A5 A6 A7 : α1 → α2 → α3 → α4 → MH → Prop} (h : CallOk X k g args m (fun v m' => ∃ x, ∃ y, ∃ z, ∃ w, v = f x y z w ∧ A1 x y z w m' ∧ A2 x y z w m' ∧ A3 x y z w m' ∧ A4 x y z w m' ∧ A5 x y z w m' ∧ A6 x y z w m' ∧ A7 x y z w m') Ex0) (hk : k ≤ n) (e : ∀ b m', Ex0 b m' → Ex b m') (q : ∀ x y z w m', A1 x y z w m' → A2 x y z w m' → A3 x y z w m' → A4 x y z w m' → A5 x y z w m' → A6 x y z w m' → A7 x y z w m' → Q (f x y z w) m') : CallOk X n g args m Q Ex :=
  h.use hk e fun v m' z => by obtain ⟨x, y, z, w, rfl, h1, h2, h3, h4, h5, h6, h7⟩ := z; exact q x y z w m' h1 h2 h3 h4 h5 h6 h7
end
theorem growK {n p K0 K1 : Nat} (h : K0 + 1 ≤ K1) (hp : p < K1) (hn : n ≤ K0) : n + (p + 1 - n) ≤ K1 := by lia
theorem cut6 {n p : Nat} (h : n ≤ 1000) : min p n + (n - (p + 1)) ≤ 1000000 := by omega
theorem nn0 (p : Nat) : ¬ ((p : Int) < 0) := Int.not_lt.mpr (Int.natCast_nonneg p)
theorem geF {p n : Nat} (h : p < n) : ¬ ((p : Int) ≥ (n : Int)) := Int.not_le.mpr (Int.ofNat_lt.mpr h)
theorem geT {p n : Nat} (h : ¬ p < n) : (p : Int) ≥ (n : Int) := Int.ofNat_le.mpr (Nat.le_of_not_lt h)
theorem lt3 {k : Nat} (h : (k : Int) < 3) : k = 0 ∨ k = 1 ∨ k = 2 := (by decide : ∀ k < 3, k = 0 ∨ k = 1 ∨ k = 2) k (Int.ofNat_lt.mp h)
theorem lt4 {k : Nat} (h : (k : Int) < 4) : k = 0 ∨ k = 1 ∨ k = 2 ∨ k = 3 := (by decide : ∀ k < 4, k = 0 ∨ k = 1 ∨ k = 2 ∨ k = 3) k (Int.ofNat_lt.mp h)
theorem le6 {a b : Nat} (h : a ≤ b) (hb : b ≤ 1000) : a ≤ 1000000 := Nat.le_trans h (Nat.le_trans hb (by decide))
theorem eq6 {a b : Nat} (h : a = b) (hb : b ≤ 1000) : a ≤ 1000000 := le6 (Nat.le_of_eq h) hb
theorem to6 {a : Nat} (h : a ≤ 1000) : a ≤ 1000000 := Nat.le_trans h (by decide)
theorem nilB {F : Addr → Prop} : ∀ b, F b → b ∉ ([] : List Addr) := fun _ _ => List.not_mem_nil
theorem ni1 {a b : Addr} (h : a ≠ b) : a ∉ [b] := fun z => h (List.mem_singleton.mp z)
noncomputable def strsOf (xs : List MV) : List String := xs.filterMap fun | .str s => some s | _ => none
section
variable {X : Cx} {n : Nat} {fe env : Env} {vars : Vars} {m : MH} {Q : MV → MH → Prop} {QB : Bool → MH → Prop} {QS : SRes → Vars → MH → Prop} {Ex : String → MH → Prop}
theorem lk_same (vars : Vars) (x : String) (v : MV) : (setv vars x v).lookup x = some v := by rw [setv_lookup, if_pos rfl]
theorem lk_other {vars : Vars} {x y : String} {v u : MV} (h : y ≠ x) (e : vars.lookup y = some v) : (setv vars x u).lookup y = some v := by rw [setv_lookup, if_neg h]; exact e
theorem none_and {P : Prop} (h : P) : MV.none = MV.none ∧ P := ⟨rfl, h⟩
theorem byK {K P : SRes → Vars → MH → Prop} (h : ∀ r v m, P r v m → K r v m) {r : SRes} {v : Vars} {m : MH} (q : P r v m) : K r v m := h _ _ _ q
theorem ts_consK {st : Stmt} {rest : List Stmt} (h : ∀ K : SRes → Vars → MH → Prop, (∀ r vars' m', (match r with | .next => TS X n fe env vars' (execs rest env) m' QS Ex | r => QS r vars' m') → K r vars' m') → TS X n fe env vars (exec st env) m K Ex) : TS X n fe env vars (execs (st :: rest) env) m QS Ex :=
  ts_cons (h _ fun _ _ _ z => z)
theorem ts_consB {body : List Stmt} {st : Stmt} {rest : List Stmt} (hb : body = st :: rest) (h : ∀ K : SRes → Vars → MH → Prop, (∀ r vars' m', (match r with | .next => TS X n fe env vars' (execs rest env) m' QS Ex | r => QS r vars' m') → K r vars' m') → TS X n fe env vars (exec st env) m K Ex) : TS X n fe env vars (execs body env) m QS Ex :=
  hb ▸ ts_consK h
theorem ts_consE {body : List Stmt} {st : Stmt} {rest : List Stmt} (hb : body = st :: rest) (h : TS X n fe env vars (exec st env) m (NextQ X n fe env rest QS Ex) Ex) : TS X n fe env vars (execs body env) m QS Ex :=
  hb ▸ ts_cons h
noncomputable abbrev RetK (Q : MV → MH → Prop) (K : SRes → Vars → MH → Prop) : Prop := ∀ r vars m', Q (retv r) m' → K r vars m'
theorem retK {K : SRes → Vars → MH → Prop} {v : MV} (h : RetK Q K) (q : Q (retv (.ret v)) m) : K (.ret v) vars m := h (.ret v) vars m q
theorem retN {K : SRes → Vars → MH → Prop} (h : RetK Q K) (q : Q (retv .next) m) : K .next vars m := h .next vars m q
theorem call_fnK {a : Addr} {sc : Scope} {qual : Str} {cd : Value} {ps : List String} {dm args : List MV} {body : List Stmt} (G : Glo X) (F : Fn X.w.params a sc qual cd ps dm body) (hlen : args.length + dm.length = ps.length)
    (h : ∀ (L : Addr) (K : SRes → Vars → MH → Prop), RetK Q K → TS X n (fnEnv sc qual a cd L) (fnEnv sc qual a cd L) (ps.zip (args ++ dm)) (execs body (fnEnv sc qual a cd L)) m K Ex) : CallOk X (n + 1) (.ref a) args m Q Ex :=
  call_fn G F hlen fun L => h L _ fun _ _ _ z => z
noncomputable abbrev ListU (Q : MV → MH → Prop) : List MV → MH → Prop := fun xs m => xs.length ≤ 1000000 ∧ ∀ a m', Upd [] m m' → m a = none → m' a = some (.list xs) → Q (.ref a) m'
noncomputable abbrev TupU (Q : MV → MH → Prop) : List MV → MH → Prop := fun xs m => xs.length ≤ 1000000 ∧ ∀ a m', Upd [] m m' → m a = none → m' a = some (.tup xs) → Q (.ref a) m'
theorem lenU {α : Type} {P : Prop} {xs : List α} {k : Nat} (h : xs.length.ble k = true) (q : P) : xs.length ≤ k ∧ P := ⟨Nat.le_of_ble_eq_true h, q⟩
theorem te_listU {es pos} (h : TEs X n fe env vars pos es m (ListU Q) Ex) : TE X n fe env vars (.List es pos) m Q Ex :=
  te_list (h.mono (fun xs m₁ q => ⟨q.1, fun a ha => q.2 a _ (.new ha) ha (MH.set_same _ _ _)⟩) fun _ _ z => z)
theorem te_tupleU {es k pos} (h : TEs X n fe env vars pos es m (TupU Q) Ex) : TE X n fe env vars (.Tuple es k pos) m Q Ex :=
  te_tuple (h.mono (fun xs m₁ q => ⟨q.1, fun a ha => q.2 a _ (.new ha) ha (MH.set_same _ _ _)⟩) fun _ _ z => z)
theorem in_tupS {x : String} {a : Addr} {xs : List MV} (hx : (strsOf xs).map .str = xs) (e : m a = some (.tup xs)) (h : Q (.bool (decide (x ∈ strsOf xs))) m) : CmpQ X n fe env vars .In (.str x) (.ref a) m Q Ex :=
  in_strs (.inr (by rw [hx]; exact e)) h
theorem notIn_tupS {x : String} {a : Addr} {xs : List MV} (hx : (strsOf xs).map .str = xs) (e : m a = some (.tup xs)) (h : Q (.bool (!decide (x ∈ strsOf xs))) m) : CmpQ X n fe env vars .NotIn (.str x) (.ref a) m Q Ex :=
  notIn_strs (.inr (by rw [hx]; exact e)) h
theorem clsOk_vec {x : Addr} {k : String} {i a : MV} (h : VecAt m x k i a) : ∀ y c dx as, MV.ref x = .ref y → m y = some (.inst c dx as) → clsOk c = true := fun y c dx as e q => by
  cases e; obtain ⟨_, _, z⟩ := h; rw [z] at q; cases q; rfl
theorem clsOk_null {x : Addr} (h : NullAt m x) : ∀ y c dx as, MV.ref x = .ref y → m y = some (.inst c dx as) → clsOk c = true := fun y c dx as e q => by
  cases e; obtain ⟨_, z⟩ := h; rw [z] at q; cases q; rfl
theorem vec_kind {x : Addr} {k : String} {i a : MV} (h : VecAt m x k i a) (q : Q (.str k) m) : AttrQ "kind" Q (.ref x) m :=
  ⟨clsOk_vec h, _, by obtain ⟨_, _, z⟩ := h; simp only [attrM, z]; rfl, q⟩
theorem vec_items {x : Addr} {k : String} {i a : MV} (h : VecAt m x k i a) (q : Q i m) : AttrQ "items" Q (.ref x) m :=
  ⟨clsOk_vec h, _, by obtain ⟨_, _, z⟩ := h; simp only [attrM, z]; rfl, q⟩
theorem vec_attrs {x : Addr} {k : String} {i a : MV} (h : VecAt m x k i a) (q : Q a m) : AttrQ "attrs" Q (.ref x) m :=
  ⟨clsOk_vec h, _, by obtain ⟨_, _, z⟩ := h; simp only [attrM, z]; rfl, q⟩
theorem vec_loose {x : Addr} {k : String} {i a : MV} (h : VecAt m x k i a) (q : Q (.bool false) m) : AttrQ "loose" Q (.ref x) m :=
  ⟨clsOk_vec h, _, by obtain ⟨_, _, z⟩ := h; simp only [attrM, z]; rfl, q⟩
theorem null_kind {x : Addr} (h : NullAt m x) (q : Q (.str "NULL") m) : AttrQ "kind" Q (.ref x) m :=
  ⟨clsOk_null h, _, by obtain ⟨_, z⟩ := h; simp only [attrM, z]; rfl, q⟩
theorem set_attrsU {x : Addr} {k : String} {i a : MV} (h : VecAt m x k i a) : ∃ dx as, m x = some (.inst cVector dx as) ∧ as.length ≤ 100 ∧ ∀ v, Upd [x] m (m.set x (.inst cVector dx (seta as "attrs" v))) ∧ VecAt (m.set x (.inst cVector dx (seta as "attrs" v))) x k i v := by
  obtain ⟨dx, sh, z⟩ := h
  exact ⟨dx, _, z, by show 5 ≤ 100; decide, fun v => ⟨.set, dx, sh, MH.set_same _ _ _⟩⟩
theorem set_sharedU {x : Addr} {k : String} {i a : MV} (h : VecAt m x k i a) : ∃ dx as, m x = some (.inst cVector dx as) ∧ as.length ≤ 100 ∧ ∀ b, Upd [] m (m.set x (.inst cVector dx (seta as "shared" (.bool b)))) := by
  obtain ⟨dx, sh, z⟩ := h
  exact ⟨dx, _, z, by show 5 ≤ 100; decide, fun b => .share z⟩
theorem isi_vec (G : Glo X) {x : Addr} {k : String} {i a : MV} (h : VecAt m x k i a) (q : Q (.bool true) m) : ∀ rvs, VRs [.ref x, .ref cVector] rvs → TV X n fe env vars (call (.builtin "isinstance") rvs []) m Q Ex := by
  obtain ⟨dx, sh, z⟩ := h
  exact isi_class G z rfl q
theorem isi_null (G : Glo X) {x : Addr} (h : NullAt m x) (q : Q (.bool false) m) : ∀ rvs, VRs [.ref x, .ref cVector] rvs → TV X n fe env vars (call (.builtin "isinstance") rvs []) m Q Ex := by
  obtain ⟨dx, z⟩ := h
  exact isi_class G z rfl q
theorem call_listU {a : Addr} {xs : List MV} (e : m a = some (.list xs)) (hs : xs.length ≤ 1000000) (q : ∀ b m', Upd [] m m' → m b = none → m' b = some (.list xs) → Q (.ref b) m') : ∀ rvs, VRs [.ref a] rvs → TV X n fe env vars (call (.type "list") rvs []) m Q Ex :=
  call_list e hs fun b hb => q b _ (.new hb) hb (MH.set_same _ _ _)
theorem call_dictU (G : Glo X) {a : Addr} {es : List (String × MV)} (e : m a = some (.sd es)) (hs : es.length ≤ 1000000) (q : ∀ b m', Upd [] m m' → m b = none → m' b = some (.sd es) → Q (.ref b) m') : ∀ rvs, VRs [.ref a] rvs → TV X n fe env vars (call (.type "dict") rvs []) m Q Ex :=
  call_dict G e hs fun b hb => q b _ (.new hb) hb (MH.set_same _ _ _)
noncomputable abbrev ExprA (vars : Vars) (Q : SRes → Vars → MH → Prop) : MV → MH → Prop := fun _ m => Q .next vars m
theorem ts_exprA {fe env : Env} {vars : Vars} {Q : SRes → Vars → MH → Prop} {Ex : String → MH → Prop} {e pos} (hi : interactive env = false) (hs : swapsWith e none pos.line env = pure false) (h : TE X n fe env vars e m (ExprA vars Q) Ex) : TS X n fe env vars (exec (.Expr e pos) env) m Q Ex := fun A s p =>
  wpAny_Expr_any (h.goS p (.refl ..) fun v m' rv s' r p' st' q1 => ts_end .next p' st' q1) hi hs
theorem te_neg {x pos} (h : TE X n fe env vars x m (fun a m₁ => ∃ i, a = .int i ∧ Q (.int (-i)) m₁) Ex) : TE X n fe env vars (.UnaryOp .USub x pos) m Q Ex := fun A s p =>
  wpAny_UnaryOp (h.go p (.refl ..) fun c m₁ rc s₁ r₁ p₁ st₁ hz => by
    obtain ⟨i, e, q⟩ := hz
    subst e
    cases r₁
    exact P.neg_int ⟨_, m₁, .int _ _, p₁.rel.tok, st₁, q⟩)
theorem of_if_pos {c : Bool} {p q : Prop} (h : c = true) (x : p) : if c then p else q := by rw [if_pos h]; exact x
theorem of_if_neg {c : Bool} {p q : Prop} (h : c = false) (x : q) : if c then p else q := by rw [h]; exact x
end
local macro_rules | `(tactic| walk_at "lk") => `(tactic| first | assumption | exact lk_same _ _ _ | exact lk_other (by decide) (by walk_at "lk"))
local macro_rules | `(tactic| walk_at "e") => `(tactic| first
  | ((with_reducible refine' te_var ?hd ?hl ?_); (case hd => decide +kernel); (case hl => first | exact rfl | walk_at "lk"))
  | (with_reducible first | refine te_str ?_ | refine te_int ?_ | refine te_none ?_ | refine te_bool ?_)
  | ((with_reducible refine' te_cmp ?hd ?_); (case hd => rfl))
  | (with_reducible first | refine te_bin ?_ | refine te_ifexp ?_ | refine te_not ?_ | refine te_neg ?_ | refine te_boolop ?_ | refine tbs_and ?_ | refine tbs_one ?_ | refine te_tupleU ?_ | refine te_listU ?_ | refine tes_nil ?_)
  | ((with_reducible refine' tes_cons ?hd ?_); (case hd => rfl))
  | ((with_reducible refine' te_attr ?hg ?hd ?hl ?_); (case hg => assumption); (case hd => decide +kernel); (case hl => rfl))
  | ((with_reducible refine' te_call ?hg ?ha ?hb ?hc ?hd ?he ?_); (case hg => assumption); (case ha => kernel_rfl); (case hb => decide +kernel); (case hc => exact rfl); (case hd => kernel_rfl); (case he => rfl))
  | ((with_reducible refine' te_call0 ?hg ?ha ?hb ?hc ?hd ?_); (case hg => assumption); (case ha => kernel_rfl); (case hb => decide +kernel); (case hc => exact rfl); (case hd => kernel_rfl))
  | ((with_reducible refine' te_bi ?hg ?ha ?hb ?hc ?he ?_); (case hg => assumption); (case ha => kernel_rfl); (case hb => decide +kernel); (case hc => exact rfl); (case he => rfl))
  | ((with_reducible refine' te_glob ?hg ?ha ?hb ?hc (.ref _) ?_); (case hg => assumption); (case ha => kernel_rfl); (case hb => decide +kernel); (case hc => exact rfl))
  | ((with_reducible refine' tb_cmp ?hd ?_); (case hd => rfl))
  | (with_reducible first | refine tb_not ?_ | refine tb_boolop ?_ | refine ta_and_cons ?_ | refine ta_or_cons ?_ | refine ta_and_nil ?_ | refine ta_or_nil ?_)
  | ((with_reducible refine' tb_value ?hd ?_); (case hd => exact fun _ => rfl))
  | (with_reducible first | refine ts_nil ?_ | refine ts_cons ?_ | refine ts_return ?_ | refine ts_return0 ?_ | refine ts_if ?_)
  | ((with_reducible refine' ts_assign ?ha ?hb ?_); (case ha => first | exact .inl (by kernel_rfl) | exact .inr ⟨by kernel_rfl, by kernel_rfl⟩); (case hb => rfl))
  | ((with_reducible refine' ts_setattr ?hg ?hd ?hb ?_); (case hg => assumption); (case hd => decide +kernel); (case hb => rfl))
  | ((with_reducible refine' ts_setitem ?hb ?_); (case hb => rfl))
  | ((with_reducible refine' ts_exprA ?ha ?hb ?_); (case ha => kernel_rfl); (case hb => rfl))
  | ((with_reducible refine' te_append ?ha ?hb ?hc ?_); (case ha => kernel_rfl); (case hb => kernel_rfl); (case hc => kernel_rfl))
  | ((with_reducible refine' te_extend ?ha ?hb ?hc ?_); (case ha => kernel_rfl); (case hb => kernel_rfl); (case hc => kernel_rfl))
  | ((with_reducible refine' ts_raise ?hg ?ha ?hb ?_); (case hg => assumption); (case ha => kernel_rfl); (case hb => rfl))
  | ((with_reducible refine' te_sub ?hg ?hd ?_); (case hg => assumption); (case hd => rfl))
  | ((with_reducible refine' ts_consE ?hb ?_); (case hb => exact rfl)))
local macro_rules | `(tactic| walk_at "c") => `(tactic| first
  | (with_reducible first | exact (rfl : (_ : MV) = _) | refine ⟨_, rfl, ?_⟩ | refine nextQ ?_ | refine nextR ?_ | refine retK (by assumption) ?_ | refine retN (by assumption) ?_ | refine isB ?_ | refine notV ?_ | refine byK (by assumption) ?_ | refine none_and ?_ | refine vec_kind (by assumption) ?_ | refine vec_items (by assumption) ?_ | refine vec_attrs (by assumption) ?_ | refine vec_loose (by assumption) ?_ | refine null_kind (by assumption) ?_ | refine cmp_eqS ?_ | refine cmp_neS ?_ | refine cmp_isNone ?_ | refine cmp_isNotNone ?_ | refine cmp_eqI ?_ | refine cmp_ltI ?_ | refine cmp_leI ?_ | refine cmp_gtI ?_ | refine cmp_geI ?_ | refine in_tupS (by kernel_rfl) (by assumption) ?_ | refine notIn_tupS (by kernel_rfl) (by assumption) ?_ | refine bin_add ?_ | refine bin_sub ?_)
  | ((with_reducible first | refine' ifQ_pos ?hh ?_ | refine' ifE_pos ?hh ?_ | refine' orB_pos ?hh ?_ | refine' andB_pos ?hh ?_ | refine' andV_pos ?hh ?_ | refine' of_if_pos ?hh ?_); (case hh => first | decide | rfl))
  | ((with_reducible first | refine' ifQ_neg ?hh ?_ | refine' ifE_neg ?hh ?_ | refine' orB_neg ?hh ?_ | refine' andB_neg ?hh ?_ | refine' andV_neg ?hh ?_ | refine' of_if_neg ?hh ?_); (case hh => first | decide | rfl)))
local macro_rules | `(tactic| walk_at "w") => `(tactic| (repeat' (first | walk_at "e" | walk_at "c" | (dsimp only))))
local macro_rules | `(tactic| walk_at "k") => `(tactic| (repeat (first | (with_reducible refine nextQ ?_) | (with_reducible refine nextR ?_) | (with_reducible refine retK (by assumption) ?_) | (with_reducible refine retN (by assumption) ?_) | ((with_reducible refine byK (by assumption) ?_); (try dsimp only)))))
local macro_rules | `(tactic| walk_at "t") => `(tactic| first | refine ifQ_pos (by assumption) ?_ | refine andB_pos (by assumption) ?_ | refine orB_pos (by assumption) ?_ | refine ifE_pos (by assumption) ?_ | refine andV_pos (by assumption) ?_ | rw [(by assumption : _ = true)])
local macro_rules | `(tactic| walk_at "f") => `(tactic| first | refine ifQ_neg (by assumption) ?_ | refine andB_neg (by assumption) ?_ | refine orB_neg (by assumption) ?_ | refine ifE_neg (by assumption) ?_ | refine andV_neg (by assumption) ?_ | rw [(by assumption : _ = false)])

section
variable {X : Cx} {n : Nat} {m : MH}
theorem c_is_list_kind (G : Glo X) (k : String) : CallOk X 1 (.ref v_is_list_kind) [.str k] m (fun v m' => v = .bool (decide (k ∈ ["list", "expression", "pairlist"])) ∧ Upd [] m m') FE := by
  refine call_fnK G (f_is_list_kind _) rfl fun L K hK => ?_
  walk_at "w"
  refine lenU rfl (fun a m' u _ ha => in_tupS rfl ha ?_)
  walk_at "k"
  exact ⟨rfl, u⟩
theorem c_is_vector (G : Glo X) {x : Addr} {k : String} {i a : MV} (h : VecAt m x k i a) : CallOk X 1 (.ref v_is_vector) [.ref x] m (fun v m' => v = .bool true ∧ Upd [] m m') FE := by
  refine call_fnK G (f_is_vector _) rfl fun L K hK => ?_
  walk_at "w"
  exact isi_vec G h (by walk_at "k"; exact ⟨rfl, .refl _ _⟩)
theorem c_is_atomic (G : Glo X) {x : Addr} {k : String} {i a : MV} (h : VecAt m x k i a) : CallOk X 1 (.ref v_is_atomic) [.ref x] m (fun v m' => v = .bool (decide (k ∈ ["logical", "integer", "double", "character"])) ∧ Upd [] m m') FE := by
  refine call_fnK G (f_is_atomic _) rfl fun L K hK => ?_
  walk_at "w"
  refine lenU rfl (fun a m' u _ ha => in_tupS rfl ha ?_)
  walk_at "k"
  exact ⟨rfl, u⟩
theorem c_is_atomic_kind (G : Glo X) (k : String) : CallOk X 1 (.ref v_is_atomic_kind) [.str k] m (fun v m' => v = .bool (decide (k ∈ ["logical", "integer", "double", "character"])) ∧ Upd [] m m') FE := by
  refine call_fnK G (f_is_atomic_kind _) rfl fun L K hK => ?_
  walk_at "w"
  refine lenU rfl (fun a m' u _ ha => in_tupS rfl ha ?_)
  walk_at "k"
  exact ⟨rfl, u⟩
theorem c_share_vec (G : Glo X) {x : Addr} {k : String} {i a : MV} (h : VecAt m x k i a) : CallOk X 1 (.ref v_share) [.ref x] m (fun v m' => v = .ref x ∧ Upd [] m m') FE := by
  refine call_fnK G (f_share _) rfl fun L K hK => ?_
  walk_at "w"
  refine isi_vec G h ?_
  walk_at "w"
  obtain ⟨dx, as, z, hl, u⟩ := set_sharedU h
  refine ⟨x, _, dx, as, rfl, z, rfl, hl, ?_⟩
  replace u := u true
  generalize m.set x _ = m' at u ⊢
  walk_at "w"
  walk_at "k"
  exact ⟨rfl, u⟩
theorem c_share_null (G : Glo X) {x : Addr} (h : NullAt m x) : CallOk X 1 (.ref v_share) [.ref x] m (fun v m' => v = .ref x ∧ Upd [] m m') FE := by
  refine call_fnK G (f_share _) rfl fun L K hK => ?_
  walk_at "w"
  refine isi_null G h ?_
  walk_at "w"
  walk_at "k"
  exact ⟨rfl, .refl _ _⟩
end

section
variable {X : Cx} {n : Nat} {m : MH}
theorem mk_facts (P : Params) : makesIn (KK P) 92 = true ∧ findIn (KK P) (.ref 92) "__init__" = some (some (.ref v_Vectorinit)) ∧ typeIn (KK P) (.ref v_Vectorinit) = some (.type "function") ∧ makesIn (KK P) 63 = true ∧ findIn (KK P) (.ref 63) "__init__" = some (some (.ref v_Nullinit)) ∧ typeIn (KK P) (.ref v_Nullinit) = some (.type "function") := ⟨by kernel_rfl, by kernel_rfl, by kernel_rfl, by kernel_rfl, by kernel_rfl, by kernel_rfl⟩
theorem seta_vec (k : String) (i a : MV) : seta (seta (seta (seta (seta [] "kind" (.str k)) "items" i) "attrs" a) "shared" (.bool false)) "loose" (.bool false) = vecAs k i a false := by simp [seta, setv, vecAs]
theorem seta_null : seta (seta [] "kind" (.str "NULL")) "attrs" .none = nullAs := by simp [seta, setv, nullAs]
/-- a new Vector -/
noncomputable def NewVec (m : MH) (k : String) (i a : MV) (v : MV) (m' : MH) : Prop := ∃ x, v = .ref x ∧ m x = none ∧ VecAt m' x k i a ∧ Upd [] m m'
theorem t_Vector (G : Glo X) {x dx : Addr} (k : String) (i a : MV) (hx : m x = none) (L : Addr) : TS X 0 (e_Vectorinit L) (e_Vectorinit L) [("self", .ref x), ("kind", .str k), ("items", i), ("attrs", a)] (execs (fBody (sc 6 0)) (e_Vectorinit L)) (m.set x (.inst cVector dx [])) (fun r _ m' => retv r = .none ∧ VecAt m' x k i a ∧ Upd [] m m') FE := by
  have u0 : Upd [x] m (m.set x (.inst cVector dx [])) := .set
  have e0 := MH.set_same m x (.inst cVector dx [])
  generalize m.set x (.inst cVector dx []) = m0 at u0 e0 ⊢
  walk_at "w"
  refine ⟨x, _, dx, _, rfl, e0, rfl, by decide, ?_⟩
  have u1 := u0.trans (Upd.set (m := m0) (a := x) (o := .inst cVector dx (seta [] "kind" (.str k))))
  have e1 := MH.set_same m0 x (.inst cVector dx (seta [] "kind" (.str k)))
  generalize m0.set x _ = m1 at u1 e1 ⊢
  walk_at "w"
  refine ⟨x, _, dx, _, rfl, e1, rfl, by show 1 ≤ 100; decide, ?_⟩
  replace u1 := u1.trans (Upd.set (m := m1) (a := x) (o := .inst cVector dx (seta (seta [] "kind" (.str k)) "items" i)))
  have e2 := MH.set_same m1 x (.inst cVector dx (seta (seta [] "kind" (.str k)) "items" i))
  generalize m1.set x _ = m2 at u1 e2 ⊢
  walk_at "w"
  refine ⟨x, _, dx, _, rfl, e2, rfl, by show 2 ≤ 100; decide, ?_⟩
  replace u1 := u1.trans (Upd.set (m := m2) (a := x) (o := .inst cVector dx (seta (seta (seta [] "kind" (.str k)) "items" i) "attrs" a)))
  have e3 := MH.set_same m2 x (.inst cVector dx (seta (seta (seta [] "kind" (.str k)) "items" i) "attrs" a))
  generalize m2.set x _ = m3 at u1 e3 ⊢
  walk_at "w"
  refine ⟨x, _, dx, _, rfl, e3, rfl, by show 3 ≤ 100; decide, ?_⟩
  replace u1 := u1.trans (Upd.set (m := m3) (a := x) (o := .inst cVector dx (seta (seta (seta (seta [] "kind" (.str k)) "items" i) "attrs" a) "shared" (.bool false))))
  have e4 := MH.set_same m3 x (.inst cVector dx (seta (seta (seta (seta [] "kind" (.str k)) "items" i) "attrs" a) "shared" (.bool false)))
  generalize m3.set x _ = m4 at u1 e4 ⊢
  walk_at "w"
  refine ⟨x, _, dx, _, rfl, e4, rfl, by show 4 ≤ 100; decide, ?_⟩
  rw [seta_vec]
  walk_at "w"
  exact ⟨rfl, ⟨dx, false, MH.set_same _ _ _⟩, (u1.trans Upd.set).shut1 hx⟩
theorem c_Vector (G : Glo X) (k : String) (i a : MV) : CallOk X 2 (.ref 92) [.str k, i, a] m (NewVec m k i a) FE :=
  call_cls G (mk_facts _).1 (mk_facts _).2.1 (mk_facts _).2.2.1 fun x dx hx hdx hne => (call_fn (Q := fun v m' => v = .none ∧ VecAt m' x k i a ∧ Upd [] m m') G (f_Vectorinit _) rfl fun L => t_Vector G k i a hx L).mono (fun v m' hz => ⟨hz.1, x, rfl, hx, hz.2.1, hz.2.2⟩) fun _ _ z => z
theorem c_Vector1 (G : Glo X) (k : String) (i : MV) : CallOk X 2 (.ref 92) [.str k, i] m (NewVec m k i .none) FE :=
  call_cls G (mk_facts _).1 (mk_facts _).2.1 (mk_facts _).2.2.1 fun x dx hx hdx hne => (call_fn (Q := fun v m' => v = .none ∧ VecAt m' x k i .none ∧ Upd [] m m') G (f_Vectorinit1 _) rfl fun L => t_Vector G k i .none hx L).mono (fun v m' hz => ⟨hz.1, x, rfl, hx, hz.2.1, hz.2.2⟩) fun _ _ z => z
noncomputable def NewNull (m : MH) (v : MV) (m' : MH) : Prop := ∃ x, v = .ref x ∧ m x = none ∧ NullAt m' x ∧ Upd [] m m'
theorem c_Null (G : Glo X) : CallOk X 2 (.ref 63) [] m (NewNull m) FE := by
  refine call_cls G (mk_facts _).2.2.2.1 (mk_facts _).2.2.2.2.1 (mk_facts _).2.2.2.2.2 fun x dx hx hdx hne => ?_
  refine call_fnK G (f_Nullinit _) rfl fun L K hK => ?_
  have u0 : Upd [x] m (m.set x (.inst 63 dx [])) := .set
  have e0 := MH.set_same m x (.inst 63 dx [])
  generalize m.set x (.inst 63 dx []) = m0 at u0 e0 ⊢
  walk_at "w"
  refine ⟨x, _, dx, _, rfl, e0, rfl, by decide, ?_⟩
  have u1 := u0.trans (Upd.set (m := m0) (a := x) (o := .inst 63 dx (seta [] "kind" (.str "NULL"))))
  have e1 := MH.set_same m0 x (.inst 63 dx (seta [] "kind" (.str "NULL")))
  generalize m0.set x _ = m1 at u1 e1 ⊢
  walk_at "w"
  refine ⟨x, _, dx, _, rfl, e1, rfl, by show 1 ≤ 100; decide, ?_⟩
  rw [seta_null]
  walk_at "w"
  walk_at "k"
  exact ⟨rfl, x, rfl, hx, ⟨dx, MH.set_same _ _ _⟩, (u1.trans Upd.set).shut1 hx⟩
/-- the copied attributes: none, or a dict of their own -/
noncomputable def AtNew (m0 m : MH) (a : MV) : Option Addr → Prop
  | none => a = .none
  | some v => ∃ d, a = .ref d ∧ m0 d = none ∧ m d = some (.sd [("names", .ref v)])
noncomputable def AtAt (m : MH) (a : MV) : Option Addr → Prop
  | none => a = .none
  | some v => ∃ d, a = .ref d ∧ m d = some (.sd [("names", .ref v)])
theorem AtAt.upd {m m' : MH} {a : MV} {vn : Option Addr} (u : Upd [] m m') (h : AtAt m a vn) : AtAt m' a vn := by
  cases vn with
  | none => exact h
  | some v => obtain ⟨d, e, hd⟩ := h; exact ⟨d, e, u.sd hd⟩
theorem c_copy (G : Glo X) {x l : Addr} {k : String} {a : MV} {xs : List MV} {vn : Option Addr} (h : VecAt m x k (.ref l) a) (hl : m l = some (.list xs)) (hs : xs.length ≤ 1000000) (ha : AtAt m a vn) :
    CallOk X 3 (.ref 89) [.ref x] m (fun v m' => ∃ y l' a', v = .ref y ∧ m y = none ∧ m l' = none ∧ VecAt m' y k (.ref l') a' ∧ m' l' = some (.list xs) ∧ AtNew m m' a' vn ∧ Upd [] m m') FE := by
  refine call_fnK G (f_Vectorcopy _) rfl fun L K hK => ?_
  cases vn with
  | none =>
    cases ha
    walk_at "w"
    refine call_listU hl hs fun b m1 u1 hb hb' => ?_
    walk_at "w"
    exact (c_Vector G _ _ _).use (by decide) (fun _ _ z => z) fun v m' hz => by obtain ⟨y, e, hy, hv, u⟩ := hz; walk_at "k"; exact ⟨y, b, _, e, u1.none' hy, hb, hv, u.list hb', rfl, u1.trans u⟩
  | some w =>
    obtain ⟨d, rfl, hd⟩ := ha
    walk_at "w"
    refine call_dictU G hd (by show 1 ≤ _; decide) fun b1 m1 u1 hb1 hb1' => ?_
    have h1 := u1.vec h
    have hl1 := u1.list hl
    walk_at "w"
    refine call_listU hl1 hs fun b m2 u2 hb hb' => ?_
    have h2 := u2.vec h1
    walk_at "w"
    exact (c_Vector G _ _ _).use (by decide) (fun _ _ z => z) fun v m' hz => by obtain ⟨y, e, hy, hv, u⟩ := hz; walk_at "k"; exact ⟨y, b, _, e, (u1.trans u2).none' hy, u1.none' hb, hv, u.list hb', ⟨b1, rfl, hb1, u.sd (u2.sd hb1')⟩, (u1.trans u2).trans u⟩
theorem c_own (G : Glo X) {x l : Addr} {k : String} {a : MV} {xs : List MV} {vn : Option Addr} (h : VecAt m x k (.ref l) a) (hl : m l = some (.list xs)) (hs : xs.length ≤ 1000000) (ha : AtAt m a vn) :
    CallOk X 4 (.ref v_own) [.ref x] m (fun v m' => ∃ y l' a', v = .ref y ∧ m y = none ∧ m l' = none ∧ VecAt m' y k (.ref l') a' ∧ m' l' = some (.list xs) ∧ AtNew m m' a' vn ∧ Upd [] m m') FE := by
  refine call_fnK G (f_own _) rfl fun L K hK => ?_
  walk_at "w"
  obtain ⟨dx, sh, z⟩ := id h
  refine te_copy G (by rfl) ?_
  walk_at "w"
  refine ⟨x, dx, _, rfl, z, by simp [vecAs], by simp [vecAs], (c_copy G h hl hs ha).use (by decide) (fun _ _ z => z) fun v m' q => by walk_at "k"; exact q⟩
theorem c_character (G : Glo X) {l : Addr} {xs : List MV} (hl : m l = some (.list xs)) (hs : xs.length ≤ 1000000) :
    CallOk X 3 (.ref v_character) [.ref l] m (fun v m' => ∃ y l', v = .ref y ∧ m y = none ∧ m l' = none ∧ VecAt m' y "character" (.ref l') .none ∧ m' l' = some (.list xs) ∧ Upd [] m m') FE := by
  refine call_fnK G (f_character _) rfl fun L K hK => ?_
  walk_at "w"
  refine call_listU hl hs fun b m1 u1 hb hb' => ?_
  walk_at "w"
  exact (c_Vector1 G _ _).use (by decide) (fun _ _ z => z) fun v m' hz => by obtain ⟨y, e, hy, hv, u⟩ := hz; walk_at "k"; exact ⟨y, b, e, u1.none' hy, hb, hv, u.list hb', u1.trans u⟩
theorem c_length_vec (G : Glo X) {x l : Addr} {k : String} {a : MV} {xs : List MV} (h : VecAt m x k (.ref l) a) (hk : k = "integer" ∨ k = "list") (hl : m l = some (.list xs)) (hs : xs.length ≤ 1000000) : CallOk X 1 (.ref v_length) [.ref x] m (fun v m' => v = .int xs.length ∧ Upd [] m m') FE := by
  refine call_fnK G (f_length _) rfl fun L K hK => ?_
  have hk' : k ≠ "NULL" := by rintro rfl; rcases hk with h | h <;> simp at h
  walk_at "w"
  refine ifQ_neg (by first | exact ni1 hk' | simpa using hk') ?_
  walk_at "w"
  refine isi_vec G h ?_
  walk_at "w"
  exact call_len G (k := xs.length) (by simp [lenM, hl]) hs (by walk_at "k"; exact ⟨rfl, .refl _ _⟩)
theorem c_length_null (G : Glo X) {x : Addr} (h : NullAt m x) : CallOk X 1 (.ref v_length) [.ref x] m (fun v m' => v = .int 0 ∧ Upd [] m m') FE := by
  refine call_fnK G (f_length _) rfl fun L K hK => ?_
  walk_at "w"
  walk_at "k"
  exact ⟨rfl, .refl _ _⟩
theorem c_room (G : Glo X) {k : Int} (hk : k ≤ 1000000) : CallOk X 1 (.ref v_room) [.int k] m (fun v m' => v = .int k ∧ Upd [] m m') FE := by
  refine call_fnK G (f_room _) rfl fun L K hK => ?_
  walk_at "w"
  refine te_glob (u := .int 1000000) G (by kernel_rfl) (by decide +kernel) rfl (.int _ _) ?_
  walk_at "w"
  refine ifQ_neg (by first | exact ni1 hk | simpa using hk) ?_
  walk_at "w"
  walk_at "k"
  exact ⟨rfl, .refl _ _⟩
end

section
variable {X : Cx} {n : Nat} {fe env : Env} {vars : Vars} {m : MH} {Ex : String → MH → Prop}
theorem compU {elt iter : PySem.Expr} {x : String} {scope : Scope} {capt : List String} {Q : Addr → MH → Prop} (B : List Addr) (R : Addr → Nat → MV → MH → Prop) (hR : ∀ D i u m m', Upd (D :: B) m m' → R D i u m → R D i u m')
    (h : TI X n fe env vars iter m (fun N v P m₁ => N ≤ 1000000 ∧ (∀ b ∈ B, m₁ b ≠ none) ∧ (∀ m', Upd B m₁ m' → P m') ∧
      (∀ D i m' C, i < N → m₁ D = none → m' D ≠ none → Upd B m₁ m' → TE X n fe (cEnv scope C env) ((x, v i) :: captv vars capt) elt m' (fun u m'' => Upd B m' m'' ∧ R D i u m'') FE) ∧
      ∀ D ys m', m₁ D = none → Upd B m₁ m' → m' D = some (.list ys) → ys.length = N → (∀ i u, ys[i]? = some u → R D i u m') → Q D m') Ex) : CompTI X n fe env vars elt iter x scope capt m Q Ex := fun A s p => by
  refine wpAny_mono (h A s p) (fun xv s₁ h₁ => wpAny_mono h₁ (fun itv s₂ h₂ => ?_) fun _ _ z => z) fun _ _ z => z
  obtain ⟨I, N, v, P, St, m₁, e, hsrc, hst, r, st, hI, hIo, hP, hN, hB, hPu, turn, fin⟩ := h₂
  refine ⟨I, N, v, P, St, m₁, e, hsrc, hst, r, st, hI, hIo, hP, hN, fun D hD => ⟨fun i ys m' => Upd B m₁ m' ∧ ∀ j u, ys[j]? = some u → R D j u m', ⟨(Upd.new hD).any, fun j u z => by simp at z⟩, fun i ys m' C hi hv hP' hD' hyl => ?_, fun ys m' hl hv hD' => fin D ys m' hD hv.1 hD' hl hv.2⟩⟩
  have hDB : D ∉ B := fun z => hB D z hD
  refine (turn D i m' C hi hD (by rw [hD']; simp) hv.1).mono (fun u m'' hz => ?_) fun _ _ z => z
  obtain ⟨u1, hr⟩ := hz
  have hD'' := u1.list hD' hDB
  have u2 : Upd (D :: B) m'' (m''.set D (.list (ys ++ [u]))) := Upd.set.mono fun b hb => by rw [List.mem_singleton.mp hb]; exact .head _
  have uB : Upd B m₁ m'' := hv.1.trans u1
  refine ⟨hD'', hPu _ uB, ?_, fun j w z => ?_⟩
  · exact (((hv.1.trans u1).mono fun b hb => List.mem_cons_of_mem D hb).trans u2).shut fun b hb => by
      rcases List.mem_cons.mp hb with rfl | hb
      · exact .inr hD
      · exact .inl hb
  · by_cases q : j < ys.length
    · rw [List.getElem?_append_left q] at z
      exact hR D j w _ _ u2 (hR D j w _ _ (u1.mono fun b hb => List.mem_cons_of_mem D hb) (hv.2 j w z))
    · rw [List.getElem?_append_right (by lia)] at z
      have : j = ys.length := by
        have := (List.getElem?_eq_some_iff.mp z).1
        simp at this; lia
      subst this
      simp at z
      subst z
      rw [hyl]
      exact hR D i u _ _ u2 hr
end
section
variable {X : Cx} {n : Nat} {m : MH}
noncomputable def nameV (vn : Option Addr) (name : String) : MV := match vn with
  | none => .none
  | some w => if name = "names" then .ref w else .none
theorem c_get_attr (G : Glo X) {x : Addr} {k : String} {i a : MV} {vn : Option Addr} (name : String) (h : VecAt m x k i a) (ha : AtAt m a vn) : CallOk X 1 (.ref v_get_attr) [.ref x, .str name] m (fun v m' => v = nameV vn name ∧ Upd [] m m') FE := by
  refine call_fnK G (f_get_attr _) rfl fun L K hK => ?_
  cases vn with
  | none =>
    cases ha
    walk_at "w"
    walk_at "k"
    exact ⟨rfl, .refl _ _⟩
  | some w =>
    obtain ⟨d, rfl, hd⟩ := ha
    walk_at "w"
    refine te_get1 G (by rfl) (by rfl) (by rfl) ?_
    walk_at "w"
    refine ⟨⟨_, hd⟩, ?_⟩
    walk_at "w"
    refine ⟨_, _, rfl, hd, ?_⟩
    walk_at "k"
    refine ⟨?_, .refl _ _⟩
    show ((List.lookup name [("names", MV.ref w)]).getD .none) = _
    unfold nameV
    rw [List.lookup_cons]
    by_cases q : name = "names"
    · subst q; rfl
    · have q' : (name == "names") = false := by simpa using q
      rw [q']; simp [q]
theorem c_dim_of (G : Glo X) {x : Addr} {k : String} {i a : MV} {vn : Option Addr} (h : VecAt m x k i a) (ha : AtAt m a vn) : CallOk X 2 (.ref v_dim_of) [.ref x] m (fun v m' => v = .none ∧ Upd [] m m') FE := by
  refine call_fnK G (f_dim_of _) rfl fun L K hK => ?_
  walk_at "w"
  refine (c_get_attr G "dim" h ha).use (by decide) (fun _ _ z => z) fun v m' hz => ?_
  obtain ⟨e, u⟩ := hz
  have e' : v = .none := by rw [e]; cases vn <;> rfl
  subst e'
  walk_at "w"
  walk_at "k"
  exact ⟨rfl, u⟩
noncomputable def NmL (m0 m : MH) (v : MV) : Option (List String) → Prop
  | none => v = .none
  | some ss => ∃ b, v = .ref b ∧ m0 b = none ∧ m b = some (.list (ss.map .str))
theorem NmAt.at {F : Addr → Prop} {a : MV} {nm : Option (List String)} (h : NmAt F m a nm) : ∃ vn, AtAt m a vn ∧ match nm, vn with | none, none => True | some ss, some w => F w ∧ ∃ l, VecAt m w "character" (.ref l) .none ∧ F l ∧ m l = some (.list (ss.map .str)) | _, _ => False := by
  cases nm with
  | none => exact ⟨none, h, trivial⟩
  | some ss =>
    obtain ⟨d, v, l, e, fd, hd, fv, hv, fl, hl⟩ := h
    walk_at "k"
    exact ⟨some v, ⟨d, e, hd⟩, fv, l, hv, fl, hl⟩
theorem c_names_of (G : Glo X) {F : Addr → Prop} {x : Addr} {k : String} {i a : MV} {nm : Option (List String)} (h : VecAt m x k i a) (hk : k = "integer" ∨ k = "list") (hn : NmAt F m a nm) (hs : ∀ ss, nm = some ss → ss.length ≤ 1000000) :
    CallOk X 3 (.ref v_names_of) [.ref x] m (fun v m' => NmL m m' v nm ∧ Upd [] m m') FE := by
  refine call_fnK G (f_names_of _) rfl fun L K hK => ?_
  obtain ⟨vn, ha, hw⟩ := hn.at
  have h1 : k ≠ "language" := by rintro rfl; rcases hk with h | h <;> simp at h
  have h2 : k ≠ "environment" := by rintro rfl; rcases hk with h | h <;> simp at h
  walk_at "w"
  refine ifQ_neg (by first | exact ni1 h1 | simpa using h1) ?_
  walk_at "w"
  refine ifQ_neg (by first | exact ni1 h2 | simpa using h2) ?_
  walk_at "w"
  refine (c_dim_of G h ha).u01 (by decide) (fun _ _ z => z) fun m1 u1 => ?_
  walk_at "w"
  refine (c_get_attr G "names" (u1.vec h) (ha.upd u1)).u01 (by decide) (fun _ _ z => z) fun m2 u2 => ?_
  have u := u1.trans u2
  cases nm with
  | none =>
    cases vn with
    | some _ => exact hw.elim
    | none =>
      walk_at "w"
      walk_at "k"
      exact ⟨rfl, u⟩
  | some ss =>
    cases vn with
    | none => exact hw.elim
    | some w =>
      obtain ⟨_, l, hv, _, hl⟩ := hw
      have hv' := u.vec hv
      have e : nameV (some w) "names" = .ref w := rfl
      rw [e]
      walk_at "w"
      refine call_listU (u.list hl) (by simpa using hs ss rfl) fun b m3 u3 hb hb' => ?_
      walk_at "k"
      exact ⟨⟨b, rfl, u.none' hb, hb'⟩, u.trans u3⟩
end

theorem setM_sd {m : MH} {x : Addr} {es : List (String × MV)} {k : String} {v : MV} (h : m x = some (.sd es)) (hl : es.length ≤ 1000000) : setM m (.ref x) (.str k) v = some (m.set x (.sd (sstored es k v))) := by simp only [setM, h, hl, if_true]
theorem setM_idd {m : MH} {x : Addr} {es : List (Int × MV)} {k : Int} {v : MV} (h : m x = some (.idd es)) (hl : es.length ≤ 1000000) : setM m (.ref x) (.int k) v = some (m.set x (.idd (istored es k v))) := by simp only [setM, h, hl, if_true]
theorem setM_list {m : MH} {x : Addr} {xs : List MV} {k : Int} {v : MV} (h : m x = some (.list xs)) (h0 : 0 ≤ k) (h1 : k < xs.length) (hl : xs.length ≤ 1000000) : setM m (.ref x) (.int k) v = some (m.set x (.list (xs.set k.toNat v))) := by
  have h2 : (0 ≤ k ∧ k < (xs.length : Int) ∧ xs.length ≤ 1000000) := ⟨h0, h1, hl⟩
  simp only [setM, h]
  rw [if_pos h2]
theorem getM_list' {m : MH} {l : Addr} {xs : List MV} {i : Int} {v : MV} (h : m l = some (.list xs)) (h0 : 0 ≤ i) (h1 : i < 2 ^ 31) (e : xs[i.toNat]? = some v) : getM m (.ref l) (.int i) = some v := by
  simp only [getM, h]; rw [if_pos ⟨h0, h1⟩]; exact e
theorem getM_tup' {m : MH} {l : Addr} {xs : List MV} {i : Int} {v : MV} (h : m l = some (.tup xs)) (h0 : 0 ≤ i) (h1 : i < 2 ^ 31) (e : xs[i.toNat]? = some v) : getM m (.ref l) (.int i) = some v := by
  simp only [getM, h]; rw [if_pos ⟨h0, h1⟩]; exact e
section
variable {X : Cx} {n : Nat} {m : MH}
theorem c_drop_attr (G : Glo X) {x : Addr} {k : String} {i a : MV} {vn : Option Addr} {name : String} (hn : name ≠ "names") (h : VecAt m x k i a) (ha : AtAt m a vn) : CallOk X 1 (.ref v_drop_attr) [.ref x, .str name] m (fun v m' => v = .none ∧ Upd [] m m') FE := by
  refine call_fnK G (f_drop_attr _) rfl fun L K hK => ?_
  cases vn with
  | none =>
    cases ha
    walk_at "w"
    walk_at "k"
    exact ⟨rfl, .refl _ _⟩
  | some w =>
    obtain ⟨d, rfl, hd⟩ := ha
    walk_at "w"
    refine in_sd G hd ?_
    refine ⟨_, rfl, ?_⟩
    have e : (List.lookup name [("names", MV.ref w)]).isSome = false := by
      rw [List.lookup_cons]
      have q' : (name == "names") = false := by simpa using hn
      rw [q']; rfl
    rw [e]
    walk_at "w"
    walk_at "k"
    exact ⟨rfl, .refl _ _⟩
theorem c_put_attr (G : Glo X) {x w l : Addr} {k : String} {i a : MV} {vn : Option Addr} (h : VecAt m x k i a) (ha : AtAt m a vn) (hw : VecAt m w "character" (.ref l) .none) (hwx : w ≠ x) (hd' : ∀ d, a = .ref d → d ≠ x) (hwd : ∀ d, a = .ref d → d ≠ w) :
    CallOk X 2 (.ref v_put_attr) [.ref x, .str "names", .ref w] m (fun v m' => ∃ d, v = .none ∧ VecAt m' x k i (.ref d) ∧ m' d = some (.sd [("names", .ref w)]) ∧ (m d = none ∨ a = .ref d) ∧ Upd [x, d] m m') FE := by
  refine call_fnK G (f_put_attr _) rfl fun L K hK => ?_
  cases vn with
  | none =>
    cases ha
    walk_at "w"
    with_reducible refine te_dict0s fun d hd => ?_
    have u1 : Upd [] m (m.set d (.sd [])) := .new hd
    have hd1 := MH.set_same m d (.sd [])
    generalize m.set d (.sd []) = m1 at u1 hd1 ⊢
    have h1 := u1.vec h
    walk_at "w"
    obtain ⟨dx, as, z, hl, u2⟩ := set_attrsU h1
    refine ⟨x, _, dx, as, rfl, z, rfl, hl, ?_⟩
    obtain ⟨u2, h2⟩ := u2 (.ref d)
    have hxd : d ≠ x := fun q => by subst q; obtain ⟨_, _, q⟩ := h; rw [hd] at q; cases q
    have hwd : d ≠ w := fun q => by subst q; obtain ⟨_, _, q⟩ := hw; rw [hd] at q; cases q
    generalize m1.set x _ = m2 at u2 h2 ⊢
    walk_at "w"
    refine (c_share_vec G (u2.vec (u1.vec hw) (by first | exact ni1 hwx | simpa using hwx))).u01 (by decide) (fun _ _ z => z) fun m3 u3 => ?_
    have h3 := u3.vec h2
    have hd3 := u3.sd (u2.sd hd1 (by first | exact ni1 hxd | simpa using hxd))
    walk_at "w"
    refine ⟨_, setM_sd hd3 (Nat.zero_le _), ?_⟩
    walk_at "w"
    have u4 : Upd [d] m3 (m3.set d (.sd (sstored [] "names" (.ref w)))) := .set
    refine ⟨d, rfl, u4.vec h3 (by first | exact ni1 (Ne.symm hxd) | simpa using Ne.symm hxd), MH.set_same _ _ _, .inl hd, ?_⟩
    exact (((u1.any (B := [x, d])).trans (u2.mono fun b hb => by rw [List.mem_singleton.mp hb]; simp)).trans u3.any).trans (u4.mono fun b hb => by rw [List.mem_singleton.mp hb]; simp)
  | some w0 =>
    obtain ⟨d, rfl, hd⟩ := ha
    have hxd := hd' d rfl
    walk_at "w"
    refine (c_share_vec G hw).u01 (by decide) (fun _ _ z => z) fun m3 u3 => ?_
    have h3 := u3.vec h
    have hd3 := u3.sd hd
    walk_at "w"
    refine ⟨_, setM_sd hd3 (by show 1 ≤ _; decide), ?_⟩
    walk_at "w"
    have u4 : Upd [d] m3 (m3.set d (.sd (sstored [("names", .ref w0)] "names" (.ref w)))) := .set
    refine ⟨d, rfl, u4.vec h3 (by first | exact ni1 (Ne.symm hxd) | simpa using Ne.symm hxd), ?_, .inr rfl, ?_⟩
    · rw [MH.set_same]; rfl
    · exact (u3.any (B := [x, d])).trans (u4.mono fun b hb => by rw [List.mem_singleton.mp hb]; simp)
theorem c_kind_order (G : Glo X) : CallOk X 1 (.ref v_kind_order) [.str "integer"] m (fun v m' => v = .int 2 ∧ Upd [] m m') FE := by
  refine call_fnK G (f_kind_order _) rfl fun L K hK => ?_
  walk_at "w"
  refine lenU rfl (fun a m1 u1 _ ha => ?_)
  walk_at "w"
  with_reducible refine' te_kindIndex ?h1 ?h2 ?h3 ?_
  case h1 => rfl
  case h2 => rfl
  case h3 => rfl
  walk_at "w"
  refine ⟨ha, ?_⟩
  walk_at "w"
  refine ⟨rfl, ha, ?_⟩
  walk_at "k"
  exact ⟨rfl, u1⟩
theorem c_common_kind (G : Glo X) {l : Addr} (hl : m l = some (.list [.str "integer", .str "integer"])) : CallOk X 2 (.ref v_common_kind) [.ref l] m (fun v m' => v = .str "integer" ∧ Upd [] m m') FE := by
  refine call_fnK G (f_common_kind _) rfl fun L K hK => ?_
  walk_at "w"
  refine lenU rfl (fun a m1 u1 _ ha => ?_)
  walk_at "w"
  refine ts_for rfl (.inl (by kernel_rfl)) (fun _ => rfl) (fun _ _ => rfl) (ti_list ?_)
  walk_at "w"
  refine ⟨_, _, rfl, u1.list hl, fun i vars m' => A3 (vars.lookup "names" = some (.ref a)) (vars.lookup "most" = some (.int (if i = 0 then 0 else 2))) (Upd [] m1 m'), ⟨rfl, rfl, .refl _ _⟩, fun i vars m' hi hz hP => ?_, fun vars m' hz hP => ?_⟩
  · obtain ⟨h1, h2, u⟩ := hz
    have hi' : i = 0 ∨ i = 1 := by have : i < 2 := hi; lia
    have e : nthv [.str "integer", .str "integer"] i = .str "integer" := by rcases hi' with rfl | rfl <;> rfl
    rw [e]
    walk_at "w"
    refine (c_kind_order G).u01 (by decide) (fun _ _ z => z) fun m2 u2 => ?_
    walk_at "w"
    refine call_max _ _ ?_
    have e2 : (if (2 : Int) > (if i = 0 then 0 else 2) then (2 : Int) else (if i = 0 then 0 else 2)) = 2 := by rcases hi' with rfl | rfl <;> rfl
    rw [e2]
    walk_at "w"
    walk_at "k"
    exact ⟨u2.list hP, lk_other (by decide) (lk_other (by decide) h1), by rw [lk_same, if_neg (Nat.succ_ne_zero _)], u.trans u2⟩
  · obtain ⟨h1, h2, u⟩ := hz
    walk_at "w"
    refine ⟨_, getM_tup' (u.tup ha) (by decide) (by decide) rfl, ?_⟩
    walk_at "k"
    exact ⟨rfl, u1.trans u⟩
end

inductive Key where
  | int (k : Nat)
  | str (s : String)
noncomputable def placeT (nm : Option (List String)) : Key → Option Nat
  | .int k => some k
  | .str s => if s = "" then none else match nm with
    | none => none
    | some ss => if s ∈ ss then some (firstAt s ss) else none
noncomputable def placeI : Option Nat → Int
  | none => -1
  | some p => p
noncomputable def NmV (m : MH) (v : MV) : Option (List String) → Prop
  | none => v = .none
  | some ss => ∃ b, v = .ref b ∧ m b = some (.list (ss.map .str))
theorem NmL.nmV {m0 m : MH} {v : MV} {nm : Option (List String)} (h : NmL m0 m v nm) : NmV m v nm := by
  cases nm with
  | none => exact h
  | some ss => obtain ⟨b, e, _, hb⟩ := h; exact ⟨b, e, hb⟩
theorem NmV.upd {m m' : MH} {v : MV} {nm : Option (List String)} (u : Upd [] m m') (h : NmV m v nm) : NmV m' v nm := by
  cases nm with
  | none => exact h
  | some ss => obtain ⟨b, e, hb⟩ := h; exact ⟨b, e, u.list hb⟩
theorem firstAt_take {x : String} {ss : List String} {i : Nat} (h : x ∈ ss.take i) : x ∈ ss ∧ firstAt x (ss.take i) = firstAt x ss := by
  induction ss generalizing i with
  | nil => rw [List.take_nil] at h; cases h
  | cons y r ih =>
    cases i with
    | zero => cases h
    | succ i =>
    rw [List.take_succ_cons] at h ⊢
    unfold firstAt
    by_cases e : y = x
    · subst e; simp
    · rw [if_neg e, if_neg e]
      obtain ⟨a, b⟩ := ih ((List.mem_cons.mp h).resolve_left fun z => e z.symm)
      exact ⟨List.mem_cons_of_mem _ a, by rw [b]⟩
theorem firstAt_new {x : String} {ss : List String} {i : Nat} (h : ss[i]? = some x) (hn : x ∉ ss.take i) : firstAt x ss = i := by
  induction ss generalizing i with
  | nil => cases h
  | cons y r ih =>
    cases i with
    | zero => cases h; unfold firstAt; rw [if_pos rfl]
    | succ i =>
    rw [List.take_succ_cons] at hn
    simp only [List.mem_cons, not_or] at hn
    unfold firstAt
    rw [if_neg (Ne.symm hn.1), ih h hn.2]
theorem lookup_snoc {es : List (String × MV)} {k y : String} {v : MV} (h : es.lookup k = none) : (es ++ [(k, v)]).lookup y = if y = k then some v else es.lookup y := by
  induction es with
  | nil =>
    by_cases q : y = k
    · subst q; simp
    · have q' : (y == k) = false := by simpa using q
      simp [List.lookup_cons, q', q]
  | cons p r ih =>
    obtain ⟨z, u⟩ := p
    rw [List.cons_append, List.lookup_cons, List.lookup_cons]
    rw [List.lookup_cons] at h
    by_cases q : y = z
    · subst q
      have : y ≠ k := by rintro rfl; simp at h
      simp [this]
    · have q' : (y == z) = false := by simpa using q
      rw [q']
      refine ih ?_
      split at h
      · cases h
      · exact h
theorem sstored_new {es : List (String × MV)} {k : String} {v : MV} (h : es.lookup k = none) : sstored es k v = es ++ [(k, v)] := by
  unfold sstored
  rw [if_neg]
  rw [Bool.not_eq_true, List.any_eq_false]
  intro p hp
  rw [List.lookup_eq_none_iff] at h
  have := h p hp
  simp only [decide_eq_true_eq]
  rintro rfl
  simp at this
noncomputable def FP (ss : List String) (i : Nat) (es : List (String × MV)) : Prop := ∀ y, es.lookup y = if y ≠ "" ∧ y ∈ ss.take i then some (.int (firstAt y ss)) else none
theorem mem_take_succ {ss : List String} {i : Nat} {x y : String} (hx : ss[i]? = some x) : y ∈ ss.take (i + 1) ↔ y ∈ ss.take i ∨ y = x := by
  rw [List.take_add_one, hx]; simp
theorem fp_same {ss : List String} {i : Nat} {x : String} {es : List (String × MV)} (hx : ss[i]? = some x) (h : FP ss i es) (q : x = "" ∨ x ∈ ss.take i) : FP ss (i + 1) es := fun y => by
  rw [h y]
  have : (y ≠ "" ∧ y ∈ ss.take i) ↔ (y ≠ "" ∧ y ∈ ss.take (i + 1)) := by
    rw [mem_take_succ hx]
    constructor
    · rintro ⟨a, b⟩; exact ⟨a, .inl b⟩
    · rintro ⟨a, b | rfl⟩
      · exact ⟨a, b⟩
      · exact ⟨a, q.resolve_left a⟩
  simp only [this]
theorem fp_new {ss : List String} {i : Nat} {x : String} {es : List (String × MV)} (hx : ss[i]? = some x) (h : FP ss i es) (q : x ≠ "") (hn : x ∉ ss.take i) : FP ss (i + 1) (es ++ [(x, .int i)]) := fun y => by
  have e0 : es.lookup x = none := by rw [h x, if_neg (fun z => hn z.2)]
  rw [lookup_snoc e0]
  by_cases z : y = x
  · subst z
    rw [if_pos rfl, if_pos ⟨q, (mem_take_succ hx).mpr (.inr rfl)⟩, firstAt_new hx hn]
  · rw [if_neg z, h y]
    have : (y ≠ "" ∧ y ∈ ss.take i) ↔ (y ≠ "" ∧ y ∈ ss.take (i + 1)) := by
      rw [mem_take_succ hx]
      exact ⟨fun a => ⟨a.1, .inl a.2⟩, fun a => ⟨a.1, a.2.resolve_right z⟩⟩
    simp only [this]
theorem fp_end {ss : List String} {es : List (String × MV)} (h : FP ss ss.length es) (y : String) : es.lookup y = (placeT (some ss) (.str y)).map fun p => .int p := by
  rw [h y, List.take_length]
  unfold placeT
  by_cases a : y = ""
  · simp [a]
  · by_cases b : y ∈ ss <;> simp [a, b]
section
variable {X : Cx} {n : Nat} {m : MH}
theorem c_item_as (G : Glo X) (item notes : MV) : CallOk X 4 (.ref v_item_as) [.str "integer", item, .str "list", notes] m (fun v m' => ∃ y l, v = .ref y ∧ m y = none ∧ m l = none ∧ VecAt m' y "integer" (.ref l) .none ∧ m' l = some (.list [item]) ∧ Upd [] m m') FE := by
  refine call_fnK G (f_item_as _) rfl fun L K hK => ?_
  walk_at "w"
  refine (c_is_atomic_kind G _).u01 (by decide) (fun _ _ z => z) fun m1 u1 => ?_
  walk_at "w"
  refine ⟨by show 1 ≤ _; decide, fun l m2 u2 hl hl' => ?_⟩
  walk_at "w"
  refine (c_Vector1 G _ _).u13 (by decide) (fun _ _ z => z) fun y m3 hy hv u3 => ?_
  walk_at "w"
  refine (c_share_vec G hv).u01 (by decide) (fun _ _ z => z) fun m4 u4 => ?_
  walk_at "k"
  exact ⟨y, l, rfl, (u1.trans u2).none' hy, u1.none' hl, u4.vec hv, u4.list (u3.list hl'), ((u1.trans u2).trans u3).trans u4⟩
theorem c_with_names (G : Glo X) {x : Addr} {k : String} {i nv : MV} {nm : Option (List String)} (h : VecAt m x k i .none) (hn : NmV m nv nm) (hs : ∀ ss, nm = some ss → ss.length ≤ 1000000) : CallOk X 5 (.ref v_with_names) [.ref x, nv] m (fun v m' => v = .ref x ∧ ∃ a, VecAt m' x k i a ∧ Upd [x] m m') FE := by
  refine call_fnK G (f_with_names _) rfl fun L K hK => ?_
  cases nm with
  | none =>
    cases hn
    walk_at "w"
    walk_at "k"
    exact ⟨rfl, _, h, .refl _ _⟩
  | some ss =>
    obtain ⟨b, rfl, hb⟩ := hn
    walk_at "w"
    with_reducible refine te_dict1 fun d hd => ?_
    have u1 : Upd [] m (m.set d (.sd [])) := .new hd
    have hd1 := MH.set_same m d (.sd [])
    generalize m.set d (.sd []) = m1 at u1 hd1 ⊢
    walk_at "w"
    refine (c_character G (u1.list hb) (by simpa using hs ss rfl)).u25 (by decide) (fun _ _ z => z) fun y l' m2 hy hl' hv hl2 u2 => ?_
    walk_at "w"
    refine (c_share_vec G hv).u01 (by decide) (fun _ _ z => z) fun m3 u3 => ?_
    refine ⟨u3.sd (u2.sd hd1), ?_⟩
    have u4 : Upd [d] m3 (m3.set d (.sd [("names", .ref y)])) := .set
    generalize m3.set d _ = m4 at u4 ⊢
    have hxd : x ≠ d := fun q => by subst q; obtain ⟨_, _, q⟩ := h; rw [hd] at q; cases q
    have h4 := u4.vec (u3.vec (u2.vec (u1.vec h))) (by first | exact ni1 hxd | simpa using hxd)
    walk_at "w"
    obtain ⟨dx, as, z, hl, u5⟩ := set_attrsU h4
    refine ⟨x, _, dx, as, rfl, z, rfl, hl, ?_⟩
    obtain ⟨u5, h5⟩ := u5 (.ref d)
    generalize m4.set x _ = m5 at u5 h5 ⊢
    walk_at "w"
    refine ⟨rfl, _, h5, ?_⟩
    have u14 : Upd [] m m4 := ((((u1.trans u2).trans u3).any (B := [d])).trans u4).shut1 hd
    exact u14.any.trans u5
theorem c_whole (G : Glo X) {x : Addr} {i a : MV} (h : VecAt m x "integer" i a) : CallOk X 1 (.ref v_whole_subscripts) [.ref x] m (fun v m' => v = i ∧ Upd [] m m') FE := by
  refine call_fnK G (f_whole_subscripts _) rfl fun L K hK => ?_
  walk_at "w"
  walk_at "k"
  exact ⟨rfl, .refl _ _⟩
theorem c_one_whole (G : Glo X) (k : Nat) (nn : MV) : CallOk X 1 (.ref v_one_whole) [.int (k + 1), nn] m (fun v m' => v = .int k ∧ Upd [] m m') FE := by
  refine call_fnK G (f_one_whole _) rfl fun L K hK => ?_
  walk_at "w"
  refine ifQ_pos (by rw [decide_eq_true_eq]; lia) ?_
  walk_at "w"
  walk_at "k"
  exact ⟨by show MV.int ((k : Int) + 1 - 1) = _; rw [Int.add_sub_cancel], .refl _ _⟩
theorem c_lacking_list (G : Glo X) : CallOk X 3 (.ref v_lacking_item) [.str "list"] m (NewNull m) FE := by
  refine call_fnK G (f_lacking_item _) rfl fun L K hK => ?_
  walk_at "w"
  refine lenU rfl (fun a m1 u1 _ ha => ?_)
  refine in_tupS rfl ha ?_
  walk_at "w"
  exact (c_Null G).use (by decide) (fun _ _ z => z) fun v m2 hz => by obtain ⟨y, e, hy, hv, u2⟩ := hz; walk_at "k"; exact ⟨y, e, u1.none' hy, hv, u1.trans u2⟩
theorem c_lacking_int (G : Glo X) : CallOk X 3 (.ref v_lacking_item) [.str "integer"] m (fun v m' => v = .none ∧ Upd [] m m') FE := by
  refine call_fnK G (f_lacking_item _) rfl fun L K hK => ?_
  walk_at "w"
  refine lenU rfl (fun a m1 u1 _ ha => ?_)
  refine in_tupS rfl ha ?_
  walk_at "w"
  walk_at "k"
  exact ⟨rfl, u1⟩
theorem c_one_item_list (G : Glo X) {x l : Addr} {a u : MV} {xs : List MV} {p : Nat} (h : VecAt m x "list" (.ref l) a) (hl : m l = some (.list xs)) (hp : xs[p]? = some u) (hb : p < 2 ^ 31) : CallOk X 3 (.ref v_one_item) [.ref x, .int p] m (fun v m' => v = u ∧ Upd [] m m') FE := by
  refine call_fnK G (f_one_item _) rfl fun L K hK => ?_
  walk_at "w"
  refine (c_is_list_kind G _).u01 (by decide) (fun _ _ z => z) fun m1 u1 => ?_
  have h1 := u1.vec h
  walk_at "w"
  refine ⟨_, getM_list' (u1.list hl) (by lia) (by lia) (by first | exact ni1 hp | simpa using hp), ?_⟩
  walk_at "k"
  exact ⟨rfl, u1⟩
theorem c_one_item_int (G : Glo X) {x l : Addr} {a u : MV} {xs : List MV} {p : Nat} (h : VecAt m x "integer" (.ref l) a) (hl : m l = some (.list xs)) (hp : xs[p]? = some u) (hb : p < 2 ^ 31) :
    CallOk X 3 (.ref v_one_item) [.ref x, .int p] m (fun v m' => ∃ y l', v = .ref y ∧ m y = none ∧ m l' = none ∧ VecAt m' y "integer" (.ref l') .none ∧ m' l' = some (.list [u]) ∧ Upd [] m m') FE := by
  refine call_fnK G (f_one_item _) rfl fun L K hK => ?_
  walk_at "w"
  refine (c_is_list_kind G _).u01 (by decide) (fun _ _ z => z) fun m1 u1 => ?_
  have h1 := u1.vec h
  walk_at "w"
  refine ⟨_, getM_list' (u1.list hl) (by lia) (by lia) (by first | exact ni1 hp | simpa using hp), ?_⟩
  walk_at "w"
  refine ⟨by show 1 ≤ _; decide, fun l2 m2 u2 hl2 hl2' => ?_⟩
  walk_at "w"
  exact (c_Vector1 G _ _).use (by decide) (fun _ _ z => z) fun v m3 hz => by obtain ⟨y, e, hy, hv, u3⟩ := hz; walk_at "k"; exact ⟨y, l2, e, (u1.trans u2).none' hy, u1.none' hl2, hv, u3.list hl2', (u1.trans u2).trans u3⟩
theorem c_first_places (G : Glo X) {nv : MV} {nm : Option (List String)} (hn : NmV m nv nm) (hs : ∀ ss, nm = some ss → ss.length ≤ 1000000) :
    CallOk X 1 (.ref v_first_places) [nv] m (fun v m' => ∃ t es, v = .ref t ∧ m t = none ∧ m' t = some (.sd es) ∧ (∀ y, es.lookup y = (placeT nm (.str y)).map fun p => .int p) ∧ Upd [] m m') FE := by
  refine call_fnK G (f_first_places _) rfl fun L K hK => ?_
  walk_at "w"
  with_reducible refine te_dict0s fun t ht => ?_
  have u1 : Upd [] m (m.set t (.sd [])) := .new ht
  have ht1 := MH.set_same m t (.sd [])
  generalize m.set t (.sd []) = m1 at u1 ht1 ⊢
  cases nm with
  | none =>
    cases hn
    walk_at "w"
    walk_at "k"
    exact ⟨t, [], rfl, ht, ht1, fun y => by simp [placeT], u1⟩
  | some ss =>
    obtain ⟨b, rfl, hb⟩ := hn
    have hb1 := u1.list hb
    have hbt : b ≠ t := fun q => by subst q; rw [ht] at hb; cases hb
    have hlen : ss.length ≤ 1000000 := hs ss rfl
    walk_at "w"
    refine ts_for rfl (.inl (by kernel_rfl)) (fun _ => rfl) (fun _ _ => rfl) (ti_range1 G (by kernel_rfl) rfl ?_)
    walk_at "w"
    refine call_len G (k := ss.length) (by simp [lenM, hb1]) hlen ?_
    refine ⟨ss.length, rfl, by lia, by lia, fun i vars m' => A4 (vars.lookup "names" = some (.ref b)) (vars.lookup "table" = some (.ref t)) (Upd [t] m1 m') (∃ es, m' t = some (.sd es) ∧ es.length ≤ i ∧ FP ss i es), ⟨rfl, rfl, .refl _ _, [], ht1, Nat.le_refl _, fun y => by simp⟩, fun i vars m' hi hz _ => ?_, fun vars m' hz _ => ?_⟩
    · obtain ⟨h1, h2, u, es, he, hl, hlk⟩ := hz
      have hi' : i < ss.length := by simpa using hi
      have hb2 := u.list hb1 (by first | exact ni1 hbt | simpa using hbt)
      have hx : ss[i]? = some ss[i] := by simp [hi']
      generalize ss[i] = x at hx
      walk_at "w"
      refine ⟨_, getM_list' hb2 (by lia) (by lia) (by rw [List.getElem?_map]; show Option.map _ ss[(Int.toNat (i : Int))]? = _; rw [Int.toNat_natCast, hx]; rfl), ?_⟩
      walk_at "w"
      by_cases q : x = ""
      · refine andB_neg (by first | exact ni1 q | simpa using q) ?_
        walk_at "w"
        walk_at "k"
        exact ⟨trivial, lk_other (by decide) (lk_other (by decide) h1), lk_other (by decide) (lk_other (by decide) h2), u, es, he, by lia, fp_same hx hlk (.inl q)⟩
      · refine andB_pos (by first | exact ni1 q | simpa using q) ?_
        walk_at "w"
        refine notIn_sd G he ?_
        refine ⟨_, rfl, ?_⟩
        by_cases z : x ∈ ss.take i
        · have e : (es.lookup x).isSome = true := by rw [hlk x, if_pos ⟨q, z⟩]; rfl
          rw [e]
          walk_at "w"
          walk_at "k"
          exact ⟨trivial, lk_other (by decide) (lk_other (by decide) h1), lk_other (by decide) (lk_other (by decide) h2), u, es, he, by lia, fp_same hx hlk (.inr z)⟩
        · have e0 : es.lookup x = none := by rw [hlk x, if_neg (fun y => z y.2)]
          have e : (es.lookup x).isSome = false := by rw [e0]; rfl
          rw [e]
          walk_at "w"
          refine ⟨_, setM_sd he (by lia), ?_⟩
          rw [sstored_new e0]
          walk_at "w"
          have u2 : Upd [t] m' (m'.set t (.sd (es ++ [(x, .int i)]))) := .set
          walk_at "k"
          exact ⟨trivial, lk_other (by decide) (lk_other (by decide) h1), lk_other (by decide) (lk_other (by decide) h2), u.trans u2, _, MH.set_same _ _ _, by simp; lia, fp_new hx hlk q z⟩
    · obtain ⟨h1, h2, u, es, he, hl, hlk⟩ := hz
      walk_at "w"
      have hlk : FP ss ss.length es := by simpa using hlk
      walk_at "k"
      exact ⟨t, es, rfl, ht, he, fp_end hlk, ((u1.any (B := [t])).trans u).shut1 ht⟩
end

noncomputable def KeyAt (m : MH) (x : Addr) : Key → Prop
  | .int k => ∃ l a, VecAt m x "integer" (.ref l) a ∧ m l = some (.list [.int (k + 1)])
  | .str s => ∃ l a, VecAt m x "character" (.ref l) a ∧ m l = some (.list [.str s])
theorem KeyAt.upd {m m' : MH} {x : Addr} {key : Key} (u : Upd [] m m') (h : KeyAt m x key) : KeyAt m' x key := by
  cases key with
  | int k => obtain ⟨l, a, h1, h2⟩ := h; exact ⟨l, a, u.vec h1, u.list h2⟩
  | str s => obtain ⟨l, a, h1, h2⟩ := h; exact ⟨l, a, u.vec h1, u.list h2⟩
section
variable {X : Cx} {n : Nat} {m : MH}
theorem c_one_name (G : Glo X) {nv : MV} {nm : Option (List String)} (s : String) (hn : NmV m nv nm) (hs : ∀ ss, nm = some ss → ss.length ≤ 1000000) :
    CallOk X 2 (.ref v_one_name) [.str s, nv, .bool true] m (fun v m' => v = .int (placeI (placeT nm (.str s))) ∧ Upd [] m m') FE := by
  refine call_fnK G (f_one_name _) rfl fun L K hK => ?_
  walk_at "w"
  with_reducible refine te_get2 G (by kernel_rfl) (by kernel_rfl) (by kernel_rfl) (by kernel_rfl) ?_
  walk_at "w"
  refine (c_first_places G hn hs).u24 (by decide) (fun _ _ z => z) fun t es m1 _ ht hes u => ?_
  refine ⟨t, rfl, ⟨_, ht⟩, ?_⟩
  walk_at "w"
  refine ⟨_, _, rfl, ht, ?_⟩
  walk_at "k"
  refine ⟨?_, u⟩
  show (es.lookup s).getD (.int (-1)) = _
  rw [hes s]
  cases placeT nm (.str s) <;> rfl
theorem c_one_place (G : Glo X) {x : Addr} {nv nn : MV} {nm : Option (List String)} {key : Key} (hx : KeyAt m x key) (hn : NmV m nv nm) (hs : ∀ ss, nm = some ss → ss.length ≤ 1000000) :
    CallOk X 3 (.ref v_one_place) [.ref x, nn, nv, .bool true] m (fun v m' => v = .int (placeI (placeT nm key)) ∧ Upd [] m m') FE := by
  refine call_fnK G (f_one_place _) rfl fun L K hK => ?_
  cases key with
  | int k =>
    obtain ⟨l, a, h1, h2⟩ := hx
    walk_at "w"
    refine lenU rfl (fun b m1 u1 _ hb => ?_)
    have h3 := u1.vec h1
    have h4 := u1.list h2
    walk_at "w"
    refine call_len G (k := 1) (by simp [lenM, h4]) (by decide) ?_
    walk_at "w"
    refine call_len G (k := 1) (by simp [lenM, h4]) (by decide) ?_
    walk_at "w"
    refine (c_whole G h3).u01 (by decide) (fun _ _ z => z) fun m2 u2 => ?_
    walk_at "w"
    refine ⟨_, getM_list' (u2.list h4) (by decide) (by decide) rfl, ?_⟩
    walk_at "w"
    refine (c_one_whole G k nn).u01 (by decide) (fun _ _ z => z) fun m3 u3 => ?_
    walk_at "k"
    exact ⟨rfl, (u1.trans u2).trans u3⟩
  | str s =>
    obtain ⟨l, a, h1, h2⟩ := hx
    walk_at "w"
    refine lenU rfl (fun b m1 u1 _ hb => ?_)
    have h3 := u1.vec h1
    have h4 := u1.list h2
    walk_at "w"
    refine call_len G (k := 1) (by simp [lenM, h4]) (by decide) ?_
    walk_at "w"
    refine call_len G (k := 1) (by simp [lenM, h4]) (by decide) ?_
    walk_at "w"
    refine ⟨_, getM_list' h4 (by decide) (by decide) rfl, ?_⟩
    walk_at "w"
    refine (c_one_name G s (hn.upd u1) hs).u01 (by decide) (fun _ _ z => z) fun m3 u3 => ?_
    walk_at "k"
    exact ⟨rfl, u1.trans u3⟩
/-- what stands at a place of a vector -/
noncomputable def ElemAt (m : MH) (k : String) (xs : List MV) (pl : Option Nat) (v : MV) (m' : MH) : Prop := match pl with
  | none => k = "list" ∧ NewNull m v m'
  | some p => (k = "list" ∧ xs[p]? = some v ∧ Upd [] m m') ∨ (k = "integer" ∧ ∃ y l' u, xs[p]? = some u ∧ v = .ref y ∧ m y = none ∧ m l' = none ∧ VecAt m' y "integer" (.ref l') .none ∧ m' l' = some (.list [u]) ∧ Upd [] m m')
noncomputable def ElemNo (m : MH) (k : String) (xs : List MV) (pl : Option Nat) (msg : String) (m' : MH) : Prop :=
  msg = "subscript out of bounds" ∧ Upd [] m m' ∧ match pl with
  | none => k = "integer"
  | some p => xs.length ≤ p
theorem c_vector_element (G : Glo X) {F : Addr → Prop} {x l ix : Addr} {k : String} {a : MV} {xs : List MV} {nm : Option (List String)} {key : Key} (h : VecAt m x k (.ref l) a) (hk : k = "integer" ∨ k = "list") (hl : m l = some (.list xs)) (hs : xs.length ≤ 1000000) (hn : NmAt F m a nm) (hns : ∀ ss, nm = some ss → ss.length ≤ 1000000) (hx : KeyAt m ix key) {pl : Option Nat} (hpl : placeT nm key = pl) (hb : ∀ p, pl = some p → p < 2 ^ 31) :
    CallOk X 8 (.ref v_vector_element) [.ref x, .ref ix, .bool true] m (fun v m' => ElemAt m k xs pl v m') (fun msg m' => ElemNo m k xs pl msg m') := by
  refine call_fnK G (f_vector_element _) rfl fun L K hK => ?_
  walk_at "w"
  refine call_len G (k := xs.length) (by simp [lenM, hl]) hs ?_
  walk_at "w"
  refine (c_names_of G h hk hn hns).use (by decide) (fun _ _ z => z.elim) fun nv m1 hz => ?_
  obtain ⟨hv, u1⟩ := hz
  walk_at "w"
  refine (c_one_place G (hx.upd u1) hv.nmV hns).use (by decide) (fun _ _ z => z.elim) fun v m2 hz => ?_
  obtain ⟨e, u2⟩ := hz
  rw [hpl] at e
  subst e
  have u := u1.trans u2
  have h2 := u.vec h
  have hl2 := u.list hl
  walk_at "w"
  cases pl with
  | none =>
    refine of_if_pos rfl ?_
    walk_at "w"
    refine (c_is_list_kind G _).u01 (by decide) (fun _ _ z => z.elim) fun m3 u3 => ?_
    rcases hk with rfl | rfl
    · walk_at "w"
      exact ⟨rfl, u.trans u3, rfl⟩
    · walk_at "w"
      refine (c_Null G).use (by decide) (fun _ _ z => z.elim) fun v m4 hz => ?_
      obtain ⟨y, e, hy, hv, u4⟩ := hz
      walk_at "k"
      exact ⟨rfl, y, e, (u.trans u3).none' hy, hv, (u.trans u3).trans u4⟩
  | some p =>
    have hp := hb p rfl
    have e0 : decide (placeI (some p) < 0) = false := decide_eq_false (by show ¬ ((p : Int) < 0); lia)
    rw [e0]
    walk_at "w"
    by_cases q : p < xs.length
    · have e1 : decide (placeI (some p) ≥ (xs.length : Int)) = false := decide_eq_false (by show ¬ ((p : Int) ≥ (xs.length : Int)); lia)
      rw [e1]
      walk_at "w"
      rcases hk with rfl | rfl
      · refine (c_one_item_int G h2 hl2 (by simp [q] : xs[p]? = some xs[p]) hp).use (by decide) (fun _ _ z => z.elim) fun v m3 hz => ?_
        obtain ⟨y, l', e, hy, hl', hv, hll, u3⟩ := hz
        walk_at "k"
        exact .inr ⟨rfl, y, l', _, by simp [q], e, u.none' hy, u.none' hl', hv, hll, u.trans u3⟩
      · refine (c_one_item_list G h2 hl2 (by simp [q] : xs[p]? = some xs[p]) hp).u01 (by decide) (fun _ _ z => z.elim) fun m3 u3 => ?_
        walk_at "k"
        exact .inl ⟨rfl, by show _ = some xs[p]; simp [q], u.trans u3⟩
    · have e1 : decide (placeI (some p) ≥ (xs.length : Int)) = true := decide_eq_true (by show (p : Int) ≥ (xs.length : Int); lia)
      rw [e1]
      walk_at "w"
      exact ⟨rfl, u, by show xs.length ≤ p; lia⟩
end

noncomputable def stepT : T → Key → Except String T
  | .null, _ => .ok .null
  | .list ts nm, key => match placeT nm key with
    | none => .ok .null
    | some p => match ts[p]? with
      | some t => .ok t
      | none => .error "subscript out of bounds"
  | .ints xs nm, key => match placeT nm key with
    | none => .error "subscript out of bounds"
    | some p => match xs[p]? with
      | some x => .ok (.ints [x] none)
      | none => .error "subscript out of bounds"
theorem step_l0 {ts nm key} (h : placeT nm key = none) : stepT (.list ts nm) key = .ok .null := by simp [stepT, h]
theorem step_l1 {ts nm key p t} (h : placeT nm key = some p) (e : ts[p]? = some t) : stepT (.list ts nm) key = .ok t := by simp [stepT, h, e]
theorem step_l2 {ts nm key p} (h : placeT nm key = some p) (e : ts[p]? = none) : stepT (.list ts nm) key = .error "subscript out of bounds" := by simp only [stepT, h, e]
theorem step_i0 {xs nm key} (h : placeT nm key = none) : stepT (.ints xs nm) key = .error "subscript out of bounds" := by simp [stepT, h]
theorem step_i1 {xs nm key p x} (h : placeT nm key = some p) (e : xs[p]? = some x) : stepT (.ints xs nm) key = .ok (.ints [x] none) := by simp [stepT, h, e]
theorem step_i2 {xs nm key p} (h : placeT nm key = some p) (e : xs[p]? = none) : stepT (.ints xs nm) key = .error "subscript out of bounds" := by simp only [stepT, h, e]
noncomputable def KeyOk : Key → Prop
  | .int k => k < 1000
  | .str _ => True
theorem firstAt_lt {x : String} {ss : List String} (h : x ∈ ss) : firstAt x ss < ss.length := (List.getElem?_eq_some_iff.mp (firstAt_spec h).1).1
theorem place_lt {nm : Option (List String)} {key : Key} {N p : Nat} (hk : KeyOk key) (hn : NmLen nm N) (hN : N ≤ 1000) (h : placeT nm key = some p) : p < 1000 := by
  cases key with
  | int k => cases h; exact hk
  | str s =>
    simp only [placeT] at h
    split at h
    · cases h
    · cases nm with
      | none => cases h
      | some ss =>
        simp only at h
        split at h
        · rename_i hm
          cases h; have := firstAt_lt hm; have := hn ss rfl; lia
        · cases h
theorem all2_none {α β : Type} {R : α → β → Prop} {as : List α} {bs : List β} {p : Nat} (h : All2 R as bs) (hp : bs.length ≤ p) : as[p]? = none := by rw [List.getElem?_eq_none_iff, h.length]; exact hp
theorem NewNull.isT {F : Addr → Prop} {K d : Nat} {m m' : MH} {v : MV} (h : NewNull m v m') (hF : ∀ x, m x = none → F x) : IsT F K m' d .null v := by
  obtain ⟨y, e, hy, hv, _⟩ := h
  cases d <;> exact ⟨y, e, hF y hy, hv⟩
section
variable {X : Cx} {n : Nat} {m : MH}
theorem c_element_step (G : Glo X) {K0 d : Nat} {t : T} {v : MV} {ix : Addr} {key : Key} (h : IsT FT K0 m d t v) (hK0 : K0 ≤ 1000) (h1 : 1 ≤ K0) (hx : KeyAt m ix key) (hk : KeyOk key) :
    CallOk X 9 (.ref v_element_step) [v, .ref ix, .bool true] m (fun r m' => ∃ t', stepT t key = .ok t' ∧ IsT FT K0 m' d t' r ∧ Upd [] m m') (fun msg m' => stepT t key = .error msg ∧ Upd [] m m') := by
  refine call_fnK G (f_element_step _) rfl fun L K hK => ?_
  cases t with
  | null =>
    obtain ⟨x, rfl, _, hv⟩ := isT_null.mp h
    walk_at "w"
    refine (c_Null G).use (by decide) (fun _ _ z => z.elim) fun v m1 hn => ?_
    walk_at "k"
    exact ⟨.null, rfl, NewNull.isT hn fun _ _ => trivial, by obtain ⟨_, _, _, _, u⟩ := hn; exact u⟩
  | «ints» xs nm =>
    obtain ⟨x, l, a, rfl, _, hv, _, hl, hn, hnl, hlen⟩ := isT_ints.mp h
    walk_at "w"
    refine (c_is_vector G hv).u01 (by decide) (fun _ _ z => z.elim) fun m1 u1 => ?_
    walk_at "w"
    refine (c_vector_element G (u1.vec hv) (.inl rfl) (u1.list hl) (by simp; lia) (hn.upd u1 fun _ _ => by simp) (fun ss e => by have := hnl ss e; lia) (hx.upd u1) rfl fun p e => by have := place_lt hk hnl (by lia) e; lia).use (by decide) (fun msg m2 z => ?_) fun v m2 z => ?_
    · obtain ⟨rfl, u2, hz⟩ := z
      refine ⟨?_, u1.trans u2⟩
      cases hp : placeT nm key with
      | none => exact step_i0 hp
      | some p =>
        rw [hp] at hz
        exact step_i2 hp (by rw [List.getElem?_eq_none_iff]; simpa using hz)
    · walk_at "k"
      unfold ElemAt at z
      cases hp : placeT nm key with
      | none => rw [hp] at z; exact absurd z.1 (by decide)
      | some p =>
        rw [hp] at z
        rcases z with ⟨e, _⟩ | ⟨_, y, l', u, hu, rfl, hy, hl', hv', hll, u2⟩
        · exact absurd e (by decide)
        · rw [List.getElem?_map] at hu
          cases hxp : xs[p]? with
          | none => rw [hxp] at hu; cases hu
          | some w =>
            rw [hxp] at hu; cases hu
            refine ⟨_, step_i1 hp hxp, isT_ints.mpr ⟨y, l', _, rfl, trivial, hv', trivial, hll, rfl, (fun ss z => by cases z), h1⟩, u1.trans u2⟩
  | list ts nm =>
    cases d with
    | zero => exact h.elim
    | succ d =>
      obtain ⟨x, l, a, vs, rfl, _, hv, _, hl, hvs, hn, hnl, hlen⟩ := h
      walk_at "w"
      refine (c_is_vector G hv).u01 (by decide) (fun _ _ z => z.elim) fun m1 u1 => ?_
      walk_at "w"
      refine (c_vector_element G (u1.vec hv) (.inr rfl) (u1.list hl) (by rw [← hvs.length]; lia) (hn.upd u1 fun _ _ => by simp) (fun ss e => by have := hnl ss e; lia) (hx.upd u1) rfl fun p e => by have := place_lt hk hnl (by lia) e; lia).use (by decide) (fun msg m2 z => ?_) fun v m2 z => ?_
      · obtain ⟨rfl, u2, hz⟩ := z
        refine ⟨?_, u1.trans u2⟩
        cases hp : placeT nm key with
        | none => rw [hp] at hz; exact absurd (show "list" = "integer" from hz) (by decide)
        | some p =>
          rw [hp] at hz
          exact step_l2 hp (all2_none hvs hz)
      · walk_at "k"
        unfold ElemAt at z
        cases hp : placeT nm key with
        | none =>
          rw [hp] at z
          obtain ⟨_, z⟩ := z
          exact ⟨.null, step_l0 hp, z.isT fun _ _ => trivial, by obtain ⟨_, _, _, _, u⟩ := z; exact u1.trans u⟩
        | some p =>
          rw [hp] at z
          rcases z with ⟨_, hu, u2⟩ | ⟨e, _⟩
          · obtain ⟨w, hw, r⟩ := hvs.get' hu
            refine ⟨w, step_l1 hp hw, ?_, u1.trans u2⟩
            exact (IsT.upd (u1.trans u2) nilB r).weak (fun _ z => z) (Nat.le_refl _) (Nat.le_succ _)
          · exact absurd e (by decide)
end

noncomputable def keyV : Key → MV
  | .int k => .int (k + 1)
  | .str s => .str s
noncomputable def keyIn (kd : String) : Key → Prop
  | .int _ => kd = "integer"
  | .str _ => kd = "character"
inductive KeysAt (m : MH) (x : Addr) (ks : List Key) : Prop
  | mk (kd : String) (l : Addr) (a : MV) (h0 : kd = "integer" ∨ kd = "character") (h1 : VecAt m x kd (.ref l) a) (h2 : m l = some (.list (ks.map keyV))) (h3 : ∀ k ∈ ks, keyIn kd k)
theorem KeysAt.upd {m m' : MH} {x : Addr} {ks : List Key} (u : Upd [] m m') (h : KeysAt m x ks) : KeysAt m' x ks := by
  obtain ⟨kd, l, a, h0, h1, h2, h3⟩ := h
  exact ⟨kd, l, a, h0, u.vec h1, u.list h2, h3⟩
theorem keyAt_of {m : MH} {x l : Addr} {kd : String} {a : MV} {key : Key} (h : VecAt m x kd (.ref l) a) (hl : m l = some (.list [keyV key])) (hk : keyIn kd key) : KeyAt m x key := by
  cases key with
  | int k => cases hk; exact ⟨l, a, h, hl⟩
  | str s => cases hk; exact ⟨l, a, h, hl⟩
theorem KeysAt.one {m : MH} {x : Addr} {key : Key} (h : KeysAt m x [key]) : KeyAt m x key := by
  obtain ⟨kd, l, a, h0, h1, h2, h3⟩ := h
  exact keyAt_of h1 h2 (h3 key (.head _))
noncomputable abbrev PartsAt (m : MH) : List Key → List MV → Prop := All2 fun key v => ∃ y, v = .ref y ∧ KeyAt m y key
theorem PartsAt.upd {m m' : MH} {ks : List Key} {vs : List MV} (u : Upd [] m m') (h : PartsAt m ks vs) : PartsAt m' ks vs := h.imp fun _ _ hz => hz.imp fun _ w => ⟨w.1, w.2.upd u⟩
theorem all2_of {α β : Type} {R : α → β → Prop} {as : List α} {bs : List β} (h : bs.length = as.length) (k : ∀ (i : Nat) a b, as[i]? = some a → bs[i]? = some b → R a b) : All2 R as bs := by
  induction as generalizing bs with
  | nil => cases List.length_eq_zero_iff.mp h; exact .nil
  | cons a as ih =>
    cases bs with
    | nil => cases h
    | cons b bs => exact .cons (k 0 a b rfl rfl) (ih (Nat.succ.inj h) fun i x y e1 e2 => k (i + 1) x y e1 e2)
noncomputable def kdT : T → String
  | .null => "NULL"
  | .ints _ _ => "integer"
  | .list _ _ => "list"
theorem kdT_null {t : T} : kdT t = "NULL" ↔ t = .null := by cases t <;> simp [kdT]
theorem isT_kind {F : Addr → Prop} {K d : Nat} {m : MH} {t : T} {v : MV} {Q : MV → MH → Prop} (h : IsT F K m d t v) (q : Q (.str (kdT t)) m) : AttrQ "kind" Q v m := by
  cases t with
  | null => obtain ⟨x, rfl, _, hv⟩ := isT_null.mp h; exact null_kind hv q
  | «ints» xs nm => obtain ⟨x, l, a, rfl, _, hv, _⟩ := isT_ints.mp h; exact vec_kind hv q
  | list ts nm =>
    cases d with
    | zero => exact h.elim
    | succ d => obtain ⟨x, l, a, vs, rfl, _, hv, _⟩ := h; exact vec_kind hv q
noncomputable def gotL : T → List Key → Except String T
  | t, [] => .ok t
  | t, k :: ks => if kdT t = "NULL" then .error "subscript out of bounds" else match stepT t k with
    | .ok t' => gotL t' ks
    | .error e => .error e
noncomputable def gotT (t : T) (ks : List Key) : Except String T := match ks with
  | [k] => stepT t k
  | ks => gotL t ks
section
variable {X : Cx} {n : Nat} {m : MH}
theorem c_index_parts (G : Glo X) {ix : Addr} {ks : List Key} (h : KeysAt m ix ks) (hl : ks.length ≤ 1000) : CallOk X 3 (.ref v_index_parts) [.ref ix] m (fun v m' => ∃ b vs, v = .ref b ∧ m b = none ∧ m' b = some (.list vs) ∧ PartsAt m' ks vs ∧ Upd [] m m') FE := by
  refine call_fnK G (f_index_parts _) rfl fun L K hK => ?_
  obtain ⟨kd, l, a, h0, h1, h2, h3⟩ := h
  walk_at "w"
  refine te_comp (capt := ["ix"]) (compOk_of (by kernel_rfl)) G (fun _ => rfl) (compU [] (fun D i u m => ∃ y l' key, ks[i]? = some key ∧ u = .ref y ∧ y ≠ D ∧ l' ≠ D ∧ VecAt m y kd (.ref l') .none ∧ m l' = some (.list [keyV key])) ?_ (ti_list ?_))
  · rintro D i u m m' uu ⟨y, l', key, e1, e2, e3, e4, e5, e6⟩
    exact ⟨y, l', key, e1, e2, e3, e4, uu.vec e5 (by first | exact ni1 e3 | simpa using e3), uu.list e6 (by first | exact ni1 e4 | simpa using e4)⟩
  · walk_at "w"
    refine ⟨_, _, rfl, h2, by simp; lia, (fun b hb => by cases hb), fun m' u => u.list h2, fun D i m' C hi hD hD' u => ?_, fun D ys m' hD u hD' hyl hR => ?_⟩
    · have hi' : i < ks.length := by simpa using hi
      have e : nthv (ks.map keyV) i = keyV ks[i] := by unfold nthv; rw [List.getD_eq_getElem?_getD, List.getElem?_map]; simp [hi']
      rw [e]
      have h1' := u.vec h1
      walk_at "w"
      refine ⟨by show 1 ≤ _; decide, fun b m2 u2 hb hb' => ?_⟩
      walk_at "w"
      refine (c_Vector1 G _ _).use (by decide) (fun _ _ z => z) fun v m3 hz => ?_
      obtain ⟨y, e, hy, hv, u3⟩ := hz
      exact ⟨u2.trans u3, y, b, ks[i], by simp [hi'], e, (fun q => hD' (by rw [← q]; exact u2.none' hy)), (fun q => hD' (by rw [← q]; exact hb)), hv, u3.list hb'⟩
    · walk_at "k"
      refine ⟨D, ys, rfl, hD, hD', all2_of (by first | exact ni1 hyl | simpa using hyl) fun i key v e1 e2 => ?_, u⟩
      obtain ⟨y, l', key', f1, f2, _, _, f5, f6⟩ := hR i v e2
      rw [e1] at f1; cases f1
      exact ⟨y, f2, keyAt_of f5 f6 (h3 key (List.mem_of_getElem? e1))⟩
theorem c_is_long_index (G : Glo X) {ix : Addr} {ks : List Key} (h : KeysAt m ix ks) (hl : ks.length ≤ 1000) : CallOk X 2 (.ref v_is_long_index) [.ref ix] m (fun v m' => v = .bool (decide (1 < ks.length)) ∧ Upd [] m m') FE := by
  refine call_fnK G (f_is_long_index _) rfl fun L K hK => ?_
  obtain ⟨kd, l, a, h0, h1, h2, h3⟩ := h
  walk_at "w"
  refine (c_is_vector G h1).u01 (by decide) (fun _ _ z => z) fun m1 u1 => ?_
  have h1' := u1.vec h1
  walk_at "w"
  refine (c_is_list_kind G _).u01 (by decide) (fun _ _ z => z) fun m2 u2 => ?_
  have h2' := u2.vec h1'
  have e : decide (kd ∈ ["list", "expression", "pairlist"]) = false := by rcases h0 with rfl | rfl <;> decide
  rw [e]
  walk_at "w"
  refine call_len G (k := ks.length) (by simp [lenM, u2.list (u1.list h2)]) (by lia) ?_
  walk_at "w"
  refine ⟨?_, u1.trans u2⟩
  show MV.bool _ = _
  congr 1
  apply decide_eq_decide.mpr
  lia
end

theorem gotL_drop {t : T} {ks : List Key} {i : Nat} {key : Key} (h : ks[i]? = some key) : gotL t (ks.drop i) = if kdT t = "NULL" then .error "subscript out of bounds" else match stepT t key with
    | .ok t' => gotL t' (ks.drop (i + 1))
    | .error e => .error e := by
  obtain ⟨hi, e⟩ := List.getElem?_eq_some_iff.mp h
  rw [List.drop_eq_getElem_cons hi, e]; rfl
theorem gotT_long {t : T} {ks : List Key} (h : 1 < ks.length) : gotT t ks = gotL t ks := by
  unfold gotT
  split
  · simp at h
  · rfl
section
variable {X : Cx} {n : Nat} {m : MH}
theorem one_key {ks : List Key} (hne : ks ≠ []) (q : ¬ 1 < ks.length) : ∃ key, ks = [key] := by
  cases ks with
  | nil => exact absurd rfl hne
  | cons a r => cases r with
    | nil => exact ⟨a, rfl⟩
    | cons b t => exact absurd (by simp) q
theorem c_element (G : Glo X) {K0 d : Nat} {ts : List T} {nm : Option (List String)} {v : MV} {li ix : Addr} {ks : List Key} (h : IsT FT K0 m d (.list ts nm) v) (hK0 : K0 ≤ 1000) (h1 : 1 ≤ K0) (hli : m li = some (.list [.ref ix])) (hx : KeysAt m ix ks) (hne : ks ≠ []) (hl : ks.length ≤ 1000) (hok : ∀ k ∈ ks, KeyOk k) :
    CallOk X 12 (.ref v_element) [v, .ref li, .bool true] m (fun r m' => ∃ t', gotT (.list ts nm) ks = .ok t' ∧ IsT FT K0 m' d t' r ∧ Upd [] m m') (fun msg m' => gotT (.list ts nm) ks = .error msg ∧ Upd [] m m') := by
  refine call_fnK G (f_element _) rfl fun L K hK => ?_
  have hx' := hx
  obtain ⟨kd, l, a, h0, hv, hlx, h3⟩ := hx
  have e0 : decide (kd = "missing") = false := by rcases h0 with rfl | rfl <;> decide
  walk_at "w"
  refine call_len G (k := 1) (by simp [lenM, hli]) (by decide) ?_
  walk_at "w"
  refine ⟨_, getM_list' hli (by decide) (by decide) rfl, ?_⟩
  walk_at "w"
  rw [e0]
  walk_at "w"
  refine call_len G (k := 1) (by simp [lenM, hli]) (by decide) ?_
  walk_at "w"
  refine ⟨_, getM_list' hli (by decide) (by decide) rfl, ?_⟩
  walk_at "w"
  refine (c_is_long_index G hx' hl).u01 (by decide) (fun _ _ z => z.elim) fun m1 u1 => ?_
  have hT1 := IsT.upd u1 nilB h
  have hx1 := hx'.upd u1
  have hxs : ∃ x l a, v = .ref x ∧ VecAt m1 x "list" (.ref l) a := by
    cases d with
    | zero => exact h.elim
    | succ d => obtain ⟨x, l, a, vs, e, _, hv, _⟩ := hT1; exact ⟨x, l, a, e, hv⟩
  obtain ⟨x, l2, a2, rfl, hvx⟩ := hxs
  by_cases q : 1 < ks.length
  · rw [decide_eq_true q]
    walk_at "w"
    refine (c_is_list_kind G _).u01 (by decide) (fun _ _ z => z.elim) fun m2 u2 => ?_
    have u12 := u1.trans u2
    walk_at "w"
    refine (c_index_parts G (hx1.upd u2) hl).u24 (by decide) (fun _ _ z => z.elim) fun pl ps m3 _ hpl hps u3 => ?_
    have u := u12.trans u3
    walk_at "w"
    refine ts_for rfl (.inl (by kernel_rfl)) (fun _ => rfl) (fun _ _ => rfl) (ti_range1 G (by kernel_rfl) rfl ?_)
    walk_at "w"
    have hpsl : ps.length = ks.length := hps.length.symm
    refine call_len G (k := ps.length) (by simp [lenM, hpl]) (by lia) ?_
    refine ⟨ps.length, rfl, by lia, by lia, fun i vars m' => A4 (vars.lookup "parts" = some (.ref pl)) (vars.lookup "exact" = some (.bool true)) (Upd [] m3 m') (∃ t' v', vars.lookup "v" = some v' ∧ IsT FT K0 m' d t' v' ∧ gotL (.list ts nm) ks = gotL t' (ks.drop i)), ⟨rfl, rfl, .refl _ _, _, _, rfl, IsT.upd u nilB h, rfl⟩, fun i vars m' hi hz _ => ?_, fun vars m' hz _ => ?_⟩
    · obtain ⟨g1, g2, u4, t', v', g3, g4, g5⟩ := hz
      have hi' : i < ks.length := by rw [← hpsl]; simpa using hi
      have hki : ks[i]? = some ks[i] := by simp [hi']
      have hgo : gotT (.list ts nm) ks = gotL (.list ts nm) ks := gotT_long q
      rw [gotL_drop hki] at g5
      have uu := u.trans u4
      walk_at "w"
      refine isT_kind g4 ?_
      walk_at "w"
      by_cases hn : kdT t' = "NULL"
      · rw [if_pos hn] at g5
        rw [decide_eq_true hn]
        walk_at "w"
        exact ⟨by rw [hgo, g5], uu⟩
      · rw [if_neg hn] at g5
        rw [decide_eq_false hn]
        walk_at "w"
        obtain ⟨p, hp, y, rfl, hky⟩ : ∃ p, ps[i]? = some p ∧ ∃ y, p = .ref y ∧ KeyAt m' y ks[i] := by
          obtain ⟨p, hp, y, e, hk⟩ := hps.get hki
          exact ⟨p, hp, y, e, hk.upd u4⟩
        refine ⟨_, getM_list' (u4.list hpl) (by lia) (by lia) (by first | exact ni1 hp | simpa using hp), ?_⟩
        walk_at "w"
        refine (c_element_step G g4 hK0 h1 hky (hok _ (List.getElem_mem hi'))).use (by decide) (fun msg m5 z => ?_) fun w m5 z => ?_
        · rw [z.1] at g5
          exact ⟨by rw [hgo, g5], uu.trans z.2⟩
        · obtain ⟨t2, z1, z2, z3⟩ := z
          rw [z1] at g5
          walk_at "w"
          exact ⟨trivial, lk_other (by decide) (lk_other (by decide) g1), lk_other (by decide) (lk_other (by decide) g2), u4.trans z3, t2, w, lk_same _ _ _, z2, g5⟩
    · obtain ⟨g1, g2, u4, t', v', g3, g4, g5⟩ := hz
      walk_at "w"
      have hgo : gotT (.list ts nm) ks = gotL (.list ts nm) ks := gotT_long q
      have hd : ks.drop ps.length = [] := by rw [hpsl]; simp
      have g5 : gotL (.list ts nm) ks = gotL t' (ks.drop ps.length) := by simpa using g5
      rw [hd] at g5
      exact ⟨t', by rw [hgo, g5, gotL], g4, u.trans u4⟩
  · rw [decide_eq_false q]
    walk_at "w"
    obtain ⟨key, rfl⟩ := one_key hne q
    refine (c_element_step G hT1 hK0 h1 hx1.one (hok key (.head _))).use (by decide) (fun msg m5 z => ⟨z.1, u1.trans z.2⟩) fun w m5 z => ?_
    obtain ⟨t2, z1, z2, z3⟩ := z
    walk_at "k"
    exact ⟨t2, z1, z2, u1.trans z3⟩
end

noncomputable abbrev IntsAs (m : MH) : List (Option Int) → List MV → Prop := All2 fun x v => ∃ y l, v = .ref y ∧ VecAt m y "integer" (.ref l) .none ∧ m l = some (.list [oint x])
theorem IntsAs.upd {m m' : MH} {xs : List (Option Int)} {vs : List MV} (u : Upd [] m m') (h : IntsAs m xs vs) : IntsAs m' xs vs := h.imp fun _ _ z => by
  obtain ⟨y, l, e, h1, h2⟩ := z
  exact ⟨y, l, e, u.vec h1, u.list h2⟩
section
variable {X : Cx} {n : Nat} {m : MH}
theorem c_as_kind (G : Glo X) {F : Addr → Prop} {x l : Addr} {a notes : MV} {xs : List (Option Int)} {nm : Option (List String)} (h : VecAt m x "integer" (.ref l) a) (hl : m l = some (.list (xs.map oint))) (hs : xs.length ≤ 1000) (hn : NmAt F m a nm) (hns : ∀ ss, nm = some ss → ss.length ≤ 1000000) :
    CallOk X 7 (.ref v_as_kind) [.ref x, .str "list", notes] m (fun v m' => ∃ y l' a' vs, v = .ref y ∧ VecAt m' y "list" (.ref l') a' ∧ m' l' = some (.list vs) ∧ IntsAs m' xs vs ∧ Upd [] m m') FE := by
  refine call_fnK G (f_as_kind _) rfl fun L K hK => ?_
  walk_at "w"
  refine isi_vec G h ?_
  walk_at "w"
  refine ts_assign_comp (capt := ["v", "kind", "notes"]) (compOk_of (by kernel_rfl)) G (fun _ => rfl) (.inl (by kernel_rfl)) (by kernel_rfl) (compU [] (fun D i u m => ∃ y l' xi, xs[i]? = some xi ∧ u = .ref y ∧ y ≠ D ∧ l' ≠ D ∧ VecAt m y "integer" (.ref l') .none ∧ m l' = some (.list [oint xi])) ?_ (ti_list ?_))
  · rintro D i u m m' uu ⟨y, l', key, e1, e2, e3, e4, e5, e6⟩
    exact ⟨y, l', key, e1, e2, e3, e4, uu.vec e5 (by first | exact ni1 e3 | simpa using e3), uu.list e6 (by first | exact ni1 e4 | simpa using e4)⟩
  · walk_at "w"
    refine ⟨_, _, rfl, hl, by simp; lia, (fun b hb => by cases hb), fun m' u => u.list hl, fun D i m' C hi hD hD' u => ?_, fun D ys m' hD u hD' hyl hR => ?_⟩
    · have hi' : i < xs.length := by simpa using hi
      have e : nthv (xs.map oint) i = oint xs[i] := by unfold nthv; rw [List.getD_eq_getElem?_getD, List.getElem?_map]; simp [hi']
      rw [e]
      have h1' := u.vec h
      walk_at "w"
      refine (c_item_as G _ _).use (by decide) (fun _ _ z => z) fun v m3 z => ?_
      obtain ⟨y, b, e, hy, hb, hv, hb', u3⟩ := z
      exact ⟨u3, y, b, xs[i], by simp [hi'], e, (fun q => hD' (by rw [← q]; exact hy)), (fun q => hD' (by rw [← q]; exact hb)), hv, hb'⟩
    · have hys : IntsAs m' xs ys := all2_of (by first | exact ni1 hyl | simpa using hyl) fun i key v e1 e2 => by
        obtain ⟨y, l', key', f1, f2, _, _, f5, f6⟩ := hR i v e2
        rw [e1] at f1; cases f1
        exact ⟨y, l', f2, f5, f6⟩
      walk_at "w"
      refine call_listU hD' (by rw [hyl]; simp; lia) fun b m2 u2 hb hb' => ?_
      walk_at "w"
      refine (c_Vector1 G _ _).u13 (by decide) (fun _ _ z => z) fun y m3 hy hv u3 => ?_
      have uu := (u.trans u2).trans u3
      walk_at "w"
      refine (c_names_of G (uu.vec h) (.inl rfl) (hn.upd uu fun _ _ => by simp) hns).use (by decide) (fun _ _ z => z) fun v m4 z => ?_
      obtain ⟨hnl, u4⟩ := z
      walk_at "w"
      refine (c_with_names G (u4.vec hv) hnl.nmV hns).u01 (by decide) (fun _ _ z => z) fun m5 z => ?_
      obtain ⟨a', hv5, u5⟩ := z
      have hyn : (u.trans u2).none' hy = (u.trans u2).none' hy := rfl
      have hby : b ≠ y := fun q => by subst q; rw [hb'] at hy; cases hy
      have u45 : Upd [] m m5 := ((uu.trans u4).any.trans u5).shut1 ((u.trans u2).none' hy)
      have hysn : ∀ v ∈ ys, ∀ y', v = .ref y' → y' ≠ y := fun v hvm y' e q => by
        subst q
        obtain ⟨i, hi⟩ := List.getElem?_of_mem hvm
        obtain ⟨x', hx', r⟩ := hys.get' hi
        obtain ⟨y2, l2, e2, g1, g2⟩ := r
        rw [e] at e2; cases e2
        obtain ⟨_, _, g1⟩ := u2.vec g1
        rw [g1] at hy; cases hy
      walk_at "k"
      refine ⟨y, b, a', ys, rfl, hv5, u5.list (u4.list (u3.list hb')) (by first | exact ni1 hby | simpa using hby), ?_, u45⟩
      refine all2_of hys.length.symm fun i xi v e1 e2 => ?_
      obtain ⟨x', hx', r⟩ := hys.get' e2
      rw [e1] at hx'; cases hx'
      obtain ⟨y2, l2, rfl, g1, g2⟩ := r
      have u24 := (u2.trans u3).trans u4
      have hl2y : l2 ≠ y := fun q => by subst q; rw [u2.list g2] at hy; cases hy
      exact ⟨y2, l2, rfl, u5.vec (u24.vec g1) (by simpa using hysn _ (List.mem_of_getElem? e2) y2 rfl), u5.list (u24.list g2) (by first | exact ni1 hl2y | simpa using hl2y)⟩
theorem c_as_list (G : Glo X) {F : Addr → Prop} {x l : Addr} {a : MV} {xs : List (Option Int)} {nm : Option (List String)} (h : VecAt m x "integer" (.ref l) a) (hl : m l = some (.list (xs.map oint))) (hs : xs.length ≤ 1000) (hn : NmAt F m a nm) (hns : ∀ ss, nm = some ss → ss.length ≤ 1000000) :
    CallOk X 8 (.ref v_as_list) [.ref x] m (fun v m' => ∃ y l' a' vs, v = .ref y ∧ VecAt m' y "list" (.ref l') a' ∧ m' l' = some (.list vs) ∧ IntsAs m' xs vs ∧ Upd [] m m') FE := by
  refine call_fnK G (f_as_list _) rfl fun L K hK => ?_
  walk_at "w"
  refine lenU rfl (fun b m1 u1 _ _ => ?_)
  walk_at "w"
  refine (c_as_kind G (u1.vec h) (u1.list hl) hs (hn.upd u1 fun _ _ => by simp) hns).use (by decide) (fun _ _ z => z) fun v m2 z => ?_
  obtain ⟨y, l', a', vs, e, h1, h2, h3, u2⟩ := z
  walk_at "k"
  exact ⟨y, l', a', vs, e, h1, h2, h3, u1.trans u2⟩
theorem c_conv_same (G : Glo X) {x : Addr} {k : String} {i a notes : MV} (h : VecAt m x k i a) : CallOk X 2 (.ref v_converted_items) [.ref x, .str k, notes] m (fun v m' => v = i ∧ Upd [] m m') FE := by
  refine call_fnK G (f_converted_items _) rfl fun L K hK => ?_
  walk_at "w"
  have hh := decide_eq_true (rfl : k = k)
  walk_at "t"
  walk_at "w"
  exact ⟨rfl, .refl _ _⟩
theorem c_conv_up (G : Glo X) {F : Addr → Prop} {x l : Addr} {a notes : MV} {xs : List (Option Int)} {nm : Option (List String)} (h : VecAt m x "integer" (.ref l) a) (hl : m l = some (.list (xs.map oint))) (hs : xs.length ≤ 1000) (hn : NmAt F m a nm) (hns : ∀ ss, nm = some ss → ss.length ≤ 1000000) :
    CallOk X 9 (.ref v_converted_items) [.ref x, .str "list", notes] m (fun v m' => ∃ l' vs, v = .ref l' ∧ m' l' = some (.list vs) ∧ IntsAs m' xs vs ∧ Upd [] m m') FE := by
  refine call_fnK G (f_converted_items _) rfl fun L K hK => ?_
  walk_at "w"
  refine (c_is_list_kind G _).u01 (by decide) (fun _ _ z => z) fun m1 u1 => ?_
  walk_at "w"
  refine (c_is_list_kind G _).u01 (by decide) (fun _ _ z => z) fun m2 u2 => ?_
  walk_at "w"
  have u := u1.trans u2
  refine (c_as_list G (u.vec h) (u.list hl) hs (hn.upd u fun _ _ => by simp) hns).u44 (by decide) (fun _ _ z => z) fun y l' a' vs m3 h1 h2 h3 u3 => ?_
  walk_at "w"
  exact ⟨l', vs, rfl, h2, h3, u.trans u3⟩
theorem c_raised_same (G : Glo X) {x l : Addr} {k : String} {a notes : MV} {xs : List MV} {vn : Option Addr} (h : VecAt m x k (.ref l) a) (hl : m l = some (.list xs)) (hs : xs.length ≤ 1000000) (ha : AtAt m a vn) :
    CallOk X 5 (.ref v_raised) [.ref x, .str k, notes] m (fun v m' => ∃ y l' a', v = .ref y ∧ m y = none ∧ m l' = none ∧ VecAt m' y k (.ref l') a' ∧ m' l' = some (.list xs) ∧ AtNew m m' a' vn ∧ Upd [] m m') FE := by
  refine call_fnK G (f_raised _) rfl fun L K hK => ?_
  walk_at "w"
  have hh := decide_eq_true (rfl : k = k)
  walk_at "t"
  walk_at "w"
  refine (c_own G h hl hs ha).use (by decide) (fun _ _ z => z) fun v m3 z => ?_
  walk_at "k"
  exact z
theorem c_raised_up (G : Glo X) {F : Addr → Prop} {x l : Addr} {a notes : MV} {xs : List (Option Int)} {nm : Option (List String)} {vn : Option Addr} (h : VecAt m x "integer" (.ref l) a) (hl : m l = some (.list (xs.map oint))) (hs : xs.length ≤ 1000) (hn : NmAt F m a nm) (hns : ∀ ss, nm = some ss → ss.length ≤ 1000000) (ha : AtAt m a vn) :
    CallOk X 10 (.ref v_raised) [.ref x, .str "list", notes] m (fun v m' => ∃ y l' a' vs, v = .ref y ∧ m y = none ∧ m l' = none ∧ VecAt m' y "list" (.ref l') a' ∧ m' l' = some (.list vs) ∧ IntsAs m' xs vs ∧ AtNew m m' a' vn ∧ Upd [] m m') FE := by
  refine call_fnK G (f_raised _) rfl fun L K hK => ?_
  walk_at "w"
  have fin : ∀ m1 a1 vars, Upd [] m m1 → AtNew m m1 a1 vn → vars.lookup "v" = some (.ref x) → vars.lookup "kind" = some (.str "list") → vars.lookup "notes" = some notes → vars.lookup "attrs" = some a1 →
      TEs X 9 (e_raised L) (e_raised L) vars ⟨0, 0, 0, 0⟩ [] m1 (fun _ _ => True) FE := fun _ _ _ _ _ _ _ _ _ => tes_nil trivial
  clear fin
  cases vn with
  | none =>
    cases ha
    walk_at "w"
    refine (c_conv_up G h hl hs hn hns).u23 (by decide) (fun _ _ z => z) fun l1 vs m2 h1 h2 u2 => ?_
    walk_at "w"
    refine call_listU h1 (by rw [← h2.length]; lia) fun b m3 u3 hb hb' => ?_
    walk_at "w"
    refine (c_Vector G _ _ _).use (by decide) (fun _ _ z => z) fun v m4 z => ?_
    obtain ⟨y, e, hy, hv, u4⟩ := z
    walk_at "k"
    exact ⟨y, b, _, vs, e, (u2.trans u3).none' hy, u2.none' hb, hv, u4.list hb', (h2.upd u3).upd u4, rfl, (u2.trans u3).trans u4⟩
  | some w =>
    obtain ⟨d, rfl, hd⟩ := ha
    walk_at "w"
    refine call_dictU G hd (by show 1 ≤ _; decide) fun b1 m1 u1 hb1 hb1' => ?_
    walk_at "w"
    refine (c_conv_up G (u1.vec h) (u1.list hl) hs (hn.upd u1 fun _ _ => by simp) hns).u23 (by decide) (fun _ _ z => z) fun l1 vs m2 h1 h2 u2 => ?_
    walk_at "w"
    refine call_listU h1 (by rw [← h2.length]; lia) fun b m3 u3 hb hb' => ?_
    walk_at "w"
    refine (c_Vector G _ _ _).use (by decide) (fun _ _ z => z) fun v m4 z => ?_
    obtain ⟨y, e, hy, hv, u4⟩ := z
    have u13 := (u1.trans u2).trans u3
    walk_at "k"
    exact ⟨y, b, _, vs, e, u13.none' hy, (u1.trans u2).none' hb, hv, u4.list hb', (h2.upd u3).upd u4, ⟨b1, rfl, hb1, u4.sd (u3.sd (u2.sd hb1'))⟩, u13.trans u4⟩
end

noncomputable def nmE (nm : Option (List String)) (add : Option String) (n count : Nat) : Option (List String) := match nm, add with
  | none, none => none
  | nm, add => some ((nm.getD (List.replicate n "") ++ add.toList) ++ List.replicate (count - (nm.getD (List.replicate n "") ++ add.toList).length) "")
noncomputable def LackOk (k : String) (m : MH) (xs : List MV) : Prop := (k = "list" ∧ ∀ u ∈ xs, ∃ x, u = .ref x ∧ NullAt m x) ∨ (k = "integer" ∧ ∀ u ∈ xs, u = .none)
noncomputable def AddV (m : MH) (v : MV) : Option String → Prop
  | none => v = .none
  | some s => ∃ c, v = .ref c ∧ m c = some (.list [.str s])
theorem LackOk.upd {k : String} {B : List Addr} {m m' : MH} {xs : List MV} (h : LackOk k m xs) (u : Upd B m m') (hB : ∀ x ∈ B, ¬ NullAt m x) : LackOk k m' xs := by
  rcases h with ⟨e, h⟩ | h
  · exact .inl ⟨e, fun w hw => by obtain ⟨x, e, hx⟩ := h w hw; exact ⟨x, e, u.null hx fun z => hB x z hx⟩⟩
  · exact .inr h
section
variable {X : Cx} {n : Nat} {m : MH}
theorem c_first_count (G : Glo X) {l : Addr} {p : Nat} (hl : m l = some (.list [.int p])) : CallOk X 1 (.ref v_first_count) [.ref l] m (fun v m' => v = .int (p + 1) ∧ Upd [] m m') FE := by
  refine call_fnK G (f_first_count _) rfl fun L K hK => ?_
  walk_at "w"
  refine ts_for rfl (.inl (by kernel_rfl)) (fun _ => rfl) (fun _ _ => rfl) (ti_list ?_)
  walk_at "w"
  refine ⟨_, _, rfl, hl, fun i vars m' => vars.lookup "count" = some (.int (if i = 0 then 0 else p + 1)) ∧ Upd [] m m', ⟨rfl, .refl _ _⟩, fun i vars m' hi z hP => ?_, fun vars m' z hP => ?_⟩
  · obtain ⟨h1, u⟩ := z
    have hi' : i = 0 := by have : i < 1 := hi; lia
    subst hi'
    have e : nthv [MV.int (p : Int)] 0 = .int p := rfl
    rw [e]
    have h1 : List.lookup "count" vars = some (.int 0) := h1
    walk_at "w"
    exact ⟨hP, lk_same _ _ _, u⟩
  · obtain ⟨h1, u⟩ := z
    have h1 : List.lookup "count" vars = some (.int (p + 1)) := h1
    walk_at "w"
    exact ⟨rfl, u⟩
theorem c_kind_list (G : Glo X) {x : Addr} {i a vv : MV} (h : VecAt m x "list" i a) : CallOk X 3 (.ref v_element_kind) [.ref x, vv] m (fun v m' => v = .str "list" ∧ Upd [] m m') FE := by
  refine call_fnK G (f_element_kind _) rfl fun L K hK => ?_
  walk_at "w"
  refine (c_is_list_kind G _).u01 (by decide) (fun _ _ z => z) fun m1 u1 => ?_
  have h1 := u1.vec h
  walk_at "w"
  exact ⟨rfl, u1⟩
theorem c_kind_int (G : Glo X) {x y : Addr} {i a i' a' : MV} (h : VecAt m x "integer" i a) (h' : VecAt m y "integer" i' a') : CallOk X 4 (.ref v_element_kind) [.ref x, .ref y] m (fun v m' => v = .str "integer" ∧ Upd [] m m') FE := by
  refine call_fnK G (f_element_kind _) rfl fun L K hK => ?_
  walk_at "w"
  refine (c_is_list_kind G _).u01 (by decide) (fun _ _ z => z) fun m1 u1 => ?_
  walk_at "w"
  refine (c_is_atomic G (u1.vec h')).u01 (by decide) (fun _ _ z => z) fun m2 u2 => ?_
  have h2 := u2.vec (u1.vec h)
  have h2' := u2.vec (u1.vec h')
  walk_at "w"
  refine lenU rfl (fun b m3 u3 _ hb => ?_)
  walk_at "w"
  refine (c_common_kind G hb).u01 (by decide) (fun _ _ z => z) fun m4 u4 => ?_
  walk_at "k"
  exact ⟨rfl, ((u1.trans u2).trans u3).trans u4⟩
theorem c_kind_up (G : Glo X) {x y : Addr} {i a i' a' : MV} (h : VecAt m x "integer" i a) (h' : VecAt m y "list" i' a') : CallOk X 4 (.ref v_element_kind) [.ref x, .ref y] m (fun v m' => v = .str "list" ∧ Upd [] m m') FE := by
  refine call_fnK G (f_element_kind _) rfl fun L K hK => ?_
  walk_at "w"
  refine (c_is_list_kind G _).u01 (by decide) (fun _ _ z => z) fun m1 u1 => ?_
  walk_at "w"
  refine (c_is_atomic G (u1.vec h')).u01 (by decide) (fun _ _ z => z) fun m2 u2 => ?_
  have h2' := u2.vec (u1.vec h')
  walk_at "w"
  refine (c_is_list_kind G _).u01 (by decide) (fun _ _ z => z) fun m3 u3 => ?_
  walk_at "w"
  exact ⟨rfl, (u1.trans u2).trans u3⟩
theorem bin_repU {fe env : Env} {vars : Vars} {Q : MV → MH → Prop} {Ex : String → MH → Prop} {a : Addr} {v : MV} {k : Int} (e1 : m a = some (.list [v])) (hk : k ≤ 1000000) (hlo : 0 ≤ k) (q : ∀ c m', Upd [] m m' → m c = none → m' c = some (.list (List.replicate k.toNat v)) → Q (.ref c) m') : BinQ X n fe env vars .Mult (.ref a) (.int k) m Q Ex :=
  bin_rep e1 hk (fun c hc => q c _ (.new hc) hc (MH.set_same _ _ _)) hlo
theorem t_ext_tail (G : Glo X) {L y l tx : Addr} {k : String} {a : MV} {base : List String} {vn : Option Addr} {count : Nat} {vars : Vars} (g1 : vars.lookup "v" = some (.ref y)) (g2 : vars.lookup "texts" = some (.ref tx)) (g3 : vars.lookup "count" = some (.int count)) (h : VecAt m y k (.ref l) a) (ha : AtAt m a vn) {vs0 : List MV} (hl : m l = some (.list vs0)) (htx : m tx = some (.list (base.map .str))) (hc : base.length ≤ count) (hc' : count ≤ 1000) :
    TS X 5 (e_extend_vector L) (e_extend_vector L) vars (execs ((fBody (st 98)).drop 8) (e_extend_vector L)) m (fun r _ m' => retv r = .none ∧ ∃ a' d, VecAt m' y k (.ref l) a' ∧ NmAt (fun b => b ≠ l) m' a' (some (base ++ List.replicate (count - base.length) "")) ∧ (m d = none ∨ a = .ref d) ∧ Upd [tx, y, d] m m') FE := by
  walk_at "w"
  refine ⟨⟨_, htx⟩, ?_⟩
  walk_at "w"
  refine lenU rfl (fun b m1 u1 hb hb' => ?_)
  have htx1 := u1.list htx
  walk_at "w"
  refine call_len G (k := base.length) (by simp [lenM, htx1]) (by lia) ?_
  walk_at "w"
  refine bin_repU hb' (by lia) (by lia) (fun c m2 u2 hc2 hc2' => ?_)
  have htx2 := u2.list htx1
  have hrep : List.replicate (((count : Int) - (base.length : Int)).toNat) (MV.str "") = (List.replicate (count - base.length) "").map .str := by rw [List.map_replicate]; congr 1; exact Int.toNat_sub _ _
  rw [hrep] at hc2'
  refine ⟨c, _, _, rfl, htx2, hc2', by simp; lia, ?_⟩
  have u3 : Upd [tx] m2 (m2.set tx (.list (base.map .str ++ (List.replicate (count - base.length) "").map .str))) := .set
  have htx3 := MH.set_same m2 tx (.list (base.map .str ++ (List.replicate (count - base.length) "").map .str))
  rw [← List.map_append] at htx3 u3
  rw [← List.map_append]
  generalize m2.set tx _ = m3 at u3 htx3 ⊢
  have hty : y ≠ tx := fun q => by subst q; obtain ⟨_, _, z⟩ := h; rw [z] at htx; cases htx
  have u123 := (u1.trans u2).any.trans u3
  have hv3 := u123.vec h (by first | exact ni1 hty | simpa using hty)
  walk_at "w"
  refine (c_character G htx3 (by simp; lia)).u25 (by decide) (fun _ _ z => z) fun w l' m4 hw hl' hv' hll u4 => ?_
  walk_at "w"
  have ha4 : AtAt m4 a vn := by
    cases vn with
    | none => exact ha
    | some v =>
      obtain ⟨d, e, hd⟩ := ha
      exact ⟨d, e, u4.sd (u123.sd hd (by simp; rintro rfl; rw [htx] at hd; cases hd))⟩
  have hv4 := u4.vec hv3
  have hwy : w ≠ y := fun q => by subst q; obtain ⟨_, _, z⟩ := hv3; rw [z] at hw; cases hw
  refine (c_put_attr G hv4 ha4 hv' hwy (fun d e => ?_) (fun d e => ?_)).use (by decide) (fun _ _ z => z) fun v m5 z => ?_
  · cases vn with
    | none => cases ha; cases e
    | some v => obtain ⟨d', e', hd⟩ := ha4; cases e'; cases e; rintro rfl; obtain ⟨_, _, z⟩ := hv4; rw [z] at hd; cases hd
  · cases vn with
    | none => cases ha; cases e
    | some v => obtain ⟨d', e', hd⟩ := ha4; cases e'; cases e; rintro rfl; obtain ⟨_, _, z⟩ := hv'; rw [z] at hd; cases hd
  · obtain ⟨d, e, hv5, hd5, hdd, u5⟩ := z
    subst e
    walk_at "w"
    have hda : a = .ref d → m4 d = some (.sd [("names", .ref (vn.getD 0))]) := fun z => by
      cases vn with
      | none => cases ha; cases z
      | some v => obtain ⟨d', e', hd⟩ := ha4; cases e'; cases z; exact hd
    have hwd : w ≠ d := fun q => by
      subst q
      obtain ⟨_, _, z'⟩ := hv'
      rcases hdd with z | z
      · rw [z] at z'; cases z'
      · rw [hda z] at z'; cases z'
    have hld : l' ≠ d := fun q => by
      subst q
      rcases hdd with z | z
      · rw [hll] at z; cases z
      · rw [hda z] at hll; cases hll
    have hly' : l' ≠ y := fun q => by subst q; obtain ⟨_, _, z⟩ := hv4; rw [hll] at z; cases z
    have hl3 : ∃ xs, m3 l = some (.list xs) := by
      by_cases q : l = tx
      · exact ⟨_, by rw [q]; exact htx3⟩
      · exact ⟨_, u123.list hl (by first | exact ni1 q | simpa using q)⟩
    obtain ⟨xs3, hl3⟩ := hl3
    have hl4 := u4.list hl3
    have n1 : d ≠ l := fun q => by
      subst q
      rcases hdd with z | z
      · rw [hl4] at z; cases z
      · rw [hda z] at hl4; cases hl4
    have n2 : w ≠ l := fun q => by subst q; rw [hl3] at hw; cases hw
    have n3 : l' ≠ l := fun q => by subst q; rw [hl3] at hl'; cases hl'
    refine ⟨rfl, _, d, hv5, ⟨d, w, l', rfl, n1, hd5, n2, u5.vec hv' (by simp [hwy, hwd]), n3, u5.list hll (by simp [hld, hly'])⟩, ?_, ?_⟩
    · rcases hdd with z | z
      · by_cases q : d = tx
        · exfalso; subst q; rw [u4.list htx3] at z; cases z
        · exact .inl ((u123.trans u4.any).none' z (by first | exact ni1 q | simpa using q))
      · exact .inr z
    · exact ((u123.trans u4.any).mono fun b hb => by rw [List.mem_singleton.mp hb]; simp).trans (u5.mono fun b hb => by simp at hb; rcases hb with rfl | rfl <;> simp)
theorem t_ext_add (G : Glo X) {L y l tx : Addr} {k : String} {a av : MV} {base : List String} {vn : Option Addr} {add : Option String} {count : Nat} {vars : Vars} (g1 : vars.lookup "v" = some (.ref y)) (g2 : vars.lookup "texts" = some (.ref tx)) (g3 : vars.lookup "count" = some (.int count)) (g4 : vars.lookup "added" = some av) (h : VecAt m y k (.ref l) a) (ha : AtAt m a vn) {vs0 : List MV} (hl : m l = some (.list vs0)) (htx : m tx = some (.list (base.map .str))) (hadd : AddV m av add) (hc : (base ++ add.toList).length ≤ count) (hc' : count ≤ 1000) :
    TS X 5 (e_extend_vector L) (e_extend_vector L) vars (execs ((fBody (st 98)).drop 7) (e_extend_vector L)) m (fun r _ m' => ∃ m4, Upd [tx] m m4 ∧ m4 tx = some (.list ((base ++ add.toList).map .str)) ∧ ∃ a' d, VecAt m' y k (.ref l) a' ∧ NmAt (fun b => b ≠ l) m' a' (some ((base ++ add.toList) ++ List.replicate (count - (base ++ add.toList).length) "")) ∧ (m4 d = none ∨ a = .ref d) ∧ Upd [tx, y, d] m4 m') FE := by
  have hty : y ≠ tx := fun q => by subst q; obtain ⟨_, _, z⟩ := h; rw [z] at htx; cases htx
  have htail : ∀ m4, Upd [tx] m m4 → m4 tx = some (.list ((base ++ add.toList).map .str)) → TS X 5 (e_extend_vector L) (e_extend_vector L) vars (execs ((fBody (st 98)).drop 8) (e_extend_vector L)) m4 (fun r _ m' => ∃ m4, Upd [tx] m m4 ∧ m4 tx = some (.list ((base ++ add.toList).map .str)) ∧ ∃ a' d, VecAt m' y k (.ref l) a' ∧ NmAt (fun b => b ≠ l) m' a' (some ((base ++ add.toList) ++ List.replicate (count - (base ++ add.toList).length) "")) ∧ (m4 d = none ∨ a = .ref d) ∧ Upd [tx, y, d] m4 m') FE := fun m4 u4 h4 => by
    refine (t_ext_tail G g1 g2 g3 (u4.vec h (by first | exact ni1 hty | simpa using hty)) (vn := vn) (vs0 := if l = tx then (base ++ add.toList).map .str else vs0) ?_ ?_ h4 hc hc').mono (fun r _ m7 z => ?_) fun _ _ z => z
    rotate_left 1
    · by_cases q : l = tx
      · rw [if_pos q, q]; exact h4
      · rw [if_neg q]; exact u4.list hl (by first | exact ni1 q | simpa using q)
    rotate_left 1
    · cases vn with
      | none => exact ha
      | some v =>
        obtain ⟨d, e, hd⟩ := ha
        exact ⟨d, e, u4.sd hd (by simp; rintro rfl; rw [htx] at hd; cases hd)⟩
    · obtain ⟨_, a', d, z1, z2, z3, z4⟩ := z
      exact ⟨m4, u4, h4, a', d, z1, z2, z3, z4⟩
  refine ts_consB rfl fun K hK => ?_
  have hK' : ∀ m4, Upd [tx] m m4 → m4 tx = some (.list ((base ++ add.toList).map .str)) → K .next vars m4 := fun m4 u4 h4 => hK .next vars m4 (htail m4 u4 h4)
  clear hK htail
  cases add with
  | none =>
    cases hadd
    walk_at "w"
    exact hK' _ (.refl _ _) (by first | exact ni1 htx | simpa using htx)
  | some s =>
    obtain ⟨c, rfl, hc1⟩ := hadd
    walk_at "w"
    refine ⟨⟨_, htx⟩, ?_⟩
    walk_at "w"
    refine ⟨c, _, _, rfl, htx, hc1, by simp at hc; simp; lia, ?_⟩
    walk_at "w"
    exact hK' _ .set (by rw [MH.set_same]; simp)
theorem c_extend (G : Glo X) {y l : Addr} {k : String} {a nv av : MV} {vs : List MV} {vn : Option Addr} {nm : Option (List String)} {add : Option String} {count : Nat} (hk : k = "integer" ∨ k = "list") (h : VecAt m y k (.ref l) a) (hl : m l = some (.list vs)) (ha : AtAt m a vn) (hvn : vn = none ↔ nm = none) (hn : NmV m nv nm) (hadd : AddV m av add)
    (hnl : ∀ b, nv = .ref b → b ≠ l) (hal : ∀ b, av = .ref b → b ≠ l) (hc : vs.length ≤ count) (hc' : count ≤ 1000) (hnn : NmLen nm vs.length) (hca : add ≠ none → vs.length + 1 ≤ count) :
    CallOk X 6 (.ref v_extend_vector) [.ref y, .int count, nv, av] m (fun v m' => ∃ a' lack D, VecAt m' y k (.ref l) a' ∧ m' l = some (.list (vs ++ lack)) ∧ lack.length = count - vs.length ∧ LackOk k m' lack ∧ NmAt (fun b => b ≠ l) m' a' (nmE nm add vs.length count) ∧ (∀ d ∈ D, m d = none ∨ a = .ref d) ∧ Upd (y :: l :: D) m m') FE := by
  refine call_fnK G (f_extend_vector _) rfl fun L K hK => ?_
  have hly : l ≠ y := fun q => by subst q; obtain ⟨_, _, z⟩ := h; rw [z] at hl; cases hl
  have hvnl : ∀ m1, Upd [l] m m1 → NullAt m1 l → m1 l = some (.list vs) → False := fun m1 _ hnull z => by obtain ⟨_, e⟩ := hnull; rw [z] at e; cases e
  walk_at "w"
  refine call_len G (k := vs.length) (by simp [lenM, hl]) (by lia) ?_
  walk_at "w"
  refine ts_for rfl (.inl (by kernel_rfl)) (fun _ => rfl) (fun _ _ => rfl) (ti_range2 G (by kernel_rfl) rfl rfl ?_)
  walk_at "w"
  refine (c_room G (by lia)).u01 (by decide) (fun _ _ z => z) fun m1 u1 => ?_
  refine ⟨vs.length, count, rfl, rfl, by lia, by lia, by lia, by lia, fun i vars m' => vars.lookup "v" = some (.ref y) ∧ vars.lookup "names" = some nv ∧ vars.lookup "added" = some av ∧ vars.lookup "n" = some (.int vs.length) ∧ vars.lookup "count" = some (.int count) ∧ Upd [l] m m' ∧ ∃ lack, m' l = some (.list (vs ++ lack)) ∧ lack.length = i ∧ LackOk k m' lack,
    ⟨rfl, rfl, rfl, rfl, rfl, u1.any, [], by simpa using u1.list hl, rfl, by rcases hk with rfl | rfl; exact .inr ⟨rfl, fun u z => by cases z⟩; exact .inl ⟨rfl, fun u z => by cases z⟩⟩, fun i vars m' hi z _ => ?_, fun vars m' z _ => ?_⟩
  · obtain ⟨g1, g2, g3, g4, g5, u, lack, hll, hlen, hok⟩ := z
    have hv := u.vec h (by first | exact ni1 (Ne.symm hly) | simpa using Ne.symm hly)
    have hb : vs.length + lack.length ≤ 999999 := by lia
    walk_at "w"
    refine ⟨⟨_, hll⟩, ?_⟩
    walk_at "w"
    rcases hk with rfl | rfl
    · refine (c_lacking_int G).u01 (by decide) (fun _ _ z => z) fun m2 u2 => ?_
      refine ⟨_, u2.list hll, by simpa using hb, ?_⟩
      walk_at "w"
      have u3 : Upd [l] m2 (m2.set l (.list ((vs ++ lack) ++ [.none]))) := .set
      refine ⟨trivial, lk_other (by decide) g1, lk_other (by decide) g2, lk_other (by decide) g3, lk_other (by decide) g4, lk_other (by decide) g5, (u.trans u2.any).trans u3, lack ++ [.none], ?_, by simp [hlen], .inr ⟨rfl, fun w hw => ?_⟩⟩
      · rw [MH.set_same]; simp
      · rcases hok with ⟨e, _⟩ | ⟨_, hok⟩
        · exact absurd e (by decide)
        · rcases List.mem_append.mp hw with hw | hw
          · exact hok w hw
          · simpa using hw
    · refine (c_lacking_list G).u13 (by decide) (fun _ _ z => z) fun x m2 hx hnx u2 => ?_
      refine ⟨_, u2.list hll, by simpa using hb, ?_⟩
      walk_at "w"
      have u3 : Upd [l] m2 (m2.set l (.list ((vs ++ lack) ++ [.ref x]))) := .set
      refine ⟨trivial, lk_other (by decide) g1, lk_other (by decide) g2, lk_other (by decide) g3, lk_other (by decide) g4, lk_other (by decide) g5, (u.trans u2.any).trans u3, lack ++ [.ref x], ?_, by simp [hlen], .inl ⟨rfl, fun w hw => ?_⟩⟩
      · rw [MH.set_same]; simp
      · have hlist2 := u2.list hll
        rcases hok with ⟨_, hok⟩ | ⟨e, _⟩
        · rcases List.mem_append.mp hw with hw | hw
          · obtain ⟨x', e, hx'⟩ := hok w hw
            exact ⟨x', e, u3.null (u2.null hx') (by rintro q; rw [List.mem_singleton.mp q] at hx'; obtain ⟨_, z⟩ := hx'; rw [hll] at z; cases z)⟩
          · rw [List.mem_singleton] at hw
            exact ⟨x, hw, u3.null hnx (by rintro q; rw [List.mem_singleton.mp q] at hx; rw [hll] at hx; cases hx)⟩
        · exact absurd e (by decide)
  · obtain ⟨g1, g2, g3, g4, g5, u, lack, hll, hlen, hok⟩ := z
    have hv := u.vec h (by first | exact ni1 (Ne.symm hly) | simpa using Ne.symm hly)
    have ha' : AtAt m' a vn := by
      cases vn with
      | none => exact ha
      | some v =>
        obtain ⟨d, e, hd⟩ := ha
        exact ⟨d, e, u.sd hd (by simp; rintro rfl; rw [hl] at hd; cases hd)⟩
    have hlen : lack.length = count - vs.length := by lia
    walk_at "w"
    refine (c_drop_attr G (by decide) hv ha').u01 (by decide) (fun _ _ z => z) fun m2 u2 => ?_
    walk_at "w"
    refine (c_drop_attr G (by decide) (u2.vec hv) (ha'.upd u2)).u01 (by decide) (fun _ _ z => z) fun m3 u3 => ?_
    have u23 := u2.trans u3
    have hv3 := u23.vec hv
    have ha3 := ha'.upd u23
    have hl3 := u23.list hll
    have hok3 := hok.upd u23 fun x hx => by cases hx
    have um3 : Upd [l] m m3 := u.trans u23.any
    have fin : ∀ m4 m5 tx, Upd [] m3 m4 → m3 tx = none → (∃ xs, m4 tx = some (.list xs)) → ∀ a' d base, VecAt m5 y k (.ref l) a' → NmAt (fun b => b ≠ l) m5 a' (some (base ++ List.replicate (count - base.length) "")) → (m4 d = none ∨ a = .ref d) → Upd [tx, y, d] m4 m5 → some (base ++ List.replicate (count - base.length) "") = nmE nm add vs.length count →
        ∃ a' lack D, VecAt m5 y k (.ref l) a' ∧ m5 l = some (.list (vs ++ lack)) ∧ lack.length = count - vs.length ∧ LackOk k m5 lack ∧ NmAt (fun b => b ≠ l) m5 a' (nmE nm add vs.length count) ∧ (∀ d ∈ D, m d = none ∨ a = .ref d) ∧ Upd (y :: l :: D) m m5 := by
      intro m4 m5 tx u4 htx htxl a' d base h1 h2 h3 u5 h4
      have hltx : l ≠ tx := fun q => by subst q; rw [hl3] at htx; cases htx
      have hda : a = .ref d → m d ≠ none ∧ (∀ xs, m d ≠ some (.list xs)) ∧ ∀ dx, m d ≠ some (.inst cNull dx nullAs) := fun z => by
        cases vn with
        | none => cases ha; cases z
        | some v => obtain ⟨d', e', hd⟩ := ha; cases e'; cases z; exact ⟨by rw [hd]; simp, (fun xs q => by rw [hd] at q; cases q), fun xs q => by rw [hd] at q; cases q⟩
      have hld : l ≠ d := fun q => by
        subst q
        rcases h3 with z | z
        · rw [u4.list hl3] at z; cases z
        · exact (hda z).2.1 _ hl
      refine ⟨a', lack, [d, tx], h1, u5.list (u4.list hl3) (by simp [hltx, hly, hld]), hlen, ?_, h4 ▸ h2, fun e he => ?_, ?_⟩
      · refine (hok3.upd u4 fun x hx => by cases hx).upd u5 fun x hx hnx => ?_
        obtain ⟨dn, hnx⟩ := hnx
        simp at hx
        rcases hx with rfl | rfl | rfl
        · obtain ⟨xs, z⟩ := htxl; rw [z] at hnx; cases hnx
        · obtain ⟨_, _, z⟩ := u4.vec hv3; rw [z] at hnx; cases hnx
        · rcases h3 with z | z
          · rw [z] at hnx; cases hnx
          · cases vn with
            | none => cases ha; cases z
            | some v => obtain ⟨d', e', hd⟩ := ha3; cases e'; cases z; rw [u4.sd hd] at hnx; cases hnx
      · simp at he
        rcases he with rfl | rfl
        · rcases h3 with z | z
          · exact .inl (um3.none' (u4.none' z) (by first | exact ni1 (Ne.symm hld) | simpa using Ne.symm hld))
          · exact .inr z
        · exact .inl (um3.none' htx (by first | exact ni1 (Ne.symm hltx) | simpa using Ne.symm hltx))
      · exact ((um3.trans u4.any).mono fun b hb => by rw [List.mem_singleton.mp hb]; simp).trans (u5.mono fun b hb => by simp at hb; rcases hb with rfl | rfl | rfl <;> simp)
    have hcl : ∀ s c, add = some s → av = .ref c → m c = some (.list [.str s]) → m3 c = some (.list [.str s]) := fun s c _ e hc => um3.list hc (by simpa using hal c e)
    cases nm with
    | none =>
      cases hn
      have hvn' := hvn.mpr rfl
      subst hvn'
      cases ha
      cases add with
      | none =>
        cases hadd
        walk_at "w"
        exact ⟨_, lack, [], hv3, hl3, hlen, hok3, rfl, (fun d z => by cases z), um3.mono fun b hb => by rw [List.mem_singleton.mp hb]; simp⟩
      | some s =>
        obtain ⟨c, rfl, hcc⟩ := hadd
        have hc3 := hcl s c rfl rfl hcc
        have hca' := hca (by simp)
        walk_at "w"
        refine lenU rfl (fun b m4 u4 hb hb' => ?_)
        walk_at "w"
        refine bin_repU hb' (by lia) (by lia) (fun tx m5 u5 htx htx' => ?_)
        rw [show List.replicate ((vs.length : Int)).toNat (MV.str "") = (List.replicate vs.length "").map .str from by rw [List.map_replicate]; rfl] at htx'
        have htx3 := u4.none' htx
        have u35 := u4.trans u5
        walk_at "k"
        refine ts_cons (TS.mono (Q := fun r v m' => r = .next ∧ v = setv vars "texts" (.ref tx) ∧ m' = m5) ?_ (fun r v m' z => ?_) fun _ _ z => z)
        · walk_at "w"
          exact ⟨rfl, rfl, rfl⟩
        · obtain ⟨rfl, rfl, rfl⟩ := z
          refine (t_ext_add G (add := some s) (lk_other (by decide) g1) (lk_same _ _ _) (lk_other (by decide) g5) (lk_other (by decide) g3) (u35.vec hv3) (ha3.upd u35) (u35.list hl3) htx' ⟨c, rfl, u35.list hc3⟩ (by simp; lia) hc').mono (fun r _ m7 z => ?_) fun _ _ z => z
          obtain ⟨m6, u6, htx6, a', d, z1, z2, z3, z4⟩ := z
          have u36 : Upd [] m3 m6 := (u35.any.trans u6).shut1 htx3
          walk_at "k"
          exact fin m6 m7 tx u36 htx3 ⟨_, htx6⟩ a' d _ z1 z2 z3 z4 rfl
    | some ss =>
      obtain ⟨nb, rfl, hnb⟩ := hn
      have hnb3 := um3.list hnb (by simpa using hnl nb rfl)
      have hsl := hnn ss rfl
      have hadd3 : AddV m3 av add := by
        cases add with
        | none => exact hadd
        | some s => obtain ⟨c, e, hcc⟩ := hadd; exact ⟨c, e, hcl s c rfl e hcc⟩
      have hcb : (ss ++ add.toList).length ≤ count := by
        cases add with
        | none => simp; lia
        | some s => have := hca (by simp); simp; lia
      have isn : isNoneM (.ref nb) = false := rfl
      walk_at "w"
      refine lenU rfl (fun b m4 u4 hb hb' => ?_)
      walk_at "w"
      refine bin_repU hb' (by lia) (by lia) (fun tx0 m5 u5 _ _ => ?_)
      walk_at "w"
      refine call_listU (u5.list (u4.list hnb3)) (by simp; lia) fun tx m6 u6 htx htx6 => ?_
      have u46 := u4.trans u5
      have u36 := u46.trans u6
      walk_at "k"
      refine ts_nil ?_
      walk_at "k"
      refine (t_ext_add G (add := add) (lk_other (by decide) (lk_other (by decide) g1)) (lk_same _ _ _) (lk_other (by decide) (lk_other (by decide) g5)) (lk_other (by decide) (lk_other (by decide) g3)) (u36.vec hv3) (ha3.upd u36) (u36.list hl3) htx6 ?_ hcb hc').mono (fun r _ m7 z => ?_) fun _ _ z => z
      · cases add with
        | none => exact hadd3
        | some s => obtain ⟨c, e, hcc⟩ := hadd3; exact ⟨c, e, u36.list hcc⟩
      · obtain ⟨m8, u8, htx8, a', d, z1, z2, z3, z4⟩ := z
        have u38 : Upd [] m3 m8 := (u36.any.trans u8).shut1 (u46.none' htx)
        walk_at "k"
        exact fin m8 m7 tx u38 (u46.none' htx) ⟨_, htx8⟩ a' d _ z1 z2 z3 z4 rfl
end

theorem er_ne {α : Type} {vs : List α} {i p : Nat} {x : α} (h : vs[i]? = some x) (hne : i ≠ p) : (vs.take (i + 1)).eraseIdx p = (vs.take i).eraseIdx p ++ [x] := by
  have hi := (List.getElem?_eq_some_iff.mp h).1
  rw [List.take_add_one, h]
  show (vs.take i ++ [x]).eraseIdx p = _
  rcases Nat.lt_or_ge p i with q | q
  · rw [List.eraseIdx_append_of_lt_length (by simp; lia)]
  · rw [List.eraseIdx_of_length_le (by simp; lia), List.eraseIdx_of_length_le (by simp; lia)]
theorem er_eq {α : Type} {vs : List α} {p : Nat} : (vs.take (p + 1)).eraseIdx p = (vs.take p).eraseIdx p := by
  rw [List.eraseIdx_of_length_le (l := vs.take p) (by simp; lia)]
  rcases Nat.lt_or_ge p vs.length with q | q
  · rw [List.take_add_one]
    have : vs[p]? = some vs[p] := by simp [q]
    rw [this]
    show (vs.take p ++ [vs[p]]).eraseIdx p = _
    rw [List.eraseIdx_append_of_length_le (by simp; lia)]
    simp [Nat.min_eq_left (Nat.le_of_lt q)]
  · rw [List.take_of_length_le (by lia), List.take_of_length_le (by lia), List.eraseIdx_of_length_le (by lia)]
theorem upd_back {m1 m' : MH} {d : Addr} {o : Obj} {es : List (String × MV)} (h : m1 d = some (.sd es)) (u : Upd [] (m1.set d (.raw o)) m') : Upd [] m1 (m'.set d (.sd es)) := fun x ob e _ => by
  by_cases q : x = d
  · subst q; rw [h] at e; cases e; exact ⟨_, MH.set_same _ _ _, .inl rfl⟩
  · obtain ⟨o', e', l⟩ := u x ob (by rw [MH.set_other _ _ q]; exact e) (by simp)
    exact ⟨o', by rw [MH.set_other _ _ q]; exact e', l⟩
noncomputable def keepN (nm : Option (List String)) (i p : Nat) : List MV := match nm with
  | none => []
  | some ss => ((ss.take i).eraseIdx p).map .str
section
variable {X : Cx} {n : Nat} {m : MH}
theorem c_delete (G : Glo X) {x l pl : Addr} {a : MV} {vs : List MV} {nm : Option (List String)} {p : Nat} (h : VecAt m x "list" (.ref l) a) (hl : m l = some (.list vs)) (hn : NmAt FT m a nm) (hnl : NmLen nm vs.length) (hp : p < vs.length) (hs : vs.length ≤ 1000) (hpl : m pl = some (.list [.int p])) :
    CallOk X 8 (.ref v_delete_places) [.ref x, .ref pl] m (fun v m' => ∃ y l' a', v = .ref y ∧ VecAt m' y "list" (.ref l') a' ∧ m' l' = some (.list (vs.eraseIdx p)) ∧ NmAt FT m' a' (nm.map (·.eraseIdx p)) ∧ Upd [] m m') FE := by
  refine call_fnK G (f_delete_places _) rfl fun L K hK => ?_
  have hns : ∀ ss, nm = some ss → ss.length ≤ 1000000 := fun ss e => by have := hnl ss e; first | exact eq6 this (by assumption) | lia
  walk_at "w"
  refine (c_names_of G h (.inr rfl) hn hns).use (by decide) (fun _ _ z => z) fun nv m1 z => ?_
  obtain ⟨hnv, u1⟩ := z
  have h1 := u1.vec h
  have hl1 := u1.list hl
  walk_at "w"
  refine call_len G (k := vs.length) (by simp [lenM, hl1]) (by lia) ?_
  walk_at "w"
  refine (c_first_count G (u1.list hpl)).u01 (by decide) (fun _ _ z => z) fun m2 u2 => ?_
  walk_at "w"
  refine call_max _ _ ?_
  rw [if_neg (by lia)]
  walk_at "w"
  refine (c_room G (by lia)).u01 (by decide) (fun _ _ z => z) fun m3 u3 => ?_
  walk_at "w"
  refine te_dict0i fun g hg => ?_
  have u13 := (u1.trans u2).trans u3
  have ug : Upd [] m3 (m3.set g (.idd [])) := .new hg
  have hgg := MH.set_same m3 g (.idd [])
  generalize m3.set g (.idd []) = m4 at ug hgg ⊢
  have u14 := u13.trans ug
  walk_at "w"
  refine ts_for rfl (.inl (by kernel_rfl)) (fun _ => rfl) (fun _ _ => rfl) (ti_list ?_)
  walk_at "w"
  refine ⟨_, _, rfl, u14.list hpl, fun i vars m' => A6 (vars.lookup "v" = some (.ref x)) (vars.lookup "names" = some nv) (vars.lookup "count" = some (.int vs.length)) (vars.lookup "gone" = some (.ref g)) (Upd [g] m4 m') (m' g = some (.idd (if i = 0 then [] else [((p : Int), .bool true)]))), ⟨rfl, rfl, rfl, rfl, .refl _ _, hgg⟩, fun i vars m' hi z hP => ?_, fun vars m' z hP => ?_⟩
  · obtain ⟨g1, g2, g3, g4, u, hgm⟩ := z
    have hi' : i = 0 := by have : i < 1 := hi; lia
    subst hi'
    have e : nthv [MV.int (p : Int)] 0 = .int p := rfl
    rw [e]
    have hgm : m' g = some (.idd []) := hgm
    walk_at "w"
    refine ⟨_, setM_idd hgm (Nat.zero_le _), ?_⟩
    walk_at "w"
    refine ⟨(MH.set_other _ _ (fun q => by subst q; rw [hgm] at hP; cases hP)).trans hP, lk_other (by decide) g1, lk_other (by decide) g2, lk_other (by decide) g3, lk_other (by decide) g4, u.trans .set, ?_⟩
    rw [MH.set_same]; rfl
  · obtain ⟨g1, g2, g3, g4, u, hgm⟩ := z
    have hgm : m' g = some (.idd [((p : Int), .bool true)]) := hgm
    have hgm1 : m g = none := u13.none' hg
    have u' : Upd [] m m' := (u14.any.trans u).shut1 hgm1
    walk_at "w"
    refine lenU rfl (fun il m5 u5 hil hil' => ?_)
    walk_at "w"
    refine lenU rfl (fun kl m6 u6 hkl hkl' => ?_)
    walk_at "w"
    refine ts_for rfl (.inl (by kernel_rfl)) (fun _ => rfl) (fun _ _ => rfl) (ti_range1 G (by kernel_rfl) rfl ?_)
    walk_at "w"
    have hik : il ≠ kl := fun q => by subst q; rw [hil'] at hkl; cases hkl
    refine ⟨by lia, by lia, fun i vars m' => vars.lookup "v" = some (.ref x) ∧ vars.lookup "names" = some nv ∧ vars.lookup "gone" = some (.ref g) ∧ vars.lookup "items" = some (.ref il) ∧ vars.lookup "kept_names" = some (.ref kl) ∧ Upd [il, kl] m6 m' ∧ m' il = some (.list ((vs.take i).eraseIdx p)) ∧ m' kl = some (.list (keepN nm i p)),
      ⟨lk_other (by decide) (lk_other (by decide) g1), lk_other (by decide) (lk_other (by decide) g2), lk_other (by decide) (lk_other (by decide) g4), lk_other (by decide) (lk_same _ _ _), lk_same _ _ _, .refl _ _, by simpa using u6.list hil', by simpa [keepN] using (by cases nm <;> simpa [keepN] using hkl')⟩, fun i vars m7 hi z _ => ?_, fun vars m7 z _ => ?_⟩
    · obtain ⟨k1, k2, k3, k4, k5, u7, hi7, hk7⟩ := z
      have hi' : i < vs.length := by simpa using hi
      have hgil : g ≠ il := fun q => by subst q; rw [hgm] at hil; cases hil
      have hgkl : g ≠ kl := fun q => by subst q; rw [u5.idd hgm] at hkl; cases hkl
      have hg7 : m7 g = some (.idd [((p : Int), .bool true)]) := u7.idd (u6.idd (u5.idd hgm)) (by simp [hgil, hgkl])
      walk_at "w"
      refine notIn_idd G hg7 ?_
      refine ⟨_, rfl, ?_⟩
      have hlook : (List.lookup (i : Int) [((p : Int), MV.bool true)]).isSome = decide (i = p) := by
        rw [List.lookup_cons]
        by_cases q : i = p
        · subst q; simp
        · have : ((i : Int) == (p : Int)) = false := by simp; lia
          rw [this]; simp [q]
      rw [hlook]
      have hlil : l ≠ il := fun q => by subst q; rw [u'.list hl] at hil; cases hil
      have hlkl : l ≠ kl := fun q => by subst q; rw [u5.list (u'.list hl)] at hkl; cases hkl
      have hxil : x ≠ il := fun q => by subst q; obtain ⟨_, _, z⟩ := u'.vec h; rw [z] at hil; cases hil
      have hxkl : x ≠ kl := fun q => by subst q; obtain ⟨_, _, z⟩ := u5.vec (u'.vec h); rw [z] at hkl; cases hkl
      have hv7 := u7.vec (u6.vec (u5.vec (u'.vec h))) (by simp [hxil, hxkl])
      have hl7 := u7.list (u6.list (u5.list (u'.list hl))) (by simp [hlil, hlkl])
      have hx : vs[i]? = some vs[i] := by simp [hi']
      generalize vs[i] = w at hx
      by_cases q : i = p
      · subst q
        rw [decide_eq_true rfl]
        walk_at "w"
        refine ⟨trivial, lk_other (by decide) k1, lk_other (by decide) k2, lk_other (by decide) k3, lk_other (by decide) k4, lk_other (by decide) k5, u7, by rw [er_eq]; exact hi7, ?_⟩
        cases nm with
        | none => exact hk7
        | some ss => show _ = some (MO.list (((ss.take (i + 1)).eraseIdx i).map .str)); rw [er_eq]; exact hk7
      · rw [decide_eq_false q]
        have hlt : decide ((i : Int) < (vs.length : Int)) = true := by simp; lia
        have hle : ((vs.take i).eraseIdx p).length ≤ 1000 := by
          have h1 := List.length_eraseIdx_le (vs.take i) p
          have h2 := List.length_take_le i vs
          have h3 : (vs.take i).length ≤ vs.length := by rw [List.length_take]; lia
          lia
        walk_at "w"
        refine call_len G (k := vs.length) (by simp [lenM, hl7]) (by lia) ?_
        walk_at "w"
        refine ⟨⟨_, hi7⟩, ?_⟩
        walk_at "w"
        rw [hlt]
        walk_at "w"
        refine ⟨_, getM_list' hl7 (by lia) (by lia) (by first | exact ni1 hx | simpa using hx), _, hi7, by lia, ?_⟩
        have u8 : Upd [il, kl] m7 (m7.set il (.list ((vs.take i).eraseIdx p ++ [w]))) := Upd.set.mono fun b hb => by rw [List.mem_singleton.mp hb]; simp
        have hi8 := MH.set_same m7 il (.list ((vs.take i).eraseIdx p ++ [w]))
        have hk8 : (m7.set il (.list ((vs.take i).eraseIdx p ++ [w]))) kl = some (.list (keepN nm i p)) := (MH.set_other _ _ (Ne.symm hik)).trans hk7
        rw [← er_ne hx q] at hi8 u8 hk8 ⊢
        generalize m7.set il _ = m8 at u8 hi8 hk8 ⊢
        have u78 := u7.trans u8
        cases nm with
        | none =>
          cases hnv
          walk_at "w"
          exact ⟨trivial, lk_other (by decide) (lk_other (by decide) k1), lk_other (by decide) (lk_other (by decide) k2), lk_other (by decide) (lk_other (by decide) k3), lk_other (by decide) (lk_other (by decide) k4), lk_other (by decide) (lk_other (by decide) k5), u78, hi8, hk8⟩
        | some ss =>
          obtain ⟨nb, rfl, hnb, hnb1⟩ := hnv
          have hsl := hnl ss rfl
          have hnbm : m' nb = some (.list (ss.map .str)) := u.list (ug.list (u3.list (u2.list hnb1))) (by simp; rintro rfl; rw [u3.list (u2.list hnb1)] at hg; cases hg)
          have hn1 : nb ≠ il := fun q => by subst q; rw [hnbm] at hil; cases hil
          have hn2 : nb ≠ kl := fun q => by subst q; rw [u5.list hnbm] at hkl; cases hkl
          have hnb8 : m8 nb = some (.list (ss.map .str)) := u8.list (u7.list (u6.list (u5.list hnbm)) (by simp [hn1, hn2])) (by simp [hn1, hn2])
          have hiss : i < ss.length := by lia
          have hsx : ss[i]? = some ss[i] := by simp [hiss]
          generalize ss[i] = sx at hsx
          have hkl' : (((ss.take i).eraseIdx p).map MV.str).length ≤ 999999 := by
            rw [List.length_map]
            have h1 := List.length_eraseIdx_le (ss.take i) p
            have h3 : (ss.take i).length ≤ ss.length := by rw [List.length_take]; lia
            lia
          walk_at "w"
          refine ⟨⟨_, hk8⟩, ?_⟩
          walk_at "w"
          refine ⟨_, getM_list' hnb8 (by lia) (by lia) (by rw [List.getElem?_map, Int.toNat_natCast, hsx]; rfl), _, hk8, hkl', ?_⟩
          walk_at "w"
          have u9 : Upd [il, kl] m8 (m8.set kl (.list (keepN (some ss) i p ++ [.str sx]))) := Upd.set.mono fun b hb => by rw [List.mem_singleton.mp hb]; simp
          refine ⟨trivial, lk_other (by decide) (lk_other (by decide) k1), lk_other (by decide) (lk_other (by decide) k2), lk_other (by decide) (lk_other (by decide) k3), lk_other (by decide) (lk_other (by decide) k4), lk_other (by decide) (lk_other (by decide) k5), u78.trans u9, (MH.set_other _ _ hik).trans hi8, ?_⟩
          rw [MH.set_same]
          show some (MO.list _) = some (MO.list (((ss.take (i + 1)).eraseIdx p).map .str))
          rw [er_ne hsx q]; simp [keepN]
    · obtain ⟨k1, k2, k3, k4, k5, u7, hi7, hk7⟩ := z
      have hi7 : m7 il = some (.list (vs.eraseIdx p)) := by simpa using hi7
      have hk7 : m7 kl = some (.list (keepN nm vs.length p)) := by simpa using hk7
      have u7' : Upd [] m m7 := (((u'.trans u5).trans u6).any.trans u7).shut fun b hb => by
        simp at hb
        rcases hb with rfl | rfl
        · exact .inr (u'.none' hil)
        · exact .inr ((u'.trans u5).none' hkl)
      have hv7 := u7'.vec h
      obtain ⟨vn, ha, hw⟩ := hn.at
      have ha7 := ha.upd u7'
      walk_at "w"
      refine (c_Vector1 G _ _).u13 (by decide) (fun _ _ z => z) fun y m8 hy hvy u8 => ?_
      have u8' := u7'.trans u8
      have hv8 := u8.vec hv7
      have ha8 := ha7.upd u8
      have hi8 := u8.list hi7
      have hk8 := u8.list hk7
      cases nm with
      | none =>
        cases vn with
        | some _ => exact hw.elim
        | none =>
          cases hnv
          cases ha
          walk_at "w"
          exact ⟨y, il, _, rfl, hvy, hi8, rfl, u8'⟩
      | some ss =>
        cases vn with
        | none => exact hw.elim
        | some w =>
          obtain ⟨d, rfl, hd⟩ := ha8
          obtain ⟨nb, rfl, _, hnb1⟩ := hnv
          have hsl := hnl ss rfl
          walk_at "w"
          refine ts_for_dict G rfl (.inl (by kernel_rfl)) (fun _ => rfl) (fun _ _ => rfl) ?_
          walk_at "w"
          refine ⟨_, _, rfl, hd, fun o => ⟨fun i vars m' => A4 (vars.lookup "result" = some (.ref y)) (vars.lookup "names" = some (.ref nb)) (vars.lookup "kept_names" = some (.ref kl)) (Upd [] (m8.set d (.raw o)) m'), ⟨lk_same _ _ _, lk_other (by decide) k2, lk_other (by decide) k5, .refl _ _⟩, fun i vars m9 hi z hP => ?_, fun vars m9 z hP => ?_⟩⟩
          · obtain ⟨b1, b2, b3, b4⟩ := z
            have hi' : i = 0 := by have : i < 1 := hi; lia
            subst hi'
            have e : nthv ([("names", MV.ref w)].map fun p => MV.str p.1) 0 = .str "names" := rfl
            rw [e]
            walk_at "w"
            refine lenU rfl (fun b m10 u10 _ hb => ?_)
            walk_at "w"
            exact ⟨u10.raw hP, lk_other (by decide) b1, lk_other (by decide) b2, lk_other (by decide) b3, b4.trans u10⟩
          · obtain ⟨b1, b2, b3, b4⟩ := z
            have u9 := upd_back hd b4
            generalize m9.set d (.sd [("names", MV.ref w)]) = m10 at u9 ⊢
            have hvy10 := u9.vec hvy
            have u10 := u8'.trans u9
            have hk10 : m10 kl = some (.list ((ss.eraseIdx p).map .str)) := by
              have := u9.list hk8
              simpa [keepN, ← hsl] using this
            have hel : (ss.eraseIdx p).length ≤ 1000 := by have := List.length_eraseIdx_le ss p; lia
            walk_at "w"
            refine (c_character G hk10 (by simp; lia)).u25 (by decide) (fun _ _ z => z) fun cw l' m11 hcw hl' hcv hcl u11 => ?_
            walk_at "w"
            have hcwy : cw ≠ y := fun q => by subst q; obtain ⟨_, _, z⟩ := hvy10; rw [z] at hcw; cases hcw
            refine (c_put_attr (vn := none) G (u11.vec hvy10) rfl hcv hcwy (fun d e => by cases e) (fun d e => by cases e)).u14 (by decide) (fun _ _ z => z) fun d2 m12 hv12 hd12 hdd u12 => ?_
            have hd2 : m11 d2 = none := by
              rcases hdd with z | z
              · exact z
              · cases z
            walk_at "w"
            have hcwd : cw ≠ d2 := fun q => by subst q; obtain ⟨_, _, z⟩ := hcv; rw [z] at hd2; cases hd2
            have hl'd : l' ≠ d2 := fun q => by subst q; rw [hcl] at hd2; cases hd2
            have hl'y : l' ≠ y := fun q => by subst q; obtain ⟨_, _, z⟩ := u11.vec hvy10; rw [hcl] at z; cases z
            have hily : il ≠ y := fun q => by subst q; obtain ⟨_, _, z⟩ := hvy; rw [hi8] at z; cases z
            have hild : il ≠ d2 := fun q => by subst q; rw [u11.list (u9.list hi8)] at hd2; cases hd2
            refine ⟨y, il, _, rfl, hv12, u12.list (u11.list (u9.list hi8)) (by simp [hily, hild]), ⟨d2, cw, l', rfl, trivial, hd12, trivial, u12.vec hcv (by simp [hcwy, hcwd]), trivial, u12.list hcl (by simp [hl'y, hl'd])⟩, ?_⟩
            refine ((u10.trans u11).any.trans u12).shut fun b hb => ?_
            simp at hb
            rcases hb with rfl | rfl
            · exact .inr (u7'.none' hy)
            · exact .inr ((u10.trans u11).none' hd2)
end

noncomputable def nmP (nm : Option (List String)) (add : Option String) (n p : Nat) : Option (List String) := if p < n then nm else nmE nm add n (p + 1)
section
variable {X : Cx} {n : Nat} {m : MH}
/-- the value's own place is no other's -/
noncomputable def ValOk (k : String) (m : MH) (y l : Addr) (w u : MV) : Prop :=
  (k = "list" ∧ u = w ∧ ∃ x, w = .ref x ∧ x ≠ y ∧ (NullAt m x ∨ ∃ k i a, VecAt m x k i a)) ∨ (k = "integer" ∧ ∃ x lw aw, w = .ref x ∧ x ≠ y ∧ lw ≠ l ∧ VecAt m x "integer" (.ref lw) aw ∧ m lw = some (.list [u]))
theorem t_put_tail (G : Glo X) {L y l : Addr} {k : String} {a nv av nt w u : MV} {base : List MV} {vn : Option Addr} {nm : Option (List String)} {add : Option String} {p : Nat} {vars : Vars} (hk : k = "integer" ∨ k = "list") (g1 : vars.lookup "place" = some (.int p)) (g2 : vars.lookup "name" = some (match add with | none => .none | some s => .str s)) (g3 : vars.lookup "value" = some w) (g4 : vars.lookup "notes" = some nt) (g5 : vars.lookup "names" = some nv) (g6 : vars.lookup "kind" = some (.str k)) (g7 : vars.lookup "result" = some (.ref y))
    (h : VecAt m y k (.ref l) a) (hl : m l = some (.list base)) (ha : AtAt m a vn) (hvn : vn = none ↔ nm = none) (hn : NmV m nv nm) (hnb : ∀ b, nv = .ref b → b ≠ l) (hnm : NmAt (fun b => b ≠ l) m a nm) (hnl : NmLen nm base.length) (hs : base.length ≤ 900) (hp : p < 1000) (hadd : add ≠ none → p = base.length) (hval : ValOk k m y l w u) :
    TS X 10 (e_put_element L) (e_put_element L) vars (execs ((fBody (st 104)).drop 4) (e_put_element L)) m (fun r _ m' => retv r = .ref y ∧ ∃ a' lack D, VecAt m' y k (.ref l) a' ∧ m' l = some (.list ((base ++ lack).set p u)) ∧ lack.length = p + 1 - base.length ∧ LackOk k m' lack ∧ NmAt (fun b => b ≠ l) m' a' (nmP nm add base.length p) ∧ (∀ d ∈ D, m d = none ∨ a = .ref d) ∧ Upd (y :: l :: D) m m') FE := by
  have hly : l ≠ y := fun q => by subst q; obtain ⟨_, _, z⟩ := h; rw [z] at hl; cases hl
  refine ts_consB rfl fun K hK => ?_
  -- the store and the return
  have store : ∀ m1 V a' lack D, Upd (y :: l :: D) m m1 → (∀ d ∈ D, m d = none ∨ a = .ref d) → VecAt m1 y k (.ref l) a' → m1 l = some (.list (base ++ lack)) → lack.length = p + 1 - base.length → LackOk k m1 lack → NmAt (fun b => b ≠ l) m1 a' (nmP nm add base.length p) →
      V.lookup "place" = some (.int p) → V.lookup "value" = some w → V.lookup "notes" = some nt → V.lookup "kind" = some (.str k) → V.lookup "result" = some (.ref y) → K .next V m1 := by
    intro m1 V a' lack D u1 hD hv1 hl1 hlen hok hnm1 v1 v2 v3 v4 v5
    refine hK .next V m1 ?_
    clear hK
    dsimp only
    have hDk : ∀ x o, m x = some o → (∀ es, o ≠ .sd es) → x ∉ D := fun x o e hne hx => by
      rcases hD x hx with z | z
      · rw [z] at e; cases e
      · cases vn with
        | none => cases ha; cases z
        | some v => obtain ⟨d', e', hd⟩ := ha; cases e'; cases z; rw [hd] at e; cases e; exact hne _ rfl
    have hlt : p < (base ++ lack).length := by simp; lia
    have hll : (base ++ lack).length ≤ 1000000 := by simp; lia
    have fin : ∀ m2, Upd [] m1 m2 → ∀ m3, m3 = m2.set l (.list ((base ++ lack).set p u)) → (∃ a' lack D, VecAt m3 y k (.ref l) a' ∧ m3 l = some (.list ((base ++ lack).set p u)) ∧ lack.length = p + 1 - base.length ∧ LackOk k m3 lack ∧ NmAt (fun b => b ≠ l) m3 a' (nmP nm add base.length p) ∧ (∀ d ∈ D, m d = none ∨ a = .ref d) ∧ Upd (y :: l :: D) m m3) := by
      rintro m2 u2 m3 rfl
      have u3 : Upd [l] m2 (m2.set l (.list ((base ++ lack).set p u))) := .set
      have hl2 := u2.list hl1
      refine ⟨a', lack, D, u3.vec (u2.vec hv1) (by first | exact ni1 (Ne.symm hly) | simpa using Ne.symm hly), MH.set_same _ _ _, hlen, (hok.upd u2 fun x hx => by cases hx).upd u3 fun x hx hnx => ?_, ?_, hD, ?_⟩
      · rw [List.mem_singleton.mp hx] at hnx; obtain ⟨_, z⟩ := hnx; rw [hl2] at z; cases z
      · exact (hnm1.upd u2 fun _ _ => by simp).upd u3 fun b hb => by simpa using hb
      · exact (u1.trans u2.any).trans (u3.mono fun b hb => by rw [List.mem_singleton.mp hb]; simp)
    rcases hval with ⟨rfl, rfl, x, rfl, hxy, hx⟩ | ⟨rfl, x, lw, aw, rfl, hxy, hlw, hx, hlx⟩
    · have hxl : x ≠ l := fun q => by
        subst q
        rcases hx with ⟨_, z⟩ | ⟨_, _, _, _, _, z⟩ <;> (rw [hl] at z; cases z)
      have rest : ∀ m2, Upd [] m1 m2 → K .next V m1 → True := fun _ _ _ => trivial
      clear rest
      walk_at "w"
      refine (c_is_list_kind G _).u01 (by decide) (fun _ _ z => z) fun m2 u2 => ?_
      have hv2 := u2.vec hv1
      walk_at "w"
      have sh : CallOk X 9 (.ref v_share) [.ref x] m2 (fun v m' => v = .ref x ∧ Upd [] m2 m') FE := by
        rcases hx with hx | ⟨k', i', a', hx⟩
        · have hx2 : NullAt m2 x := u2.null (u1.null hx (by
            obtain ⟨_, z⟩ := hx
            simp [hxy, hxl, hDk x _ z (fun es q => by cases q)]))
          exact (c_share_null G hx2).room (by decide)
        · have hx2 : VecAt m2 x k' i' a' := u2.vec (u1.vec hx (by
            obtain ⟨_, _, z⟩ := hx
            simp [hxy, hxl, hDk x _ z (fun es q => by cases q)]))
          exact (c_share_vec G hx2).room (by decide)
      refine sh.u01 (by decide) (fun _ _ z => z) fun m3 u3 => ?_
      have hv3 := u3.vec hv2
      have hl3 := u3.list (u2.list hl1)
      walk_at "w"
      refine ⟨_, setM_list hl3 (by lia) (by lia) hll, ?_⟩
      walk_at "w"
      exact ⟨rfl, fin m3 (u2.trans u3) _ (by simp)⟩
    · have hxl : x ≠ l := fun q => by subst q; obtain ⟨_, _, z⟩ := hx; rw [hl] at z; cases z
      have hlwy : lw ≠ y := fun q => by subst q; obtain ⟨_, _, z⟩ := h; rw [hlx] at z; cases z
      have hx1 : VecAt m1 x "integer" (.ref lw) aw := u1.vec hx (by
            obtain ⟨_, _, z⟩ := hx
            simp [hxy, hxl, hDk x _ z (fun es q => by cases q)])
      have hlx1 := u1.list hlx (by simp [hlw, hlwy, hDk lw _ hlx (fun es q => by cases q)])
      walk_at "w"
      refine (c_is_list_kind G _).u01 (by decide) (fun _ _ z => z) fun m2 u2 => ?_
      have hv2 := u2.vec hv1
      walk_at "w"
      refine (c_conv_same G (u2.vec hx1)).u01 (by decide) (fun _ _ z => z) fun m3 u3 => ?_
      have hv3 := u3.vec hv2
      have hl3 := u3.list (u2.list hl1)
      walk_at "w"
      refine ⟨_, getM_list' (u3.list (u2.list hlx1)) (by decide) (by decide) rfl, ?_⟩
      walk_at "w"
      refine ⟨_, setM_list hl3 (by lia) (by lia) hll, ?_⟩
      walk_at "w"
      exact ⟨rfl, fin m3 (u2.trans u3) _ (by simp)⟩
  clear hK
  have hD0 : ∀ d, d ∈ ([] : List Addr) → m d = none ∨ a = .ref d := fun d z => by cases z
  walk_at "w"
  refine call_len G (k := base.length) (by simp [lenM, hl]) (by lia) ?_
  walk_at "w"
  by_cases q : p < base.length
  · have hh := decide_eq_false (show ¬ ((p : Int) ≥ (base.length : Int)) from geF (by assumption))
    walk_at "f"
    walk_at "w"
    refine store m _ a [] [] (.refl _ _) hD0 h (by first | exact ni1 hl | simpa using hl) (by simp; lia) ?_ (by unfold nmP; rw [if_pos q]; exact hnm) g1 g3 g4 g6 g7
    rcases hk with rfl | rfl
    · exact .inr ⟨rfl, fun u z => by cases z⟩
    · exact .inl ⟨rfl, fun u z => by cases z⟩
  · have hh := decide_eq_true (show (p : Int) ≥ (base.length : Int) from geT (by assumption))
    walk_at "t"
    have ext : ∀ m1 V av, Upd [] m m1 → AddV m1 av add → (∀ b, av = .ref b → b ≠ l) → V.lookup "place" = some (.int p) → V.lookup "value" = some w → V.lookup "notes" = some nt → V.lookup "kind" = some (.str k) → V.lookup "result" = some (.ref y) → CallOk X 9 (.ref v_extend_vector) [.ref y, .int (p + 1), nv, av] m1 (fun v m' => v = v ∧ K .next V m') FE := by
      intro m1 V av u1 hav havl v1 v2 v3 v4 v5
      refine (c_extend G (count := p + 1) hk (u1.vec h) (u1.list hl) (ha.upd u1) hvn (hn.upd u1) hav hnb havl (by lia) (by lia) hnl (fun z => by have := hadd z; lia)).use (by decide) (fun _ _ z => z) fun v m2 z => ?_
      obtain ⟨a', lack, D, z1, z2, z3, z4, z5, z6, z7⟩ := z
      refine ⟨rfl, store m2 V a' lack D (u1.any.trans z7) (fun d hd => (z6 d hd).imp (fun z => u1.none' z) id) z1 z2 z3 z4 ?_ v1 v2 v3 v4 v5⟩
      unfold nmP
      rw [if_neg q]; exact z5
    cases add with
    | none =>
      have g2 : vars.lookup "name" = some .none := g2
      walk_at "w"
      refine (ext m (setv vars "added" .none) .none (.refl _ _) rfl (fun b z => by cases z) ?_ ?_ ?_ ?_ ?_).use (by decide) (fun _ _ z => z) fun v m2 z => ?_
      iterate 5 walk_at "lk"
      exact nextQ (ts_nil z.2)
    | some s =>
      have g2 : vars.lookup "name" = some (.str s) := g2
      walk_at "w"
      refine lenU rfl (fun b m1 u hb hb' => ?_)
      walk_at "w"
      refine (ext m1 (setv (setv vars "added" .none) "added" (.ref b)) (.ref b) u ⟨b, rfl, hb'⟩ (fun b' z => by cases z; rintro rfl; rw [hl] at hb; cases hb) ?_ ?_ ?_ ?_ ?_).use (by decide) (fun _ _ z => z) fun v m2 z => ?_
      iterate 5 walk_at "lk"
      exact nextQ (ts_nil z.2)
end

noncomputable def stepAdd (nm : Option (List String)) : Key → Option String
  | .int _ => none
  | .str s => match placeT nm (.str s) with
    | none => some s
    | some _ => none
noncomputable def NmW (F : Addr → Prop) (m : MH) (nm : Option (List String)) (vn : Option Addr) : Prop := (nm = none ∧ vn = none) ∨ ∃ ss w l, nm = some ss ∧ vn = some w ∧ F w ∧ VecAt m w "character" (.ref l) .none ∧ F l ∧ m l = some (.list (ss.map .str))
theorem NmAt.way {F : Addr → Prop} {m : MH} {a : MV} {nm : Option (List String)} (h : NmAt F m a nm) : ∃ vn, AtAt m a vn ∧ NmW F m nm vn := by
  cases nm with
  | none => exact ⟨none, h, .inl ⟨rfl, rfl⟩⟩
  | some ss =>
    obtain ⟨d, v, l, e, fd, hd, fv, hv, fl, hl⟩ := h
    exact ⟨some v, ⟨d, e, hd⟩, .inr ⟨ss, v, l, rfl, rfl, fv, hv, fl, hl⟩⟩
theorem NmW.iff {F : Addr → Prop} {m : MH} {nm : Option (List String)} {vn : Option Addr} (h : NmW F m nm vn) : vn = none ↔ nm = none := by
  rcases h with ⟨rfl, rfl⟩ | ⟨ss, w, l, rfl, rfl, _⟩ <;> simp
theorem NmW.new {F : Addr → Prop} {m m1 : MH} {nm : Option (List String)} {vn : Option Addr} {a : MV} {l : Addr} {xs : List MV} (h : NmW F m nm vn) (ha : AtNew m m1 a vn) (u : Upd [] m m1) (hl : m l = none) (hl1 : m1 l = some (.list xs)) : NmAt (fun b => b ≠ l) m1 a nm := by
  rcases h with ⟨rfl, rfl⟩ | ⟨ss, w, l2, rfl, rfl, _, hv, _, hl2⟩
  · exact ha
  · obtain ⟨d, e, _, hd⟩ := ha
    refine ⟨d, w, l2, e, ?_, hd, ?_, u.vec hv, ?_, u.list hl2⟩
    · rintro rfl; rw [hl1] at hd; cases hd
    · rintro rfl; obtain ⟨_, _, z⟩ := hv; rw [hl] at z; cases z
    · rintro rfl; rw [hl] at hl2; cases hl2
theorem AtNew.to {m m1 : MH} {a : MV} {vn : Option Addr} (h : AtNew m m1 a vn) : AtAt m1 a vn := by
  cases vn with
  | none => exact h
  | some v => obtain ⟨d, e, _, hd⟩ := h; exact ⟨d, e, hd⟩
theorem AtNew.fresh {m m1 : MH} {a : MV} {vn : Option Addr} (h : AtNew m m1 a vn) : ∀ d, a = .ref d → m d = none := fun d e => by
  cases vn with
  | none => cases h; cases e
  | some v => obtain ⟨d', e', h', _⟩ := h; rw [e'] at e; cases e; exact h'
theorem put_shut {m m1 m2 : MH} {y l : Addr} {a : MV} {D : List Addr} (u : Upd [] m m1) (u2 : Upd (y :: l :: D) m1 m2) (hy : m y = none) (hl : m l = none) (ha : ∀ d, a = .ref d → m d = none) (hD : ∀ d ∈ D, m1 d = none ∨ a = .ref d) : Upd [] m m2 :=
  (u.any.trans u2).shut fun b hb => .inr (by
    rcases List.mem_cons.mp hb with rfl | hb
    · exact hy
    · rcases List.mem_cons.mp hb with rfl | hb
      · exact hl
      · rcases hD b hb with z | z
        · exact u.none' z
        · exact ha b z)
theorem nmE_len {nm : Option (List String)} {add : Option String} {n p : Nat} (hn : NmLen nm n) (hp : n ≤ p) (ha : add ≠ none → p = n) : NmLen (nmE nm add n (p + 1)) (p + 1) := fun ss e => by
  cases nm with
  | none =>
    cases add with
    | none => cases e
    | some s => cases e; have := ha (by simp); simp; lia
  | some ts =>
    have hl := hn ts rfl
    cases add with
    | none => cases e; simp; lia
    | some s => cases e; have := ha (by simp); simp; lia
theorem nmP_len {nm : Option (List String)} {add : Option String} {n p : Nat} (hn : NmLen nm n) (ha : add ≠ none → p = n) : NmLen (nmP nm add n p) (n + (p + 1 - n)) := by
  unfold nmP
  by_cases q : p < n
  · rw [if_pos q, show p + 1 - n = 0 by lia]; exact hn
  · rw [if_neg q, show n + (p + 1 - n) = p + 1 by lia]
    exact nmE_len hn (by lia) ha
theorem IsT.at {F : Addr → Prop} {K d : Nat} {m : MH} {t : T} {v : MV} (h : IsT F K m d t v) : ∃ x, v = .ref x ∧ (NullAt m x ∨ ∃ k i a, VecAt m x k i a) := by
  cases t with
  | null => obtain ⟨x, rfl, _, hv⟩ := isT_null.mp h; exact ⟨x, rfl, .inl hv⟩
  | «ints» xs nm => obtain ⟨x, l, a, rfl, _, hv, _⟩ := isT_ints.mp h; exact ⟨x, rfl, .inr ⟨_, _, _, hv⟩⟩
  | list ts nm =>
    cases d with
    | zero => exact h.elim
    | succ d => obtain ⟨x, l, a, vs, rfl, _, hv, _⟩ := h; exact ⟨x, rfl, .inr ⟨_, _, _, hv⟩⟩
theorem lack_list {m : MH} {vs : List MV} {K d : Nat} (h : LackOk "list" m vs) : All2 (IsT FT K m d) (List.replicate vs.length .null) vs := by
  rcases h with ⟨_, h⟩ | ⟨e, _⟩
  · induction vs with
    | nil => exact .nil
    | cons v r ih =>
      refine .cons ?_ (ih fun w hw => h w (.tail _ hw))
      obtain ⟨x, e, hx⟩ := h v (.head _)
      exact isT_null.mpr ⟨x, e, trivial, hx⟩
  · exact absurd e (by decide)
theorem lack_int {m : MH} {vs : List MV} (h : LackOk "integer" m vs) : vs = (List.replicate vs.length none).map oint := by
  rcases h with ⟨e, _⟩ | ⟨_, h⟩
  · exact absurd e (by decide)
  · induction vs with
    | nil => rfl
    | cons v r ih =>
      rw [h v (.head _), List.length_cons, List.replicate_succ, List.map_cons, ← ih fun w hw => h w (.tail _ hw)]; rfl
noncomputable def addV : Option String → MV
  | none => .none
  | some s => .str s
section
variable {X : Cx} {n : Nat} {m : MH}
theorem c_put_list (G : Glo X) {K0 K1 d dw p : Nat} {ts : List T} {tw : T} {nm : Option (List String)} {add : Option String} {v w nt : MV} (h : IsT FT K0 m (d + 1) (.list ts nm) v) (hw : IsT FT K1 m dw tw w) (hK : K0 ≤ 900) (hp : p < 1000) (hadd : add ≠ none → p = ts.length) (hd : dw ≤ d) (h01 : K0 + 1 ≤ K1) (hp1 : p < K1) :
    CallOk X 11 (.ref v_put_element) [v, .int p, addV add, w, nt] m (fun r m' => IsT FT K1 m' (d + 1) (.list ((ts ++ List.replicate (p + 1 - ts.length) T.null).set p tw) (nmP nm add ts.length p)) r ∧ Upd [] m m') FE := by
  refine call_fnK G (f_put_element _) rfl fun L K hKK => ?_
  obtain ⟨x, lx, a, vs, rfl, _, hv, _, hl, hvs, hn, hnl, hlen⟩ := h
  have hns : ∀ ss, nm = some ss → ss.length ≤ 1000000 := fun ss e => by have := hnl ss e; first | exact eq6 this (by assumption) | lia
  have hvl := hvs.length
  walk_at "w"
  refine (c_names_of G hv (.inr rfl) hn hns).use (by decide) (fun _ _ z => z) fun nv m1 z => ?_
  obtain ⟨hnv, u1⟩ := z
  have hv1 := u1.vec hv
  walk_at "w"
  refine (c_is_list_kind G _).u01 (by decide) (fun _ _ z => z) fun m2 u2 => ?_
  have hv2 := u2.vec hv1
  walk_at "w"
  refine (c_kind_list G hv2).u01 (by decide) (fun _ _ z => z) fun m3 u3 => ?_
  have hv3 := u3.vec hv2
  have u13 := (u1.trans u2).trans u3
  have hn3 := hn.upd u13 fun _ _ => by simp
  obtain ⟨vn, hat, hnw⟩ := hn3.way
  walk_at "w"
  refine (c_raised_same G hv3 (u13.list hl) (by lia) hat).u36 (by decide) (fun _ _ z => z) fun y l a' m4 hy hly hvy hll han u4 => ?_
  have u14 := u13.trans u4
  have hw4 := IsT.upd u14 nilB hw
  obtain ⟨xw, rfl, hxw⟩ := hw.at
  have hxy : xw ≠ y := fun q => by
    subst q
    have z := u13.none' hy
    rcases hxw with ⟨_, q⟩ | ⟨_, _, _, _, _, q⟩ <;> (rw [z] at q; cases q)
  walk_at "k"
  refine (t_put_tail G (k := "list") (a := a') (av := .none) (nv := nv) (nt := nt) (w := .ref xw) (u := .ref xw) (nm := nm) (add := add) (p := p) (vn := vn) (.inr rfl) (by first | exact rfl | walk_at "lk") ?_ (by first | exact rfl | walk_at "lk") (by first | exact rfl | walk_at "lk") (by first | exact rfl | walk_at "lk") (by first | exact rfl | walk_at "lk") (by first | exact rfl | walk_at "lk") hvy hll han.to hnw.iff (hnv.nmV.upd ((u2.trans u3).trans u4)) ?_ (hnw.new han u4 hly hll) (fun ss e => by rw [hnl ss e, hvl]) (by lia) hp (fun z => by rw [hadd z, hvl]) (.inl ⟨rfl, rfl, xw, rfl, hxy, ?_⟩)).mono (fun r _ m5 z => ?_) fun _ _ z => z
  · exact rfl
  · rintro b rfl
    cases nm with
    | none => cases hnv
    | some ss =>
      obtain ⟨b', e, _, hb⟩ := hnv
      cases e
      rintro rfl
      rw [(u2.trans u3).list hb] at hly; cases hly
  · exact hxw.imp (fun z => u14.null z) fun z => by obtain ⟨k, i, a, z⟩ := z; exact ⟨k, i, a, u14.vec z⟩
  · obtain ⟨er, a5, lack, D, z1, z2, z3, z4, z5, z6, z7⟩ := z
    have u45 : Upd [] m3 m5 := put_shut u4 z7 hy hly han.fresh z6
    have u := u13.trans u45
    refine hKK _ _ _ ⟨?_, u⟩
    rw [er]
    refine ⟨y, l, a5, _, rfl, trivial, z1, trivial, z2, ?_, by rw [hvl]; exact z5.weak fun _ _ => trivial, ?_, ?_⟩
    · refine ((hvs.imp fun _ _ z => (IsT.upd u nilB z).weak (fun _ z => z) (by lia) (Nat.le_refl _)).append ?_).set ((IsT.upd u nilB hw).weak (fun _ z => z) (Nat.le_refl _) hd) _
      rw [hvl, ← z3]
      exact lack_list z4
    · have := nmP_len (p := p) hnl hadd
      simpa using this
    · simp; first | exact growK (by assumption) (by assumption) (by assumption) | lia
end

noncomputable def sizeT : T → Nat
  | .null => 0
  | .ints xs _ => xs.length
  | .list ts _ => ts.length
noncomputable def noPut (tw : T) : String := if sizeT tw = 0 then "replacement has length zero" else "more elements supplied than there are to replace"
theorem intsAs_isT {m : MH} {xs : List (Option Int)} {vs : List MV} {K d : Nat} (hK : 1 ≤ K) (h : IntsAs m xs vs) : All2 (IsT FT K m d) (xs.map fun q => T.ints [q] none) vs := by
  induction h with
  | nil => exact .nil
  | cons r _ ih =>
    obtain ⟨y, l, e, h1, h2⟩ := r
    exact .cons (isT_ints.mpr ⟨y, l, .none, e, trivial, h1, trivial, h2, rfl, (fun ss z => by cases z), hK⟩) ih
theorem IntsAs.updB {B : List Addr} {m m' : MH} {xs : List (Option Int)} {vs : List MV} (u : Upd B m m') (hB : ∀ b ∈ B, (∀ i, ¬ VecAt m b "integer" i .none) ∧ ∀ x, m b ≠ some (.list [oint x])) (h : IntsAs m xs vs) : IntsAs m' xs vs := h.imp fun _ _ z => by
  obtain ⟨y, l, e, h1, h2⟩ := z
  exact ⟨y, l, e, u.vec h1 fun z => (hB y z).1 _ h1, u.list h2 fun z => (hB l z).2 _ h2⟩
theorem VecAt.kd {m : MH} {x : Addr} {k k' : String} {i a i' a' : MV} (h : VecAt m x k i a) (h' : VecAt m x k' i' a') : k = k' := by
  obtain ⟨_, _, e⟩ := h
  obtain ⟨_, _, e'⟩ := h'
  rw [e] at e'
  simp [vecAs] at e'
  exact e'.2.1
section
variable {X : Cx} {n : Nat} {m : MH}
theorem c_length_T (G : Glo X) {K d : Nat} {t : T} {v : MV} (h : IsT FT K m d t v) (hK : K ≤ 1000) : CallOk X 1 (.ref v_length) [v] m (fun v m' => v = .int (sizeT t) ∧ Upd [] m m') FE := by
  cases t with
  | null => obtain ⟨x, rfl, _, hv⟩ := isT_null.mp h; exact c_length_null G hv
  | «ints» xs nm =>
    obtain ⟨x, l, a, rfl, _, hv, _, hl, _, _, hlen⟩ := isT_ints.mp h
    exact (c_length_vec G hv (.inl rfl) hl (by simp; lia)).mono (fun _ _ z => by simpa [sizeT] using z) fun _ _ z => z
  | list ts nm =>
    cases d with
    | zero => exact h.elim
    | succ d =>
      obtain ⟨x, l, a, vs, rfl, _, hv, _, hl, hvs, _, _, hlen⟩ := h
      exact (c_length_vec G hv (.inr rfl) hl (by rw [← hvs.length]; lia)).mono (fun _ _ z => by rw [← hvs.length] at z; exact z) fun _ _ z => z
theorem c_put_err (G : Glo X) {K0 K1 d dw : Nat} {xs : List (Option Int)} {tw : T} {nm : Option (List String)} {v w pv av nt : MV} (h : IsT FT K0 m d (.ints xs nm) v) (hw : IsT FT K1 m dw tw w) (hK : K0 ≤ 900) (hK1 : K1 ≤ 1000) (hs : sizeT tw ≠ 1) :
    CallOk X 11 (.ref v_put_element) [v, pv, av, w, nt] m (fun _ _ => False) (fun msg m' => msg = noPut tw ∧ Upd [] m m') := by
  refine call_fnK G (f_put_element _) rfl fun L K hKK => ?_
  obtain ⟨x, lx, a, rfl, _, hv, _, hl, hn, hnl, hlen⟩ := isT_ints.mp h
  have hns : ∀ ss, nm = some ss → ss.length ≤ 1000000 := fun ss e => by have := hnl ss e; first | exact eq6 this (by assumption) | lia
  walk_at "w"
  refine (c_names_of G hv (.inl rfl) hn hns).use (by decide) (fun _ _ z => z.elim) fun nv m1 z => ?_
  obtain ⟨hnv, u1⟩ := z
  have hv1 := u1.vec hv
  walk_at "w"
  refine (c_is_list_kind G _).u01 (by decide) (fun _ _ z => z.elim) fun m2 u2 => ?_
  have hv2 := u2.vec hv1
  walk_at "w"
  refine (c_length_T G (IsT.upd (u1.trans u2) nilB hw) hK1).u01 (by decide) (fun _ _ z => z.elim) fun m3 u3 => ?_
  have u13 := (u1.trans u2).trans u3
  walk_at "w"
  by_cases q : sizeT tw = 0
  · have hh : ((sizeT tw : Int) == 0) = true := beq_iff_eq.mpr (by lia)
    walk_at "t"
    walk_at "w"
    exact ⟨by unfold noPut; rw [if_pos q], u13⟩
  · have hh : ((sizeT tw : Int) == 0) = false := beq_eq_false_iff_ne.mpr (by lia)
    walk_at "f"
    walk_at "w"
    refine (c_length_T G (IsT.upd u13 nilB hw) hK1).u01 (by decide) (fun _ _ z => z.elim) fun m4 u4 => ?_
    walk_at "w"
    have hh := decide_eq_true (show (sizeT tw : Int) > 1 by lia)
    walk_at "t"
    walk_at "w"
    exact ⟨by unfold noPut; rw [if_neg q], u13.trans u4⟩
theorem c_put_int (G : Glo X) {K0 K1 d dw p : Nat} {xs : List (Option Int)} {wq : Option Int} {nm nmw : Option (List String)} {add : Option String} {v w nt : MV} (h : IsT FT K0 m d (.ints xs nm) v) (hw : IsT FT K1 m dw (.ints [wq] nmw) w) (hK : K0 ≤ 900) (hK1 : K1 ≤ 1000) (hp : p < 1000) (hadd : add ≠ none → p = xs.length) (h01 : K0 + 1 ≤ K1) (hp1 : p < K1) :
    CallOk X 11 (.ref v_put_element) [v, .int p, addV add, w, nt] m (fun r m' => IsT FT K1 m' (d + 1) (.ints ((xs ++ List.replicate (p + 1 - xs.length) none).set p wq) (nmP nm add xs.length p)) r ∧ Upd [] m m') FE := by
  refine call_fnK G (f_put_element _) rfl fun L K hKK => ?_
  obtain ⟨x, lx, a, rfl, _, hv, _, hl, hn, hnl, hlen⟩ := isT_ints.mp h
  have hns : ∀ ss, nm = some ss → ss.length ≤ 1000000 := fun ss e => by have := hnl ss e; first | exact eq6 this (by assumption) | lia
  have hvl : xs.length = (xs.map oint).length := by simp
  walk_at "w"
  refine (c_names_of G hv (.inl rfl) hn hns).use (by decide) (fun _ _ z => z) fun nv m1 z => ?_
  obtain ⟨hnv, u1⟩ := z
  have hv1 := u1.vec hv
  walk_at "w"
  refine (c_is_list_kind G _).u01 (by decide) (fun _ _ z => z) fun m2 u2 => ?_
  have hv2 := u2.vec hv1
  walk_at "w"
  refine (c_length_T G (IsT.upd (u1.trans u2) nilB hw) hK1).u01 (by decide) (fun _ _ z => z.elim) fun m2a u2a => ?_
  have hv2a := u2a.vec hv2
  walk_at "w"
  refine (c_length_T G (IsT.upd ((u1.trans u2).trans u2a) nilB hw) hK1).u01 (by decide) (fun _ _ z => z.elim) fun m2b u2b => ?_
  have hv2b := u2b.vec hv2a
  have u2' := ((u1.trans u2).trans u2a).trans u2b
  have hw2 := IsT.upd u2' nilB hw
  obtain ⟨xw, lw, aw, rfl, _, hxw, _, hlw, _⟩ := isT_ints.mp hw2
  walk_at "w"
  refine (c_kind_int G hv2b hxw).u01 (by decide) (fun _ _ z => z) fun m3 u3 => ?_
  have hv3 := u3.vec hv2b
  have u13 := u2'.trans u3
  have hn3 := hn.upd u13 fun _ _ => by simp
  obtain ⟨vn, hat, hnw⟩ := hn3.way
  walk_at "w"
  refine (c_raised_same G hv3 (u13.list hl) (by simp; lia) hat).u36 (by decide) (fun _ _ z => z) fun y l a' m4 hy hly hvy hll han u4 => ?_
  have u14 := u13.trans u4
  have u34 := u3.trans u4
  have hxy : xw ≠ y := fun q => by
    subst q
    obtain ⟨_, _, z⟩ := u3.vec hxw
    rw [hy] at z; cases z
  have hlwl : lw ≠ l := fun q => by
    subst q
    have z := u3.list hlw
    rw [hly] at z; cases z
  walk_at "k"
  refine (t_put_tail G (k := "integer") (a := a') (av := .none) (nv := nv) (nt := nt) (w := .ref xw) (u := oint wq) (nm := nm) (add := add) (p := p) (vn := vn) (.inl rfl) (by first | exact rfl | walk_at "lk") ?_ (by first | exact rfl | walk_at "lk") (by first | exact rfl | walk_at "lk") (by first | exact rfl | walk_at "lk") (by first | exact rfl | walk_at "lk") (by first | exact rfl | walk_at "lk") hvy hll han.to hnw.iff (hnv.nmV.upd (((((u2.trans u2a).trans u2b).trans u3)).trans u4)) ?_ (hnw.new han u4 hly hll) (fun ss e => by rw [hnl ss e, hvl]) (by rw [← hvl]; lia) hp (fun z => by rw [hadd z, hvl]) (.inr ⟨rfl, xw, lw, aw, rfl, hxy, hlwl, u34.vec hxw, u34.list hlw⟩)).mono (fun r _ m5 z => ?_) fun _ _ z => z
  · exact rfl
  · rintro b rfl
    cases nm with
    | none => cases hnv
    | some ss =>
      obtain ⟨b', e, _, hb⟩ := hnv
      cases e
      rintro rfl
      rw [(((u2.trans u2a).trans u2b).trans u3).list hb] at hly; cases hly
  · obtain ⟨er, a5, lack, D, z1, z2, z3, z4, z5, z6, z7⟩ := z
    have u45 : Upd [] m3 m5 := put_shut u4 z7 hy hly han.fresh z6
    have u := u13.trans u45
    refine hKK _ _ _ ⟨?_, u⟩
    rw [er]
    rw [lack_int z4, z3, ← hvl] at z2
    refine isT_ints.mpr ⟨y, l, a5, rfl, trivial, z1, trivial, ?_, by rw [hvl]; exact z5.weak fun _ _ => trivial, ?_, ?_⟩
    · rw [z2, List.map_set, List.map_append]
    · have := nmP_len (p := p) hnl hadd
      simpa using this
    · simp; first | exact growK (by assumption) (by assumption) (by assumption) | lia
end

section
variable {X : Cx} {n : Nat} {m : MH}
theorem c_put_up (G : Glo X) {K0 K1 d dw p : Nat} {xs : List (Option Int)} {t1 : T} {nm nmw : Option (List String)} {add : Option String} {v w nt : MV} (h : IsT FT K0 m d (.ints xs nm) v) (hw : IsT FT K1 m dw (.list [t1] nmw) w) (hK : K0 ≤ 900) (hK1 : K1 ≤ 1000) (hp : p < 1000) (hadd : add ≠ none → p = xs.length) (h01 : K0 + 1 ≤ K1) (hp1 : p < K1) (hd : dw ≤ d) :
    CallOk X 11 (.ref v_put_element) [v, .int p, addV add, w, nt] m (fun r m' => IsT FT K1 m' (d + 1) (.list (((xs.map fun q => T.ints [q] none) ++ List.replicate (p + 1 - xs.length) T.null).set p (.list [t1] nmw)) (nmP nm add xs.length p)) r ∧ Upd [] m m') FE := by
  refine call_fnK G (f_put_element _) rfl fun L K hKK => ?_
  obtain ⟨x, lx, a, rfl, _, hv, _, hl, hn, hnl, hlen⟩ := isT_ints.mp h
  have hns : ∀ ss, nm = some ss → ss.length ≤ 1000000 := fun ss e => by have := hnl ss e; first | exact eq6 this (by assumption) | lia
  walk_at "w"
  refine (c_names_of G hv (.inl rfl) hn hns).use (by decide) (fun _ _ z => z) fun nv m1 z => ?_
  obtain ⟨hnv, u1⟩ := z
  have hv1 := u1.vec hv
  walk_at "w"
  refine (c_is_list_kind G _).u01 (by decide) (fun _ _ z => z) fun m2 u2 => ?_
  have hv2 := u2.vec hv1
  walk_at "w"
  refine (c_length_T G (IsT.upd (u1.trans u2) nilB hw) hK1).u01 (by decide) (fun _ _ z => z.elim) fun m2a u2a => ?_
  have hv2a := u2a.vec hv2
  walk_at "w"
  refine (c_length_T G (IsT.upd ((u1.trans u2).trans u2a) nilB hw) hK1).u01 (by decide) (fun _ _ z => z.elim) fun m2b u2b => ?_
  have hv2b := u2b.vec hv2a
  have u2' := ((u1.trans u2).trans u2a).trans u2b
  have hxwv : ∃ xw lw aw, w = .ref xw ∧ VecAt m2b xw "list" lw aw := by
    have hw2 := IsT.upd u2' nilB hw
    cases dw with
    | zero => exact hw2.elim
    | succ dw => obtain ⟨xw, lw, aw, vs, e, _, hxw, _⟩ := hw2; exact ⟨xw, _, aw, e, hxw⟩
  obtain ⟨xw, lw, aw, rfl, hxw⟩ := hxwv
  walk_at "w"
  refine (c_kind_up G hv2b hxw).u01 (by decide) (fun _ _ z => z) fun m3 u3 => ?_
  have hv3 := u3.vec hv2b
  have u13 := u2'.trans u3
  have hn3 := hn.upd u13 fun _ _ => by simp
  obtain ⟨vn, hat, hnw⟩ := hn3.way
  walk_at "w"
  refine (c_raised_up G hv3 (u13.list hl) (by lia) hn3 hns hat).u47 (by decide) (fun _ _ z => z) fun y l a' vs m4 hy hly hvy hll hia han u4 => ?_
  have u14 := u13.trans u4
  have u34 := u3.trans u4
  have hvl : xs.length = vs.length := hia.length
  have hxy : xw ≠ y := fun q => by
    subst q
    obtain ⟨_, _, z⟩ := u3.vec hxw
    rw [hy] at z; cases z
  walk_at "k"
  refine (t_put_tail G (k := "list") (a := a') (av := .none) (nv := nv) (nt := nt) (w := .ref xw) (u := .ref xw) (nm := nm) (add := add) (p := p) (vn := vn) (.inr rfl) (by first | exact rfl | walk_at "lk") ?_ (by first | exact rfl | walk_at "lk") (by first | exact rfl | walk_at "lk") (by first | exact rfl | walk_at "lk") (by first | exact rfl | walk_at "lk") (by first | exact rfl | walk_at "lk") hvy hll han.to hnw.iff (hnv.nmV.upd (((((u2.trans u2a).trans u2b).trans u3)).trans u4)) ?_ (hnw.new han u4 hly hll) (fun ss e => by rw [hnl ss e, hvl]) (by lia) hp (fun z => by rw [hadd z, hvl]) (.inl ⟨rfl, rfl, xw, rfl, hxy, .inr ⟨_, _, _, u34.vec hxw⟩⟩)).mono (fun r _ m5 z => ?_) fun _ _ z => z
  · exact rfl
  · rintro b rfl
    cases nm with
    | none => cases hnv
    | some ss =>
      obtain ⟨b', e, _, hb⟩ := hnv
      cases e
      rintro rfl
      rw [(((u2.trans u2a).trans u2b).trans u3).list hb] at hly; cases hly
  · obtain ⟨er, a5, lack, D, z1, z2, z3, z4, z5, z6, z7⟩ := z
    have u45 : Upd [] m3 m5 := put_shut u4 z7 hy hly han.fresh z6
    have u := u13.trans u45
    refine hKK _ _ _ ⟨?_, u⟩
    rw [er]
    have hia5 : IntsAs m5 xs vs := hia.updB z7 fun b hb => by
      rcases List.mem_cons.mp hb with rfl | hb
      · refine ⟨fun i z => absurd (hvy.kd z) (by decide), fun q z => ?_⟩
        obtain ⟨_, _, z'⟩ := hvy
        rw [z] at z'; cases z'
      · rcases List.mem_cons.mp hb with rfl | hb
        · refine ⟨fun i z => ?_, fun q z => ?_⟩
          · obtain ⟨_, _, z'⟩ := z
            rw [hll] at z'; cases z'
          · rw [hll] at z
            cases z
            obtain ⟨_, h0, y0, l0, e0, _⟩ := hia.get' (i := 0) rfl
            cases q <;> cases e0
        · have nd : (∃ es, m4 b = some (.sd es)) ∨ m4 b = none := by
            rcases z6 b hb with z | z
            · exact .inr z
            · cases vn with
              | none => cases han; cases z
              | some v => obtain ⟨d', e', _, hd'⟩ := han; rw [e'] at z; cases z; exact .inl ⟨_, hd'⟩
          rcases nd with ⟨es, nd⟩ | nd
          · refine ⟨fun i z => ?_, fun q z => by rw [nd] at z; cases z⟩
            obtain ⟨_, _, z'⟩ := z
            rw [nd] at z'; cases z'
          · refine ⟨fun i z => ?_, fun q z => by rw [nd] at z; cases z⟩
            obtain ⟨_, _, z'⟩ := z
            rw [nd] at z'; cases z'
    refine ⟨y, l, a5, _, rfl, trivial, z1, trivial, z2, ?_, ?_, ?_, ?_⟩
    · refine ((intsAs_isT (by lia) hia5).append ?_).set ((IsT.upd u nilB hw).weak (fun _ z => z) (Nat.le_refl _) hd) _
      rw [hvl, ← z3]
      exact lack_list z4
    · rw [hvl]; exact z5.weak fun _ _ => trivial
    · have := nmP_len (p := p) hnl hadd
      simpa using this
    · simp; first | exact growK (by assumption) (by assumption) (by assumption) | lia
end

noncomputable def nmT : T → Option (List String)
  | .null => none
  | .ints _ nm => nm
  | .list _ nm => nm
noncomputable def putA (t : T) (p : Nat) (add : Option String) (tw : T) : Except String T := match t with
  | .null => .error ""
  | .list ts nm => .ok (.list ((ts ++ List.replicate (p + 1 - ts.length) T.null).set p tw) (nmP nm add ts.length p))
  | .ints xs nm => match tw with
    | .ints [q] _ => .ok (.ints ((xs ++ List.replicate (p + 1 - xs.length) none).set p q) (nmP nm add xs.length p))
    | .list [t1] nmw => .ok (.list (((xs.map fun q => T.ints [q] none) ++ List.replicate (p + 1 - xs.length) T.null).set p (.list [t1] nmw)) (nmP nm add xs.length p))
    | tw => .error (noPut tw)
noncomputable def delT (ts : List T) (nm : Option (List String)) (key : Key) : T := match placeT nm key with
  | none => .list ts nm
  | some p => if p < ts.length then .list (ts.eraseIdx p) (nm.map (·.eraseIdx p)) else .list ts nm
noncomputable def putT (t : T) (key : Key) (tw : T) : Except String T :=
  if kdT t = "list" ∧ kdT tw = "NULL" then match t with
    | .list ts nm => .ok (delT ts nm key)
    | _ => .error ""
  else putA t ((placeT (nmT t) key).getD (sizeT t)) (stepAdd (nmT t) key) tw
theorem putA_err {xs : List (Option Int)} {nm : Option (List String)} {p : Nat} {add : Option String} {tw : T} (h : sizeT tw ≠ 1) : putA (.ints xs nm) p add tw = .error (noPut tw) := by
  unfold putA
  cases tw with
  | null => rfl
  | «ints» ys _ => cases ys with
    | nil => rfl
    | cons y r => cases r with
      | nil => exact absurd rfl h
      | cons _ _ => rfl
  | list ys _ => cases ys with
    | nil => rfl
    | cons y r => cases r with
      | nil => exact absurd rfl h
      | cons _ _ => rfl
inductive VecT (K : Nat) (m : MH) (t : T) (v : MV) : Prop
  | mk (x l : Addr) (a : MV) (xs : List MV) (e : v = .ref x) (hv : VecAt m x (kdT t) (.ref l) a) (hl : m l = some (.list xs)) (hx : xs.length = sizeT t) (hn : NmAt FT m a (nmT t)) (hnl : NmLen (nmT t) (sizeT t)) (h : sizeT t ≤ K ∧ (kdT t = "integer" ∨ kdT t = "list"))
theorem IsT.vec {K d : Nat} {m : MH} {t : T} {v : MV} (h : IsT FT K m d t v) (hn : t ≠ .null) : VecT K m t v := by
  cases t with
  | null => exact absurd rfl hn
  | «ints» xs nm =>
    obtain ⟨x, l, a, rfl, _, hv, _, hl, hn, hnl, hlen⟩ := isT_ints.mp h
    exact ⟨x, l, a, _, rfl, hv, hl, by simp [sizeT], hn, hnl, hlen, .inl rfl⟩
  | list ts nm =>
    cases d with
    | zero => exact h.elim
    | succ d =>
      obtain ⟨x, l, a, vs, rfl, _, hv, _, hl, hvs, hn, hnl, hlen⟩ := h
      exact ⟨x, l, a, _, rfl, hv, hl, hvs.length.symm, hn, hnl, hlen, .inr rfl⟩
theorem IsT.raise {F : Addr → Prop} {K K' d d' : Nat} {m : MH} {t : T} {v : MV} (h : IsT F K m d t v) (hK : K ≤ K') (hd : d ≤ d') : IsT F K' m d' t v := h.weak (fun _ z => z) hK hd
theorem All2.eraseIdx {α β : Type} {R : α → β → Prop} {as : List α} {bs : List β} (h : All2 R as bs) : ∀ p, All2 R (as.eraseIdx p) (bs.eraseIdx p) := by
  induction h with
  | nil => exact fun p => by simp; exact .nil
  | cons r rs ih =>
    intro p
    cases p with
    | zero => exact rs
    | succ p => exact .cons r (ih p)
noncomputable def KeyB (K : Nat) : Key → Prop
  | .int k => k < K
  | .str _ => True
theorem stepAdd_none {nm : Option (List String)} {key : Key} {p : Nat} (h : placeT nm key = some p) : stepAdd nm key = none := by
  cases key with
  | int k => rfl
  | str s => simp only [stepAdd, h]
theorem placeB {nm : Option (List String)} {key : Key} {N K p : Nat} (hk : KeyB K key) (hn : NmLen nm N) (hN : N ≤ K) (h : placeT nm key = some p) : p < K := by
  cases key with
  | int k => cases h; exact hk
  | str s =>
    simp only [placeT] at h
    split at h
    · cases h
    · cases nm with
      | none => cases h
      | some ss =>
        simp only at h
        split at h
        · rename_i hm
          cases h; have := firstAt_lt hm; have := hn ss rfl; lia
        · cases h
section
variable {X : Cx} {n : Nat} {m : MH}
theorem c_put_T (G : Glo X) {K0 K1 d dw e p : Nat} {t tw : T} {add : Option String} {v w nt : MV} (h : IsT FT K0 m d t v) (hn : t ≠ .null) (hw : IsT FT K1 m dw tw w) (hK : K0 ≤ 900) (hK1 : K1 ≤ 1000) (hp : p < 1000) (hadd : add ≠ none → p = sizeT t) (hd : d ≤ e) (hdw : dw ≤ e) (h01 : K0 + 1 ≤ K1) (hp1 : p < K1) :
    CallOk X 11 (.ref v_put_element) [v, .int p, addV add, w, nt] m (fun r m' => ∃ t', putA t p add tw = .ok t' ∧ IsT FT K1 m' (e + 1) t' r ∧ Upd [] m m') (fun msg m' => putA t p add tw = .error msg ∧ Upd [] m m') := by
  cases t with
  | null => exact absurd rfl hn
  | list ts nm =>
    refine (c_put_list G (h.raise (Nat.le_refl _) (d' := e + 1) (by lia)) hw hK hp hadd hdw h01 hp1).mono (fun r m' z => ⟨_, rfl, z⟩) fun _ _ z => z.elim
  | «ints» xs nm =>
    by_cases q : sizeT tw = 1
    · cases tw with
      | null => cases q
      | «ints» ys nmw =>
        obtain ⟨y, rfl⟩ := List.length_eq_one_iff.mp q
        exact (c_put_int G (h.raise (Nat.le_refl _) hd) hw hK hK1 hp hadd h01 hp1).mono (fun r m' z => ⟨_, rfl, z⟩) fun _ _ z => z.elim
      | list ys nmw =>
        obtain ⟨y, rfl⟩ := List.length_eq_one_iff.mp q
        exact (c_put_up G (h.raise (Nat.le_refl _) hd) hw hK hK1 hp hadd h01 hp1 hdw).mono (fun r m' z => ⟨_, rfl, z⟩) fun _ _ z => z.elim
    · exact (c_put_err G h hw hK hK1 q).mono (fun _ _ z => z.elim) fun _ _ z => ⟨by rw [putA_err q, z.1], z.2⟩
theorem c_assign_step (G : Glo X) {K0 K1 d dw e : Nat} {t tw : T} {v w nt : MV} {ix : Addr} {key : Key} (h : IsT FT K0 m d t v) (hn : t ≠ .null) (hw : IsT FT K1 m dw tw w) (hK : K0 ≤ 900) (hK1 : K1 ≤ 1000) (hd : d ≤ e) (hdw : dw ≤ e) (h01 : K0 + 1 ≤ K1) (hx : KeyAt m ix key) (hk : KeyB K0 key) :
    CallOk X 12 (.ref v_assign_step) [v, .ref ix, w, nt] m (fun r m' => ∃ t', putT t key tw = .ok t' ∧ IsT FT K1 m' (e + 1) t' r ∧ Upd [] m m') (fun msg m' => putT t key tw = .error msg ∧ Upd [] m m') := by
  refine call_fnK G (f_assign_step _) rfl fun L K hKK => ?_
  obtain ⟨x, lx, a, xs, rfl, hv, hl, hxl, hnm, hnl, hlen, hkd⟩ := h.vec hn
  have hns : ∀ ss, nmT t = some ss → ss.length ≤ 1000000 := fun ss e => by have := hnl ss e; first | exact eq6 this (by assumption) | lia
  have e0 : decide (kdT t = "NULL") = false := by rcases hkd with e | e <;> (rw [e]; decide)
  walk_at "w"
  rw [e0]
  walk_at "w"
  refine call_len G (k := sizeT t) (by simp [lenM, hl, hxl]) (by lia) ?_
  walk_at "w"
  refine (c_names_of G hv hkd hnm hns).use (by decide) (fun _ _ z => z.elim) fun nv m1 z => ?_
  obtain ⟨hnv, u1⟩ := z
  have hv1 := u1.vec hv
  walk_at "w"
  refine (c_one_place G (hx.upd u1) hnv.nmV hns).u01 (by decide) (fun _ _ z => z.elim) fun m2 u2 => ?_
  have u12 := u1.trans u2
  have hv2 := u12.vec hv
  have hw2 := IsT.upd u12 nilB hw
  have hT2 := IsT.upd u12 nilB h
  walk_at "w"
  generalize hQ : NextQ X _ _ _ _ K _ = K1'
  have rest : ¬ (kdT t = "list" ∧ kdT tw = "NULL") → ∀ m3 V, Upd [] m m3 → V.lookup "v" = some (.ref x) → V.lookup "ix" = some (.ref ix) → V.lookup "value" = some w → V.lookup "notes" = some nt → V.lookup "n" = some (.int (sizeT t)) → V.lookup "place" = some (.int (placeI (placeT (nmT t) key))) → K1' .next V m3 := by
    intro hne m3 V u3 v1 v2 v3 v4 v5 v6
    rw [← hQ]
    refine nextQ ?_
    clear hQ
    have hput : putT t key tw = putA t ((placeT (nmT t) key).getD (sizeT t)) (stepAdd (nmT t) key) tw := by unfold putT; rw [if_neg hne]
    have hw3 := IsT.upd u3 nilB hw
    have hT3 := IsT.upd u3 nilB h
    walk_at "w"
    cases hp : placeT (nmT t) key with
    | some p =>
      have hpK := placeB hk hnl hlen hp
      have ha : stepAdd (nmT t) key = none := stepAdd_none hp
      rw [hp, ha, Option.getD_some] at hput
      rw [hp] at v6
      have hh := decide_eq_false (show ¬ (placeI (some p) < 0) by show ¬ ((p : Int) < 0); lia)
      walk_at "f"
      walk_at "w"
      refine (c_put_T G (add := none) hT3 hn hw3 hK hK1 (by lia) (fun z => absurd rfl z) hd hdw h01 (by lia)).use (by decide) (fun msg m4 z => ?_) fun r m4 z => ?_
      · rw [hput]; exact ⟨z.1, u3.trans z.2⟩
      · obtain ⟨t', z1, z2, z3⟩ := z
        walk_at "k"
        exact ⟨t', by rw [hput]; exact z1, z2, u3.trans z3⟩
    | none =>
      cases key with
      | int k => cases hp
      | str s =>
        rw [hp] at v6
        rw [hp, show stepAdd (nmT t) (.str s) = some s by simp only [stepAdd, hp], Option.getD_none] at hput
        have v6 : V.lookup "place" = some (.int (-1)) := v6
        obtain ⟨lk, ak, hvk, hlk⟩ := hx.upd u3
        walk_at "w"
        refine ⟨_, getM_list' hlk (by decide) (by decide) rfl, ?_⟩
        walk_at "w"
        refine (c_put_T G (add := some s) hT3 hn hw3 hK hK1 (by lia) (fun _ => rfl) hd hdw h01 (by lia)).use (by decide) (fun msg m4 z => ?_) fun r m4 z => ?_
        · rw [hput]; exact ⟨z.1, u3.trans z.2⟩
        · obtain ⟨t', z1, z2, z3⟩ := z
          walk_at "k"
          exact ⟨t', by rw [hput]; exact z1, z2, u3.trans z3⟩
  refine isT_kind hw2 ?_
  by_cases q : kdT tw = "NULL"
  · walk_at "w"
    rw [decide_eq_true q]
    walk_at "w"
    refine (c_is_list_kind G _).u01 (by decide) (fun _ _ z => z.elim) fun m3 u3 => ?_
    have u := u12.trans u3
    cases t with
    | null => exact absurd rfl hn
    | «ints» ys nm =>
      clear hQ
      walk_at "w"
      exact rest (fun z => absurd z.1 (by simp [kdT])) m3 _ u rfl rfl rfl rfl rfl rfl
    | list ts nm =>
      clear rest
      subst hQ
      cases d with
      | zero => exact h.elim
      | succ d =>
        obtain ⟨x', l, a, vs, e', _, hv, _, hl, hvs, hnm, hnl, hlen⟩ := h
        cases e'
        have htw : tw = .null := kdT_null.mp q
        subst htw
        have hput : putT (.list ts nm) key .null = .ok (delT ts nm key) := rfl
        have hT3 := (IsT.upd u3 nilB hT2).raise (K' := K1) (d' := e + 1) (by lia) (by lia)
        have same : ∀ m5, Upd [] m3 m5 → delT ts nm key = .list ts nm → IsT FT K1 m5 (e + 1) (delT ts nm key) (.ref x) ∧ Upd [] m m5 := fun m5 u5 z => ⟨by rw [z]; exact IsT.upd u5 nilB hT3, u.trans u5⟩
        walk_at "w"
        cases hp : placeT nm key with
        | none =>
          have hh := decide_eq_true (show placeI (placeT (nmT (.list ts nm)) key) < 0 by show placeI (placeT nm key) < 0; rw [hp]; decide)
          walk_at "t"
          walk_at "w"
          exact same m3 (.refl _ _) (by simp only [delT, hp])
        | some p =>
          have ep : placeI (placeT (nmT (.list ts nm)) key) = (p : Int) := by show placeI (placeT nm key) = _; rw [hp]; rfl
          rw [ep]
          have hh := decide_eq_false (nn0 p)
          walk_at "f"
          walk_at "w"
          by_cases q2 : p < ts.length
          · have hh := decide_eq_false (show ¬ ((p : Int) ≥ ((sizeT (.list ts nm) : Nat) : Int)) by show ¬ ((p : Int) ≥ (ts.length : Int)); lia)
            walk_at "f"
            walk_at "w"
            refine lenU rfl (fun b m4 u4 hb hb' => ?_)
            walk_at "w"
            have u34 := u.trans u4
            refine (c_delete G (u34.vec hv) (u34.list hl) (hnm.upd u34 fun _ _ => by simp) (by rw [← hvs.length]; exact hnl) (by rw [← hvs.length]; exact q2) (by rw [← hvs.length]; lia) hb').u34 (by decide) (fun _ _ z => z.elim) fun y l' a' m5 z1 z2 z3 z4 => ?_
            walk_at "k"
            have uu := u34.trans z4
            refine ⟨.list (ts.eraseIdx p) (nm.map (·.eraseIdx p)), by rw [hput]; simp only [delT, hp, if_pos q2], ⟨y, l', a', _, rfl, trivial, z1, trivial, z2, ?_, z3, ?_, ?_⟩, uu⟩
            · exact (hvs.imp fun _ _ z => (IsT.upd uu nilB z).raise (by lia) (by lia)).eraseIdx p
            · intro ss z
              cases nm with
              | none => cases z
              | some ss' => cases z; rw [List.length_eraseIdx_of_lt (by rw [hnl ss' rfl]; exact q2), List.length_eraseIdx_of_lt q2, hnl ss' rfl]
            · rw [List.length_eraseIdx_of_lt q2]; lia
          · have hh := decide_eq_true (show (p : Int) ≥ ((sizeT (.list ts nm) : Nat) : Int) by show (p : Int) ≥ (ts.length : Int); lia)
            walk_at "t"
            walk_at "w"
            exact same m3 (.refl _ _) (by simp only [delT, hp, if_neg q2])
  · clear hQ
    walk_at "w"
    rw [decide_eq_false q]
    walk_at "w"
    exact rest (fun z => q z.2) m2 _ u12 rfl rfl rfl rfl rfl rfl
end

noncomputable def setT : T → List Key → T → Except String T
  | _, [], _ => .error ""
  | t, k :: ks, tw => if ks = [] then putT t k tw else match stepT t k with
    | .error e => .error e
    | .ok inner => if kdT inner = "NULL" then .error "no such index at level 1" else match setT inner ks tw with
      | .error e => .error e
      | .ok made => putT t k made
theorem setT_one {t : T} {k : Key} {tw : T} : setT t [k] tw = putT t k tw := by rw [setT, if_pos rfl]
theorem setT_more {t : T} {k : Key} {ks : List Key} {tw : T} (h : ks ≠ []) : setT t (k :: ks) tw = match stepT t k with
    | .error e => .error e
    | .ok inner => if kdT inner = "NULL" then .error "no such index at level 1" else match setT inner ks tw with
      | .error e => .error e
      | .ok made => putT t k made := by rw [setT, if_neg h]
theorem KeyB.ok {K : Nat} {key : Key} (h : KeyB K key) (hK : K ≤ 1000) : KeyOk key := by
  cases key with
  | int k => exact Nat.lt_of_lt_of_le h hK
  | str s => trivial
section
variable {X : Cx} {n : Nat}
theorem c_assign_down (G : Glo X) {K0 K1 d dw : Nat} {tw : T} {nt : MV} (hK : K0 ≤ 900) (hK1 : K1 ≤ 1000) (h01 : K0 + 1 ≤ K1) (h1 : 1 ≤ K0) : ∀ (ks : List Key) {m : MH} {e : Nat} {t : T} {v w : MV} {pl : Addr} {vs : List MV}, IsT FT K0 m d t v → t ≠ .null → IsT FT K1 m dw tw w → d + ks.length ≤ e → dw + ks.length ≤ e → ks ≠ [] → ks.length ≤ 1000 → m pl = some (.list vs) → PartsAt m ks vs → (∀ k ∈ ks, KeyB K0 k) →
    CallOk X (ks.length + 12) (.ref v_assign_down) [v, .ref pl, w, nt] m (fun r m' => ∃ t', setT t ks tw = .ok t' ∧ IsT FT K1 m' e t' r ∧ Upd [] m m') (fun msg m' => setT t ks tw = .error msg ∧ Upd [] m m') := by
  intro ks
  induction ks with
  | nil => intros; contradiction
  | cons k ks ih =>
    intro m e t v w pl vs h hn hw hd hdw _ hl hpl hps hkb
    have hx0 := h.vec hn
    obtain ⟨x, lx, a, xs, rfl, hv, _, _, _, _, _, hkd⟩ := hx0
    have e0 : decide (kdT t = "language") = false := by rcases hkd with e | e <;> (rw [e]; decide)
    have e1 : decide (kdT t = "NULL") = false := by rcases hkd with e | e <;> (rw [e]; decide)
    have hvl := hps.length
    obtain ⟨p0, hp0, y0, rfl, hy0⟩ : ∃ p, vs[0]? = some p ∧ ∃ y, p = .ref y ∧ KeyAt m y k := by
      obtain ⟨p, hp, y, e, hk⟩ := hps.get (i := 0) (a := k) rfl
      exact ⟨p, hp, y, e, hk⟩
    obtain ⟨e, rfl⟩ : ∃ e', e = e' + 1 := ⟨e - 1, by simp at hd; lia⟩
    simp only [List.length_cons] at hd hdw hl hvl
    have h9 : 9 ≤ ks.length + 12 := by lia
    have h12 : 12 ≤ ks.length + 12 := by lia
    show CallOk X ((ks.length + 12) + 1) _ _ _ _ _
    refine call_fnK G (f_assign_down _) rfl fun L K hKK => ?_
    walk_at "w"
    rw [e0]
    walk_at "w"
    rw [e1]
    walk_at "w"
    refine (c_is_vector G hv).u01 (by lia) (fun _ _ z => z.elim) fun m1 u1 => ?_
    walk_at "w"
    refine call_len G (k := ks.length + 1) (by simp [lenM, u1.list hpl, hvl]) (by lia) ?_
    walk_at "w"
    have hT1 := IsT.upd u1 nilB h
    have hw1 := IsT.upd u1 nilB hw
    have hps1 := PartsAt.upd u1 hps
    by_cases q : ks = []
    · subst q
      walk_at "w"
      refine ⟨_, getM_list' (u1.list hpl) (by decide) (by lia) (by first | exact ni1 hp0 | simpa using hp0), ?_⟩
      walk_at "w"
      refine (c_assign_step G hT1 hn hw1 hK hK1 (e := e) (by lia) (by lia) h01 (hy0.upd u1) (hkb k (.head _))).use h12 (fun msg m2 z => ?_) fun r m2 z => ?_
      · rw [setT_one]; exact ⟨z.1, u1.trans z.2⟩
      · obtain ⟨t', z1, z2, z3⟩ := z
        walk_at "k"
        exact ⟨t', by rw [setT_one]; exact z1, z2, u1.trans z3⟩
    · have hpos : ks.length ≠ 0 := fun z => q (List.length_eq_zero_iff.mp z)
      have hh : (((ks.length + 1 : Nat) : Int) == 1) = false := beq_eq_false_iff_ne.mpr (by lia)
      walk_at "f"
      walk_at "w"
      refine ⟨_, getM_list' (u1.list hpl) (by decide) (by lia) (by first | exact ni1 hp0 | simpa using hp0), ?_⟩
      walk_at "w"
      refine (c_element_step G hT1 (by lia) h1 (hy0.upd u1) ((hkb k (.head _)).ok (by lia))).use h9 (fun msg m2 z => ?_) fun r m2 z => ?_
      · refine ⟨?_, u1.trans z.2⟩
        rw [setT_more q, z.1]
      · obtain ⟨inner, z1, z2, u2⟩ := z
        have uu := u1.trans u2
        have hset : setT t (k :: ks) tw = if kdT inner = "NULL" then .error "no such index at level 1" else match setT inner ks tw with
          | .error e => .error e
          | .ok made => putT t k made := by rw [setT_more q, z1]
        walk_at "w"
        refine isT_kind z2 ?_
        walk_at "w"
        by_cases q2 : kdT inner = "NULL"
        · rw [decide_eq_true q2]
          walk_at "w"
          exact ⟨by rw [hset, if_pos q2], uu⟩
        · rw [decide_eq_false q2]
          rw [if_neg q2] at hset
          walk_at "w"
          refine ⟨_, getM_list' (uu.list hpl) (by decide) (by lia) (by first | exact ni1 hp0 | simpa using hp0), ?_⟩
          walk_at "w"
          with_reducible refine te_from (fun _ _ => rfl) ?_
          walk_at "w"
          refine ⟨pl, vs, 1, rfl, uu.list hpl, by lia, rfl, by decide, fun c hc => ?_⟩
          have u3 : Upd [] m2 (m2.set c (.list (vs.drop 1))) := .new hc
          have hc' : (m2.set c (.list (vs.drop 1))) c = some (.list (vs.drop 1)) := MH.set_same _ _ _
          rw [show (1 : Int).toNat = 1 from rfl]
          generalize m2.set c (.list (vs.drop 1)) = m3 at u3 hc' ⊢
          have u13 := uu.trans u3
          walk_at "w"
          refine (ih (e := e) (IsT.upd u3 nilB z2) (fun z => q2 (kdT_null.mpr z)) (IsT.upd u13 nilB hw) (by lia) (by lia) q (by lia) hc' (PartsAt.upd u13 (hps.drop 1)) (fun k' hk' => hkb k' (.tail _ hk'))).use (Nat.le_refl _) (fun msg m4 y => ?_) fun r2 m4 y => ?_
          · exact ⟨by rw [hset, y.1], u13.trans y.2⟩
          · obtain ⟨made, y1, y2, u4⟩ := y
            rw [y1] at hset
            have u14 := u13.trans u4
            walk_at "w"
            refine (c_assign_step G (IsT.upd u14 nilB h) hn y2 hK hK1 (e := e) (by lia) (by lia) h01 (hy0.upd u14) (hkb k (.head _))).use h12 (fun msg m5 z => ?_) fun r3 m5 z => ?_
            · rw [hset]; exact ⟨z.1, u14.trans z.2⟩
            · obtain ⟨t', z1, z2, z3⟩ := z
              walk_at "k"
              exact ⟨t', by rw [hset]; exact z1, z2, u14.trans z3⟩
end

section
variable {X : Cx} {n : Nat} {m : MH}
theorem c_assign_element (G : Glo X) {K0 K1 d dw e : Nat} {ts : List T} {nm : Option (List String)} {tw : T} {v w nt : MV} {li ix : Addr} {ks : List Key} (h : IsT FT K0 m d (.list ts nm) v) (hw : IsT FT K1 m dw tw w) (hK : K0 ≤ 900) (hK1 : K1 ≤ 1000) (h01 : K0 + 1 ≤ K1) (h1 : 1 ≤ K0) (hd : d + ks.length ≤ e) (hdw : dw + ks.length ≤ e) (hli : m li = some (.list [.ref ix])) (hx : KeysAt m ix ks) (hne : ks ≠ []) (hl : ks.length ≤ 1000) (hkb : ∀ k ∈ ks, KeyB K0 k) :
    CallOk X (ks.length + 13) (.ref v_assign_element) [v, .ref li, w, nt] m (fun r m' => ∃ t', setT (.list ts nm) ks tw = .ok t' ∧ IsT FT K1 m' e t' r ∧ Upd [] m m') (fun msg m' => setT (.list ts nm) ks tw = .error msg ∧ Upd [] m m') := by
  refine call_fnK G (f_assign_element _) rfl fun L K hKK => ?_
  have hx' := hx
  obtain ⟨kd, l, a, h0, hv, hlx, h3⟩ := hx
  have e0 : decide (kd = "missing") = false := by rcases h0 with rfl | rfl <;> decide
  walk_at "w"
  refine call_len G (k := 1) (by simp [lenM, hli]) (by decide) ?_
  walk_at "w"
  refine ⟨_, getM_list' hli (by decide) (by decide) rfl, ?_⟩
  walk_at "w"
  rw [e0]
  walk_at "w"
  refine call_len G (k := 1) (by simp [lenM, hli]) (by decide) ?_
  walk_at "w"
  refine ⟨_, getM_list' hli (by decide) (by decide) rfl, ?_⟩
  walk_at "w"
  refine (c_is_long_index G hx' hl).u01 (by lia) (fun _ _ z => z.elim) fun m1 u1 => ?_
  have hT1 := IsT.upd u1 nilB h
  have hx1 := hx'.upd u1
  have hxs : ∃ x l a, v = .ref x ∧ VecAt m1 x "list" (.ref l) a := by
    cases d with
    | zero => exact h.elim
    | succ d => obtain ⟨x, l, a, vs, e, _, hv, _⟩ := hT1; exact ⟨x, l, a, e, hv⟩
  obtain ⟨x, l2, a2, rfl, hvx⟩ := hxs
  by_cases q : 1 < ks.length
  · rw [decide_eq_true q]
    walk_at "w"
    refine (c_is_list_kind G _).u01 (by lia) (fun _ _ z => z.elim) fun m2 u2 => ?_
    have u12 := u1.trans u2
    walk_at "w"
    refine (c_index_parts G (hx1.upd u2) hl).u24 (by lia) (fun _ _ z => z.elim) fun pl ps m3 _ hpl hps u3 => ?_
    have u := u12.trans u3
    walk_at "w"
    refine (c_assign_down G hK hK1 h01 h1 ks (IsT.upd u nilB h) (fun z => by cases z) (IsT.upd u nilB hw) hd hdw hne hl hpl hps hkb).use (by lia) (fun msg m4 z => ⟨z.1, u.trans z.2⟩) fun r m4 z => ?_
    obtain ⟨t', z1, z2, z3⟩ := z
    walk_at "k"
    exact ⟨t', z1, z2, u.trans z3⟩
  · rw [decide_eq_false q]
    have hk1 : ∃ key, ks = [key] := by
      cases ks with
      | nil => exact absurd rfl hne
      | cons k r =>
        cases r with
        | nil => exact ⟨k, rfl⟩
        | cons _ _ => exact absurd (by simp) q
    obtain ⟨key, rfl⟩ := hk1
    walk_at "w"
    refine lenU rfl (fun b m2 u2 hb hb' => ?_)
    have u := u1.trans u2
    walk_at "w"
    refine (c_assign_down G hK hK1 h01 h1 [key] (IsT.upd u nilB h) (fun z => by cases z) (IsT.upd u nilB hw) hd hdw hne hl hb' (.cons ⟨ix, rfl, (hx1.upd u2).one⟩ .nil) hkb).use (by lia) (fun msg m4 z => ⟨z.1, u.trans z.2⟩) fun r m4 z => ?_
    obtain ⟨t', z1, z2, z3⟩ := z
    walk_at "k"
    exact ⟨t', z1, z2, u.trans z3⟩
end

noncomputable def RowAt (m : MH) (r : Addr) : Prop := ∃ xs : List Int, m r = some (.list (xs.map .int)) ∧ xs.length ≤ 2000
theorem RowAt.upd {B : List Addr} {m m' : MH} {r : Addr} (u : Upd B m m') (h : RowAt m r) (hB : r ∉ B := by walk_at "nb") : RowAt m' r := by
  obtain ⟨xs, h1, h2⟩ := h
  exact ⟨xs, u.list h1 hB, h2⟩
theorem RowAt.ne {m : MH} {r : Addr} (h : RowAt m r) : m r ≠ none := by
  obtain ⟨xs, h1, _⟩ := h
  rw [h1]; simp
theorem fmod_at (i : Int) {k : Int} (hk : 0 < k) : 0 ≤ i.fmod k ∧ i.fmod k < k := ⟨Int.fmod_nonneg_of_pos _ hk, Int.fmod_lt_of_pos _ hk⟩
section
variable {X : Cx} {n : Nat} {m : MH}
theorem compJ {fe env : Env} {vars : Vars} {Ex : String → MH → Prop} {elt iter : PySem.Expr} {x : String} {scope : Scope} {capt : List String} {Q : Addr → MH → Prop} (r : Addr) (R : Addr → Nat → MV → MH → Prop) (hR : ∀ D i u m m', Upd [D, r] m m' → R D i u m → R D i u m')
    (h : TI X n fe env vars iter m (fun N v P m₁ => N ≤ 1000000 ∧ RowAt m₁ r ∧ (∀ m', Upd [r] m₁ m' → P m') ∧
      (∀ D i m' C, i < N → m₁ D = none → m' D ≠ none → Upd [r] m₁ m' → RowAt m' r → TE X n fe (cEnv scope C env) ((x, v i) :: captv vars capt) elt m' (fun u m'' => Upd [r] m' m'' ∧ RowAt m'' r ∧ R D i u m'') FE) ∧
      ∀ D ys m', m₁ D = none → Upd [r] m₁ m' → RowAt m' r → m' D = some (.list ys) → ys.length = N → (∀ i u, ys[i]? = some u → R D i u m') → Q D m') Ex) : CompTI X n fe env vars elt iter x scope capt m Q Ex := fun A s p => by
  refine wpAny_mono (h A s p) (fun xv s₁ h₁ => wpAny_mono h₁ (fun itv s₂ h₂ => ?_) fun _ _ z => z) fun _ _ z => z
  obtain ⟨I, N, v, P, St, m₁, e, hsrc, hst, rl, st, hI, hIo, hP, hN, hB, hPu, turn, fin⟩ := h₂
  refine ⟨I, N, v, P, St, m₁, e, hsrc, hst, rl, st, hI, hIo, hP, hN, fun D hD => ⟨fun i ys m' => Upd [r] m₁ m' ∧ RowAt m' r ∧ ∀ j u, ys[j]? = some u → R D j u m', ⟨(Upd.new hD).any, hB.upd (Upd.set (a := D)) (by simp; rintro rfl; exact hB.ne hD), fun j u z => by simp at z⟩, fun i ys m' C hi hv hP' hD' hyl => ?_, fun ys m' hl hv hD' => fin D ys m' hD hv.1 hv.2.1 hD' hl hv.2.2⟩⟩
  have hrD : r ≠ D := by rintro rfl; exact hB.ne hD
  refine (turn D i m' C hi hD (by rw [hD']; simp) hv.1 hv.2.1).mono (fun u m'' z => ?_) fun _ _ z => z
  obtain ⟨u1, hrow, hr⟩ := z
  have hD'' := u1.list hD' (by first | exact ni1 (Ne.symm hrD) | simpa using Ne.symm hrD)
  have u0 : Upd [D] m'' (m''.set D (.list (ys ++ [u]))) := Upd.set
  have u2 : Upd [D, r] m'' (m''.set D (.list (ys ++ [u]))) := u0.mono fun b hb => by rw [List.mem_singleton.mp hb]; exact .head _
  have u1' : Upd [D, r] m' m'' := u1.mono fun b hb => List.mem_cons_of_mem D hb
  have uB : Upd [r] m₁ m'' := hv.1.trans u1
  refine ⟨hD'', hPu _ uB, ?_, hrow.upd u0 (by first | exact ni1 hrD | simpa using hrD), fun j w z => ?_⟩
  · exact (((hv.1.trans u1).mono fun b hb => List.mem_cons_of_mem D hb).trans u2).shut fun b hb => by
      rcases List.mem_cons.mp hb with rfl | hb
      · exact .inr hD
      · exact .inl hb
  · by_cases q : j < ys.length
    · rw [List.getElem?_append_left q] at z
      exact hR D j w _ _ u2 (hR D j w _ _ u1' (hv.2.2 j w z))
    · rw [List.getElem?_append_right (by lia)] at z
      have : j = ys.length := by
        have := (List.getElem?_eq_some_iff.mp z).1
        simp at this; lia
      subst this
      simp at z
      subst z
      rw [hyl]
      exact hR D i u _ _ u2 hr
theorem c_law_next (G : Glo X) {r : Addr} (h : RowAt m r) : CallOk X 1 (.ref v__law_next) [.ref r] m (fun v m' => ∃ i : Int, v = .int i ∧ RowAt m' r ∧ Upd [r] m m') FE := by
  refine call_fnK G (f__law_next _) rfl fun L K hK => ?_
  obtain ⟨xs, h1, h2⟩ := h
  walk_at "w"
  refine lenU rfl (fun b m1 u1 hb hb' => ?_)
  have h1' := u1.list h1
  refine ne_nil h1' hb' ?_
  rcases List.eq_nil_or_concat xs with rfl | ⟨ys, y, e0⟩
  · walk_at "w"
    exact ⟨⟨[], h1', by simp⟩, u1.any⟩
  · rw [List.concat_eq_append] at e0
    subst e0
    rw [show (!((List.map MV.int (ys ++ [y])).isEmpty)) = true by simp]
    have e : List.map MV.int (ys ++ [y]) = ys.map .int ++ [.int y] := by simp
    rw [e] at h1'
    refine ⟨_, rfl, ?_⟩
    walk_at "w"
    refine te_pop (by kernel_rfl) (by kernel_rfl) ?_
    walk_at "w"
    refine ⟨r, _, _, rfl, h1', by simp at h2 ⊢; lia, ?_⟩
    walk_at "k"
    exact ⟨y, rfl, ⟨ys, MH.set_same _ _ _, by simp at h2; lia⟩, u1.any.trans .set⟩
theorem c_law_heads (G : Glo X) {r : Addr} {many : Nat} (h : RowAt m r) (hm : many ≤ 1000) : CallOk X 2 (.ref v__law_heads) [.ref r, .int many] m (fun v m' => ∃ (b : Addr) (ss : List String), v = .ref b ∧ m b = none ∧ m' b = some (.list (ss.map .str)) ∧ ss.length = many ∧ RowAt m' r ∧ Upd [r] m m') FE := by
  refine call_fnK G (f__law_heads _) rfl fun L K hK => ?_
  walk_at "w"
  refine te_comp (capt := ["row"]) (compOk_of (by kernel_rfl)) G (fun _ => rfl) (compJ r (fun D i u m => ∃ s, u = .str s) (fun _ _ _ _ _ _ z => z) (ti_range1 G (by kernel_rfl) rfl ?_))
  walk_at "w"
  refine ⟨by lia, by lia, by simp; lia, h, (fun _ _ => trivial), fun D i m' C hi hD hD' u hrow => ?_, fun D ys m' hD u hrow hD' hyl hR => ?_⟩
  · walk_at "w"
    refine lenU rfl (fun b m1 u1 hb hb' => ?_)
    walk_at "w"
    refine (c_law_next G (hrow.upd u1)).u12 (by decide) (fun _ _ z => z) fun i m2 hrow2 u2 => ?_
    have hbr : b ≠ r := by rintro rfl; exact hrow.ne hb
    walk_at "w"
    refine bin_mod (by decide) ?_
    obtain ⟨f1, f2⟩ := fmod_at i (k := 4) (by decide)
    generalize i.fmod 4 = j at f1 f2 ⊢
    obtain ⟨k, rfl⟩ : ∃ k : Nat, j = k := Int.eq_ofNat_of_zero_le f1
    have hs : ∃ s, [MV.str "", .str "a", .str "b", .str "a"][k]? = some (.str s) := by
      have := lt4 f2
      rcases this with rfl | rfl | rfl | rfl <;> exact ⟨_, rfl⟩
    obtain ⟨s, hs⟩ := hs
    refine ⟨_, getM_list' (u2.list hb' (by first | exact ni1 hbr | simpa using hbr)) (by lia) (by lia) (by first | exact ni1 hs | simpa using hs), ?_⟩
    exact ⟨u1.any.trans u2, hrow2, s, rfl⟩
  · walk_at "k"
    have hss : ∃ ss : List String, ys = ss.map .str := by
      have : ∀ u ∈ ys, ∃ s, u = .str s := fun u hu => by
        obtain ⟨j, hj⟩ := List.getElem?_of_mem hu
        exact hR j u hj
      clear hR hyl hD'
      induction ys with
      | nil => exact ⟨[], rfl⟩
      | cons y t ih =>
        obtain ⟨ss, rfl⟩ := ih fun u hu => this u (.tail _ hu)
        obtain ⟨s, rfl⟩ := this y (.head _)
        exact ⟨s :: ss, rfl⟩
    obtain ⟨ss, rfl⟩ := hss
    exact ⟨D, ss, rfl, hD, hD', by simpa using hyl, hrow, u⟩
end

noncomputable def forB : Stmt → List Stmt
  | .For _ _ b _ _ => b
  | _ => []
section
variable {X : Cx} {n : Nat} {m : MH}
theorem c_law_row (G : Glo X) {sc : Addr} {is : List Int} (h : m sc = some (.ro (is.map .int))) (hs : is.length ≤ 1000000) : CallOk X 1 (.ref v__law_row) [.ref sc] m (fun v m' => ∃ b, v = .ref b ∧ m b = none ∧ RowAt m' b ∧ Upd [] m m') FE := by
  refine call_fnK G (f__law_row _) rfl fun L K hK => ?_
  walk_at "w"
  refine lenU rfl (fun b m1 u1 hb hb1 => ?_)
  walk_at "w"
  refine ts_for rfl (.inl (by kernel_rfl)) (fun _ => rfl) (fun _ _ => rfl) (ti_list (te_upto_ro (fun _ _ => rfl) ?_))
  walk_at "w"
  refine ⟨sc, _, 40, rfl, u1.ro h, by simpa using hs, rfl, by decide, fun c hc => ?_⟩
  have u2 : Upd [] m1 (m1.set c (.list ((is.map .int).take (40 : Int).toNat))) := .new hc
  have hc' : (m1.set c (.list ((is.map .int).take (40 : Int).toNat))) c = some (.list ((is.map .int).take (40 : Int).toNat)) := MH.set_same _ _ _
  have e40 : ((is.map .int).take (40 : Int).toNat) = (is.take 40).map MV.int := by rw [List.map_take]; rfl
  rw [e40] at u2 hc' ⊢
  generalize m1.set c (.list ((is.take 40).map MV.int)) = m2 at u2 hc' ⊢
  have hcb : c ≠ b := by rintro rfl; rw [hc] at hb1; cases hb1
  have hlen : (is.take 40).length ≤ 40 := by rw [List.length_take]; lia
  refine ⟨c, _, rfl, hc', fun i V m' => A3 (V.lookup "row" = some (.ref b)) (Upd [b] m2 m') (∃ xs : List Int, m' b = some (.list (xs.map .int)) ∧ xs.length ≤ 31 * i), ⟨rfl, .refl _ _, [], u2.list hb1, by simp⟩, fun i V m' hi z _ => ?_, fun V m' z _ => ?_⟩
  · obtain ⟨g1, u3, xs, hx, hxl⟩ := z
    have hi' : i < (is.take 40).length := by simpa using hi
    have e : nthv ((is.take 40).map MV.int) i = .int (is.take 40)[i] := by
      unfold nthv; rw [List.getD_eq_getElem?_getD, List.getElem?_map, List.getElem?_eq_getElem hi']; rfl
    rw [e]
    generalize (is.take 40)[i] = cell
    have key : ∀ f : Int, TS X 0 (e__law_row L) (e__law_row L) (setv (setv V "cell" (.int cell)) "figure" (.int f)) (execs ((((fBody (st 109)).drop 1).head?.elim [] forB).drop 1) (e__law_row L)) m' (fun r V' m'' => r = .next ∧ m'' c = some (.list ((is.take 40).map MV.int)) ∧ V'.lookup "row" = some (.ref b) ∧ Upd [b] m2 m'' ∧ ∃ xs : List Int, m'' b = some (.list (xs.map .int)) ∧ xs.length ≤ 31 * (i + 1)) FE := by
      intro f
      have g1' : (setv (setv V "cell" (.int cell)) "figure" (.int f)).lookup "row" = some (.ref b) := lk_other (by decide) (lk_other (by decide) g1)
      have g2' : (setv (setv V "cell" (.int cell)) "figure" (.int f)).lookup "figure" = some (.int f) := lk_same _ _ _
      generalize setv (setv V "cell" (.int cell)) "figure" (.int f) = V1 at g1' g2'
      refine ts_consB rfl fun K2 hK2 => ?_
      walk_at "w"
      refine ⟨⟨_, hx⟩, ?_⟩
      walk_at "w"
      refine bin_mod (by decide) ?_
      refine ⟨_, hx, by simp; lia, ?_⟩
      have u4 : Upd [b] m' (m'.set b (.list (xs.map .int ++ [.int (f.fmod 997)]))) := .set
      have hx4 : (m'.set b (.list (xs.map .int ++ [.int (f.fmod 997)]))) b = some (.list ((xs ++ [f.fmod 997]).map .int)) := by rw [List.map_append]; exact MH.set_same _ _ _
      generalize m'.set b (.list (xs.map .int ++ [.int (f.fmod 997)])) = m4 at u4 hx4 ⊢
      walk_at "w"
      refine bin_div997 ?_
      walk_at "k"
      have g3 : (setv V1 "figure" (.int (f.fdiv 997))).lookup "row" = some (.ref b) := lk_other (by decide) g1'
      have g4 : (setv V1 "figure" (.int (f.fdiv 997))).lookup "figure" = some (.int (f.fdiv 997)) := lk_same _ _ _
      generalize setv V1 "figure" (.int (f.fdiv 997)) = V2 at g3 g4 ⊢
      generalize f.fdiv 997 = f2 at g4
      walk_at "w"
      refine ts_for rfl (.inl (by kernel_rfl)) (fun _ => rfl) (fun _ _ => rfl) (ti_range1 G (by kernel_rfl) rfl ?_)
      walk_at "w"
      refine ⟨by decide, by decide, fun j V m' => A4 (V.lookup "row" = some (.ref b)) ((∃ f : Int, V.lookup "figure" = some (.int f))) (Upd [b] m4 m') (∃ ys : List Int, m' b = some (.list (ys.map .int)) ∧ ys.length ≤ xs.length + 1 + j), ⟨g3, ⟨f2, g4⟩, .refl _ _, _, hx4, by simp⟩, fun j V m5 hj z _ => ?_, fun V m5 z _ => ?_⟩
      · obtain ⟨g5, ⟨f3, g6⟩, u5, ys, hy, hyl⟩ := z
        have hj' : j < 30 := by simpa using hj
        have g5' : (setv V "lap" (.int j)).lookup "row" = some (.ref b) := lk_other (by decide) g5
        have g6' : (setv V "lap" (.int j)).lookup "figure" = some (.int f3) := lk_other (by decide) g6
        generalize setv V "lap" (.int j) = V3 at g5' g6'
        walk_at "w"
        by_cases q : f3 > 0
        · rw [decide_eq_true q]
          walk_at "w"
          refine ⟨⟨_, hy⟩, ?_⟩
          walk_at "w"
          refine bin_mod (by decide) ?_
          refine ⟨_, hy, by simp; lia, ?_⟩
          have u6 : Upd [b] m5 (m5.set b (.list (ys.map .int ++ [.int (f3.fmod 997)]))) := .set
          have hx6 : (m5.set b (.list (ys.map .int ++ [.int (f3.fmod 997)]))) b = some (.list ((ys ++ [f3.fmod 997]).map .int)) := by rw [List.map_append]; exact MH.set_same _ _ _
          generalize m5.set b (.list (ys.map .int ++ [.int (f3.fmod 997)])) = m6 at u6 hx6 ⊢
          walk_at "w"
          refine bin_div997 ?_
          walk_at "w"
          exact ⟨trivial, lk_other (by decide) g5', ⟨_, lk_same _ _ _⟩, u5.trans u6, _, hx6, by simp; lia⟩
        · rw [decide_eq_false q]
          walk_at "w"
          exact ⟨trivial, g5', ⟨_, g6'⟩, u5, ys, hy, by lia⟩
      · obtain ⟨g5, ⟨f3, g6⟩, u5, ys, hy, hyl⟩ := z
        walk_at "w"
        have u345 := (u3.trans u4).trans u5
        have hyl' : ys.length ≤ xs.length + 1 + 30 := hyl
        exact ⟨rfl, u345.list hc' (by first | exact ni1 hcb | simpa using hcb), g5, u345, ys, hy, by lia⟩
    refine ts_consK fun K3 hK3 => ?_
    have next : ∀ f : Int, K3 .next (setv (setv V "cell" (.int cell)) "figure" (.int f)) m' := fun f => by
      refine hK3 .next _ _ ?_
      refine (key f).mono (fun r V' m'' z => ?_) fun _ _ z => z
      obtain ⟨rfl, z⟩ := z
      exact ⟨z.1, z.2.1, z.2.2.1, z.2.2.2⟩
    clear hK3 key
    walk_at "w"
    by_cases q : cell ≥ 0
    · rw [decide_eq_true q]
      walk_at "w"
      exact next _
    · rw [decide_eq_false q]
      walk_at "w"
      exact next _
  · obtain ⟨g1, u3, xs, hx, hxl⟩ := z
    have hxl' : xs.length ≤ 31 * 40 := by
      have : xs.length ≤ 31 * (List.map MV.int (List.take 40 is)).length := hxl
      rw [List.length_map] at this
      lia
    have u02 : Upd [] m m2 := u1.trans u2
    walk_at "w"
    with_reducible refine te_upto (fun _ _ => rfl) ?_
    walk_at "w"
    refine ⟨b, _, 150, rfl, hx, by simp; lia, rfl, by decide, fun d hd => ?_⟩
    have u4 : Upd [] m' (m'.set d (.list ((xs.map .int).take (150 : Int).toNat))) := .new hd
    have hd' : (m'.set d (.list ((xs.map .int).take (150 : Int).toNat))) d = some (.list ((xs.map .int).take (150 : Int).toNat)) := MH.set_same _ _ _
    have e150 : ((xs.map .int).take (150 : Int).toNat) = (xs.take 150).map MV.int := by rw [List.map_take]; rfl
    rw [e150] at u4 hd' ⊢
    generalize m'.set d (.list ((xs.take 150).map MV.int)) = m4 at u4 hd' ⊢
    have hlen2 : (xs.take 150).length ≤ 150 := by rw [List.length_take]; lia
    walk_at "w"
    refine te_reverse (by kernel_rfl) (by kernel_rfl) ?_
    walk_at "w"
    refine ⟨d, _, rfl, hd', by simp; lia, ?_⟩
    have u5 : Upd [d] m4 (m4.set d (.list ((xs.take 150).map MV.int).reverse)) := .set
    have hd5 : (m4.set d (.list ((xs.take 150).map MV.int).reverse)) d = some (.list (((xs.take 150).reverse).map .int)) := by rw [List.map_reverse]; exact MH.set_same _ _ _
    generalize m4.set d (.list ((xs.take 150).map MV.int).reverse) = m5 at u5 hd5 ⊢
    walk_at "w"
    have u25 : Upd [b, d] m2 m5 := ((u3.mono fun x hx => by simp at hx ⊢; exact .inl hx).trans u4.any).trans (u5.mono fun x hx => by simp at hx ⊢; exact .inr hx)
    have hdm : m d = none := by
      have : d ≠ b := by rintro rfl; rw [hx] at hd; cases hd
      exact u02.none' (u3.none' hd (by first | exact ni1 this | simpa using this))
    refine ⟨hdm, ⟨_, hd5, by simp; lia⟩, (u02.any.trans u25).shut fun x hx => .inr ?_⟩
    simp at hx
    rcases hx with rfl | rfl
    · exact hb
    · exact hdm
end

theorem all2_ex {α β : Type} {R : α → β → Prop} {ys : List β} (h : ∀ (i : Nat) u, ys[i]? = some u → ∃ t, R t u) : ∃ ts, All2 R ts ys := by
  induction ys with
  | nil => exact ⟨[], .nil⟩
  | cons y r ih =>
    obtain ⟨t, ht⟩ := h 0 y rfl
    obtain ⟨ts, hts⟩ := ih fun i u e => h (i + 1) u e
    exact ⟨t :: ts, .cons ht hts⟩
noncomputable def setNm : T → List String → T
  | .null, _ => .null
  | .ints xs _, ss => .ints xs (some ss)
  | .list ts _, ss => .list ts (some ss)
/-- a Vector that is just made, with no names -/
noncomputable def MadeV (F : Addr → Prop) (K : Nat) (m : MH) (d : Nat) (x : Addr) : T → Prop
  | .null => False
  | .ints xs nm => nm = none ∧ F x ∧ ∃ l, VecAt m x "integer" (.ref l) .none ∧ F l ∧ m l = some (.list (xs.map oint)) ∧ xs.length ≤ K
  | .list ts nm => nm = none ∧ F x ∧ ∃ l vs, VecAt m x "list" (.ref l) .none ∧ F l ∧ m l = some (.list vs) ∧ All2 (IsT (fun b => F b ∧ b ≠ x) K m d) ts vs ∧ ts.length ≤ K
theorem MadeV.isT {F : Addr → Prop} {K d : Nat} {m : MH} {x : Addr} {t : T} (h : MadeV F K m d x t) : IsT F K m (d + 1) t (.ref x) := by
  cases t with
  | null => exact h.elim
  | «ints» xs nm =>
    obtain ⟨rfl, fx, l, h1, fl, h2, h3⟩ := h
    exact isT_ints.mpr ⟨x, l, _, rfl, fx, h1, fl, h2, rfl, (fun s z => by cases z), h3⟩
  | list ts nm =>
    obtain ⟨rfl, fx, l, vs, h1, fl, h2, h3, h4⟩ := h
    exact ⟨x, l, _, vs, rfl, fx, h1, fl, h2, h3.imp fun _ _ z => z.weak (fun _ z => z.1) (Nat.le_refl _) (Nat.le_refl _), rfl, (fun s z => by cases z), h4⟩
theorem MadeV.upd {F : Addr → Prop} {K d : Nat} {B : List Addr} {m m' : MH} {x : Addr} {t : T} (u : Upd B m m') (hB : ∀ b, F b → b ∉ B) (h : MadeV F K m d x t) : MadeV F K m' d x t := by
  cases t with
  | null => exact h.elim
  | «ints» xs nm =>
    obtain ⟨rfl, fx, l, h1, fl, h2, h3⟩ := h
    exact ⟨rfl, fx, l, u.vec h1 (hB _ fx), fl, u.list h2 (hB _ fl), h3⟩
  | list ts nm =>
    obtain ⟨rfl, fx, l, vs, h1, fl, h2, h3, h4⟩ := h
    exact ⟨rfl, fx, l, vs, u.vec h1 (hB _ fx), fl, u.list h2 (hB _ fl), h3.imp fun _ _ z => IsT.upd u (fun b hb => hB b hb.1) z, h4⟩
theorem MadeV.at {F : Addr → Prop} {K d : Nat} {m : MH} {x : Addr} {t : T} (h : MadeV F K m d x t) : ∃ l, VecAt m x (kdT t) (.ref l) .none := by
  cases t with
  | null => exact h.elim
  | «ints» xs nm => obtain ⟨_, _, l, h1, _⟩ := h; exact ⟨l, h1⟩
  | list ts nm => obtain ⟨_, _, l, vs, h1, _⟩ := h; exact ⟨l, h1⟩
theorem VecAt.same {m : MH} {x : Addr} {k k' : String} {i i' a a' : MV} (h : VecAt m x k i a) (h' : VecAt m x k' i' a') : i = i' := by
  obtain ⟨_, _, e⟩ := h
  obtain ⟨_, _, e'⟩ := h'
  rw [e] at e'
  simp [vecAs] at e'
  exact e'.2.2.1
theorem MadeV.named {F : Addr → Prop} {K d : Nat} {m m' : MH} {t : T} {x e w l lx : Addr} {ss : List String} (h : MadeV F K m d x t) (hl : ss.length = sizeT t) (u : Upd [x] m m') (h0 : VecAt m x (kdT t) (.ref lx) .none) (hv : VecAt m' x (kdT t) (.ref lx) (.ref e)) (fe : F e) (he : m' e = some (.sd [("names", .ref w)])) (fw : F w) (hw : VecAt m' w "character" (.ref l) .none) (fl : F l) (hl' : m' l = some (.list (ss.map .str))) : IsT F K m' (d + 1) (setNm t ss) (.ref x) := by
  cases t with
  | null => exact h.elim
  | «ints» xs nm =>
    obtain ⟨rfl, fx, l2, h1, fl2, h2, h3⟩ := h
    cases h0.same h1
    have hlx : lx ≠ x := by rintro rfl; obtain ⟨_, _, z⟩ := h1; rw [h2] at z; cases z
    exact isT_ints.mpr ⟨x, lx, _, rfl, fx, hv, fl2, u.list h2 (by first | exact ni1 hlx | simpa using hlx), ⟨e, w, l, rfl, fe, he, fw, hw, fl, hl'⟩, (fun s z => by cases z; exact hl), h3⟩
  | list ts nm =>
    obtain ⟨rfl, fx, l2, vs, h1, fl2, h2, h3, h4⟩ := h
    cases h0.same h1
    have hlx : lx ≠ x := by rintro rfl; obtain ⟨_, _, z⟩ := h1; rw [h2] at z; cases z
    exact ⟨x, lx, _, vs, rfl, fx, hv, fl2, u.list h2 (by first | exact ni1 hlx | simpa using hlx), h3.imp fun _ _ z => (IsT.upd u (fun b hb => by simpa using hb.2) z).weak (fun _ z => z.1) (Nat.le_refl _) (Nat.le_refl _), ⟨e, w, l, rfl, fe, he, fw, hw, fl, hl'⟩, (fun s z => by cases z; exact hl), h4⟩
theorem NmAt.live {F : Addr → Prop} {m : MH} {a : MV} {nm : Option (List String)} (h : NmAt F m a nm) : NmAt (fun b => F b ∧ m b ≠ none) m a nm := by
  cases nm with
  | none => exact h
  | some ss =>
    obtain ⟨d, v, l, e, fd, hd, fv, hv, fl, hl⟩ := h
    exact ⟨d, v, l, e, ⟨fd, by rw [hd]; simp⟩, hd, ⟨fv, by obtain ⟨_, _, z⟩ := hv; rw [z]; simp⟩, hv, ⟨fl, by rw [hl]; simp⟩, hl⟩
theorem IsT.live {F : Addr → Prop} {K : Nat} {m : MH} {d : Nat} {t : T} {v : MV} (h : IsT F K m d t v) : IsT (fun b => F b ∧ m b ≠ none) K m d t v := by
  cases t with
  | null =>
    obtain ⟨x, e, fx, hx⟩ := isT_null.mp h
    exact isT_null.mpr ⟨x, e, ⟨fx, by obtain ⟨_, z⟩ := hx; rw [z]; simp⟩, hx⟩
  | «ints» xs nm =>
    obtain ⟨x, l, a, e, fx, h1, fl, h2, h3, h4⟩ := isT_ints.mp h
    exact isT_ints.mpr ⟨x, l, a, e, ⟨fx, by obtain ⟨_, _, z⟩ := h1; rw [z]; simp⟩, h1, ⟨fl, by rw [h2]; simp⟩, h2, h3.live, h4⟩
  | list ts nm =>
    induction d generalizing ts nm v with
    | zero => exact h.elim
    | succ d ih =>
    obtain ⟨x, l, a, vs, e, fx, h1, fl, h2, h3, h4, h5⟩ := h
    refine ⟨x, l, a, vs, e, ⟨fx, by obtain ⟨_, _, z⟩ := h1; rw [z]; simp⟩, h1, ⟨fl, by rw [h2]; simp⟩, h2, h3.imp fun t _ z => ?_, h4.live, h5⟩
    cases t with
    | null => exact isT_null.mpr (isT_null.mp z |>.imp fun x y => ⟨y.1, ⟨y.2.1, by obtain ⟨_, w⟩ := y.2.2; rw [w]; simp⟩, y.2.2⟩)
    | «ints» xs nm =>
      obtain ⟨x, l, a, e, fx, h1, fl, h2, h3, h4⟩ := isT_ints.mp z
      exact isT_ints.mpr ⟨x, l, a, e, ⟨fx, by obtain ⟨_, _, z⟩ := h1; rw [z]; simp⟩, h1, ⟨fl, by rw [h2]; simp⟩, h2, h3.live, h4⟩
    | list ts nm => exact ih ts nm z
section
variable {X : Cx} {n : Nat} {m : MH}
theorem c_law_value (G : Glo X) {r : Addr} : ∀ (deep : Nat) {m : MH}, deep ≤ 10 → RowAt m r → CallOk X (deep + 4) (.ref v__law_value) [.ref r, .int deep] m (fun v m' => ∃ t, IsT (fun b => m b = none) 10 m' (deep + 1) t v ∧ RowAt m' r ∧ Upd [r] m m') FE := by
  intro deep
  induction deep using Nat.strongRecOn with
  | _ deep ih =>
    intro m hdeep hrow
    have hrn := hrow.ne
    have hF : ∀ b, m b = none → b ∉ [r] := fun b hb => by simp; rintro rfl; exact hrn hb
    refine call_fnK G (f__law_value _) rfl fun L K hK => ?_
    walk_at "w"
    refine (c_law_next G hrow).u12 (by lia) (fun _ _ z => z) fun i m1 hrow1 u1 => ?_
    walk_at "w"
    refine bin_mod (by decide) ?_
    walk_at "w"
    by_cases q7 : i.fmod 8 = 7
    · have hh : (i.fmod 8 == 7) = true := beq_iff_eq.mpr q7
      walk_at "t"
      walk_at "w"
      refine (c_Null G).use (by lia) (fun _ _ z => z) fun v m2 hn => ?_
      walk_at "k"
      obtain ⟨y, rfl, hy, hyv, u2⟩ := hn
      have hyr : y ∉ [r] := by simp; rintro rfl; exact hrow1.ne hy
      exact ⟨.null, isT_null.mpr ⟨y, rfl, u1.none' hy hyr, hyv⟩, hrow1.upd u2, u1.trans u2.any⟩
    · have hh : (i.fmod 8 == 7) = false := beq_eq_false_iff_ne.mpr q7
      walk_at "f"
      walk_at "w"
      refine (c_law_next G hrow1).u12 (by lia) (fun _ _ z => z) fun j m2 hrow2 u2 => ?_
      walk_at "w"
      refine bin_mod (by decide) ?_
      obtain ⟨f1, f2⟩ := fmod_at j (k := 4) (by decide)
      generalize j.fmod 4 = many at f1 f2 ⊢
      obtain ⟨many, rfl⟩ : ∃ k : Nat, many = k := Int.eq_ofNat_of_zero_le f1
      walk_at "k"
      refine ts_consK fun K3 hK3 => ?_
      have next : ∀ m3 V x t, MadeV (fun b => m b = none) 10 m3 deep x t → sizeT t = many → RowAt m3 r → Upd [r] m m3 → V.lookup "made" = some (.ref x) → V.lookup "row" = some (.ref r) → V.lookup "many" = some (.int many) → K3 .next V m3 := by
        intro m3 V x t ht hsz hrow3 u3 g1 g2 g3
        refine hK3 .next _ _ ?_
        clear hK3
        dsimp only
        walk_at "w"
        refine (c_law_next G hrow3).u12 (by lia) (fun _ _ z => z) fun i4 m4 hrow4 u4 => ?_
        have ht4 := ht.upd u4 hF
        have u34 := u3.trans u4
        walk_at "w"
        refine bin_mod (by decide) ?_
        walk_at "w"
        by_cases q1 : i4.fmod 2 = 1
        · have hh : (i4.fmod 2 == 1) = true := beq_iff_eq.mpr q1
          walk_at "t"
          walk_at "w"
          with_reducible refine te_dict1 fun d hd => ?_
          have u5 : Upd [] m4 (m4.set d (.sd [])) := .new hd
          have hd5 := MH.set_same m4 d (.sd [])
          generalize m4.set d (.sd []) = m5 at u5 hd5 ⊢
          have hrow5 := hrow4.upd u5
          have hdr : d ≠ r := by rintro rfl; exact hrow4.ne hd
          walk_at "w"
          refine (c_law_heads G hrow5 (by lia)).u25 (by lia) (fun _ _ z => z) fun b ss m6 hb hb6 hss hrow6 u6 => ?_
          have hbr : b ≠ r := by rintro rfl; exact hrow5.ne hb
          walk_at "w"
          refine (c_Vector1 G _ _).u13 (by lia) (fun _ _ z => z) fun y m7 hy hyv u7 => ?_
          have hyr : y ≠ r := by rintro rfl; exact hrow6.ne hy
          have hd7 := u7.sd (u6.sd hd5 (by first | exact ni1 hdr | simpa using hdr))
          refine ⟨hd7, ?_⟩
          have u8 : Upd [d] m7 (m7.set d (.sd [("names", .ref y)])) := .set
          have hd8 := MH.set_same m7 d (.sd [("names", .ref y)])
          generalize m7.set d (.sd [("names", .ref y)]) = m8 at u8 hd8 ⊢
          have u47 : Upd [r] m4 m7 := u5.any.trans (u6.trans u7.any)
          have u48 : Upd [r] m4 m8 := ((u47.mono (B' := [r, d]) fun x hx => by simp at hx ⊢; exact .inl hx).trans (u8.mono fun x hx => by simp at hx ⊢; exact .inr hx)).shut fun x hx => by
            simp at hx
            rcases hx with rfl | rfl
            · exact .inl (.head _)
            · exact .inr hd
          have hydn : y ≠ d := by rintro rfl; rw [u6.sd hd5 (by first | exact ni1 hdr | simpa using hdr)] at hy; cases hy
          have hbd : b ≠ d := by rintro rfl; rw [hd5] at hb; cases hb
          have hy8 := u8.vec hyv (by first | exact ni1 hydn | simpa using hydn)
          have hb8 := u8.list (u7.list hb6) (by first | exact ni1 hbd | simpa using hbd)
          have hrow8 := (hrow6.upd u7).upd u8 (by first | exact ni1 (Ne.symm hdr) | simpa using Ne.symm hdr)
          have ht8 := ht4.upd u48 hF
          have um8 := u34.trans u48
          have fd : m d = none := u34.none' hd (by first | exact ni1 hdr | simpa using hdr)
          have fy : m y = none := (u34.trans (u5.any.trans u6)).none' hy (by first | exact ni1 hyr | simpa using hyr)
          have fb : m b = none := (u34.trans u5.any).none' hb (by first | exact ni1 hbr | simpa using hbr)
          walk_at "w"
          obtain ⟨lx, h8⟩ := ht8.at
          obtain ⟨dx, as, z, hl, u9⟩ := set_attrsU h8
          refine ⟨x, _, dx, as, rfl, z, rfl, hl, ?_⟩
          obtain ⟨u9, h9⟩ := u9 (.ref d)
          generalize m8.set x _ = m9 at u9 h9 ⊢
          have hdx : d ≠ x := by rintro rfl; obtain ⟨_, _, z⟩ := h8; rw [hd8] at z; cases z
          have hbx : b ≠ x := by rintro rfl; obtain ⟨_, _, z⟩ := h8; rw [hb8] at z; cases z
          have hyx : y ≠ x := by
            rintro rfl
            have z := h8.kd hy8
            cases t <;> first | exact ht.elim | exact absurd z (by simp [kdT])
          have hxr : x ≠ r := by
            obtain ⟨xs, z', _⟩ := hrow8
            rintro rfl; obtain ⟨_, _, z⟩ := h8; rw [z'] at z; cases z
          have fx : m x = none := by
            cases t with
            | null => exact ht.elim
            | «ints» _ _ => exact ht.2.1
            | list _ _ => exact ht.2.1
          walk_at "w"
          refine ⟨setNm t ss, ht8.named (by rw [hss, hsz]) u9 h8 h9 fd (u9.sd hd8 (by first | exact ni1 hdx | simpa using hdx)) fy (u9.vec hy8 (by first | exact ni1 hyx | simpa using hyx)) fb (u9.list hb8 (by first | exact ni1 hbx | simpa using hbx)), hrow8.upd u9 (by first | exact ni1 (Ne.symm hxr) | simpa using Ne.symm hxr), ?_⟩
          exact ((um8.mono (B' := [r, x]) fun x hx => by simp at hx ⊢; exact .inl hx).trans (u9.mono fun x hx => by simp at hx ⊢; exact .inr hx)).shut fun x hx => by
            simp at hx
            rcases hx with rfl | rfl
            · exact .inl (.head _)
            · exact .inr fx
        · have hh : (i4.fmod 2 == 1) = false := beq_eq_false_iff_ne.mpr q1
          walk_at "f"
          walk_at "w"
          exact ⟨t, ht4.isT, hrow4, u34⟩
      clear hK3
      have u02 : Upd [r] m m2 := u1.trans u2
      have hmany : many ≤ 4 := by lia
      by_cases q : 0 < deep ∧ i.fmod 8 < 5
      · walk_at "w"
        have hh := decide_eq_true (show (deep : Int) > 0 by lia)
        walk_at "t"
        walk_at "w"
        rw [decide_eq_true q.2]
        walk_at "w"
        refine te_comp (capt := ["deep", "row"]) (compOk_of (by kernel_rfl)) G (fun _ => rfl) (compJ r (fun D i u m' => ∃ t, IsT (fun b => m b = none ∧ b ≠ D) 10 m' deep t u) ?_ (ti_range1 G (by kernel_rfl) rfl ?_))
        · intro D i u m' m'' uu z
          obtain ⟨t, z⟩ := z
          exact ⟨t, IsT.upd uu (fun b hb => by simp; exact ⟨hb.2, by simpa using hF b hb.1⟩) z⟩
        walk_at "w"
        refine ⟨by lia, by lia, by simp; lia, hrow2, (fun _ _ => trivial), fun D i m' C hi hD hD' u hrow' => ?_, fun D ys m' hD u hrow' hD' hyl hR => ?_⟩
        · walk_at "w"
          rw [show ((deep : Int) - 1) = ((deep - 1 : Nat) : Int) by lia]
          refine (ih (deep - 1) (by lia) (by lia) hrow').use (by lia) (fun _ _ z => z) fun v m4 z => ?_
          obtain ⟨t, z1, z2, z3⟩ := z
          refine ⟨z3, z2, t, z1.weak (fun b hb => ⟨(u02.trans u).none' hb (by simp; rintro rfl; exact hrow'.ne hb), by rintro rfl; exact hD' hb⟩) (Nat.le_refl _) (by lia)⟩
        · walk_at "w"
          refine (c_Vector1 G _ _).u13 (by lia) (fun _ _ z => z) fun x m4 hx hxv u4 => ?_
          obtain ⟨ts, hts⟩ := all2_ex hR
          have hyl' : ys.length = many := by simpa using hyl
          have fD : m D = none := u02.none' hD (by simp; rintro rfl; exact hrow2.ne hD)
          have fx : m x = none := (u02.trans u).none' hx (by simp; rintro rfl; exact hrow'.ne hx)
          walk_at "w"
          refine next m4 _ x (.list ts none) ⟨rfl, fx, D, ys, hxv, fD, u4.list hD', hts.imp fun t w z => (IsT.upd u4 nilB z.live).weak (fun b hb => ⟨hb.1.1, by rintro rfl; exact hb.2 hx⟩) (Nat.le_refl _) (Nat.le_refl _), by rw [hts.length]; lia⟩ (by rw [← hyl', ← hts.length]; rfl) (hrow'.upd u4) ((u02.trans u).trans u4.any) ?_ ?_ ?_ <;> exact rfl
      · walk_at "w"
        by_cases q0 : 0 < deep
        have hh := decide_eq_true (show (deep : Int) > 0 by lia)
        walk_at "t"
        walk_at "w"
        have hh := decide_eq_false (show ¬ (i.fmod 8 < 5) from fun z => q ⟨q0, z⟩)
        walk_at "f"
        walk_at "w"
        rotate_left
        have hh := decide_eq_false (show ¬ ((deep : Int) > 0) by lia)
        walk_at "f"
        walk_at "w"
        all_goals
          refine te_comp (capt := ["row"]) (compOk_of (by kernel_rfl)) G (fun _ => rfl) (compJ r (fun D i u m' => ∃ x, u = oint x) (fun _ _ _ _ _ _ z => z) (ti_range1 G (by kernel_rfl) rfl ?_))
          walk_at "w"
          refine ⟨by lia, by lia, by simp; lia, hrow2, (fun _ _ => trivial), fun D i m' C hi hD hD' u hrow' => ?_, fun D ys m' hD u hrow' hD' hyl hR => ?_⟩
          · walk_at "w"
            refine (c_law_next G hrow').u12 (by lia) (fun _ _ z => z) fun i4 m4 z2 z3 => ?_
            walk_at "w"
            refine bin_mod (by decide) ?_
            exact ⟨z3, z2, some _, rfl⟩
          · walk_at "w"
            refine (c_Vector1 G _ _).u13 (by lia) (fun _ _ z => z) fun x m4 hx hxv u4 => ?_
            obtain ⟨xs, hxs⟩ := all2_ex (R := fun (x : Option Int) u => u = oint x) hR
            have hyl' : ys.length = many := by simpa using hyl
            have hxl := hxs.length
            have eys : ys = xs.map oint := by
              clear hyl hyl' hD' hR hxl
              induction hxs with
              | nil => rfl
              | cons r _ ih => rw [r, ih]; rfl
            subst eys
            have fD : m D = none := u02.none' hD (by simp; rintro rfl; exact hrow2.ne hD)
            have fx : m x = none := (u02.trans u).none' hx (by simp; rintro rfl; exact hrow'.ne hx)
            walk_at "w"
            refine next m4 _ x (.ints xs none) ⟨rfl, fx, D, hxv, fD, u4.list hD', by lia⟩ (by rw [← hyl', ← hxl]; rfl) (hrow'.upd u4) ((u02.trans u).trans u4.any) ?_ ?_ ?_ <;> exact rfl
end

noncomputable def NmF (F : Addr → Prop) (m : MH) (nv : MV) : Option (List String) → Prop
  | none => nv = .none
  | some ss => ∃ l, nv = .ref l ∧ F l ∧ m l = some (.list (ss.map .str))
inductive IntsL (F : Addr → Prop) (K : Nat) (m : MH) (xs : List (Option Int)) (nm : Option (List String)) (v : MV) : Prop
  | mk (x l : Addr) (nv : MV) (e : v = .ref x) (fx : F x) (hx : m x = some (.list [.str "integer", .ref l, nv])) (fl : F l) (hl : m l = some (.list (xs.map oint))) (hn : NmF F m nv nm) (h : NmLen nm xs.length ∧ xs.length ≤ K)
inductive ListL (F : Addr → Prop) (K : Nat) (m : MH) (R : T → MV → Prop) (ts : List T) (nm : Option (List String)) (v : MV) : Prop
  | mk (x l : Addr) (nv : MV) (vs : List MV) (e : v = .ref x) (fx : F x) (hx : m x = some (.list [.str "list", .ref l, nv])) (fl : F l) (hl : m l = some (.list vs)) (hvs : All2 R ts vs) (hn : NmF F m nv nm) (h : NmLen nm ts.length ∧ ts.length ≤ K)
noncomputable def IsL (F : Addr → Prop) (K : Nat) (m : MH) : Nat → T → MV → Prop
  | _, .null, v => v = .none
  | _, .ints xs nm, v => IntsL F K m xs nm v
  | 0, .list _ _, _ => False
  | d + 1, .list ts nm, v => ListL F K m (IsL F K m d) ts nm v
theorem isL_null {F : Addr → Prop} {K d : Nat} {m : MH} {v : MV} : IsL F K m d .null v ↔ v = .none := by cases d <;> exact Iff.rfl
theorem isL_ints {F : Addr → Prop} {K d : Nat} {m : MH} {xs : List (Option Int)} {nm : Option (List String)} {v : MV} : IsL F K m d (.ints xs nm) v ↔ IntsL F K m xs nm v := by cases d <;> exact Iff.rfl
theorem NmF.upd {F : Addr → Prop} {B : List Addr} {m m' : MH} {nv : MV} {nm : Option (List String)} (u : Upd B m m') (hF : ∀ b, F b → b ∉ B) (h : NmF F m nv nm) : NmF F m' nv nm := by
  cases nm with
  | none => exact h
  | some ss => obtain ⟨b, e, fb, h⟩ := h; exact ⟨b, e, fb, u.list h (hF b fb)⟩
theorem NmF.weak {F F' : Addr → Prop} {m : MH} {nv : MV} {nm : Option (List String)} (hF : ∀ b, F b → F' b) (h : NmF F m nv nm) : NmF F' m nv nm := by
  cases nm with
  | none => exact h
  | some ss => obtain ⟨b, e, fb, h⟩ := h; exact ⟨b, e, hF b fb, h⟩
theorem IsL.upd {F : Addr → Prop} {K : Nat} {B : List Addr} {m m' : MH} (u : Upd B m m') (hF : ∀ b, F b → b ∉ B) {d : Nat} {t : T} {v : MV} (h : IsL F K m d t v) : IsL F K m' d t v := by
  induction d generalizing t v with
  | zero =>
    cases t with
    | null => exact h
    | «ints» xs nm => obtain ⟨x, l, a, e, fx, h1, fl, h2, h3, h4⟩ := h; exact ⟨x, l, a, e, fx, u.list h1 (hF x fx), fl, u.list h2 (hF l fl), h3.upd u hF, h4⟩
    | list ts nm => exact h.elim
  | succ d ih =>
    cases t with
    | null => exact h
    | «ints» xs nm => obtain ⟨x, l, a, e, fx, h1, fl, h2, h3, h4⟩ := h; exact ⟨x, l, a, e, fx, u.list h1 (hF x fx), fl, u.list h2 (hF l fl), h3.upd u hF, h4⟩
    | list ts nm => obtain ⟨x, l, a, vs, e, fx, h1, fl, h2, h3, h4, h5⟩ := h; exact ⟨x, l, a, vs, e, fx, u.list h1 (hF x fx), fl, u.list h2 (hF l fl), h3.imp fun _ _ => ih, h4.upd u hF, h5⟩
theorem IsL.weak {F F' : Addr → Prop} {K K' : Nat} {m : MH} (hF : ∀ b, F b → F' b) (hK : K ≤ K') {d d' : Nat} {t : T} {v : MV} (hd : d ≤ d') (h : IsL F K m d t v) : IsL F' K' m d' t v := by
  induction d generalizing d' t v with
  | zero =>
    cases t with
    | null => exact isL_null.mpr h
    | «ints» xs nm => obtain ⟨x, l, a, e, fx, h1, fl, h2, h3, h4, h5⟩ := h; exact isL_ints.mpr ⟨x, l, a, e, hF _ fx, h1, hF _ fl, h2, h3.weak hF, h4, Nat.le_trans h5 hK⟩
    | list ts nm => exact h.elim
  | succ d ih =>
    cases t with
    | null => exact isL_null.mpr h
    | «ints» xs nm => obtain ⟨x, l, a, e, fx, h1, fl, h2, h3, h4, h5⟩ := h; exact isL_ints.mpr ⟨x, l, a, e, hF _ fx, h1, hF _ fl, h2, h3.weak hF, h4, Nat.le_trans h5 hK⟩
    | list ts nm =>
      cases d' with
      | zero => cases hd
      | succ d' => obtain ⟨x, l, a, vs, e, fx, h1, fl, h2, h3, h4, h5, h6⟩ := h; exact ⟨x, l, a, vs, e, hF _ fx, h1, hF _ fl, h2, h3.imp fun _ _ => ih (Nat.le_of_succ_le_succ hd), h4.weak hF, h5, Nat.le_trans h6 hK⟩
section
variable {X : Cx} {n : Nat}
theorem c_law_tree (G : Glo X) {K0 : Nat} (hK0 : K0 ≤ 1000) : ∀ (d : Nat) {m : MH} {t : T} {v : MV}, IsT FT K0 m d t v → CallOk X (d + 2) (.ref v__law_tree) [v] m (fun r m' => IsL (fun b => m b = none) K0 m' d t r ∧ Upd [] m m') FE := by
  intro d
  induction d using Nat.strongRecOn with
  | _ d ih =>
    intro m t v h
    refine call_fnK G (f__law_tree _) rfl fun L K hK => ?_
    walk_at "w"
    refine isT_kind h ?_
    walk_at "w"
    by_cases q : t = .null
    · subst q
      have hh := decide_eq_true (show kdT .null = "NULL" from rfl)
      walk_at "t"
      walk_at "w"
      exact ⟨isL_null.mpr rfl, .refl _ _⟩
    · have hh := decide_eq_false (fun z => q (kdT_null.mp z))
      walk_at "f"
      obtain ⟨x, lx, a, xs, rfl, hv, hl, hxl, hnm, hnl, hlen, hkd⟩ := h.vec q
      walk_at "w"
      generalize hQ : NextQ X _ _ _ _ K _ = K2
      have rest : ∀ m2 V nv, NmF (fun b => m b = none) m2 nv (nmT t) → Upd [] m m2 → V.lookup "names" = some nv → V.lookup "v" = some (.ref x) → K2 .next V m2 := by
        intro m2 V nv hnv u2 g1 g2
        rw [← hQ]
        refine nextQ ?_
        clear hQ
        have hv2 := u2.vec hv
        have h2 := IsT.upd u2 nilB h
        walk_at "w"
        cases t with
        | null => exact absurd rfl q
        | «ints» is nm =>
          obtain ⟨x', l2, a2, e2, _, hv', _, hl', _, hnl', hlen'⟩ := isT_ints.mp h2
          cases e2
          walk_at "w"
          refine call_listU hl' (by simp; lia) fun b m3 u3 hb hb' => ?_
          walk_at "w"
          refine lenU rfl (fun c m4 u4 hc hc' => ?_)
          walk_at "w"
          have fc := u2.none' (u3.none' hc)
          have hF : ∀ b, m b = none → b ∉ ([] : List Addr) := fun _ _ => by simp
          exact ⟨isL_ints.mpr ⟨c, b, nv, rfl, fc, hc', u2.none' hb, u4.list hb', (hnv.upd u3 hF).upd u4 hF, hnl', hlen'⟩, (u2.trans u3).trans u4⟩
        | list ts nm =>
          cases d with
          | zero => exact h2.elim
          | succ d =>
            obtain ⟨x', l2, a2, vs, e2, _, hv', _, hl', hvs, _, hnl', hlen'⟩ := h2
            cases e2
            walk_at "w"
            refine te_comp (capt := []) (compOk_of (by kernel_rfl)) G (fun _ => rfl) (compU [] (fun D i u m' => ∃ t, ts[i]? = some t ∧ IsL (fun b => m b = none ∧ b ≠ D) K0 m' d t u) ?_ (ti_list ?_))
            · intro D i u m' m'' uu z
              obtain ⟨t, e, z⟩ := z
              exact ⟨t, e, IsL.upd uu (fun b hb => by simpa using hb.2) z⟩
            walk_at "w"
            refine ⟨_, _, rfl, hl', by rw [← hvs.length]; lia, (fun b hb => by cases hb), fun m' u => u.list hl', fun D i m' C hi hD hD' u => ?_, fun D ys m' hD u hD' hyl hR => ?_⟩
            · obtain ⟨t, ht, hts⟩ := hvs.get' (i := i) (b := nthv vs i) (by unfold nthv; rw [List.getD_eq_getElem?_getD]; simp [hi])
              walk_at "w"
              refine (ih d (by lia) (IsT.upd u nilB hts)).use (by lia) (fun _ _ z => z) fun v m4 z => ?_
              obtain ⟨z1, z2⟩ := z
              exact ⟨z2, t, ht, z1.weak (fun b hb => ⟨(u2.trans u).none' hb, by rintro rfl; exact hD' hb⟩) (Nat.le_refl _) (Nat.le_refl _)⟩
            · have hys : All2 (IsL (fun b => m b = none ∧ b ≠ D) K0 m' d) ts ys := all2_of (by rw [hyl, hvs.length]) fun i t u e1 e2 => by
                obtain ⟨t', e3, z⟩ := hR i u e2
                rw [e1] at e3; cases e3; exact z
              walk_at "w"
              refine lenU rfl (fun c m4 u4 hc hc' => ?_)
              walk_at "w"
              have fc := u2.none' (u.none' hc)
              have hF : ∀ b, m b = none → b ∉ ([] : List Addr) := fun _ _ => by simp
              exact ⟨⟨c, D, nv, ys, rfl, fc, hc', u2.none' hD, u4.list hD', hys.imp fun _ _ z => (IsL.upd u4 nilB z).weak (fun b hb => hb.1) (Nat.le_refl _) (Nat.le_refl _), (hnv.upd u hF).upd u4 hF, hnl', hlen'⟩, (u2.trans u).trans u4⟩
      obtain ⟨vn, hat, hnw⟩ := hnm.way
      rcases hnw with ⟨e1, rfl⟩ | ⟨ss, w, l2, e1, rfl, _, hwv, _, hwl⟩
      · cases hat
        clear hQ
        walk_at "w"
        exact rest m _ .none (by rw [e1]; rfl) (.refl _ _) rfl rfl
      · obtain ⟨dd, rfl, hdd⟩ := hat
        have hss := hnl ss e1
        clear hQ
        walk_at "w"
        refine in_sd G hdd ?_
        walk_at "w"
        refine ⟨.ref w, by simp [getM, hdd], ?_⟩
        walk_at "w"
        refine call_listU hwl (by simp; lia) fun b m2 u2 hb hb' => ?_
        walk_at "w"
        exact rest m2 _ (.ref b) (by rw [e1]; exact ⟨b, rfl, hb, hb'⟩) u2 rfl rfl
end

theorem all2_same {m : MH} {d : Nat} : ∀ (vs : List MV), (∀ v ∈ vs, Same m d v v) → All2 (Same m d) vs vs
  | [], _ => .nil
  | v :: r, h => .cons (h v (.head _)) (all2_same r fun w hw => h w (.tail _ hw))
theorem nmF_same {F F' : Addr → Prop} {m : MH} {nm : Option (List String)} {v v' : MV} {d : Nat} (h : NmF F m v nm) (h' : NmF F' m v' nm) : Same m (d + 2) v v' := by
  cases nm with
  | none => cases h; cases h'; exact trivial
  | some ss =>
    obtain ⟨b, rfl, _, hb⟩ := h
    obtain ⟨b', rfl, _, hb'⟩ := h'
    refine .inr (.inl ⟨_, _, hb, hb', all2_same _ fun v hv => ?_⟩)
    obtain ⟨s, _, rfl⟩ := List.mem_map.mp hv
    rfl
theorem isL_same {F F' : Addr → Prop} {K K' : Nat} {m : MH} {d : Nat} {t : T} {v v' : MV} : IsL F K m d t v → IsL F' K' m d t v' → Same m (2 * d + 3) v v' := by
  suffices hI : ∀ {d xs nm v v'}, IsL F K m d (.ints xs nm) v → IsL F' K' m d (.ints xs nm) v' → Same m (2 * d + 3) v v' by
    induction d generalizing t v v' with
    | zero =>
      intro h h'
      cases t with
      | null => rw [isL_null.mp h, isL_null.mp h']; exact trivial
      | «ints» xs nm => exact hI h h'
      | list ts nm => exact h.elim
    | succ d ih =>
      intro h h'
      cases t with
      | null => rw [isL_null.mp h, isL_null.mp h']; exact trivial
      | «ints» xs nm => exact hI h h'
      | list ts nm =>
        obtain ⟨x, l, a, vs, rfl, fx, h1, fl, h2, h3, h4, h5⟩ := h
        obtain ⟨x', l', a', vs', rfl, fx', h1', fl', h2', h3', h4', h5'⟩ := h'
        refine .inr (.inl ⟨_, _, h1, h1', .cons rfl (.cons (.inr (.inl ⟨_, _, h2, h2', ?_⟩)) (.cons (nmF_same (d := 2 * d + 2) h4 h4') .nil))⟩)
        refine all2_of (by rw [← h3.length, h3'.length]) fun i u w e1 e2 => ?_
        obtain ⟨t, ht, r⟩ := h3.get' e1
        obtain ⟨t', ht', r'⟩ := h3'.get' e2
        rw [ht] at ht'; cases ht'
        exact ih r r'
  · intro d xs nm v v' h h'
    obtain ⟨x, l, a, rfl, fx, h1, fl, h2, h3, h4⟩ := isL_ints.mp h
    obtain ⟨x', l', a', rfl, fx', h1', fl', h2', h3', h4'⟩ := isL_ints.mp h'
    refine .inr (.inl ⟨_, _, h1, h1', .cons rfl (.cons (.inr (.inl ⟨_, _, h2, h2', all2_same _ fun v hv => ?_⟩)) (.cons (nmF_same h3 h3') .nil))⟩)
    obtain ⟨s, _, rfl⟩ := List.mem_map.mp hv
    cases s
    · exact trivial
    · exact rfl
section
variable {X : Cx} {n : Nat} {m : MH}
theorem c_law_place (G : Glo X) {F : Addr → Prop} {x : Addr} {a b nv : MV} {nm : Option (List String)} {key : Key} (hx : m x = some (.list [a, b, nv])) (hn : NmF F m nv nm) (hs : ∀ ss, nm = some ss → ss.length ≤ 1000) :
    CallOk X 1 (.ref v__law_place) [.ref x, keyV key] m (fun v m' => v = .int (placeI (placeT nm key)) ∧ Upd [] m m') FE := by
  cases key with
  | int k =>
    show CallOk X 1 _ [.ref x, .int (k + 1)] m _ _
    refine call_fnK G (f__law_place _) rfl fun L K hK => ?_
    refine ts_consK fun K2 hK2 => ?_
    refine ts_if (tb_value (fun _ => rfl) (te_isiStr G (by kernel_rfl) (by kernel_rfl) rfl ?_))
    walk_at "w"
    refine isi_strN rfl ?_
    walk_at "w"
    exact ⟨by show MV.int ((k : Int) + 1 - 1) = MV.int k; congr 1; lia, .refl _ _⟩
  | str s =>
    show CallOk X 1 _ [.ref x, .str s] m _ _
    refine call_fnK G (f__law_place _) rfl fun L K hK => ?_
    refine ts_consK fun K2 hK2 => ?_
    refine ts_if (tb_value (fun _ => rfl) (te_isiStr G (by kernel_rfl) (by kernel_rfl) rfl ?_))
    walk_at "w"
    refine isi_strS rfl ?_
    walk_at "w"
    refine ⟨_, getM_list' hx (by decide) (by decide) rfl, ?_⟩
    cases nm with
    | none =>
      cases hn
      walk_at "w"
      exact ⟨by simp [placeT, placeI]; rfl, .refl _ _⟩
    | some ss =>
      obtain ⟨l, rfl, _, hl⟩ := hn
      walk_at "w"
      by_cases q : s = ""
      · rw [decide_eq_true q]
        walk_at "w"
        exact ⟨by simp [placeT, placeI, q]; rfl, .refl _ _⟩
      · rw [decide_eq_false q]
        walk_at "w"
        refine ⟨_, getM_list' hx (by decide) (by decide) rfl, ?_⟩
        walk_at "w"
        refine notIn_strs (.inl hl) ?_
        by_cases q2 : s ∈ ss
        · rw [decide_eq_true q2]
          walk_at "w"
          refine te_indexL (by kernel_rfl) (by kernel_rfl) rfl ?_
          walk_at "w"
          refine ⟨_, getM_list' hx (by decide) (by decide) rfl, ?_⟩
          walk_at "w"
          refine ⟨⟨_, hl⟩, ?_⟩
          walk_at "w"
          refine ⟨s, ss, rfl, hl, by have := hs ss rfl; lia, q2, ?_⟩
          walk_at "k"
          exact ⟨by simp [placeT, placeI, q, q2]; rfl, .refl _ _⟩
        · rw [decide_eq_false q2]
          walk_at "w"
          exact ⟨by simp [placeT, placeI, q, q2]; rfl, .refl _ _⟩
end

inductive VecL (F : Addr → Prop) (K : Nat) (m : MH) (t : T) (v : MV) : Prop
  | mk (x l : Addr) (nv : MV) (vs : List MV) (e : v = .ref x) (hx : m x = some (.list [.str (kdT t), .ref l, nv])) (hl : m l = some (.list vs)) (hv : vs.length = sizeT t) (hn : NmF F m nv (nmT t)) (hnl : NmLen (nmT t) (sizeT t)) (h : sizeT t ≤ K ∧ (kdT t = "integer" ∨ kdT t = "list"))
theorem IsL.vec {F : Addr → Prop} {K d : Nat} {m : MH} {t : T} {v : MV} (h : IsL F K m d t v) (hn : t ≠ .null) : VecL F K m t v := by
  cases t with
  | null => exact absurd rfl hn
  | «ints» xs nm =>
    obtain ⟨x, l, nv, rfl, _, hx, _, hl, hnm, hnl, hk⟩ := isL_ints.mp h
    exact ⟨x, l, nv, _, rfl, hx, hl, by simp [sizeT], hnm, hnl, hk, .inl rfl⟩
  | list ts nm =>
    cases d with
    | zero => exact h.elim
    | succ d =>
      obtain ⟨x, l, nv, vs, rfl, _, hx, _, hl, hvs, hnm, hnl, hk⟩ := h
      exact ⟨x, l, nv, _, rfl, hx, hl, hvs.length.symm, hnm, hnl, hk, .inr rfl⟩
/-- a pair (tree, fault) -/
noncomputable def PairR (K d : Nat) (m : MH) (r : MV) (res : Except String T) : Prop := ∃ b v f, r = .ref b ∧ m b = some (.tup [v, .str f]) ∧ ((∃ t, res = .ok t ∧ f = "" ∧ IsL FT K m d t v) ∨ (res = .error f ∧ f ≠ "" ∧ v = .none))
section
variable {X : Cx} {n : Nat} {m : MH}
theorem c_law_step (G : Glo X) {K0 d : Nat} {t : T} {v : MV} {key : Key} (h : IsL FT K0 m d t v) (hK : K0 ≤ 1000) (h1 : 1 ≤ K0) (hkb : KeyB 1000 key) :
    CallOk X 2 (.ref v__law_step) [v, keyV key] m (fun r m' => PairR K0 d m' r (stepT t key) ∧ Upd [] m m') FE := by
  refine call_fnK G (f__law_step _) rfl fun L K hKK => ?_
  by_cases q : t = .null
  · subst q
    cases isL_null.mp h
    walk_at "w"
    refine lenU rfl (fun b m1 u1 hb hb' => ?_)
    walk_at "w"
    exact ⟨⟨b, _, _, rfl, hb', .inl ⟨.null, rfl, rfl, isL_null.mpr rfl⟩⟩, u1⟩
  · obtain ⟨x, l, nv, vs, rfl, hx, hl, hvl, hnm, hnl, hlen, hkd⟩ := h.vec q
    walk_at "w"
    refine (c_law_place G hx hnm (fun ss e => by have := hnl ss e; lia)).u01 (by decide) (fun _ _ z => z) fun m1 u1 => ?_
    have hx1 := u1.list hx
    have hl1 := u1.list hl
    walk_at "w"
    refine ⟨_, getM_list' hx1 (by decide) (by decide) rfl, ?_⟩
    walk_at "w"
    have err : ∀ {b m2}, Upd [] m1 m2 → m2 b = some (.tup [.none, .str "subscript out of bounds"]) → stepT t key = .error "subscript out of bounds" → PairR K0 d m2 (.ref b) (stepT t key) ∧ Upd [] m m2 := fun {b m2} u2 hb e => ⟨⟨b, _, _, rfl, hb, .inr ⟨e, by decide, rfl⟩⟩, u1.trans u2⟩
    have h2 := IsL.upd u1 nilB h
    cases t with
    | null => exact absurd rfl q
    | list ts nm =>
      cases d with
      | zero => exact h.elim
      | succ d =>
        obtain ⟨x', l', nv', vs', e', _, hx', _, hl', hvs, _, hnl', hlen'⟩ := h2
        cases e'
        have hx1' := hx1
        rw [hx1] at hx'; cases hx'
        rw [hl1] at hl'; cases hl'
        walk_at "w"
        cases hp : placeT nm key with
        | none =>
          have ep : placeI (placeT (nmT (.list ts nm)) key) = -1 := by show placeI (placeT nm key) = _; rw [hp]; rfl
          rw [ep]
          walk_at "w"
          refine lenU rfl (fun b m2 u2 hb hb' => ?_)
          walk_at "w"
          exact ⟨⟨b, _, _, rfl, hb', .inl ⟨.null, step_l0 hp, rfl, isL_null.mpr rfl⟩⟩, u1.trans u2⟩
        | some p =>
          have ep : placeI (placeT (nmT (.list ts nm)) key) = (p : Int) := by show placeI (placeT nm key) = _; rw [hp]; rfl
          have hpb := placeB hkb hnl (by lia) hp
          rw [ep]
          have hh := decide_eq_false (nn0 p)
          walk_at "f"
          walk_at "w"
          refine ⟨_, getM_list' hx1 (by decide) (by decide) rfl, ?_⟩
          walk_at "w"
          refine call_len G (k := vs.length) (by simp [lenM, hl1]) (by rw [← hvs.length]; lia) ?_
          walk_at "w"
          by_cases q2 : p < vs.length
          · have hh := decide_eq_false (show ¬ ((p : Int) ≥ (vs.length : Int)) from geF (by assumption))
            walk_at "f"
            walk_at "w"
            refine ⟨_, getM_list' hx1 (by decide) (by decide) rfl, ?_⟩
            walk_at "w"
            refine ⟨_, getM_list' hx1 (by decide) (by decide) rfl, ?_⟩
            walk_at "w"
            have hvp : vs[p]? = some vs[p] := List.getElem?_eq_getElem q2
            refine ⟨vs[p], getM_list' hl1 (by lia) (by lia) (by first | exact ni1 hvp | simpa using hvp), ?_⟩
            walk_at "w"
            refine lenU rfl (fun b m2 u2 hb hb' => ?_)
            walk_at "w"
            obtain ⟨t', ht', r⟩ := hvs.get' hvp
            exact ⟨⟨b, _, _, rfl, hb', .inl ⟨t', step_l1 hp ht', rfl, (IsL.upd u2 nilB r).weak (fun _ z => z) (Nat.le_refl _) (Nat.le_succ _)⟩⟩, u1.trans u2⟩
          · have hh := decide_eq_true (show (p : Int) ≥ (vs.length : Int) from geT (by assumption))
            walk_at "t"
            walk_at "w"
            refine lenU rfl (fun b m2 u2 hb hb' => ?_)
            walk_at "w"
            exact err u2 hb' (step_l2 hp (all2_none hvs (by lia)))
    | «ints» xs nm =>
      obtain ⟨x', l', nv', e', _, hx', _, hl', _, hnl', hlen'⟩ := isL_ints.mp h2
      cases e'
      rw [hx1] at hx'; cases hx'
      rw [hl1] at hl'; cases hl'
      walk_at "w"
      cases hp : placeT nm key with
      | none =>
        have ep : placeI (placeT (nmT (.ints xs nm)) key) = -1 := by show placeI (placeT nm key) = _; rw [hp]; rfl
        rw [ep]
        walk_at "w"
        refine lenU rfl (fun b m2 u2 hb hb' => ?_)
        walk_at "w"
        exact err u2 hb' (step_i0 hp)
      | some p =>
        have ep : placeI (placeT (nmT (.ints xs nm)) key) = (p : Int) := by show placeI (placeT nm key) = _; rw [hp]; rfl
        have hpb := placeB hkb hnl (by lia) hp
        rw [ep]
        have hh := decide_eq_false (nn0 p)
        walk_at "f"
        walk_at "w"
        refine ⟨_, getM_list' hx1 (by decide) (by decide) rfl, ?_⟩
        walk_at "w"
        refine call_len G (k := xs.length) (by simp [lenM, hl1]) (by lia) ?_
        walk_at "w"
        by_cases q2 : p < xs.length
        · have hh := decide_eq_false (show ¬ ((p : Int) ≥ (xs.length : Int)) from geF (by assumption))
          walk_at "f"
          walk_at "w"
          refine ⟨_, getM_list' hx1 (by decide) (by decide) rfl, ?_⟩
          walk_at "w"
          refine ⟨_, getM_list' hx1 (by decide) (by decide) rfl, ?_⟩
          walk_at "w"
          have hvp : xs[p]? = some xs[p] := List.getElem?_eq_getElem q2
          refine ⟨oint xs[p], getM_list' hl1 (by lia) (by lia) (by simp [hvp]), ?_⟩
          walk_at "w"
          refine lenU rfl (fun b1 m2 u2 hb1 hb1' => ?_)
          walk_at "w"
          refine lenU rfl (fun b2 m3 u3 hb2 hb2' => ?_)
          walk_at "w"
          refine lenU rfl (fun b m4 u4 hb hb' => ?_)
          walk_at "w"
          exact ⟨⟨b, _, _, rfl, hb', .inl ⟨_, step_i1 hp hvp, rfl, isL_ints.mpr ⟨b2, b1, .none, rfl, trivial, u4.list hb2', trivial, u4.list (u3.list hb1'), rfl, (fun s z => by cases z), h1⟩⟩⟩, ((u1.trans u2).trans u3).trans u4⟩
        · have hh := decide_eq_true (show (p : Int) ≥ (xs.length : Int) from geT (by assumption))
          walk_at "t"
          walk_at "w"
          refine lenU rfl (fun b m2 u2 hb hb' => ?_)
          walk_at "w"
          exact err u2 hb' (step_i2 hp (by rw [List.getElem?_eq_none_iff]; lia))
end

noncomputable def gotW (w : Bool) : T → List Key → Except String T
  | t, [] => .ok t
  | t, k :: ks => if w = true ∧ kdT t = "NULL" then .error "subscript out of bounds" else match stepT t k with
    | .ok t' => gotW w t' ks
    | .error e => .error e
theorem gotW_true (ks : List Key) (t : T) : gotW true t ks = gotL t ks := by
  induction ks generalizing t with
  | nil => rfl
  | cons k ks ih =>
    rw [gotW, gotL]
    by_cases q : kdT t = "NULL"
    · rw [if_pos ⟨rfl, q⟩, if_pos q]
    · rw [if_neg (fun z => q z.2), if_neg q]
      cases stepT t k with
      | ok t' => exact ih t'
      | error e => rfl
theorem gotT_W {t : T} {ks : List Key} (h : ks ≠ []) : gotT t ks = gotW (decide (1 < ks.length)) t ks := by
  by_cases q : 1 < ks.length
  · rw [gotT_long q, decide_eq_true q, gotW_true]
  · cases ks with
    | nil => exact absurd rfl h
    | cons k r =>
      cases r with
      | cons _ _ => exact absurd (by simp) q
      | nil =>
        rw [decide_eq_false q]
        show stepT t k = _
        rw [gotW, if_neg (by simp)]
        cases stepT t k with
        | ok t' => rfl
        | error e => rfl
theorem gotW_drop {w : Bool} {t : T} {ks : List Key} {i : Nat} {key : Key} (h : ks[i]? = some key) : gotW w t (ks.drop i) = if w = true ∧ kdT t = "NULL" then .error "subscript out of bounds" else match stepT t key with
    | .ok t' => gotW w t' (ks.drop (i + 1))
    | .error e => .error e := by
  obtain ⟨hi, e⟩ := List.getElem?_eq_some_iff.mp h
  rw [List.drop_eq_getElem_cons hi, e]; rfl
theorem isL_none {F : Addr → Prop} {K d : Nat} {m : MH} {t : T} {v : MV} (h : IsL F K m d t v) : isNoneM v = decide (kdT t = "NULL") := by
  by_cases q : t = .null
  · subst q; rw [isL_null.mp h]; rfl
  · rw [decide_eq_false (fun z => q (kdT_null.mp z))]
    obtain ⟨x, l, nv, vs, rfl, _⟩ := h.vec q
    rfl
section
variable {X : Cx} {n : Nat} {m : MH}
theorem c_law_got (G : Glo X) {K0 d : Nat} {t : T} {v : MV} {kl : Addr} {ks : List Key} (h : IsL FT K0 m d t v) (hK : K0 ≤ 1000) (h1 : 1 ≤ K0) (hkl : m kl = some (.list (ks.map keyV))) (hne : ks ≠ []) (hlen : ks.length ≤ 1000) (hkb : ∀ k ∈ ks, KeyB 1000 k) :
    CallOk X 3 (.ref v__law_got) [v, .ref kl] m (fun r m' => ((∃ t' b v', gotT t ks = .ok t' ∧ r = .ref b ∧ m' b = some (.tup [.str "got", v']) ∧ IsL FT K0 m' d t' v') ∨ ∃ e, gotT t ks = .error e ∧ r = .str e) ∧ Upd [] m m') FE := by
  refine call_fnK G (f__law_got _) rfl fun L K hKK => ?_
  rw [gotT_W hne] at hKK
  generalize hw : decide (1 < ks.length) = w at hKK
  walk_at "w"
  refine ts_for rfl (.inl (by kernel_rfl)) (fun _ => rfl) (fun _ _ => rfl) (ti_range1 G (by kernel_rfl) rfl ?_)
  walk_at "w"
  refine call_len G (k := ks.length) (by simp [lenM, hkl]) (by lia) ?_
  refine ⟨ks.length, rfl, by lia, by lia, fun i vars m' => A3 (vars.lookup "keys" = some (.ref kl)) (Upd [] m m') (∃ t' v', vars.lookup "node" = some v' ∧ IsL FT K0 m' d t' v' ∧ gotW w t ks = gotW w t' (ks.drop i)), ⟨rfl, .refl _ _, t, v, rfl, h, rfl⟩, fun i vars m' hi z _ => ?_, fun vars m' z _ => ?_⟩
  · obtain ⟨g1, u, t', v', g3, g4, g5⟩ := z
    have hi' : i < ks.length := by simpa using hi
    have hki : ks[i]? = some ks[i] := by simp [hi']
    rw [gotW_drop hki] at g5
    have hnone := isL_none g4
    refine ts_consK fun K3 hK3 => ?_
    have go : ¬ (w = true ∧ kdT t' = "NULL") → K3 .next (setv vars "spot" (.int i)) m' := by
      intro hne2
      rw [if_neg hne2] at g5
      refine hK3 .next _ _ ?_
      clear hK3
      dsimp only
      refine ts_consK fun K4 hK4 => ?_
      refine ts_unpack (xs := ["node", "fault"]) (ps := [_, _]) rfl rfl (by intro x hx; simp at hx; rcases hx with rfl | rfl <;> exact .inl (by kernel_rfl)) rfl rfl ?_
      walk_at "w"
      refine ⟨keyV ks[i], getM_list' (u.list hkl) (by lia) (by lia) (by simp [hki]), ?_⟩
      walk_at "w"
      refine (c_law_step G g4 hK h1 (hkb _ (List.getElem_mem hi'))).use (by decide) (fun _ _ z => z) fun r m5 z => ?_
      obtain ⟨z, u5⟩ := z
      obtain ⟨b, v2, f, rfl, hb, z⟩ := z
      refine ⟨b, _, rfl, .inr hb, rfl, ?_⟩
      dsimp only [setvs]
      have uu := u.trans u5
      rcases z with ⟨t2, z1, rfl, z2⟩ | ⟨z1, hf, rfl⟩
      · rw [z1] at g5
        walk_at "w"
        exact ⟨trivial, lk_other (by decide) (lk_other (by decide) (lk_other (by decide) g1)), uu, t2, v2, lk_other (by decide) (lk_same _ _ _), z2, g5⟩
      · rw [z1] at g5
        walk_at "w"
        rw [decide_eq_false hf]
        walk_at "w"
        exact ⟨.inr ⟨f, g5, rfl⟩, uu⟩
    by_cases q : kdT t' = "NULL"
    · walk_at "w"
      rw [hnone, decide_eq_true q]
      walk_at "w"
      refine call_len G (k := ks.length) (by simp [lenM, u.list hkl]) (by lia) ?_
      walk_at "w"
      by_cases q2 : 1 < ks.length
      · rw [decide_eq_true q2] at hw
        rw [if_pos ⟨hw.symm, q⟩] at g5
        have hh := decide_eq_true (show (ks.length : Int) > 1 by lia)
        walk_at "t"
        walk_at "w"
        exact ⟨.inr ⟨_, g5, rfl⟩, u⟩
      · rw [decide_eq_false q2] at hw
        have hh := decide_eq_false (show ¬ ((ks.length : Int) > 1) by lia)
        walk_at "f"
        clear hK3
        walk_at "w"
        exact go (fun z => by rw [← hw] at z; exact absurd z.1 (by decide))
    · clear hK3
      walk_at "w"
      rw [hnone, decide_eq_false q]
      walk_at "w"
      exact go (fun z => q z.2)
  · obtain ⟨g1, u, t', v', g3, g4, g5⟩ := z
    have hd : ks.drop ks.length = [] := by simp
    have g5 : gotW w t ks = gotW w t' (ks.drop ks.length) := by simpa using g5
    rw [hd] at g5
    walk_at "w"
    refine lenU rfl (fun b m2 u2 hb hb' => ?_)
    walk_at "w"
    exact ⟨.inl ⟨t', b, v', g5, rfl, hb', IsL.upd u2 nilB g4⟩, u.trans u2⟩
end

noncomputable def NvC (m : MH) (nv : MV) (C : List Addr) (nm : Option (List String)) : Prop := (nm = none ∧ nv = .none ∧ C = []) ∨ ∃ ss c, nm = some ss ∧ nv = .ref c ∧ C = [c] ∧ m c = some (.list (ss.map .str))
noncomputable def growN (nm : Option (List String)) (j : Nat) (s : String) : Option (List String) := nm.map (· ++ List.replicate j s)
noncomputable def ValL (k : String) (m : MH) (B : List Addr) (w u : MV) : Prop := (k = "list" ∧ u = w) ∨ (k = "integer" ∧ ∃ xw lw a c, w = .ref xw ∧ m xw = some (.list [a, .ref lw, c]) ∧ m lw = some (.list [u]) ∧ xw ∉ B ∧ lw ∉ B)
theorem NvC.nmF {m : MH} {nv : MV} {C : List Addr} {nm : Option (List String)} (h : NvC m nv C nm) : NmF FT m nv nm := by
  rcases h with ⟨rfl, rfl, _⟩ | ⟨ss, c, rfl, rfl, _, h⟩
  · rfl
  · exact ⟨c, rfl, trivial, h⟩
section
variable {X : Cx} {n : Nat} {m : MH}
theorem t_lput (G : Glo X) {L b : Addr} {C : List Addr} {nv w u : MV} {k s : String} {p : Nat} {vs : List MV} {nm : Option (List String)} {vars : Vars} (g1 : vars.lookup "items" = some (.ref b)) (g2 : vars.lookup "spot" = some (.int p)) (g3 : vars.lookup "names" = some nv) (g4 : vars.lookup "fresh" = some (.str s)) (g5 : vars.lookup "kind" = some (.str k)) (g6 : vars.lookup "value" = some w)
    (hb : m b = some (.list vs)) (hn : NvC m nv C nm) (hbC : b ∉ C) (hv : ValL k m (b :: C) w u) (hs : vs.length ≤ 1000) (hp : p ≤ 1000) (hns : ∀ ss, nm = some ss → ss.length ≤ 2000) :
    TS X 2 (e__law_put L) (e__law_put L) vars (execs ((fBody (st 117)).drop 11) (e__law_put L)) m (fun r _ m' => ∃ b2 x, retv r = .ref b2 ∧ m' b2 = some (.tup [.ref x, .str ""]) ∧ m' x = some (.list [.str k, .ref b, nv]) ∧ m' b = some (.list ((vs ++ List.replicate (p + 1 - vs.length) MV.none).set p u)) ∧ NmF FT m' nv (growN nm (p + 1 - vs.length) s) ∧ Upd (b :: C) m m') FE := by
  refine ts_consB rfl fun K hK => ?_
  refine ts_while rfl (fun _ m' => match m' b with | some (.list ys) => p + 1 - ys.length | _ => 0) (fun V m' => V = vars ∧ ∃ j, j ≤ p + 1 - vs.length ∧ m' b = some (.list (vs ++ List.replicate j .none)) ∧ NvC m' nv C (growN nm j s) ∧ Upd (b :: C) m m') ⟨rfl, 0, by lia, by simpa using hb, by cases nm <;> simpa [growN] using hn, .refl _ _⟩ fun V m' z => ?_
  obtain ⟨rfl, j, hj, hbj, hnj, u1⟩ := z
  walk_at "w"
  refine call_len G (k := vs.length + j) (by simp [lenM, hbj]) (by lia) ?_
  walk_at "w"
  by_cases q : vs.length + j ≤ p
  · rw [decide_eq_true (show (((vs.length + j : Nat) : Int) ≤ p) by lia)]
    walk_at "w"
    refine ⟨⟨_, hbj⟩, ?_⟩
    walk_at "w"
    refine ⟨_, hbj, by simp; lia, ?_⟩
    have u2 : Upd [b] m' (m'.set b (.list (vs ++ List.replicate j .none ++ [.none]))) := .set
    have hb2 : (m'.set b (.list (vs ++ List.replicate j .none ++ [.none]))) b = some (.list (vs ++ List.replicate (j + 1) .none)) := by rw [MH.set_same, List.append_assoc, ← List.replicate_succ']
    generalize m'.set b (.list (vs ++ List.replicate j .none ++ [.none])) = m2 at u2 hb2 ⊢
    have u12 : Upd (b :: C) m m2 := u1.trans (u2.mono fun x hx => by rw [List.mem_singleton.mp hx]; exact .head _)
    have mu : ∀ m3 : MH, m3 b = some (.list (vs ++ List.replicate (j + 1) .none)) → (match m3 b with | some (.list ys) => p + 1 - ys.length | _ => 0) < (match m' b with | some (.list ys) => p + 1 - ys.length | _ => 0) := fun m3 e => by
      rw [e, hbj]
      simp only [List.length_append, List.length_replicate]
      lia
    rcases hn with ⟨rfl, rfl, rfl⟩ | ⟨ss, c, rfl, rfl, rfl, hc⟩
    · walk_at "w"
      exact ⟨⟨rfl, j + 1, by lia, hb2, .inl ⟨rfl, rfl, rfl⟩, u12⟩, mu m2 hb2⟩
    · have hcb : c ≠ b := fun z => hbC (by rw [z]; exact .head _)
      have hc2 : m2 c = some (.list ((ss ++ List.replicate j s).map .str)) := by
        rcases hnj with ⟨z, _⟩ | ⟨ss', c', z1, z2, _, z4⟩
        · cases z
        · cases z1; cases z2; exact u2.list z4 (by first | exact ni1 hcb | simpa using hcb)
      have hsl := hns ss rfl
      walk_at "w"
      refine ⟨⟨_, hc2⟩, ?_⟩
      walk_at "w"
      refine ⟨_, hc2, by simp; lia, ?_⟩
      have u3 : Upd [c] m2 (m2.set c (.list ((ss ++ List.replicate j s).map .str ++ [.str s]))) := .set
      have hc3 : (m2.set c (.list ((ss ++ List.replicate j s).map .str ++ [.str s]))) c = some (.list ((ss ++ List.replicate (j + 1) s).map .str)) := by
        rw [MH.set_same]
        congr 2
        rw [List.replicate_succ', ← List.append_assoc, List.map_append (l₁ := ss ++ List.replicate j s)]
        rfl
      generalize m2.set c (.list ((ss ++ List.replicate j s).map .str ++ [.str s])) = m3 at u3 hc3 ⊢
      have hb3 := u3.list hb2 (by first | exact ni1 (Ne.symm hcb) | simpa using Ne.symm hcb)
      walk_at "w"
      exact ⟨⟨rfl, j + 1, by lia, hb3, .inr ⟨_, c, rfl, rfl, rfl, hc3⟩, u12.trans (u3.mono fun x hx => by rw [List.mem_singleton.mp hx]; simp)⟩, mu m3 hb3⟩
  · rw [decide_eq_false (show ¬ (((vs.length + j : Nat) : Int) ≤ p) by lia)]
    have hpj : p < vs.length + j := by lia
    have ej : j = p + 1 - vs.length := by lia
    have hll : (vs ++ List.replicate j MV.none).length ≤ 1000000 := by simp; lia
    have hlt : p < (vs ++ List.replicate j MV.none).length := by simpa using hpj
    have hbx : b ∈ b :: C := .head _
    rcases hv with ⟨rfl, rfl⟩ | ⟨rfl, xw, lw, a, c, rfl, hxw, hlw, hxb, hlb⟩
    · walk_at "w"
      refine ⟨_, setM_list hbj (by lia) (by lia) hll, ?_⟩
      have u2 : Upd [b] m' (m'.set b (.list ((vs ++ List.replicate j MV.none).set p u))) := .set
      have hb2 : (m'.set b (.list ((vs ++ List.replicate j MV.none).set p u))) b = some (.list ((vs ++ List.replicate j MV.none).set p u)) := MH.set_same _ _ _
      rw [show ((p : Int)).toNat = p from rfl]
      generalize m'.set b (.list ((vs ++ List.replicate j MV.none).set p u)) = m2 at u2 hb2 ⊢
      have u12 : Upd (b :: C) m m2 := u1.trans (u2.mono fun x hx => by rw [List.mem_singleton.mp hx]; exact .head _)
      walk_at "w"
      refine lenU rfl (fun x m3 u3 hx hx' => ?_)
      walk_at "w"
      refine lenU rfl (fun b2 m4 u4 hb2n hb2' => ?_)
      walk_at "w"
      subst ej
      refine ⟨b2, x, rfl, hb2', u4.list hx', u4.list (u3.list hb2), ?_, (u12.trans u3.any).trans u4.any⟩
      have hn4 : NmF FT m2 nv (growN nm (p + 1 - vs.length) s) := by
        refine NmF.upd u2 (F := fun b' => b' ≠ b) (fun x hx => by simpa using hx) ?_ |>.weak fun _ _ => trivial
        rcases hnj with ⟨z, z2, _⟩ | ⟨ss', c', z1, rfl, z3, z4⟩
        · rw [z]; exact z2
        · rw [z1]; exact ⟨c', rfl, (by rintro rfl; exact hbC (by rw [z3]; exact .head _)), z4⟩
      exact (hn4.upd u3 fun _ _ => by simp).upd u4 fun _ _ => by simp
    · walk_at "w"
      refine ⟨_, getM_list' (u1.list hxw hxb) (by decide) (by decide) rfl, ?_⟩
      walk_at "w"
      refine ⟨_, getM_list' (u1.list hlw hlb) (by decide) (by decide) rfl, ?_⟩
      walk_at "w"
      refine ⟨_, setM_list hbj (by lia) (by lia) hll, ?_⟩
      have u2 : Upd [b] m' (m'.set b (.list ((vs ++ List.replicate j MV.none).set p u))) := .set
      have hb2 : (m'.set b (.list ((vs ++ List.replicate j MV.none).set p u))) b = some (.list ((vs ++ List.replicate j MV.none).set p u)) := MH.set_same _ _ _
      rw [show ((p : Int)).toNat = p from rfl]
      generalize m'.set b (.list ((vs ++ List.replicate j MV.none).set p u)) = m2 at u2 hb2 ⊢
      have u12 : Upd (b :: C) m m2 := u1.trans (u2.mono fun x hx => by rw [List.mem_singleton.mp hx]; exact .head _)
      walk_at "w"
      refine lenU rfl (fun x m3 u3 hx hx' => ?_)
      walk_at "w"
      refine lenU rfl (fun b2 m4 u4 hb2n hb2' => ?_)
      walk_at "w"
      subst ej
      refine ⟨b2, x, rfl, hb2', u4.list hx', u4.list (u3.list hb2), ?_, (u12.trans u3.any).trans u4.any⟩
      have hn4 : NmF FT m2 nv (growN nm (p + 1 - vs.length) s) := by
        refine NmF.upd u2 (F := fun b' => b' ≠ b) (fun x hx => by simpa using hx) ?_ |>.weak fun _ _ => trivial
        rcases hnj with ⟨z, z2, _⟩ | ⟨ss', c', z1, rfl, z3, z4⟩
        · rw [z]; exact z2
        · rw [z1]; exact ⟨c', rfl, (by rintro rfl; exact hbC (by rw [z3]; exact .head _)), z4⟩
      exact (hn4.upd u3 fun _ _ => by simp).upd u4 fun _ _ => by simp
end

theorem grow_some {nm : Option (List String)} {n p : Nat} (h : NmLen nm n) : growN nm (p + 1 - n) "" = nmP nm none n p := by
  cases nm with
  | none => unfold nmP; split <;> rfl
  | some ss =>
    have hl := h ss rfl
    unfold nmP
    by_cases q : p < n
    · rw [if_pos q, show p + 1 - n = 0 by lia]; simp [growN]
    · rw [if_neg q]; simp [growN, nmE, hl]
theorem grow_none {nm : Option (List String)} {n : Nat} {s : String} (h : NmLen nm n) : growN (some (nm.getD (List.replicate n ""))) (n + 1 - n) s = nmP nm (some s) n n := by
  unfold nmP
  rw [if_neg (by lia), show n + 1 - n = 1 by lia]
  cases nm with
  | none => simp [growN, nmE]
  | some ss => have hl := h ss rfl; simp [growN, nmE, hl]
noncomputable def addK (po : Option Nat) (key : Key) : Option String := match po, key with
  | none, .str s => some s
  | _, _ => none
theorem addK_eq (nm : Option (List String)) (key : Key) : addK (placeT nm key) key = stepAdd nm key := by
  cases key with
  | int k => rfl
  | str s =>
    unfold stepAdd
    simp only
    cases placeT nm (.str s) <;> rfl
section
variable {X : Cx} {n : Nat} {m : MH}
theorem t_lput2 (G : Glo X) {L b : Addr} {nv w u : MV} {k : String} {po : Option Nat} {key : Key} {vs : List MV} {nm : Option (List String)} {vars : Vars} (g1 : vars.lookup "items" = some (.ref b)) (g2 : vars.lookup "spot" = some (.int (placeI po))) (g3 : vars.lookup "names" = some nv) (g4 : vars.lookup "key" = some (keyV key)) (g5 : vars.lookup "kind" = some (.str k)) (g6 : vars.lookup "value" = some w)
    (hb : m b = some (.list vs)) (hn : NmF (fun c => c ≠ b) m nv nm) (hnl : NmLen nm vs.length) (hv : ValL k m [b] w u) (hs : vs.length ≤ 1000) (hp : ∀ p, po = some p → p ≤ 1000) (hpo : po = none → ∃ s, key = .str s) :
    TS X 2 (e__law_put L) (e__law_put L) vars (execs ((fBody (st 117)).drop 8) (e__law_put L)) m (fun r _ m' => ∃ b2 x nv', retv r = .ref b2 ∧ m' b2 = some (.tup [.ref x, .str ""]) ∧ m' x = some (.list [.str k, .ref b, nv']) ∧ m' b = some (.list ((vs ++ List.replicate (po.getD vs.length + 1 - vs.length) MV.none).set (po.getD vs.length) u)) ∧ NmF FT m' nv' (nmP nm (addK po key) vs.length (po.getD vs.length)) ∧ Upd [b] m m') FE := by
  refine ts_consK fun K hK => ?_
  have main : ∀ m1 nv1 C, NvC m1 nv1 C nm → b ∉ C → (∀ c ∈ C, m c = none) → Upd [] m m1 → K .next (setv vars "names" nv1) m1 := by
    intro m1 nv1 C hn1 hbC hC u1
    refine hK .next _ _ ?_
    clear hK
    dsimp only
    have hb1 := u1.list hb
    have hv1 : ∀ C', (∀ c ∈ C', m c = none) → ∀ m2, Upd [] m m2 → ValL k m2 (b :: C') w u := fun C' hC' m2 u2 => by
      rcases hv with h | ⟨rfl, xw, lw, a, c, rfl, hxw, hlw, hxb, hlb⟩
      · exact .inl h
      · refine .inr ⟨rfl, xw, lw, a, c, rfl, u2.list hxw, u2.list hlw, ?_, ?_⟩
        · intro z
          rcases List.mem_cons.mp z with rfl | z
          · exact hxb (.head _)
          · rw [hC' _ z] at hxw; cases hxw
        · intro z
          rcases List.mem_cons.mp z with rfl | z
          · exact hlb (.head _)
          · rw [hC' _ z] at hlw; cases hlw
    have g1' : (setv vars "names" nv1).lookup "items" = some (.ref b) := lk_other (by decide) g1
    have g2' : (setv vars "names" nv1).lookup "spot" = some (.int (placeI po)) := lk_other (by decide) g2
    have g3' : (setv vars "names" nv1).lookup "names" = some nv1 := lk_same _ _ _
    have g4' : (setv vars "names" nv1).lookup "key" = some (keyV key) := lk_other (by decide) g4
    have g5' : (setv vars "names" nv1).lookup "kind" = some (.str k) := lk_other (by decide) g5
    have g6' : (setv vars "names" nv1).lookup "value" = some w := lk_other (by decide) g6
    generalize setv vars "names" nv1 = V1 at g1' g2' g3' g4' g5' g6' ⊢
    refine ts_consB rfl fun K9 hK9 => ?_
    walk_at "e"
    walk_at "e"
    refine hK9 .next _ _ ?_
    clear hK9
    dsimp only
    refine ts_consK fun K10 hK10 => ?_
    have last : ∀ m2 V2 nv2 nm2 C2 p s, Upd [] m m2 → (∀ c ∈ C2, m c = none) → b ∉ C2 → NvC m2 nv2 C2 nm2 → p ≤ 1000 → (∀ ss, nm2 = some ss → ss.length ≤ 2000) → V2.lookup "items" = some (.ref b) → V2.lookup "spot" = some (.int p) → V2.lookup "names" = some nv2 → V2.lookup "fresh" = some (.str s) → V2.lookup "kind" = some (.str k) → V2.lookup "value" = some w → po.getD vs.length = p → growN nm2 (p + 1 - vs.length) s = nmP nm (addK po key) vs.length p → K10 .next V2 m2 := by
      intro m2 V2 nv2 nm2 C2 p s u2 hC2 hbC2 hn2 hp2 hns2 v1 v2 v3 v4 v5 v6 ep eg
      refine hK10 .next _ _ ?_
      dsimp only
      refine (t_lput G v1 v2 v3 v4 v5 v6 (u2.list hb) hn2 hbC2 (hv1 C2 hC2 m2 u2) hs hp2 hns2).mono (fun r _ m3 z => ?_) fun _ _ z => z
      obtain ⟨b2, x, z1, z2, z3, z4, z5, z6⟩ := z
      rw [ep, ← eg]
      refine ⟨b2, x, nv2, z1, z2, z3, z4, z5, (u2.any.trans z6).shut fun c hc => ?_⟩
      rcases List.mem_cons.mp hc with rfl | hc
      · exact .inl (.head _)
      · exact .inr (hC2 c hc)
    clear hK10
    have hns : ∀ ss, nm = some ss → ss.length ≤ 2000 := fun ss e => by have := hnl ss e; lia
    cases po with
    | some p =>
      have hp' := hp p rfl
      have g2' : V1.lookup "spot" = some (.int p) := g2'
      walk_at "w"
      refine last m1 _ nv1 nm C p "" u1 hC hbC hn1 hp' hns ?_ ?_ ?_ ?_ ?_ ?_ rfl ?_
      iterate 6 walk_at "lk"
      exact grow_some hnl
    | none =>
      obtain ⟨s, rfl⟩ := hpo rfl
      have g2' : V1.lookup "spot" = some (.int (-1)) := g2'
      have g4' : V1.lookup "key" = some (.str s) := g4'
      walk_at "w"
      refine call_len G (k := vs.length) (by simp [lenM, hb1]) (by lia) ?_
      walk_at "w"
      rcases hn1 with ⟨rfl, rfl, rfl⟩ | ⟨ss, c, rfl, rfl, rfl, hc⟩
      · walk_at "w"
        refine lenU rfl (fun d m2 u2 hd hd' => ?_)
        walk_at "w"
        refine call_len G (k := vs.length) (by simp [lenM, u2.list hb1]) (by lia) ?_
        refine bin_repU hd' (by lia) (by lia) (fun c m3 u3 hc hc' => ?_)
        rw [show List.replicate ((vs.length : Int)).toNat (MV.str "") = (List.replicate vs.length "").map .str from by rw [List.map_replicate]; rfl] at hc'
        have u13 := (u1.trans u2).trans u3
        walk_at "w"
        refine last m3 _ (.ref c) (some (List.replicate vs.length "")) [c] vs.length s u13 (fun c' hc0 => by rw [List.mem_singleton.mp hc0]; exact (u1.trans u2).none' hc) (by simp; rintro rfl; rw [u2.list hb1] at hc; cases hc) (.inr ⟨_, c, rfl, rfl, rfl, hc'⟩) hs (fun ss e => by cases e; simp; lia) ?_ ?_ ?_ ?_ ?_ ?_ rfl ?_
        iterate 6 walk_at "lk"
        exact grow_none (s := s) hnl
      · walk_at "w"
        refine last m1 _ (.ref c) (some ss) [c] vs.length s u1 hC hbC (.inr ⟨_, c, rfl, rfl, rfl, hc⟩) hs hns ?_ ?_ ?_ ?_ ?_ ?_ rfl ?_
        iterate 6 walk_at "lk"
        exact grow_none (s := s) hnl
  clear hK
  cases nm with
  | none =>
    cases hn
    walk_at "w"
    exact main m .none [] (.inl ⟨rfl, rfl, rfl⟩) (by simp) (by simp) (.refl _ _)
  | some ss =>
    obtain ⟨l, rfl, hlb, hl⟩ := hn
    have hsl := hnl ss rfl
    walk_at "w"
    refine call_listU hl (by simp; lia) fun c m2 u2 hc hc' => ?_
    walk_at "w"
    exact main m2 (.ref c) [c] (.inr ⟨ss, c, rfl, rfl, rfl, hc'⟩) (by simp; rintro rfl; rw [hb] at hc; cases hc) (fun c' h => by rw [List.mem_singleton.mp h]; exact hc) u2
end

theorem isL_lack {K d : Nat} {m : MH} (j : Nat) : All2 (IsL FT K m d) (List.replicate j .null) (List.replicate j MV.none) := .replicate (isL_null.mpr rfl) j
theorem stepAdd_len {nm : Option (List String)} {key : Key} {n : Nat} (h : addK (placeT nm key) key ≠ none) : (placeT nm key).getD n = n := by
  cases key with
  | int k => exact absurd rfl h
  | str s =>
    cases hp : placeT nm (.str s) with
    | none => rfl
    | some p => rw [hp] at h; exact absurd rfl h
theorem map_erase {α β : Type} (f : α → β) (xs : List α) (p : Nat) : (xs.eraseIdx p).map f = (xs.map f).eraseIdx p := by
  rw [List.eraseIdx_eq_take_drop_succ, List.eraseIdx_eq_take_drop_succ, List.map_append, List.map_take, List.map_drop]
section
variable {X : Cx} {n : Nat} {m : MH}
theorem te_cut {fe env : Env} {vars : Vars} {Q : MV → MH → Prop} {Ex : String → MH → Prop} {x y : String} {l : Addr} {vs : List MV} {p : Nat} {kk : Nat} {a1 a2 a3 a4 a5 a6 a7 a8 a9 a10 : Pos} (hx : okName x = true) (hy : okName y = true) (g1 : vars.lookup x = some (.ref l)) (g2 : vars.lookup y = some (.int p)) (hl : m l = some (.list vs)) (hs : vs.length ≤ 1000) (hp : p ≤ 1000)
    (q : ∀ c m', Upd [] m m' → m' c = some (.list (vs.eraseIdx p)) → Q (.ref c) m') :
    TE X n fe env vars (.Subscript (.Name (S x) a1) (.Slice none (some (.Name (S y) a2)) none a3) a4) m (BinL X n fe env vars .Add (.Subscript (.Name (S x) a5) (.Slice (some (.BinOp (.Name (S y) a6) .Add (.Constant (.int 1) kk a7) a8)) none none a9) a10) Q Ex) Ex := by
  refine te_upto (fun _ _ => rfl) (te_var hx g1 (te_var hy g2 ⟨l, vs, p, rfl, hl, to6 hs, rfl, Int.natCast_nonneg _, fun c1 hc1 => ?_⟩))
  rw [show ((p : Int)).toNat = p from rfl]
  have ua : Upd [] m (m.set c1 (.list (vs.take p))) := .new hc1
  have hc1' : (m.set c1 (.list (vs.take p))) c1 = some (.list (vs.take p)) := MH.set_same _ _ _
  generalize m.set c1 (.list (vs.take p)) = ma at ua hc1' ⊢
  refine te_from (fun _ _ => rfl) (te_var hx g1 (te_bin (te_var hy g2 (te_int (bin_add ⟨l, vs, (p : Int) + 1, rfl, ua.list hl, to6 hs, rfl, by lia, fun c2 hc2 => ?_⟩)))))
  rw [show ((p : Int) + 1).toNat = p + 1 from rfl]
  have ub : Upd [] ma (ma.set c2 (.list (vs.drop (p + 1)))) := .new hc2
  have hc2' : (ma.set c2 (.list (vs.drop (p + 1)))) c2 = some (.list (vs.drop (p + 1))) := MH.set_same _ _ _
  generalize ma.set c2 (.list (vs.drop (p + 1))) = mb at ub hc2' ⊢
  refine bin_addL (ub.list hc1') hc2' (by simp; exact cut6 hs) (fun c3 hc3 => ?_)
  exact q c3 _ ((ua.trans ub).trans (.new hc3)) (by rw [MH.set_same, List.eraseIdx_eq_take_drop_succ])
theorem c_law_put (G : Glo X) {K0 K1 d dw e : Nat} {t tw : T} {v w : MV} {key : Key} (h : IsL FT K0 m d t v) (hn : t ≠ .null) (hw : IsL FT K1 m dw tw w) (hK : K0 ≤ 900) (hK1 : K1 ≤ 1000) (hd : d ≤ e) (hdw : dw ≤ e) (h01 : K0 + 1 ≤ K1) (hk : KeyB K0 key) :
    CallOk X 3 (.ref v__law_put) [v, keyV key, w] m (fun r m' => PairR K1 (e + 1) m' r (putT t key tw) ∧ Upd [] m m') FE := by
  obtain ⟨x, l, nv, vs, rfl, hx, hl, hvl, hnm, hnl, hlen, hkd⟩ := h.vec hn
  have hpo : placeT (nmT t) key = none → ∃ s, key = .str s := fun z => by
    cases key with
    | int k => cases z
    | str s => exact ⟨s, rfl⟩
  have hpp : ∀ p, placeT (nmT t) key = some p → p ≤ 1000 := fun p z => by have := placeB hk hnl hlen z; lia
  have hpb : (placeT (nmT t) key).getD (sizeT t) < K1 := by
    cases hp : placeT (nmT t) key with
    | none => rw [Option.getD_none]; lia
    | some p => have := placeB hk hnl hlen hp; rw [Option.getD_some]; lia
  have hnl2 : NmLen (nmP (nmT t) (stepAdd (nmT t) key) (sizeT t) ((placeT (nmT t) key).getD (sizeT t))) (sizeT t + ((placeT (nmT t) key).getD (sizeT t) + 1 - sizeT t)) := nmP_len hnl fun z => stepAdd_len (by rw [addK_eq]; exact z)
  refine call_fnK G (f__law_put _) rfl fun L K hKK => ?_
  refine ts_consK fun K2 hK2 => ?_
  refine ts_unpack (xs := ["kind", "items", "names"]) (ps := [_, _, _]) rfl rfl (by intro x hx; simp at hx; rcases hx with rfl | rfl | rfl <;> exact .inl (by kernel_rfl)) rfl rfl ?_
  walk_at "w"
  refine ⟨x, _, rfl, .inl hx, rfl, ?_⟩
  dsimp only [setvs]
  walk_at "w"
  refine (c_law_place G hx hnm (fun ss e => by have := hnl ss e; lia)).u01 (by decide) (fun _ _ z => z) fun m1 u1 => ?_
  have hx1 := u1.list hx
  have hl1 := u1.list hl
  have h1 := IsL.upd u1 nilB h
  have hw1 := IsL.upd u1 nilB hw
  have hnm1 := NmF.upd u1 nilB hnm
  walk_at "k"
  refine ts_consK fun K3 hK3 => ?_
  have next : K3 .next (setv (setv (setv (setv (setv (["node", "key", "value"].zip ([MV.ref x, keyV key, w] ++ [])) "kind" (.str (kdT t))) "items" (.ref l)) "names" nv) "spot" (.int (placeI (placeT (nmT t) key)))) "size" (.int (sizeT tw))) m1 := by
    refine hK3 .next _ _ ?_
    clear hK3
    dsimp only
    have hs : vs.length ≤ 1000 := by lia
    have putA_of : ¬ (kdT t = "list" ∧ kdT tw = "NULL") → putT t key tw = putA t ((placeT (nmT t) key).getD (sizeT t)) (stepAdd (nmT t) key) tw := fun z => by unfold putT; rw [if_neg z]
    cases t with
    | null => exact absurd rfl hn
    | list ts nm =>
      cases d with
      | zero => exact h1.elim
      | succ d =>
        obtain ⟨x', l', nv', vs', e', _, hx', _, hl', hvs, _, hnl', hlen'⟩ := h1
        cases e'
        have hx1' := hx1
        rw [hx1] at hx'; cases hx'
        rw [hl1] at hl'; cases hl'
        have hvs1 : All2 (IsL FT K1 m1 e) ts vs := hvs.imp fun _ _ z => z.weak (fun _ z => z) (by lia) (by lia)
        by_cases qw : tw = .null
        · subst qw
          cases isL_null.mp hw
          have hput : putT (.list ts nm) key .null = .ok (delT ts nm key) := rfl
          have same : ∀ b m2, Upd [] m1 m2 → m2 b = some (.tup [.ref x, .str ""]) → delT ts nm key = .list ts nm → PairR K1 (e + 1) m2 (.ref b) (putT (.list ts nm) key .null) ∧ Upd [] m m2 := fun b m2 u2 hb z => ⟨⟨b, _, _, rfl, hb, .inl ⟨_, hput, rfl, by rw [z]; exact ((IsL.upd u1 nilB h).weak (fun _ z => z) (by lia) (by lia)).upd u2 nilB⟩⟩, u1.trans u2⟩
          walk_at "w"
          cases hp : placeT nm key with
          | none =>
            have ep : placeI (placeT (nmT (.list ts nm)) key) = -1 := by show placeI (placeT nm key) = _; rw [hp]; rfl
            rw [ep]
            walk_at "w"
            refine lenU rfl (fun b m2 u2 hb hb' => ?_)
            walk_at "w"
            exact same b m2 u2 hb' (by simp only [delT, hp])
          | some p =>
            have ep : placeI (placeT (nmT (.list ts nm)) key) = (p : Int) := by show placeI (placeT nm key) = _; rw [hp]; rfl
            have hpb := placeB hk hnl (by lia) hp
            rw [ep]
            have hh := decide_eq_false (nn0 p)
            walk_at "f"
            walk_at "w"
            refine call_len G (k := vs.length) (by simp [lenM, hl1]) (by lia) ?_
            walk_at "w"
            by_cases q2 : p < vs.length
            · have hh := decide_eq_false (show ¬ ((p : Int) ≥ (vs.length : Int)) from geF (by assumption))
              walk_at "f"
              have hdel : delT ts nm key = .list (ts.eraseIdx p) (nm.map (·.eraseIdx p)) := by simp only [delT, hp]; rw [if_pos (by rw [hvs.length]; exact q2)]
              walk_at "w"
              cases nm with
              | none =>
                cases hnm
                walk_at "w"
                with_reducible refine te_cut (by decide +kernel) (by decide +kernel) (by first | exact rfl | walk_at "lk") (by first | exact rfl | walk_at "lk") (hl1) hs (by lia) fun c3 mccV udV hc3' => ?_
                walk_at "w"
                refine lenU rfl (fun x2 m4 u4 hx2 hx2' => ?_)
                walk_at "w"
                refine lenU rfl (fun b2 m5 u5 hb2 hb2' => ?_)
                walk_at "w"
                have u15 : Upd [] m1 m5 := ((udV).trans u4).trans u5
                have u35 : Upd [] mccV m5 := u4.trans u5
                refine ⟨⟨b2, .ref x2, "", rfl, hb2', .inl ⟨_, hput, rfl, ?_⟩⟩, u1.trans u15⟩
                rw [hdel]
                refine ⟨x2, c3, _, _, rfl, trivial, u5.list hx2', trivial, u35.list hc3', (hvs1.imp fun _ _ z => IsL.upd u15 nilB z).eraseIdx p, ?_, ?_, ?_⟩
                · exact rfl
                · intro ss z; cases z
                · rw [List.length_eraseIdx_of_lt (by rw [hvs.length]; exact q2)]; lia
              | some ss =>
                obtain ⟨ln, rfl, _, hln⟩ := hnm1
                have hsl : ss.length = ts.length := hnl ss rfl
                walk_at "w"
                with_reducible refine te_cut (by decide +kernel) (by decide +kernel) (by first | exact rfl | walk_at "lk") (by first | exact rfl | walk_at "lk") (hln) (by simp; lia) (by lia) fun a3 mccN udN ha3' => ?_
                walk_at "w"
                with_reducible refine te_cut (by decide +kernel) (by decide +kernel) (by first | exact rfl | walk_at "lk") (by first | exact rfl | walk_at "lk") (udN.list hl1) hs (by lia) fun c3 mccV udV hc3' => ?_
                walk_at "w"
                refine lenU rfl (fun x2 m4 u4 hx2 hx2' => ?_)
                walk_at "w"
                refine lenU rfl (fun b2 m5 u5 hb2 hb2' => ?_)
                walk_at "w"
                have u15 : Upd [] m1 m5 := ((udN.trans udV).trans u4).trans u5
                have u35 : Upd [] mccV m5 := u4.trans u5
                refine ⟨⟨b2, .ref x2, "", rfl, hb2', .inl ⟨_, hput, rfl, ?_⟩⟩, u1.trans u15⟩
                rw [hdel]
                refine ⟨x2, c3, _, _, rfl, trivial, u5.list hx2', trivial, u35.list hc3', (hvs1.imp fun _ _ z => IsL.upd u15 nilB z).eraseIdx p, ?_, ?_, ?_⟩
                · exact ⟨a3, rfl, trivial, ((udV.trans u4).trans u5).list (by rw [ha3', map_erase])⟩
                · intro s z; cases z; rw [List.length_eraseIdx_of_lt (by rw [hsl, hvs.length]; exact q2), List.length_eraseIdx_of_lt (by rw [hvs.length]; exact q2), hsl]
                · rw [List.length_eraseIdx_of_lt (by rw [hvs.length]; exact q2)]; lia
            · have hh := decide_eq_true (show (p : Int) ≥ (vs.length : Int) from geT (by assumption))
              walk_at "t"
              walk_at "w"
              refine lenU rfl (fun b m2 u2 hb hb' => ?_)
              walk_at "w"
              exact same b m2 u2 hb' (by simp only [delT, hp]; rw [if_neg (by rw [hvs.length]; exact q2)])
        · have hnn : isNoneM w = false := by rw [isL_none hw1, decide_eq_false (fun z => qw (kdT_null.mp z))]
          have hp1 := putA_of (fun z => qw (kdT_null.mp z.2))
          walk_at "w"
          rw [hnn]
          walk_at "w"
          refine call_listU hl1 (by lia) fun b m2 u2 hb hb' => ?_
          walk_at "k"
          refine ts_consK fun K7 hK7 => ?_
          have tail : ∀ V, V.lookup "items" = some (.ref b) → V.lookup "spot" = some (.int (placeI (placeT nm key))) → V.lookup "names" = some nv → V.lookup "key" = some (keyV key) → V.lookup "kind" = some (.str "list") → V.lookup "value" = some w → K7 .next V m2 := by
            intro V v1 v2 v3 v4 v5 v6
            refine hK7 .next _ _ ?_
            dsimp only
            have hnm2 : NmF (fun c => c ≠ b) m2 nv nm := by
              cases nm with
              | none => exact hnm1
              | some ss => obtain ⟨c, e, _, hc⟩ := hnm1; exact ⟨c, e, (by rintro rfl; rw [hc] at hb; cases hb), u2.list hc⟩
            refine (t_lput2 G (u := w) v1 v2 v3 v4 v5 v6 hb' hnm2 (by rw [← hvs.length]; exact hnl') (.inl ⟨rfl, rfl⟩) hs hpp hpo).mono (fun r _ m3 z => ?_) fun _ _ z => z
            obtain ⟨b2, x2, nv2, z1, z2, z3, z4, z5, z6⟩ := z
            have u13 : Upd [] m1 m3 := (u2.any.trans z6).shut1 hb
            rw [← hvs.length] at z4 z5
            refine hKK _ _ _ ⟨⟨b2, .ref x2, "", z1, z2, .inl ⟨_, hp1, rfl, x2, b, nv2, _, rfl, trivial, z3, trivial, z4, ?_, by rw [← addK_eq]; exact z5, ?_, ?_⟩⟩, u1.trans u13⟩
            · exact ((hvs1.imp fun _ _ z => IsL.upd u13 nilB z).append (isL_lack _)).set ((IsL.upd u13 nilB hw1).weak (fun _ z => z) (Nat.le_refl _) hdw) _
            · have hnl2 : NmLen (nmP nm (stepAdd nm key) ts.length ((placeT nm key).getD ts.length)) (ts.length + ((placeT nm key).getD ts.length + 1 - ts.length)) := hnl2
              simpa [nmT, sizeT] using hnl2
            · have hpb : (placeT nm key).getD ts.length < K1 := hpb
              simp [nmT, sizeT]; lia
          clear hK7
          walk_at "w"
          exact tail _ rfl rfl rfl rfl rfl rfl
    | «ints» xs nm =>
      obtain ⟨x', l', nv', e', _, hx', _, hl', _, hnl', hlen'⟩ := isL_ints.mp h1
      cases e'
      rw [hx1] at hx'; cases hx'
      rw [hl1] at hl'; cases hl'
      have hp1 := putA_of (fun z => absurd z.1 (by simp [kdT]))
      walk_at "w"
      by_cases qs0 : sizeT tw = 0
      · have hh : ((sizeT tw : Int) == 0) = true := beq_iff_eq.mpr (by lia)
        walk_at "t"
        walk_at "w"
        refine lenU rfl (fun b m2 u2 hb hb' => ?_)
        walk_at "w"
        exact ⟨⟨b, _, _, rfl, hb', .inr ⟨by rw [hp1]; show putA (.ints xs nm) _ _ _ = _; rw [putA_err (by lia)]; unfold noPut; rw [if_pos qs0], by decide, rfl⟩⟩, u1.trans u2⟩
      · have hh : ((sizeT tw : Int) == 0) = false := beq_eq_false_iff_ne.mpr (by lia)
        walk_at "f"
        walk_at "w"
        by_cases qs1 : sizeT tw = 1
        · have hh := decide_eq_false (show ¬ ((sizeT tw : Int) > 1) by lia)
          walk_at "f"
          walk_at "w"
          refine call_listU hl1 (by lia) fun b m2 u2 hb hb' => ?_
          have hbl : ∀ nv', NmF FT m1 nv' nm → NmF (fun c => c ≠ b) m2 nv' nm := fun nv' hnm1 => by
            cases nm with
            | none => exact hnm1
            | some ss => obtain ⟨c, e, _, hc⟩ := hnm1; exact ⟨c, e, (by rintro rfl; rw [hc] at hb; cases hb), u2.list hc⟩
          walk_at "k"
          refine ts_consK fun K7 hK7 => ?_
          have tail : ∀ k b vs2 u m2 V, V.lookup "items" = some (.ref b) → V.lookup "spot" = some (.int (placeI (placeT nm key))) → V.lookup "names" = some nv → V.lookup "key" = some (keyV key) → V.lookup "kind" = some (.str k) → V.lookup "value" = some w → m2 b = some (.list vs2) → vs2.length = xs.length → NmF (fun c => c ≠ b) m2 nv nm → ValL k m2 [b] w u → (∀ m3 nv2 x2 b2, m3 b2 = some (.tup [.ref x2, .str ""]) → m3 x2 = some (.list [.str k, .ref b, nv2]) → m3 b = some (.list ((vs2 ++ List.replicate ((placeT nm key).getD xs.length + 1 - xs.length) MV.none).set ((placeT nm key).getD xs.length) u)) → NmF FT m3 nv2 (nmP nm (stepAdd nm key) xs.length ((placeT nm key).getD xs.length)) → Upd [b] m2 m3 → PairR K1 (e + 1) m3 (.ref b2) (putT (.ints xs nm) key tw) ∧ Upd [] m m3) → K7 .next V m2 := by
            intro k b vs2 u m2 V v1 v2 v3 v4 v5 v6 hb' hl2 hnm2 hval fin
            refine hK7 .next _ _ ?_
            dsimp only
            refine (t_lput2 G (u := u) v1 v2 v3 v4 v5 v6 hb' hnm2 (by rw [hl2]; exact hnl') hval (by lia) hpp hpo).mono (fun r _ m3 z => ?_) fun _ _ z => z
            obtain ⟨b2, x2, nv2, z1, z2, z3, z4, z5, z6⟩ := z
            rw [hl2] at z4 z5
            rw [addK_eq] at z5
            refine hKK _ _ _ ?_
            rw [z1]
            exact fin m3 nv2 x2 b2 z2 z3 z4 z5 z6
          clear hK7
          have hnl3 : NmLen (nmP nm (stepAdd nm key) xs.length ((placeT nm key).getD xs.length)) (xs.length + ((placeT nm key).getD xs.length + 1 - xs.length)) := hnl2
          have hpb3 : (placeT nm key).getD xs.length < K1 := hpb
          cases tw with
          | null => cases qs1
          | «ints» ys nmw =>
            obtain ⟨y, rfl⟩ := List.length_eq_one_iff.mp qs1
            obtain ⟨xw, lw, nvw, rfl, _, hxw, _, hlw, _⟩ := isL_ints.mp hw1
            have hxwb : xw ≠ b := by rintro rfl; rw [hxw] at hb; cases hb
            have hlwb : lw ≠ b := by rintro rfl; rw [hlw] at hb; cases hb
            walk_at "w"
            refine ⟨_, getM_list' (u2.list hxw) (by decide) (by decide) rfl, ?_⟩
            walk_at "w"
            refine tail "integer" b _ (oint y) m2 _ rfl rfl rfl rfl rfl rfl hb' (by simp) (hbl nv hnm1) (.inr ⟨rfl, xw, lw, _, _, rfl, u2.list hxw, u2.list hlw, by simpa using hxwb, by simpa using hlwb⟩) fun m3 nv2 x2 b2 z2 z3 z4 z5 z6 => ?_
            have u13 : Upd [] m1 m3 := (u2.any.trans z6).shut1 hb
            refine ⟨⟨b2, .ref x2, "", rfl, z2, .inl ⟨_, hp1, rfl, isL_ints.mpr ⟨x2, b, nv2, rfl, trivial, z3, trivial, ?_, z5, ?_, ?_⟩⟩⟩, u1.trans u13⟩
            · rw [z4, List.map_set, List.map_append, List.map_replicate]; rfl
            · simpa [nmT, sizeT] using hnl3
            · simp [nmT, sizeT]; first | exact growK (by assumption) (by assumption) (by assumption) | lia
          | list ys nmw =>
            obtain ⟨y, rfl⟩ := List.length_eq_one_iff.mp qs1
            cases dw with
            | zero => exact hw1.elim
            | succ dw =>
              obtain ⟨xw, lw, nvw, vw, rfl, _, hxw, _, hlw, _⟩ := id hw1
              walk_at "w"
              refine ⟨_, getM_list' (u2.list hxw) (by decide) (by decide) rfl, ?_⟩
              walk_at "w"
              refine ts_assign_comp (capt := []) (compOk_of (by kernel_rfl)) G (fun _ => rfl) (.inl (by kernel_rfl)) (by kernel_rfl) (compU [] (fun D i u m => ∃ q, xs[i]? = some q ∧ IsL (fun b => b ≠ D) K1 m e (.ints [q] none) u) ?_ (ti_list ?_))
              · intro D i u m' m'' uu z
                obtain ⟨q, e, z⟩ := z
                exact ⟨q, e, IsL.upd uu (fun b hb => by simpa using hb) z⟩
              walk_at "w"
              refine ⟨_, _, rfl, hb', by simp; lia, (fun b hb => by cases hb), fun m' u => u.list hb', fun D i m' C hi hD hD' u => ?_, fun D ys2 m' hD u hD' hyl hR => ?_⟩
              · have hi' : i < xs.length := by simpa using hi
                have ei : nthv (xs.map oint) i = oint xs[i] := by unfold nthv; rw [List.getD_eq_getElem?_getD, List.getElem?_map]; simp [hi']
                rw [ei]
                walk_at "w"
                refine lenU rfl (fun c1 m3 u3 hc1 hc1' => ?_)
                walk_at "w"
                refine lenU rfl (fun c2 m4 u4 hc2 hc2' => ?_)
                refine ⟨u3.trans u4, xs[i], by simp [hi'], isL_ints.mpr ⟨c2, c1, .none, rfl, ?_, hc2', ?_, u4.list hc1', rfl, (fun s z => by cases z), by show 1 ≤ K1; lia⟩⟩
                · rintro rfl; exact hD' (u3.none' hc2)
                · rintro rfl; exact hD' hc1
              · have hyl2 : ys2.length = xs.length := by simpa using hyl
                have hys : All2 (IsL (fun b => b ≠ D) K1 m' e) (xs.map fun q => T.ints [q] none) ys2 := all2_of (by first | exact ni1 hyl2 | simpa using hyl2) fun i t u' e1 e2 => by
                  obtain ⟨q, e3, z⟩ := hR i u' e2
                  rw [List.getElem?_map, e3] at e1
                  cases e1
                  exact z
                have hnmD : NmF (fun c => c ≠ D) m' nv nm := by
                  have := hbl nv hnm1
                  cases nm with
                  | none => exact this
                  | some ss => obtain ⟨c, e, _, hc⟩ := this; exact ⟨c, e, (by rintro rfl; rw [hc] at hD; cases hD), u.list hc⟩
                walk_at "w"
                refine tail "list" D ys2 (.ref xw) m' _ rfl rfl rfl rfl rfl rfl hD' hyl2 hnmD (.inl ⟨rfl, rfl⟩) fun m3 nv2 x2 b2 z2 z3 z4 z5 z6 => ?_
                have u13 : Upd [] m1 m3 := ((u2.trans u).any.trans z6).shut1 (u2.none' hD)
                refine ⟨⟨b2, .ref x2, "", rfl, z2, .inl ⟨_, hp1, rfl, x2, D, nv2, _, rfl, trivial, z3, trivial, z4, ?_, z5, ?_, ?_⟩⟩, u1.trans u13⟩
                · refine ((hys.imp fun _ _ z => (IsL.upd z6 (fun b hb => by simpa using hb) z).weak (fun _ _ => trivial) (Nat.le_refl _) (Nat.le_refl _)).append (isL_lack _)).set ((IsL.upd u13 nilB hw1).weak (fun _ z => z) (Nat.le_refl _) hdw) _
                · simpa [nmT, sizeT] using hnl3
                · simp [nmT, sizeT]; first | exact growK (by assumption) (by assumption) (by assumption) | lia
        · have hh := decide_eq_true (show (sizeT tw : Int) > 1 by lia)
          walk_at "t"
          walk_at "w"
          refine lenU rfl (fun b m2 u2 hb hb' => ?_)
          walk_at "w"
          exact ⟨⟨b, _, _, rfl, hb', .inr ⟨by rw [hp1]; show putA (.ints xs nm) _ _ _ = _; rw [putA_err qs1]; unfold noPut; rw [if_neg qs0], by decide, rfl⟩⟩, u1.trans u2⟩
  clear hK3
  by_cases qw : tw = .null
  · subst qw
    cases isL_null.mp hw
    walk_at "w"
    exact next
  · obtain ⟨xw, lw, nvw, vw, rfl, hxw, hlw, hvlw, _, _, hlenw, _⟩ := hw1.vec qw
    walk_at "w"
    refine ⟨_, getM_list' hxw (by decide) (by decide) rfl, ?_⟩
    walk_at "w"
    refine call_len G (k := sizeT tw) (by simp [lenM, hlw, hvlw]) (by lia) ?_
    walk_at "w"
    exact next
end

theorem KeyB.mono {K K' : Nat} {key : Key} (h : KeyB K key) (hK : K ≤ K') : KeyB K' key := by
  cases key with
  | int k => exact Nat.lt_of_lt_of_le h hK
  | str s => trivial
section
variable {X : Cx} {n : Nat}
theorem c_law_set (G : Glo X) {K0 K1 d dw : Nat} {tw : T} (hK : K0 ≤ 900) (hK1 : K1 ≤ 1000) (h01 : K0 + 1 ≤ K1) (h1 : 1 ≤ K0) : ∀ (ks : List Key) {m : MH} {e : Nat} {t : T} {v w : MV} {kl : Addr}, IsL FT K0 m d t v → t ≠ .null → IsL FT K1 m dw tw w → d + ks.length ≤ e → dw + ks.length ≤ e → ks ≠ [] → ks.length ≤ 1000 → m kl = some (.list (ks.map keyV)) → (∀ k ∈ ks, KeyB K0 k) →
    CallOk X (ks.length + 3) (.ref v__law_set) [v, .ref kl, w] m (fun r m' => PairR K1 e m' r (setT t ks tw) ∧ Upd [] m m') FE := by
  intro ks
  induction ks with
  | nil => intros; contradiction
  | cons k ks ih =>
    intro m e t v w kl h hn hw hd hdw _ hl hkl hkb
    obtain ⟨e, rfl⟩ : ∃ e', e = e' + 1 := ⟨e - 1, by simp at hd; lia⟩
    simp only [List.length_cons] at hd hdw hl
    have hkl' : m kl = some (.list (keyV k :: ks.map keyV)) := hkl
    show CallOk X ((ks.length + 3) + 1) _ _ _ _ _
    refine call_fnK G (f__law_set _) rfl fun L K hKK => ?_
    walk_at "w"
    refine call_len G (k := ks.length + 1) (by simp [lenM, hkl']) (by lia) ?_
    walk_at "w"
    by_cases q : ks = []
    · subst q
      walk_at "w"
      refine ⟨keyV k, getM_list' hkl' (by decide) (by decide) rfl, ?_⟩
      walk_at "w"
      refine (c_law_put G h hn hw hK hK1 (e := e) (by lia) (by lia) h01 (hkb k (.head _))).use (by lia) (fun _ _ z => z) fun r m2 z => ?_
      walk_at "k"
      rw [setT_one]
      exact z
    · have hpos : ks.length ≠ 0 := fun z => q (List.length_eq_zero_iff.mp z)
      have hh : (((ks.length + 1 : Nat) : Int) == 1) = false := beq_eq_false_iff_ne.mpr (by lia)
      walk_at "f"
      rw [setT_more q] at hKK
      walk_at "k"
      refine ts_nil ?_
      walk_at "k"
      refine ts_consK fun K2 hK2 => ?_
      refine ts_unpack (xs := ["inner", "fault"]) (ps := [_, _]) rfl rfl (by intro x hx; simp at hx; rcases hx with rfl | rfl <;> exact .inl (by kernel_rfl)) rfl rfl ?_
      walk_at "w"
      refine ⟨keyV k, getM_list' hkl' (by decide) (by decide) rfl, ?_⟩
      walk_at "w"
      refine (c_law_step G h (by lia) h1 ((hkb k (.head _)).mono (by lia))).use (by lia) (fun _ _ z => z) fun r m2 z => ?_
      obtain ⟨⟨b, v2, f, rfl, hb, z⟩, u2⟩ := z
      refine ⟨b, _, rfl, .inr hb, rfl, ?_⟩
      dsimp only [setvs]
      rcases z with ⟨t2, z1, rfl, z2⟩ | ⟨z1, hf, rfl⟩
      · rw [z1] at hKK
        have hnone := isL_none z2
        by_cases q2 : kdT t2 = "NULL"
        · dsimp only at hKK
          rw [if_pos q2] at hKK
          walk_at "w"
          rw [hnone, decide_eq_true q2]
          walk_at "w"
          refine lenU rfl (fun c m3 u3 hc hc' => ?_)
          walk_at "w"
          exact ⟨⟨c, _, _, rfl, hc', .inr ⟨rfl, by decide, rfl⟩⟩, u2.trans u3⟩
        · dsimp only at hKK
          rw [if_neg q2] at hKK
          walk_at "w"
          rw [hnone, decide_eq_false q2]
          walk_at "k"
          refine ts_nil ?_
          walk_at "k"
          refine ts_consK fun K5 hK5 => ?_
          refine ts_unpack (xs := ["made", "fault"]) (ps := [_, _]) rfl rfl (by intro x hx; simp at hx; rcases hx with rfl | rfl <;> exact .inl (by kernel_rfl)) rfl rfl ?_
          walk_at "w"
          with_reducible refine te_from (fun _ _ => rfl) ?_
          walk_at "w"
          refine ⟨kl, _, 1, rfl, u2.list hkl', by simp; lia, rfl, by decide, fun c hc => ?_⟩
          rw [show (1 : Int).toNat = 1 from rfl, show (keyV k :: ks.map keyV).drop 1 = ks.map keyV from rfl]
          have u3 : Upd [] m2 (m2.set c (.list (ks.map keyV))) := .new hc
          have hc' : (m2.set c (.list (ks.map keyV))) c = some (.list (ks.map keyV)) := MH.set_same _ _ _
          generalize m2.set c (.list (ks.map keyV)) = m3 at u3 hc' ⊢
          have u13 := u2.trans u3
          walk_at "w"
          refine (ih (e := e) (IsL.upd u3 nilB z2) (fun z => q2 (kdT_null.mpr z)) (IsL.upd u13 nilB hw) (by lia) (by lia) q (by lia) hc' (fun k' hk' => hkb k' (.tail _ hk'))).use (by lia) (fun _ _ z => z) fun r2 m4 y => ?_
          obtain ⟨⟨b4, v4, f4, rfl, hb4, y⟩, u4⟩ := y
          have u14 := u13.trans u4
          refine ⟨b4, _, rfl, .inr hb4, rfl, ?_⟩
          dsimp only [setvs]
          rcases y with ⟨made, y1, rfl, y2⟩ | ⟨y1, hf, rfl⟩
          · rw [y1] at hKK
            walk_at "w"
            refine ⟨keyV k, getM_list' (u14.list hkl') (by decide) (by decide) rfl, ?_⟩
            walk_at "w"
            refine (c_law_put G (IsL.upd u14 nilB h) hn y2 hK hK1 (e := e) (by lia) (by lia) h01 (hkb k (.head _))).use (by lia) (fun _ _ z => z) fun r m5 z => ?_
            walk_at "k"
            exact ⟨z.1, u14.trans z.2⟩
          · rw [y1] at hKK
            walk_at "w"
            rw [decide_eq_false hf]
            walk_at "w"
            refine lenU rfl (fun c m5 u5 hc hc' => ?_)
            walk_at "w"
            exact ⟨⟨c, _, _, rfl, hc', .inr ⟨rfl, hf, rfl⟩⟩, u14.trans u5⟩
      · rw [z1] at hKK
        walk_at "w"
        rw [decide_eq_false hf]
        walk_at "w"
        refine lenU rfl (fun c m3 u3 hc hc' => ?_)
        walk_at "w"
        exact ⟨⟨c, _, _, rfl, hc', .inr ⟨rfl, hf, rfl⟩⟩, u2.trans u3⟩
end

section
variable {X : Cx} {n : Nat} {fe env : Env} {vars : Vars} {m : MH} {Q : MV → MH → Prop} {Ex : String → MH → Prop}
theorem te_callV0 {x : String} {p' pos : Pos} {f : Addr} {o : Obj} {fd : FuncData} (hd : okName x = true) (e : vars.lookup x = some (.ref f)) (hm : m f = some (.raw o)) (ho : o.data = .func fd) (h : CallOk X n (.ref f) [] m Q Ex) : TE X n fe env vars (.Call (.Name (S x) p') [] [] pos) m Q Ex := fun A s p => by
  refine wpAny_Call_NameR ((te_var (Q := fun v m' => v = .ref f ∧ m' = m) hd e ⟨rfl, rfl⟩).go p (.refl ..) fun v m₁ rv s₁ r p₁ st₁ z => ?_)
  obtain ⟨rfl, rfl⟩ := z
  cases r
  have hf : s₁.heap.get? f = some o := p₁.rel.hr.obj f _ hm
  refine callWith_F0 (q := f) (first := []) ?_ ?_
  · obtain ⟨oc, od, dt, sl⟩ := o
    cases ho
    exact ⟨oc, od, fd, sl, hf⟩
  · exact h.run p₁ .nil st₁ fun v rv m' s' r x st q => ⟨v, m', r, x, st, q⟩
theorem c_law_kept (G : Glo X) {f : Addr} {o : Obj} {fd : FuncData} (hm : m f = some (.raw o)) (ho : o.data = .func fd) {Qa : MV → MH → Prop} {Exa : String → MH → Prop} (h : CallOk X n (.ref f) [] m Qa Exa) : CallOk X (n + 1) (.ref v__law_kept) [.ref f] m (fun v m' => Qa v m' ∨ ∃ msg, v = .str msg ∧ Exa msg m') FE := by
  refine call_fnK G (f__law_kept _) rfl fun L K hKK => ?_
  refine ts_consK fun K2 hK2 => ?_
  refine ts_try G rfl (by kernel_rfl) (by kernel_rfl) ?_
  walk_at "w"
  refine (te_callV0 (o := o) (fd := fd) (by decide +kernel) rfl hm ho h).mono (fun v m' z => ?_) fun msg m' z => ?_
  · walk_at "k"
    exact .inl z
  · walk_at "k"
    exact .inr ⟨msg, rfl, z⟩
end

open Classical in
noncomputable def maskM (Z : List Addr) (m : MH) : MH := fun b => if b ∈ Z then none else m b
open Classical in
noncomputable def rawM (Z : List Addr) (h : Heap) (m : MH) : MH := fun b => if b ∈ Z then (h.get? b).map .raw else m b
section
variable {X : Cx} {Z : List Addr} {m m' : MH} {s s' : Shared} {h h' : Heap}
theorem maskM_in {b : Addr} (hb : b ∈ Z) : maskM Z m b = none := by unfold maskM; rw [if_pos hb]
theorem maskM_out {b : Addr} (hb : b ∉ Z) : maskM Z m b = m b := by unfold maskM; rw [if_neg hb]
theorem rawM_in {b : Addr} (hb : b ∈ Z) : rawM Z h m b = (h.get? b).map .raw := by unfold rawM; rw [if_pos hb]
theorem rawM_out {b : Addr} (hb : b ∉ Z) : rawM Z h m b = m b := by unfold rawM; rw [if_neg hb]
theorem maskM_some {b : Addr} {o : MO} (e : maskM Z m b = some o) : b ∉ Z ∧ m b = some o := by
  by_cases hb : b ∈ Z
  · rw [maskM_in hb] at e; cases e
  · rw [maskM_out hb] at e; exact ⟨hb, e⟩
theorem rawM_some {b : Addr} {o : MO} (e : rawM Z h m b = some o) : (b ∈ Z ∧ ∃ ob, h.get? b = some ob ∧ o = .raw ob) ∨ (b ∉ Z ∧ m b = some o) := by
  by_cases hb : b ∈ Z
  · rw [rawM_in hb] at e
    cases q : h.get? b with
    | none => rw [q] at e; cases e
    | some ob => rw [q] at e; cases e; exact .inl ⟨hb, ob, rfl, rfl⟩
  · rw [rawM_out hb] at e; exact .inr ⟨hb, e⟩
theorem rawM_inst {b c dx : Addr} {as : List (String × MV)} (e : rawM Z h m b = some (.inst c dx as)) : b ∉ Z ∧ m b = some (.inst c dx as) := by
  rcases rawM_some e with ⟨_, _, _, z⟩ | z
  · cases z
  · exact z
theorem Own.ofMask {b : Addr} (x : Own (maskM Z m) b) : Own m b := by
  rcases x with x | ⟨a, c, as, x⟩
  · refine .inl fun z => x ?_
    by_cases hb : b ∈ Z
    · rw [maskM_in hb]
    · rw [maskM_out hb]; exact z
  · exact .inr ⟨a, c, as, (maskM_some x).2⟩
theorem Own.raw {b : Addr} (x : Own (rawM Z h m) b) : b ∈ Z ∨ Own m b := by
  by_cases hb : b ∈ Z
  · exact .inl hb
  · refine .inr ?_
    rcases x with x | ⟨a, c, as, x⟩
    · rw [rawM_out hb] at x; exact .inl x
    · exact .inr ⟨a, c, as, (rawM_inst x).2⟩
theorem Rel.mask (r : Rel X m s) : Rel X (maskM Z m) s := by
  refine ⟨⟨r.hr.base, fun a o e => r.hr.obj a o (maskM_some e).2, fun a o e => r.hr.free a o (maskM_some e).2, fun a c dx as e => ?_, fun a b c c' dx as as' e e' => r.hr.inj a b c c' dx as as' (maskM_some e).2 (maskM_some e').2⟩, r.gens, r.os⟩
  obtain ⟨h1, h2⟩ := r.hr.dict a c dx as (maskM_some e).2
  refine ⟨?_, h2⟩
  by_cases hb : dx ∈ Z
  · exact maskM_in hb
  · rw [maskM_out hb]; exact h1
theorem Rel.raws (r : Rel X m s) (hz : ∀ b ∈ Z, ¬ Own m b ∧ X.h₀.get? b = none) : Rel X (rawM Z s.heap m) s := by
  refine ⟨⟨r.hr.base, fun a o e => ?_, fun a o e ho => ?_, fun a c dx as e => ?_, fun a b c c' dx as as' e e' => r.hr.inj a b c c' dx as as' (rawM_inst e).2 (rawM_inst e').2⟩, r.gens, r.os⟩
  · rcases rawM_some e with ⟨_, ob, h1, rfl⟩ | ⟨_, h1⟩
    · exact h1
    · exact r.hr.obj a o h1
  · rcases rawM_some e with ⟨hb, _⟩ | ⟨_, h1⟩
    · exact (hz a hb).2
    · exact r.hr.free a o h1 ho
  · obtain ⟨h0, h1⟩ := rawM_inst e
    obtain ⟨h2, h3⟩ := r.hr.dict a c dx as h1
    refine ⟨?_, h3⟩
    have : dx ∉ Z := fun z => (hz dx z).1 (.inr ⟨a, c, as, h1⟩)
    rw [rawM_out this]; exact h2
/-- what was put in for a call is put out again -/
theorem step_plus {S : Addr → Prop} (hz : ∀ b ∈ Z, ¬ Own m b) (st : StepS S (rawM Z h m) h m' h') (r : HR X m' h') (hl : ∀ b ∈ Z, ∃ o, h.get? b = some o) (hk : ∀ b ∈ Z, ∀ o, h.get? b = some o → ∃ o', m' b = some (.raw o') ∧ KeepO o o') : StepS S m h (maskM Z m') h' := by
  refine ⟨fun b q => ?_, fun b o e => ?_⟩
  · have hb : b ∉ Z := fun z => hz b z q
    have q' : Own (rawM Z h m) b := by
      rcases q with q | ⟨a, c, as, q⟩
      · exact .inl (by rw [rawM_out hb]; exact q)
      · have ha : a ∉ Z := fun z => hz a z (.inl (by rw [q]; simp))
        exact .inr ⟨a, c, as, by rw [rawM_out ha]; exact q⟩
    rcases st.grow b q' with y | ⟨a, c, as, y⟩
    · exact .inl (by rw [maskM_out hb]; exact y)
    · by_cases ha : a ∈ Z
      · -- a's object is raw at the end, where it stood at the start
        obtain ⟨o, ho⟩ := hl a ha
        obtain ⟨o', e', _⟩ := hk a ha o ho
        rw [y] at e'; cases e'
      · exact .inr ⟨a, c, as, by rw [maskM_out ha]; exact y⟩
  · by_cases hb : b ∈ Z
    · obtain ⟨o', e', k⟩ := hk b hb o e
      refine .inr ⟨fun q => ?_, o', r.obj b _ e', .inr k⟩
      rcases q with q | ⟨a, c, as, q⟩
      · exact q (maskM_in hb)
      · have := (r.dict a c b as (maskM_some q).2).1
        rw [e'] at this; cases this
    · rcases st.stay b o e with q | ⟨q, o', e', k⟩
      · exact .inl (q.raw.resolve_left hb)
      · exact .inr ⟨fun z => q z.ofMask, o', e', k⟩
/-- inside: what was put in is put out for a while; m holds all of Z as raw -/
theorem step_minus {S : Addr → Prop} (hm : ∀ b ∈ Z, ∃ o, m b = some (.raw o)) (st : StepS S (maskM Z m) h m' h') (r : HR X m h) : StepS S m h (rawM Z h' m') h' ∧ ∀ b ∈ Z, ¬ Own m' b := by
  have hlive : ∀ b ∈ Z, ∃ o, h.get? b = some o := fun b hb => by
    obtain ⟨o, e⟩ := hm b hb
    exact ⟨o, r.obj b _ e⟩
  have hno : ∀ b ∈ Z, ¬ Own (maskM Z m) b := fun b hb q => by
    obtain ⟨o, e⟩ := hm b hb
    rcases q with q | ⟨a, c, as, q⟩
    · exact q (maskM_in hb)
    · have := (r.dict a c b as (maskM_some q).2).1
      rw [e] at this; cases this
  have hno' : ∀ b ∈ Z, ¬ Own m' b := fun b hb => by
    obtain ⟨o, e⟩ := hlive b hb
    rcases st.stay b o e with q | ⟨q, _⟩
    · exact absurd q (hno b hb)
    · exact q
  have hlive' : ∀ b ∈ Z, ∃ o, h'.get? b = some o := fun b hb => by
    obtain ⟨o, e⟩ := hlive b hb
    rcases st.stay b o e with q | ⟨_, o', e', _⟩
    · exact absurd q (hno b hb)
    · exact ⟨o', e'⟩
  refine ⟨⟨fun b q => ?_, fun b o e => ?_⟩, hno'⟩
  · by_cases hb : b ∈ Z
    · obtain ⟨o, e⟩ := hlive' b hb
      exact .inl (by rw [rawM_in hb, e]; simp)
    · have q' : Own (maskM Z m) b := by
        rcases q with q | ⟨a, c, as, q⟩
        · exact .inl (by rw [maskM_out hb]; exact q)
        · have ha : a ∉ Z := fun z => by obtain ⟨o, e⟩ := hm a z; rw [q] at e; cases e
          exact .inr ⟨a, c, as, by rw [maskM_out ha]; exact q⟩
      rcases st.grow b q' with y | ⟨a, c, as, y⟩
      · exact .inl (by rw [rawM_out hb]; exact y)
      · have ha : a ∉ Z := fun z => hno' a z (.inl (by rw [y]; simp))
        exact .inr ⟨a, c, as, by rw [rawM_out ha]; exact y⟩
  · by_cases hb : b ∈ Z
    · obtain ⟨o', e'⟩ := hm b hb
      exact .inl (.inl (by rw [e']; simp))
    · rcases st.stay b o e with q | ⟨q, o', e', k⟩
      · exact .inl q.ofMask
      · exact .inr ⟨fun z => (z.raw.elim hb q), o', e', k⟩
end

theorem codeAmong_other {pos pos' : Pos} {c : Value} (hne : pos'.line ≠ pos.line) (l : List Value) (h : TriplesOk l) : codeAmong pos (l ++ [rawInt pos'.line, rawInt pos'.col, c]) = codeAmong pos l := by
  fun_induction TriplesOk l with
  | case1 =>
    simp only [List.nil_append, rawInt, codeAmong]
    rw [if_neg]
    simp only [Bool.and_eq_true, beq_iff_eq, not_and]
    intro z
    exact absurd (by lia) hne
  | case2 a t b u x rest ih =>
    simp only [List.cons_append, codeAmong]
    split
    · rfl
    · exact ih h
  | case3 l h1 h2 => exact h.elim
section
variable {X : Cx} {m m' : MH} {h h' : Heap} {s s' : Shared}
theorem HR.turnRaw {P : Addr} {o o' : Obj} (x : HR X m h) (hm : m P = some (.raw o)) (k : ∀ b ob, b ≠ P → h.get? b = some ob → h'.get? b = some ob) (hP : h'.get? P = some o') : HR X (m.set P (.raw o')) h' ∧ Step m h (m.set P (.raw o')) h' := by
  have hown : Own m P := .inl (by rw [hm]; simp)
  have own : ∀ b, Own (m.set P (.raw o')) b ↔ b = P ∨ Own m b := fun b => own_set_plain (fun _ _ _ z => by cases z) fun _ _ _ z => by rw [hm] at z; cases z
  refine ⟨⟨fun b ob e => k b ob ?_ (x.base b ob e), fun a o2 e => ?_, fun a o2 e ho => ?_, fun a c dx as e => ?_, fun a b c c' dx as as' e e' => ?_⟩, ⟨fun b q => (own b).mpr (.inr q), fun b ob e => ?_⟩⟩
  · rintro rfl
    have := x.free _ _ hm rfl
    rw [this] at e; cases e
  · by_cases q : a = P
    · subst q
      rw [MH.set_same] at e; cases e
      exact hP
    · rw [MH.set_other _ _ q] at e
      refine (x.obj a o2 e).set_other fun b ob eb hb => k b ob ?_ eb
      rintro rfl
      rcases hb with rfl | ⟨c, as, rfl⟩
      · exact q rfl
      · have := (x.dict a c b as e).1
        rw [hm] at this; cases this
  · by_cases q : a = P
    · subst q; exact x.free _ _ hm rfl
    · rw [MH.set_other _ _ q] at e; exact x.free a o2 e ho
  · by_cases q : a = P
    · subst q; rw [MH.set_same] at e; cases e
    · rw [MH.set_other _ _ q] at e
      obtain ⟨h1, h2⟩ := x.dict a c dx as e
      refine ⟨?_, h2⟩
      rw [MH.set_other]
      · exact h1
      · rintro rfl; rw [hm] at h1; cases h1
  · by_cases q : a = P
    · subst q; rw [MH.set_same] at e; cases e
    · by_cases q' : b = P
      · subst q'; rw [MH.set_same] at e'; cases e'
      · rw [MH.set_other _ _ q] at e
        rw [MH.set_other _ _ q'] at e'
        exact x.inj a b c c' dx as as' e e'
  · by_cases q : Own m b
    · exact .inl q
    · have hb : b ≠ P := fun z => q (z ▸ hown)
      exact .inr ⟨fun z => ((own b).mp z).elim hb q, ob, k b ob hb e, .inr (.refl _)⟩
theorem step_adopt {S : Addr → Prop} {Z : List Addr} (st : StepS S m h m' h') (hz : ∀ b ∈ Z, h.get? b = none) (hl : ∀ b ∈ Z, ∃ o, h'.get? b = some o) (hno : ∀ b ∈ Z, ¬ Own m' b) : StepS S m h (rawM Z h' m') h' := by
  refine ⟨fun b q => ?_, fun b o e => ?_⟩
  · by_cases hb : b ∈ Z
    · obtain ⟨o, e⟩ := hl b hb
      exact .inl (by rw [rawM_in hb, e]; simp)
    · rcases st.grow b q with y | ⟨a, c, as, y⟩
      · exact .inl (by rw [rawM_out hb]; exact y)
      · have ha : a ∉ Z := fun z => hno a z (.inl (by rw [y]; simp))
        exact .inr ⟨a, c, as, by rw [rawM_out ha]; exact y⟩
  · have hb : b ∉ Z := fun z => by rw [hz b z] at e; cases e
    rcases st.stay b o e with q | ⟨q, o', e', k⟩
    · exact .inl q
    · exact .inr ⟨fun z => z.raw.elim hb q, o', e', k⟩
/-- the table of the code objects that the law's text makes -/
noncomputable def LamTab (m : MH) (P : Addr) (qual : Str) (poss : List Pos) : Prop := ∃ ps : Array Value, m P = some (.raw (tabObj ps)) ∧ TriplesOk ps.toList ∧ ∀ pos ∈ poss, codeAmong pos ps.toList = none ∨ ∃ c' oc vs t, codeAmong pos ps.toList = some (.ref c') ∧ c' ≠ P ∧ m c' = some (.raw oc) ∧ oc.data = .fields vs ∧ vs[1]? = some (.str qual t)
theorem LamTab.upd {B : List Addr} {P : Addr} {qual : Str} {poss : List Pos} (x : LamTab m P qual poss) (u : Upd B m m') (hB : ∀ b ∈ B, ∀ o, m b ≠ some (.raw o)) : LamTab m' P qual poss := by
  have hr : ∀ b o, m b = some (.raw o) → m' b = some (.raw o) := fun b o e => u.raw e fun z => hB b z o e
  obtain ⟨ps, h1, h2, h3⟩ := x
  refine ⟨ps, hr _ _ h1, h2, fun pos hp => (h3 pos hp).imp id ?_⟩
  rintro ⟨c', oc, vs, t, e1, e2, e3, e4, e5⟩
  exact ⟨c', oc, vs, t, e1, e2, hr _ _ e3, e4, e5⟩
end

structure GloL (X : Cx) (P c : Addr) : Prop where
  bu : ∃ mg, X.h₀.Ns mainGlobals mg ∧ X.h₀.BuiltinsAt mg P
  cd : CodeHd X.h₀ c P
  gP : mainGlobals ≠ P
noncomputable def LamAt (m : MH) (f : Addr) (qual : Str) (params : Arguments) (body : PySem.Expr) (scope : Scope) (clos : List (Str × Addr)) : Prop :=
  ∃ fo pm ctv c' oc vs t, m f = some (.raw fo) ∧ fo.data = .func (kla_fn "<lambda>" qual params body scope clos pm (.ref c') ctv) ∧ m c' = some (.raw oc) ∧ oc.data = .fields vs ∧ vs[1]? = some (.str qual t)
section
variable {X : Cx} {n : Nat} {fe env : Env} {vars : Vars} {m : MH} {Q : MV → MH → Prop} {Ex : String → MH → Prop}
theorem te_lambda (G : Glo X) {P c : Addr} (GL : GloL X P c) {params : Arguments} {body : PySem.Expr} {scope : Scope} {pos : Pos} {qual : Str} {poss : List Pos} (hdef : defaultsOf params env = ([], [])) (hcode : env.code = .ref c) (hfree : ∀ p ∈ scope.names, p.2 = .free → (env.cells.lookup p.1).isSome = true) (hq : env.qual ++ "<lambda>" = qual) (ht : LamTab m P qual poss) (hpos : pos ∈ poss) (hl : ∀ p ∈ poss, p ≠ pos → pos.line ≠ p.line)
    (q : ∀ f m', Upd [P] m m' → LamTab m' P qual poss → m f = none → LamAt m' f qual params body scope (clOf scope.names env.cells) → Q (.ref f) m') : TE X n fe env vars (.Lambda params body scope pos) m Q Ex := fun A s p => by
  obtain ⟨mg, hg, hb⟩ := GL.bu
  have hg' : s.heap.Ns mainGlobals mg := hg.keeps p.rel.hr.base
  have hb' : s.heap.BuiltinsAt mg P := by
    obtain ⟨bm, o, b1, b2, b3, b4, b5, r⟩ := hb
    exact ⟨bm, o, b1, b2, b3, b4, p.rel.hr.base _ _ b5, r⟩
  have hC : CodeHd s.heap c P := by
    obtain ⟨o, vs, file, tf, flags, tg, inF, text, tt, c1, r⟩ := GL.cd
    exact ⟨o, vs, file, tf, flags, tg, inF, text, tt, p.rel.hr.base _ _ c1, r⟩
  have ht0 := ht
  obtain ⟨ps, hP, hT, hps⟩ := ht
  have hPh : s.heap.get? P = some (tabObj ps) := p.rel.hr.obj P _ hP
  subst hq
  refine kla_eval hdef ?_
  rcases hps pos hpos with hnf | ⟨c', oc, vs, t, hf, hcP, hoc, hd, hv⟩
  · refine kla_makeFunction (closureFor_eq hfree) p.env.glob hg' hcode hC hPh hT hnf GL.gP hb' fun c' ctv h' tk ext hc1 hc2 hrec hP' => ?_
    obtain ⟨r1, st1⟩ := p.rel.hr.turnRaw hP (h' := h') (fun b ob hb e => ext b ob hb e) hP'
    obtain ⟨c1, oc, vs, t, e1, e2, e3, e4⟩ := hrec
    cases e1
    have hcn : s.heap.get? c' = none := Heap.get?_none_of_le hc1
    have hcP : c' ≠ P := fun z => by rw [z, hPh] at hcn; cases hcn
    have hc0 : X.h₀.get? c' = none := by
      cases e : X.h₀.get? c' with
      | none => rfl
      | some o => rw [p.rel.hr.base _ _ e] at hcn; cases hcn
    have hcm : m c' = none := by
      cases e : m c' with
      | none => rfl
      | some o => exact absurd (.inl (by rw [e]; simp)) (p.rel.hr.notOwn hcn)
    have hcO : ¬ Own (m.set P (.raw (tabObj (ps ++ #[rawInt pos.line, rawInt pos.col, .ref c'])))) c' := fun z => by
      rcases (own_set_plain (fun _ _ _ z => by cases z) fun _ _ _ z => by rw [hP] at z; cases z).mp z with z | z
      · exact hcP z
      · exact p.rel.hr.notOwn hcn z
    have hm1P : (m.set P (.raw (tabObj (ps ++ #[rawInt pos.line, rawInt pos.col, .ref c'])))) P = some (.raw (tabObj (ps ++ #[rawInt pos.line, rawInt pos.col, .ref c']))) := MH.set_same _ _ _
    have u1 : Upd [P] m (m.set P (.raw (tabObj (ps ++ #[rawInt pos.line, rawInt pos.col, .ref c'])))) := .set
    generalize m.set P (.raw (tabObj (ps ++ #[rawInt pos.line, rawInt pos.col, .ref c']))) = m1 at r1 st1 hcO hm1P u1
    have R1 : Rel X m1 { s with heap := h' } := ⟨r1, p.rel.gens, p.rel.os⟩
    have R2 := R1.raws (Z := [c']) (fun b hb => by rw [List.mem_singleton.mp hb]; exact ⟨hcO, hc0⟩)
    have st2 := step_adopt (Z := [c']) st1 (fun b hb => by rw [List.mem_singleton.mp hb]; exact hcn) (fun b hb => by rw [List.mem_singleton.mp hb]; exact ⟨oc, e2⟩) (fun b hb => by rw [List.mem_singleton.mp hb]; exact hcO)
    have hm2c : rawM [c'] h' m1 c' = some (.raw oc) := by rw [rawM_in (.head _), e2]; rfl
    have hm2P : rawM [c'] h' m1 P = some (.raw (tabObj (ps ++ #[rawInt pos.line, rawInt pos.col, .ref c']))) := by rw [rawM_out (by simpa using Ne.symm hcP)]; exact hm1P
    have u2 : Upd [P] m (rawM [c'] h' m1) := fun x o e hx => by
      rw [rawM_out (by simp; rintro rfl; rw [hcm] at e; cases e)]
      exact u1 x o e hx
    generalize rawM [c'] h' m1 = m2 at R2 st2 hm2c hm2P u2
    have hn : h'.get? h'.objs.size = none := Heap.get?_none_of_le (Nat.le_refl _)
    obtain ⟨r3, st3⟩ := R2.hr.lay (h' := h'.push (kla_obj "<lambda>" (env.qual ++ "<lambda>") params body scope (clOf scope.names env.cells) ((mg "__name__").getD .none) c' ctv)) (a := h'.objs.size) (o := .raw (kla_obj "<lambda>" (env.qual ++ "<lambda>") params body scope (clOf scope.names env.cells) ((mg "__name__").getD .none) c' ctv)) hn (fun b ob e => Heap.get?_push_of_some _ e) (Heap.get?_push_size _ rfl) (fun _ _ _ z => by cases z) rfl
    have hmn : m2 h'.objs.size = none := R2.hr.freshM
    have hfP : h'.objs.size ≠ P := fun z => by rw [z, hm2P] at hmn; cases hmn
    have hfc : h'.objs.size ≠ c' := fun z => by rw [z, hm2c] at hmn; cases hmn
    refine ⟨.ref h'.objs.size, _, .ref _, ⟨r3, p.rel.gens, p.rel.os⟩, st2.trans (st3 _), q _ _ (u2.trans (Upd.new hmn).any) ?_ (u2.none' hmn (by simpa using hfP)) ?_⟩
    · refine ⟨_, by rw [MH.set_other _ _ (Ne.symm hfP)]; exact hm2P, ?_, fun p2 hp2 => ?_⟩
      · rw [Array.toList_append]; exact TriplesOk_snoc _ _ _ _ hT
      · rw [Array.toList_append]
        by_cases ep : p2 = pos
        · subst ep
          exact .inr ⟨c', oc, vs, t, codeAmong_snoc _ hT hnf, hcP, by rw [MH.set_other _ _ (Ne.symm hfc)]; exact hm2c, e3, e4⟩
        · rw [show ((#[rawInt pos.line, rawInt pos.col, .ref c'] : Array Value).toList) = [rawInt pos.line, rawInt pos.col, .ref c'] from rfl, codeAmong_other (hl p2 hp2 ep) _ hT]
          refine (hps p2 hp2).imp id ?_
          rintro ⟨c2, oc2, vs2, t2, z1, z2, z3, z4, z5⟩
          have z3' : m2 c2 = some (.raw oc2) := u2.raw z3 (by simpa using z2)
          exact ⟨c2, oc2, vs2, t2, z1, z2, by rw [MH.set_other _ _ (by rintro rfl; rw [z3'] at hmn; cases hmn)]; exact z3', z4, z5⟩
    · exact ⟨_, _, ctv, c', oc, vs, t, MH.set_same _ _ _, rfl, by rw [MH.set_other _ _ (Ne.symm hfc)]; exact hm2c, e3, e4⟩
  · refine kla_makeFunctionHit (closureFor_eq hfree) p.env.glob hg' hcode hC hPh hT hf hb' fun ctv h' tk hk hsz => ?_
    have hn : h'.get? h'.objs.size = none := Heap.get?_none_of_le (Nat.le_refl _)
    have r1 : HR X m h' := p.rel.hr.keeps hk
    obtain ⟨r2, st2⟩ := r1.lay (h' := h'.push { cls := .type "function", data := .func (kla_fn "<lambda>" (env.qual ++ "<lambda>") params body scope (clOf scope.names env.cells) ((mg "__name__").getD .none) (.ref c') ctv) }) (a := h'.objs.size) (o := .raw { cls := .type "function", data := .func (kla_fn "<lambda>" (env.qual ++ "<lambda>") params body scope (clOf scope.names env.cells) ((mg "__name__").getD .none) (.ref c') ctv) }) hn (fun b ob e => Heap.get?_push_of_some _ e) (Heap.get?_push_size _ rfl) (fun _ _ _ z => by cases z) rfl
    have hmn : m h'.objs.size = none := r1.freshM
    refine ⟨.ref h'.objs.size, _, .ref _, ⟨r2, p.rel.gens, p.rel.os⟩, (StepS.of_keeps hk).trans (st2 _), q _ _ ?_ ?_ hmn ?_⟩
    · exact (Upd.new hmn).any
    · exact LamTab.upd ht0 (Upd.new hmn) (by simp)
    · exact ⟨_, _, ctv, c', oc, vs, t, MH.set_same _ _ _, rfl, by rw [MH.set_other _ _ (by rintro rfl; rw [hoc] at hmn; cases hmn)]; exact hoc, hd, hv⟩
end

/-- behind a call that had the places of Z put out: they are in again -/
noncomputable def After (Z : List Addr) (m m' m2 : MH) : Prop := (∀ b, b ∉ Z → m2 b = m' b) ∧ (∀ b ∈ Z, ∀ o, m b = some (.raw o) → ∃ o', m2 b = some (.raw o') ∧ KeepO o o') ∧ ∀ b ∈ Z, m' b = none
noncomputable abbrev lamEnv (scope : Scope) (qual : Str) (f : Addr) (cd : Value) (clos : List (Str × Addr)) (L : Addr) : Env := newEnv scope L mainGlobals clos (qual ++ ".<locals>.") (some f) cd none builtinsNs
theorem ExcObj.own {h h' : Heap} {m' m2 : MH} {a : Addr} {msg : String} {fl : Fl} (x : ExcObj h m' h' a msg fl) (k : ∀ b, h.get? b = none → Own m2 b → Own m' b) : ExcObj h m2 h' a msg fl := by
  obtain ⟨dx, vs, sl, es, n, t, e1, e2, e3, e4, e5, e6, e7, e8⟩ := x
  refine ⟨dx, vs, sl, es, n, t, e1, e2, e3, e4, e5, fun z => e6 (k _ e1 z), fun z => e7 (k _ e3 z), ?_⟩
  cases fl with
  | new => exact e8
  | «at» v => obtain ⟨T, oT, ts, f1, f2, f3, f4, f5, f6, f7, f8⟩ := e8; exact ⟨T, oT, ts, f1, f2, f3, f4, fun z => f5 (k _ f2 z), f6, f7, f8⟩
section
variable {X : Cx} {n : Nat} {m : MH} {Q : MV → MH → Prop} {Ex : String → MH → Prop}
theorem call_lam (G : Glo X) {f : Addr} {qual : Str} {params : Arguments} {body : PySem.Expr} {scope : Scope} {clos : List (Str × Addr)} {vars : Vars} (hm : LamAt m f qual params body scope clos) (fl : (scope.isCoroutine, scope.isGenerator, scope.kind) = (false, false, .function)) (hcell : ∀ x ∈ scope.names, x.2 ≠ .cell)
    (hbind : ∀ pm cv ctv, bindArgs (kla_fn "<lambda>" qual params body scope clos pm cv ctv) ⟨[], []⟩ = pure []) (hap : clos.Pairwise fun x y => x.2 ≠ y.2)
    (hz : ∀ p ∈ clos, ∃ o v, m p.2 = some (.raw o) ∧ o.data = .cell v) (hv : ∀ x v, vars.lookup x = some v → scope.names.lookup (S x) = some .free ∧ ∃ c o rv, clos.lookup (S x) = some c ∧ m c = some (.raw o) ∧ o.data = .cell (some rv) ∧ VR v rv)
    (h : ∀ cd L, TE X n (lamEnv scope qual f cd clos L) (lamEnv scope qual f cd clos L) vars body (maskM (clos.map (·.2)) m) (fun v m' => ∀ m2, After (clos.map (·.2)) m m' m2 → Q v m2) (fun msg m' => ∀ m2, After (clos.map (·.2)) m m' m2 → Ex msg m2)) : CallOk X (n + 1) (.ref f) [] m Q Ex := by
  intro A s vals hroom hfr hrel hvv
  cases hvv
  obtain ⟨outer, hA, hl⟩ := hfr
  obtain ⟨fo, pm, ctv, c', oc, vs, t, hf, hfd, hc, hd, hvs⟩ := hm
  simp only [Prod.mk.injEq] at fl
  refine kla_callFunE hroom.lt (hrel.hr.obj f _ hf) hfd fl.1 fl.2.1 rfl ⟨c', oc, vs, t, rfl, hrel.hr.obj c' _ hc, hd, hvs⟩ ?_
  rw [hbind]
  refine wpAny_pure (wpAny_newFunctionEnv hcell (fun x hx => by cases hx) (fun h₁ hns hsb => ⟨(G.noLimit hrel.hr).fresh _ hsb, ?_⟩) fl.2.2)
  generalize hZ : clos.map (·.2) = Z at h
  generalize hcdv : (Value.ref c') = cd
  show codeAny (md X) A (.expr body (lamEnv scope qual f cd clos s.heap.objs.size)) (CallEnd X m s.heap Q Ex) _
  have hraw : ∀ b ∈ Z, ∃ o, m b = some (.raw o) := fun b hb => by
    rw [← hZ] at hb
    obtain ⟨p, hp, rfl⟩ := List.mem_map.mp hb
    obtain ⟨o, v, e, _⟩ := hz p hp
    exact ⟨o, e⟩
  have hinZ : ∀ nm c, clos.lookup nm = some c → c ∈ Z := fun nm c e => by rw [← hZ]; exact List.mem_map.mpr ⟨_, mem_of_lookup e, rfl⟩
  have hLn : s.heap.get? s.heap.objs.size = none := Heap.get?_none_of_le (Nat.le_refl _)
  have hk₁ : ∀ b o, s.heap.get? b = some o → h₁.get? b = some o := fun b o e => hsb.extBut b o (Nat.ne_of_lt (Heap.lt_size e)) (Heap.get?_push_of_some _ e)
  have back : ∀ {b}, h₁.get? b = none → s.heap.get? b = none := fun {b} e => by
    cases q : s.heap.get? b with
    | none => rfl
    | some o => have := hk₁ b o q; rw [e] at this; cases this
  have hLO := hrel.hr.notOwn hLn
  have hLB := hrel.hr.freshB
  generalize s.heap.objs.size = L at hns hsb hLn hLO hLB ⊢
  have hs₁ : Rel X m { s with heap := h₁, toks := s.toks + ([] : List (Str × Value)).length } := hrel.keeps hk₁
  have hrm := hs₁.mask (Z := Z)
  have hLl : ∀ b ∈ Z, b ≠ L := fun b hb z => by
    obtain ⟨o, e⟩ := hraw b hb
    have := hrel.hr.obj b _ e
    rw [z] at this
    have this : s.heap.get? L = some o := this
    rw [hLn] at this; cases this
  have hnoZ : ∀ b ∈ Z, ¬ Own (maskM Z m) b := fun b hb q => by
    obtain ⟨o, e⟩ := hraw b hb
    rcases q with q | ⟨a, c, as, q⟩
    · exact q (maskM_in hb)
    · have := (hrel.hr.dict a c b as (maskM_some q).2).1
      rw [e] at this; cases this
  have ev : EnvOk X (lamEnv scope qual f cd clos L) vars (maskM Z m) h₁ := by
    refine ⟨fl.2.2, rfl, rfl, ⟨_, hns, fun x v e hk => ?_⟩, fun x v e => ?_, fun nm c e => ?_, hap, fun nm c e => hLl c (hinZ nm c e), fun b hb => ?_, fun b hb => ?_⟩
    · have : scope.names.lookup (S x) = some .local := hk
      rw [(hv x v e).1] at this; cases this
    · obtain ⟨k, c, o, rv, e1, e2, e3, e4⟩ := hv x v e
      exact .inr ⟨.inr k, c, rv, e1, ⟨o, hs₁.hr.obj c _ e2, e3⟩, e4⟩
    · obtain ⟨o, v, e1, e2⟩ := hz _ (mem_of_lookup e)
      exact ⟨v, o, hs₁.hr.obj c _ e1, e2⟩
    · rcases hb with rfl | ⟨nm, e⟩
      · exact fun z => hLO z.ofMask
      · exact hnoZ b (hinZ nm b e)
    · rcases hb with rfl | ⟨nm, e⟩
      · exact hLB
      · obtain ⟨o, e1⟩ := hraw b (hinZ nm b e)
        exact hrel.hr.free b _ e1 rfl
  have hfr1 : Frames X (maskM Z m) h₁ (lamEnv scope qual f cd clos L :: outer) := by
    have hl' := hl.step (S := fun _ => False) (StepS.of_keeps hk₁) fun _ z => z.elim
    refine ⟨⟨by show scope.kind ≠ _; rw [fl.2.2]; decide, ?_, hl'.1⟩, fun b hb => ?_⟩
    · obtain ⟨oL, es, ep, hoL, hdL, _⟩ := hns
      exact ⟨L, oL, rfl, ev.base _ (.inl rfl), hoL, fun vs q => by rw [hdL] at q; cases q⟩
    · rcases List.mem_cons.mp hb with e | hb
      · rw [e]; exact ev.own _ (.inl rfl)
      · exact fun z => hl.2 b hb z.ofMask
  have pre : Pre X n (A.deeper (lamEnv scope qual f cd clos L)) (lamEnv scope qual f cd clos L) (lamEnv scope qual f cd clos L) vars (maskM Z m) { s with heap := h₁, toks := s.toks + ([] : List (Str × Value)).length } :=
    ⟨⟨by have := hroom.depth; show A.depth + 1 + n ≤ _; lia, by have := hroom.units; show A.units + 3 + 8 * n ≤ _; lia, hroom.handled, hroom.guards⟩,
      ⟨outer, by show A.frames.map _ = _; rw [hA]; rfl, hfr1⟩, hrm, ev, fun outer' hA' nm c e hc => by
        have e1 : outer' = outer := by
          have : (A.deeper (lamEnv scope qual f cd clos L)).frames = some ((lamEnv scope qual f cd clos L) :: outer) := by show A.frames.map _ = _; rw [hA]; rfl
          rw [this] at hA'; cases hA'; rfl
        subst e1
        obtain ⟨o, e'⟩ := hraw c (hinZ nm c e)
        exact hl.2 c hc (.inl (by rw [e']; simp))⟩
  -- what was put out is put in again
  have again : ∀ {m' : MH} {s' : Shared}, Rel X m' s' → Step (maskM Z m) h₁ m' s'.heap → Rel X (rawM Z s'.heap m') s' ∧ Step m s.heap (rawM Z s'.heap m') s'.heap ∧ After Z m m' (rawM Z s'.heap m') ∧ ∀ b, h₁.get? b = none → Own (rawM Z s'.heap m') b → Own m' b := by
    intro m' s' r st
    obtain ⟨st2, hno⟩ := step_minus hraw st hs₁.hr
    refine ⟨r.raws fun b hb => ⟨hno b hb, ?_⟩, (StepS.of_keeps hk₁).trans st2, ⟨fun b hb => rawM_out hb, fun b hb o e => ?_, fun b hb => ?_⟩, fun b e z => ?_⟩
    · obtain ⟨o, e1⟩ := hraw b hb
      exact hrel.hr.free b _ e1 rfl
    · rcases st.stay b o (hs₁.hr.obj b _ e) with q | ⟨_, o', e', k⟩
      · exact absurd q (hnoZ b hb)
      · exact ⟨o', by rw [rawM_in hb, e']; rfl, k.resolve_left fun z => z⟩
    · cases e : m' b with
      | none => rfl
      | some o => exact absurd (.inl (by rw [e]; simp)) (hno b hb)
    · refine z.raw.resolve_left fun hb => ?_
      obtain ⟨o, e1⟩ := hraw b hb
      have := hs₁.hr.obj b _ e1
      have this : h₁.get? b = some o := this
      rw [e] at this; cases this
  refine kla_codeExpr (wpAny_mono (h cd L _ _ pre) (fun rv s' hp => ?_) fun e s' hp => ?_)
  · obtain ⟨v, m', r, hr', hst, q⟩ := hp
    obtain ⟨r2, st2, af, _⟩ := again hr' hst
    exact ⟨v, _, r, r2, st2, q _ af⟩
  · obtain ⟨msg, m', hx, hr', hst, q⟩ := hp
    have pre' := pre.step hr' hst
    obtain ⟨outer', hA', hl'⟩ := pre'.frames
    have hlive : ∀ b, s'.heap.get? b = none → h₁.get? b = none := fun b e => hst.fresh hr'.hr e
    have hb' : ∀ b o, X.h₀.get? b = some o → h₁.get? b ≠ none := fun b o e => by have := hs₁.hr.base b o e; have this : h₁.get? b = some o := this; rw [this]; simp
    have hfh : ∀ b ∈ ((lamEnv scope qual f cd clos L) :: outer').filterMap (·.frame), h₁.get? b ≠ none := fun b hb => by
      have e1 : outer' = outer := by
        have : (A.deeper (lamEnv scope qual f cd clos L)).frames = some ((lamEnv scope qual f cd clos L) :: outer) := by show A.frames.map _ = _; rw [hA]; rfl
        rw [this] at hA'; cases hA'; rfl
      subst e1
      obtain ⟨_, o, e, _⟩ := hfr1.1.mem hb
      rw [e]; simp
    refine leave_any hA' rfl hl' hr' hfh hlive hb' hx fun h' b he hx' kx => ?_
    subst he
    have r3 : Rel X m' { s' with heap := h', toks := s'.toks } := kx.rel (t := s'.toks) hr' hb' (frs_base hl') hl'.2
    have st3 : Step (maskM Z m) h₁ m' h' := KeepX.step (frs := ((lamEnv scope qual f cd clos L) :: outer').filterMap (·.frame)) (fun b hb => (hl'.1.mem hb).2) hst kx
    obtain ⟨r4, st4, af, ho⟩ := again (s' := { s' with heap := h', toks := s'.toks }) r3 st3
    exact ⟨msg, _, .fly ((hx'.own ho).back fun _ => back), r4, st4, q _ af⟩
end

structure LamOk (env : Env) (scope : Scope) (capt : List String) : Prop where
  fl : (scope.isCoroutine, scope.isGenerator, scope.kind) = (false, false, .function)
  nodup : (scope.names.map (·.1)).Nodup
  noCell : ∀ p ∈ scope.names, p.2 ≠ .cell
  free : ∀ p ∈ scope.names, p.2 = .free → (env.cells.lookup p.1).isSome = true
  capt : ∀ y ∈ capt, scope.names.lookup (S y) = some .free ∧ env.kindOf (S y) = some .cell
noncomputable def lamOkB (env : Env) (scope : Scope) (capt : List String) : Bool :=
  !scope.isCoroutine && !scope.isGenerator && scope.kind == .function && decide (scope.names.map (·.1)).Nodup && scope.names.all (fun p => p.2 != .cell) && scope.names.all (fun p => p.2 != .free || (env.cells.lookup p.1).isSome) &&
    capt.all fun y => scope.names.lookup (S y) == some .free && env.kindOf (S y) == some .cell
theorem lamOk_of {env : Env} {scope : Scope} {capt : List String} (h : lamOkB env scope capt = true) : LamOk env scope capt := by
  unfold lamOkB at h
  simp only [Bool.and_eq_true, decide_eq_true_eq, beq_iff_eq, List.all_eq_true, bne_iff_ne, Bool.or_eq_true, Bool.not_eq_true'] at h
  obtain ⟨⟨⟨⟨⟨⟨h0, h0'⟩, h1⟩, h2⟩, h3⟩, h4⟩, h6⟩ := h
  exact ⟨by rw [h0, h0', h1], h2, h3, fun p hp hf => (h4 p hp).resolve_left fun z => z hf, h6⟩
theorem maskM_rawM {Z : List Addr} {m : MH} {h : Heap} (hz : ∀ b ∈ Z, m b = none) : maskM Z (rawM Z h m) = m := by
  funext b
  by_cases hb : b ∈ Z
  · rw [maskM_in hb, hz b hb]
  · rw [maskM_out hb, rawM_out hb]
section
variable {X : Cx} {n : Nat} {fe env : Env} {vars : Vars} {m : MH} {Q : MV → MH → Prop} {Ex : String → MH → Prop}
theorem te_kept (G : Glo X) {P c : Addr} (GL : GloL X P c) {params : Arguments} {body : PySem.Expr} {scope : Scope} {pos posc p' : Pos} {qual : Str} {poss : List Pos} {capt : List String} (ok : LamOk env scope capt)
    (hdef : defaultsOf params env = ([], [])) (hcode : env.code = .ref c) (hq : env.qual ++ "<lambda>" = qual) (ht : LamTab m P qual poss) (hpos : pos ∈ poss) (hl : ∀ p ∈ poss, p ≠ pos → pos.line ≠ p.line)
    (hbind : ∀ pm cv ctv, bindArgs (kla_fn "<lambda>" qual params body scope (clOf scope.names env.cells) pm cv ctv) ⟨[], []⟩ = pure [])
    (hk : env.kindOf (S "_law_kept") = some .globalImplicit) (hfe : fe.frame = some env.locals)
    (h : ∀ f m₁, Upd [P] m m₁ → LamTab m₁ P qual poss → ∀ cd L, TE X n (lamEnv scope qual f cd (clOf scope.names env.cells) L) (lamEnv scope qual f cd (clOf scope.names env.cells) L) (captv vars capt) body m₁ (fun v m' => Q v m') (fun msg m' => Q (.str msg) m')) :
    TE X (n + 2) fe env vars (.Call (.Name (S "_law_kept") p') [.Lambda params body scope pos] [] posc) m Q Ex := fun A s p => by
  have hlam : TEs X (n + 2) fe env vars posc [.Lambda params body scope pos] m (fun vs m₁ => ∃ f, vs = [.ref f] ∧ Upd [P] m m₁ ∧ LamTab m₁ P qual poss ∧ LamAt m₁ f qual params body scope (clOf scope.names env.cells)) Ex :=
    tes_cons rfl (te_lambda G GL hdef hcode ok.free hq ht hpos hl fun f m' u t hn la => tes_nil ⟨f, rfl, u, t, la⟩)
  refine wpAny_Call_NameR (Name_function_global p.env.kind hk (load_global G p (x := "_law_kept") (v := .ref v__law_kept) rfl ?_) (okName.debug (by decide +kernel)))
  refine callWith_K (h₀ := s.heap) (G.KK p.rel.hr) (by kernel_rfl) (hlam.go p (.refl ..) fun vs m₁ rvs s₁ r p₁ st q => ⟨G.KK p₁.rel.hr, ?_⟩) rfl rfl
  obtain ⟨f, rfl, u, t1, la⟩ := q
  show wpAny _ _ (call _ rvs []) _ _ _
  obtain ⟨outer, hA, hfr⟩ := p₁.frames
  generalize hcl : clOf scope.names env.cells = clos at h hbind la
  generalize hZ : clos.map (·.2) = Z
  have hmem : ∀ q ∈ clos, env.cells.lookup q.1 = some q.2 := fun q hq => by
    rw [← hcl] at hq
    exact (clOf_mem ok.free hq).1
  have hZc : ∀ b ∈ Z, ∃ nm, env.cells.lookup nm = some b := fun b hb => by
    rw [← hZ] at hb
    obtain ⟨q, hq, rfl⟩ := List.mem_map.mp hb
    exact ⟨_, hmem q hq⟩
  have hzO : ∀ b ∈ Z, ¬ Own m₁ b ∧ X.h₀.get? b = none := fun b hb => by
    obtain ⟨nm, e⟩ := hZc b hb
    exact ⟨p₁.env.own b (.inr ⟨nm, e⟩), p₁.env.base b (.inr ⟨nm, e⟩)⟩
  have hzn : ∀ b ∈ Z, m₁ b = none := fun b hb => by
    cases e : m₁ b with
    | none => rfl
    | some o => exact absurd (.inl (by rw [e]; simp)) (hzO b hb).1
  have hlive : ∀ b ∈ Z, ∃ o, s₁.heap.get? b = some o := fun b hb => by
    obtain ⟨nm, e⟩ := hZc b hb
    obtain ⟨v, q⟩ := p₁.env.live nm b e
    exact cell_live q
  have rel := p₁.rel.raws hzO
  have frs : Frames X (rawM Z s₁.heap m₁) s₁.heap (fe :: outer) := by
    refine ⟨hfr.1, fun b hb z => ?_⟩
    rcases z.raw with hbz | z
    · obtain ⟨nm, e⟩ := hZc b hbz
      rw [List.filterMap_cons, hfe] at hb
      rcases List.mem_cons.mp hb with rfl | hb
      · exact p₁.env.off nm _ e rfl
      · exact p₁.apart outer hA nm b e hb
    · exact hfr.2 b hb z
  have out : ∀ {b : Addr}, m₁ b ≠ none → b ∉ Z := fun hb hz => hb (hzn _ hz)
  obtain ⟨fo, pm, ctv, c', oc, vs, tq, hf, hfd, hc, hd, hvs⟩ := la
  have hf2 : rawM Z s₁.heap m₁ f = some (.raw fo) := by rw [rawM_out (out (by rw [hf]; simp))]; exact hf
  have la2 : LamAt (rawM Z s₁.heap m₁) f qual params body scope clos := ⟨fo, pm, ctv, c', oc, vs, tq, hf2, hfd, by rw [rawM_out (out (by rw [hc]; simp))]; exact hc, hd, hvs⟩
  have hcall : CallOk X (n + 1) (.ref f) [] (rawM Z s₁.heap m₁) (fun v m2 => (∀ b ∈ Z, ∀ o, s₁.heap.get? b = some o → ∃ o', m2 b = some (.raw o') ∧ KeepO o o') ∧ Q v (maskM Z m2)) (fun msg m2 => (∀ b ∈ Z, ∀ o, s₁.heap.get? b = some o → ∃ o', m2 b = some (.raw o') ∧ KeepO o o') ∧ Q (.str msg) (maskM Z m2)) := by
    have fin : ∀ {v m' m2}, Q v m' → After Z (rawM Z s₁.heap m₁) m' m2 → (∀ b ∈ Z, ∀ o, s₁.heap.get? b = some o → ∃ o', m2 b = some (.raw o') ∧ KeepO o o') ∧ Q v (maskM Z m2) := fun {v m' m2} q af => by
      obtain ⟨a1, a2, a3⟩ := af
      refine ⟨fun b hb o e => a2 b hb o (by rw [rawM_in hb, e]; rfl), ?_⟩
      have : maskM Z m2 = m' := by
        funext b
        by_cases hb : b ∈ Z
        · rw [maskM_in hb, a3 b hb]
        · rw [maskM_out hb, a1 b hb]
      rw [this]; exact q
    refine call_lam (vars := captv vars capt) G la2 ok.fl ok.noCell hbind (by rw [← hcl]; exact clOf_apart ok.free ok.nodup p₁.env.apart) (fun q hq => ?_) (fun x v e => ?_) fun cd L => ?_
    · obtain ⟨v, o, ho, hd⟩ := p₁.env.live _ _ (hmem q hq)
      exact ⟨o, v, by rw [rawM_in (by rw [← hZ]; exact List.mem_map.mpr ⟨q, hq, rfl⟩), ho]; rfl, hd⟩
    · obtain ⟨hc1, hc2⟩ := captv_lookup e
      obtain ⟨k1, k2⟩ := ok.capt x hc1
      rcases p₁.env.cell x v hc2 with z | ⟨_, cc, rv, e1, ⟨o, e2, e3⟩, e4⟩
      · rw [k2] at z; cases z
      · have := clOf_lookup k1 e1
        rw [hcl] at this
        refine ⟨k1, cc, o, rv, this, ?_, e3, e4⟩
        rw [rawM_in (by rw [← hZ]; exact List.mem_map.mpr ⟨_, mem_of_lookup this, rfl⟩), e2]; rfl
    · rw [hZ, maskM_rawM hzn]
      exact (h f m₁ u t1 cd L).mono (fun v m' q m2 af => fin q af) fun msg m' q m2 af => fin q af
  have hkept := c_law_kept G hf2 hfd hcall
  refine wpAny_call (codeAny_mono (hkept A s₁ _ p₁.room ⟨_, hA, frs⟩ rel r) fun r s' x => ?_)
  have fin : ∀ {v rv m2}, VR v rv → Rel X m2 s' → Step (rawM Z s₁.heap m₁) s₁.heap m2 s'.heap → (∀ b ∈ Z, ∀ o, s₁.heap.get? b = some o → ∃ o', m2 b = some (.raw o') ∧ KeepO o o') → Q v (maskM Z m2) → TP X VR m s.heap Q rv s' := fun {v rv m2} x1 x2 x3 x4 x5 =>
    ⟨v, maskM Z m2, x1, x2.mask, st.trans (step_plus (fun b hb => (hzO b hb).1) x3 x2.hr hlive x4), x5⟩
  cases r with
  | ok fl => cases fl with
    | ret rv =>
      obtain ⟨v, m2, x1, x2, x3, x4⟩ := x
      rcases x4 with x4 | ⟨msg, rfl, x4⟩
      · exact fin x1 x2 x3 x4.1 x4.2
      · exact fin x1 x2 x3 x4.1 x4.2
    | _ => exact x.elim
  | error e =>
    obtain ⟨msg, m', x1, x2, x3, x4⟩ := x
    exact x4.elim
end

theorem f_law (P : Params) : Fn P 796 (fScope (st 120)) (S "law") (.ref 795) ["script"] [] (fBody (st 120)) where
  obj := ⟨o796 P, _, by kernel_rfl, rfl, rfl, rfl, rfl, rfl, rfl, rfl, rfl, [], .nil, fun M h vals K hl => by
    obtain ⟨a, rfl⟩ := vals1 hl rfl
    exact Looks.of_peek K (by kernel_rfl)⟩
  code := ⟨795, o795 P, _, 1267, rfl, by kernel_rfl, rfl, by kernel_rfl⟩
  flags := by kernel_rfl
  kinds := kinds_of (by kernel_rfl)
  nodup := by decide +kernel
noncomputable abbrev e_law (L : Addr) : Env := fnEnv (fScope (st 120)) (S "law") 796 (.ref 795) L
noncomputable abbrev tP : Addr := 793
noncomputable def lamQ : Str := S "law.<locals>.<lambda>"
noncomputable def lamPs : List Pos := [⟨881, 25, 881, 55⟩, ⟨889, 25, 889, 70⟩]
noncomputable def loopOf : Stmt → List Stmt | .For (body := b) .. => b | _ => []
noncomputable def lawLoop : List Stmt := loopOf (nth (fBody (st 120)) 4)
noncomputable def FX (r : Addr) (b : Addr) : Prop := b ≠ r ∧ b ≠ tP
structure LawAt (m : MH) (r x : Addr) (bv : MV) (ts : List T) (nm : Option (List String)) : Prop where
  row : RowAt m r
  v : IsT (FX r) 10 m 4 (.list ts nm) (.ref x)
  bef : IsL (FX r) 10 m 4 (.list ts nm) bv
  tab : LamTab m tP lamQ lamPs
theorem FX.out {r b : Addr} {B : List Addr} (hB : ∀ b ∈ B, b = r ∨ b = tP) (h : FX r b) : b ∉ B := fun z => (hB b z).elim h.1 h.2
section
variable {m m' : MH} {r x : Addr} {bv : MV} {ts : List T} {nm : Option (List String)}
theorem LawAt.step {B : List Addr} (h : LawAt m r x bv ts nm) (u : Upd B m m') (hB : ∀ b ∈ B, b = r ∨ b = tP) (hr : RowAt m' r) (ht : LamTab m' tP lamQ lamPs) : LawAt m' r x bv ts nm :=
  ⟨hr, IsT.upd u (fun b hb => hb.out hB) h.v, IsL.upd u (fun b hb => hb.out hB) h.bef, ht⟩
theorem LawAt.upd0 (h : LawAt m r x bv ts nm) (u : Upd [] m m') : LawAt m' r x bv ts nm :=
  h.step u (fun _ z => by cases z) (h.row.upd u) (h.tab.upd u fun _ z => by cases z)
theorem RowAt.noRaw (h : RowAt m r) : ∀ b ∈ [r], ∀ o, m b ≠ some (.raw o) := fun b hb o z => by
  rw [List.mem_singleton.mp hb] at z
  obtain ⟨xs, e, _⟩ := h
  rw [e] at z; cases z
theorem LawAt.updR (h : LawAt m r x bv ts nm) (u : Upd [r] m m') (hr : RowAt m' r) : LawAt m' r x bv ts nm :=
  h.step u (fun _ z => .inl (List.mem_singleton.mp z)) hr (h.tab.upd u h.row.noRaw)
theorem LawAt.rP (h : LawAt m r x bv ts nm) : r ≠ tP := fun z => by
  obtain ⟨xs, e, _⟩ := h.row
  obtain ⟨ps, e', _⟩ := h.tab
  rw [z, e'] at e; cases e
theorem LawAt.updP (h : LawAt m r x bv ts nm) (u : Upd [tP] m m') (ht : LamTab m' tP lamQ lamPs) : LawAt m' r x bv ts nm :=
  h.step u (fun _ z => .inr (List.mem_singleton.mp z)) (h.row.upd u (by simpa using h.rP)) ht
end
section
variable {X : Cx} {n : Nat} {m : MH} {L : Addr} {vars : Vars} {QS : SRes → Vars → MH → Prop}
inductive KeysF (m : MH) (r x : Addr) (ks : List Key) : Prop
  | mk (kd : String) (l : Addr) (a : MV) (h0 : kd = "integer" ∨ kd = "character") (h1 : VecAt m x kd (.ref l) a) (h2 : m l = some (.list (ks.map keyV))) (h3 : ∀ k ∈ ks, keyIn kd k) (h4 : l ≠ r)
theorem KeysF.keys {m : MH} {r x : Addr} {ks : List Key} (h : KeysF m r x ks) : KeysAt m x ks := by
  obtain ⟨kd, l, a, h0, h1, h2, h3, _⟩ := h
  exact ⟨kd, l, a, h0, h1, h2, h3⟩
theorem KeysF.step {m m' : MH} {r x : Addr} {ks : List Key} {B : List Addr} (h : KeysF m r x ks) (u : Upd B m m') (hB : ∀ b ∈ B, (b = r ∧ RowAt m r) ∨ ∃ o, m b = some (.raw o)) : KeysF m' r x ks := by
  obtain ⟨kd, l, a, h0, h1, h2, h3, h4⟩ := h
  refine ⟨kd, l, a, h0, u.vec h1 fun z => ?_, u.list h2 fun z => ?_, h3, h4⟩
  · obtain ⟨_, _, e⟩ := h1
    rcases hB _ z with ⟨rfl, xs, e', _⟩ | ⟨o, e'⟩ <;> (rw [e] at e'; cases e')
  · rcases hB _ z with ⟨e, _⟩ | ⟨o, e'⟩
    · exact h4 e
    · rw [h2] at e'; cases e'
theorem KeysF.upd {m m' : MH} {r x : Addr} {ks : List Key} (u : Upd [] m m') (h : KeysF m r x ks) : KeysF m' r x ks := h.step u fun _ z => by cases z
theorem KeysF.updP {m m' : MH} {r x P : Addr} {ks : List Key} {o : Obj} (u : Upd [P] m m') (hP : m P = some (.raw o)) (h : KeysF m r x ks) : KeysF m' r x ks := h.step u fun b hb => .inr ⟨o, by rw [List.mem_singleton.mp hb]; exact hP⟩
theorem KeysF.updR {m m' : MH} {r x : Addr} {ks : List Key} (u : Upd [r] m m') (hr : RowAt m r) (h : KeysF m r x ks) : KeysF m' r x ks := h.step u fun b hb => .inl ⟨List.mem_singleton.mp hb, hr⟩
theorem captv_get {V : Vars} {y : String} {v : MV} (h : V.lookup y = some v) {capt : List String} (hm : y ∈ capt) : (captv V capt).lookup y = some v := by
  induction capt with
  | nil => cases hm
  | cons z capt ih =>
    unfold captv
    rw [List.filterMap_cons]
    by_cases e : y = z
    · subst e; rw [h]; simp
    · have hm' := (List.mem_cons.mp hm).resolve_left e
      have e' : (y == z) = false := beq_eq_false_iff_ne.mpr e
      cases q : V.lookup z with
      | none => exact ih hm'
      | some u => simp only [Option.map_some, List.lookup_cons, e']; exact ih hm'
theorem captv_get1 {V : Vars} {y : String} {v : MV} {p : String × MV} {capt : List String} (h : V.lookup y = some v) (hp : (y == p.1) = false) (hm : y ∈ capt) : (p :: captv V capt).lookup y = some v := by
  obtain ⟨a, b⟩ := p
  rw [List.lookup_cons, hp]
  exact captv_get h hm
theorem keys_of {kd : String} {ys : List MV} (h : ∀ (i : Nat) u, ys[i]? = some u → ∃ k, u = keyV k ∧ keyIn kd k ∧ KeyB 10 k) : ∃ ks : List Key, ys = ks.map keyV ∧ (∀ k ∈ ks, keyIn kd k) ∧ ∀ k ∈ ks, KeyB 10 k := by
  induction ys with
  | nil => exact ⟨[], rfl, (fun _ z => by cases z), fun _ z => by cases z⟩
  | cons y r ih =>
    obtain ⟨k, rfl, h1, h2⟩ := h 0 y rfl
    obtain ⟨ks, rfl, h3, h4⟩ := ih fun i u e => h (i + 1) u (by first | exact ni1 e | simpa using e)
    exact ⟨k :: ks, rfl, fun a ha => (List.mem_cons.mp ha).elim (fun e => e ▸ h1) (h3 a), fun a ha => (List.mem_cons.mp ha).elim (fun e => e ▸ h2) (h4 a)⟩
theorem law_A (G : Glo X) {r x : Addr} {bv : MV} {ts : List T} {nm : Option (List String)} (h : LawAt m r x bv ts nm) (g1 : vars.lookup "row" = some (.ref r)) (g2 : vars.lookup "v" = some (.ref x)) (g3 : vars.lookup "before" = some bv)
    (next : ∀ vars' m' ix ks, LawAt m' r x bv ts nm → vars'.lookup "row" = some (.ref r) → vars'.lookup "v" = some (.ref x) → vars'.lookup "before" = some bv → vars'.lookup "ix" = some (.ref ix) → KeysF m' r ix ks → ks ≠ [] → ks.length ≤ 4 → (∀ k ∈ ks, KeyB 10 k) → TS X (n + 40) (e_law L) (e_law L) vars' (execs (lawLoop.drop 2) (e_law L)) m' QS FE) :
    TS X (n + 40) (e_law L) (e_law L) vars (execs lawLoop (e_law L)) m QS FE := by
  walk_at "w"
  refine (c_law_next G h.row).u12 (by lia) (fun _ _ z => z) fun i m1 hrow1 u1 => ?_
  have h1 := h.updR u1 hrow1
  walk_at "w"
  refine bin_mod (by decide) ?_
  obtain ⟨f1, f2⟩ := fmod_at i (k := 4) (by decide)
  generalize i.fmod 4 = j at f1 f2 ⊢
  obtain ⟨k, rfl⟩ : ∃ k : Nat, j = k := Int.eq_ofNat_of_zero_le f1
  walk_at "w"
  refine (c_law_next G hrow1).u12 (by lia) (fun _ _ z => z) fun i2 m2 hrow2 u2 => ?_
  have h2 := h1.updR u2 hrow2
  have hrn := hrow2.ne
  walk_at "w"
  refine bin_mod (by decide) ?_
  have e4 : ((1 : Int) + (k : Int)) = ((k + 1 : Nat) : Int) := by lia
  rw [e4]
  have hk4 : k + 1 ≤ 4 := by lia
  have hk0 : 0 < k + 1 := by lia
  generalize k + 1 = many at hk4 hk0 e4 ⊢
  walk_at "w"
  by_cases q1 : i2.fmod 2 = 1
  · have hh : (i2.fmod 2 == 1) = true := beq_iff_eq.mpr q1
    walk_at "t"
    refine ts_consK fun K3 hK3 => ?_
    refine ts_assign (.inr ⟨by kernel_rfl, by kernel_rfl⟩) rfl ?_
    walk_at "w"
    refine te_comp (capt := ["row"]) (compOk_of (by kernel_rfl)) G (fun _ => rfl) (compJ r (fun D i u m' => ∃ k, u = keyV k ∧ keyIn "character" k ∧ KeyB 10 k) (fun _ _ _ _ _ _ z => z) (ti_range1 G (by kernel_rfl) rfl ?_))
    walk_at "w"
    refine ⟨by lia, by lia, by simp; lia, hrow2, (fun _ _ => trivial), fun D i m' C hi hD hD' u hrow' => ?_, fun D ys m' hD u hrow' hD' hyl hR => ?_⟩
    · clear hK3
      have hc : List.lookup "row" (("round_nth", MV.int i) :: captv (setv vars "many" (.int many)) ["row"]) = some (.ref r) := captv_get1 (by walk_at "lk") rfl (.head _)
      walk_at "w"
      refine lenU rfl (fun b m3 u3 hb hb3 => ?_)
      have hbr : b ≠ r := by rintro rfl; exact hrow'.ne hb
      walk_at "w"
      refine (c_law_next G (hrow'.upd u3)).u12 (by lia) (fun _ _ z => z) fun i4 m4 hrow4 u4 => ?_
      walk_at "w"
      refine bin_mod (by decide) ?_
      obtain ⟨f3, f4⟩ := fmod_at i4 (k := 3) (by decide)
      generalize i4.fmod 3 = j at f3 f4 ⊢
      obtain ⟨k, rfl⟩ : ∃ k : Nat, j = k := Int.eq_ofNat_of_zero_le f3
      have hs : ∃ s, [MV.str "a", .str "b", .str "z"][k]? = some (.str s) := by
        have := lt3 f4
        rcases this with rfl | rfl | rfl <;> exact ⟨_, rfl⟩
      obtain ⟨s, hs⟩ := hs
      refine ⟨_, getM_list' (u4.list hb3 (by first | exact ni1 hbr | simpa using hbr)) (by lia) (by lia) (by first | exact ni1 hs | simpa using hs), ?_⟩
      exact ⟨u3.any.trans u4, hrow4, .str s, rfl, rfl, trivial⟩
    · walk_at "w"
      refine (c_Vector1 G _ _).u13 (by lia) (fun _ _ z => z) fun y m4 hy hyv u4 => ?_
      obtain ⟨ks, rfl, hk1, hk2⟩ := keys_of hR
      have hkl : ks.length = many := by simpa using hyl
      walk_at "k"
      refine ts_nil ?_
      walk_at "k"
      refine next _ _ y ks ((h2.updR u hrow').upd0 u4) ?_ ?_ ?_ ?_ ⟨_, D, _, .inr rfl, hyv, u4.list hD', hk1, (by rintro rfl; exact hrn hD)⟩ ?_ ?_ hk2
      · walk_at "lk"
      · walk_at "lk"
      · walk_at "lk"
      · walk_at "lk"
      · rintro rfl; simp at hkl; lia
      · lia
  · have hh : (i2.fmod 2 == 1) = false := beq_eq_false_iff_ne.mpr q1
    walk_at "f"
    refine ts_consK fun K3 hK3 => ?_
    refine ts_assign (.inr ⟨by kernel_rfl, by kernel_rfl⟩) rfl ?_
    walk_at "w"
    refine te_comp (capt := ["row"]) (compOk_of (by kernel_rfl)) G (fun _ => rfl) (compJ r (fun D i u m' => ∃ k, u = keyV k ∧ keyIn "integer" k ∧ KeyB 10 k) (fun _ _ _ _ _ _ z => z) (ti_range1 G (by kernel_rfl) rfl ?_))
    walk_at "w"
    refine ⟨by lia, by lia, by simp; lia, hrow2, (fun _ _ => trivial), fun D i m' C hi hD hD' u hrow' => ?_, fun D ys m' hD u hrow' hD' hyl hR => ?_⟩
    · clear hK3
      have hc : List.lookup "row" (("round_nth", MV.int i) :: captv (setv vars "many" (.int many)) ["row"]) = some (.ref r) := captv_get1 (by walk_at "lk") rfl (.head _)
      walk_at "w"
      refine (c_law_next G hrow').u12 (by lia) (fun _ _ z => z) fun i4 m4 hrow4 u4 => ?_
      have fin : ∀ b : Int, 0 < b → b ≤ 5 → ∃ k, MV.int (1 + i4.fmod b) = keyV k ∧ keyIn "integer" k ∧ KeyB 10 k := fun b hb hb5 => by
        obtain ⟨f3, f4⟩ := fmod_at i4 hb
        refine ⟨.int (i4.fmod b).toNat, ?_, rfl, ?_⟩
        · show MV.int _ = MV.int (((i4.fmod b).toNat : Int) + 1)
          congr 1; lia
        · show (i4.fmod b).toNat < 10
          lia
      walk_at "w"
      by_cases q : 0 < i
      · have hh := decide_eq_true (show (i : Int) > 0 by lia)
        walk_at "t"
        walk_at "w"
        refine bin_mod (by decide) ?_
        walk_at "w"
        exact ⟨u4, hrow4, fin 2 (by decide) (by decide)⟩
      · have hh := decide_eq_false (show ¬ ((i : Int) > 0) by lia)
        walk_at "f"
        walk_at "w"
        refine bin_mod (by decide) ?_
        walk_at "w"
        exact ⟨u4, hrow4, fin 5 (by decide) (by decide)⟩
    · walk_at "w"
      refine (c_Vector1 G _ _).u13 (by lia) (fun _ _ z => z) fun y m4 hy hyv u4 => ?_
      obtain ⟨ks, rfl, hk1, hk2⟩ := keys_of hR
      have hkl : ks.length = many := by simpa using hyl
      walk_at "k"
      refine ts_nil ?_
      walk_at "k"
      refine next _ _ y ks ((h2.updR u hrow').upd0 u4) ?_ ?_ ?_ ?_ ⟨_, D, _, .inl rfl, hyv, u4.list hD', hk1, (by rintro rfl; exact hrn hD)⟩ ?_ ?_ hk2
      · walk_at "lk"
      · walk_at "lk"
      · walk_at "lk"
      · walk_at "lk"
      · rintro rfl; simp at hkl; lia
      · lia
end

theorem same_tup {m : MH} {d : Nat} {a b : Addr} {xs ys : List MV} (h1 : m a = some (.tup xs)) (h2 : m b = some (.tup ys)) (h3 : All2 (Same m d) xs ys) : Same m (d + 1) (.ref a) (.ref b) := .inr (.inr ⟨_, _, h1, h2, h3⟩)
section
variable {X : Cx} {n : Nat} {fe env : Env} {vars : Vars} {m : MH} {Q : MV → MH → Prop} {Ex : String → MH → Prop}
theorem isi_at (G : Glo X) {K d : Nat} {t : T} {v : MV} (h : IsT FT K m d t v) {w} (hw : w = Value.type "str") (q : Q (.bool false) m) : ∀ ra, VR v ra → TV X n fe env vars (call (.builtin "isinstance") [ra, w] []) m Q Ex := by
  obtain ⟨x, rfl, z⟩ := h.at
  rcases z with ⟨dx, e⟩ | ⟨k, i, a, dx, sh, e⟩
  · exact isi_strI G e rfl hw q
  · exact isi_strI G e rfl hw q
end
section
variable {X : Cx} {n : Nat} {m : MH} {L : Addr} {vars : Vars} {QS : SRes → Vars → MH → Prop}
theorem law_B (G : Glo X) (GL : GloL X tP 795) {r x ix : Addr} {bv : MV} {ts : List T} {nm : Option (List String)} {ks : List Key} (h : LawAt m r x bv ts nm) (g1 : vars.lookup "row" = some (.ref r)) (g2 : vars.lookup "v" = some (.ref x)) (g3 : vars.lookup "before" = some bv) (g4 : vars.lookup "ix" = some (.ref ix))
    (hx : KeysF m r ix ks) (hne : ks ≠ []) (hl : ks.length ≤ 4) (hkb : ∀ k ∈ ks, KeyB 10 k)
    (next : ∀ vars' m', LawAt m' r x bv ts nm → vars'.lookup "row" = some (.ref r) → vars'.lookup "v" = some (.ref x) → vars'.lookup "before" = some bv → vars'.lookup "ix" = some (.ref ix) → KeysF m' r ix ks → TS X (n + 40) (e_law L) (e_law L) vars' (execs (lawLoop.drop 5) (e_law L)) m' QS FE) :
    TS X (n + 40) (e_law L) (e_law L) vars (execs (lawLoop.drop 2) (e_law L)) m QS FE := by
  refine ts_consB rfl fun K hK => ?_
  refine ts_assign (.inl (by kernel_rfl)) rfl ?_
  have rest : ∀ told m', LawAt m' r x bv ts nm → KeysF m' r ix ks → ((∃ t', gotT (.list ts nm) ks = .ok t' ∧ IsT FT 10 m' 4 t' told) ∨ ∃ e, told = .str e ∧ gotT (.list ts nm) ks = .error e) → K .next (setv vars "told" told) m' := by
    intro told m' h' hx' hc
    refine hK .next _ _ ?_
    clear hK
    dsimp only
    refine ts_consK fun K2 hK2 => ?_
    have rest2 : ∀ told m' V, LawAt m' r x bv ts nm → KeysF m' r ix ks → ((∃ t' b v', gotT (.list ts nm) ks = .ok t' ∧ told = .ref b ∧ m' b = some (.tup [.str "got", v']) ∧ IsL FT 10 m' 4 t' v') ∨ ∃ e, told = .str e ∧ gotT (.list ts nm) ks = .error e) → V.lookup "row" = some (.ref r) → V.lookup "v" = some (.ref x) → V.lookup "before" = some bv → V.lookup "ix" = some (.ref ix) → V.lookup "told" = some told → K2 .next V m' := by
      intro told m' V h' hx' hc g1 g2 g3 g4 g5
      refine hK2 .next _ _ ?_
      clear hK2
      have hx0 := hx'.keys
      obtain ⟨kd, l, a, _, hv, hkl, _⟩ := hx0
      walk_at "w"
      refine (c_law_got G (h'.bef.weak (fun _ _ => trivial) (Nat.le_refl _) (Nat.le_refl _)) (by decide) (by decide) hkl hne (by lia) (fun k hk => (hkb k hk).mono (by decide))).use (by lia) (fun _ _ z => z) fun w m3 z => ?_
      obtain ⟨z, u3⟩ := z
      rcases hc with ⟨t', b, v', e1, rfl, hb, hv'⟩ | ⟨e, rfl, e1⟩
      · rcases z with ⟨t2, b2, v2, e2, rfl, hb2, hv2⟩ | ⟨e, e2, rfl⟩
        · rw [e1] at e2; cases e2
          have hb3 := u3.tup hb
          refine eq_same (d := 2 * 4 + 3 + 1) (by decide) (same_tup hb3 hb2 (.cons rfl (.cons (isL_same (IsL.upd u3 nilB hv') hv2) .nil))) ?_ (fun x y ex ey => by cases ex; cases ey; exact .inr ⟨_, _, hb3, hb2⟩)
          refine ⟨_, rfl, ?_⟩
          refine of_if_neg (by decide) ?_
          refine ts_nil ?_
          walk_at "k"
          exact next _ _ (h'.upd0 u3) g1 g2 g3 g4 (hx'.upd u3)
        · rw [e1] at e2; cases e2
      · rcases z with ⟨t2, b2, v2, e2, rfl, hb2, hv2⟩ | ⟨e', e2, rfl⟩
        · rw [e1] at e2; cases e2
        · rw [e1] at e2; cases e2
          refine cmp_neS ?_
          refine ⟨_, rfl, ?_⟩
          refine of_if_neg (by simp) ?_
          refine ts_nil ?_
          walk_at "k"
          exact next _ _ (h'.upd0 u3) g1 g2 g3 g4 (hx'.upd u3)
    clear hK2
    refine ts_if (tb_not (tb_value (fun _ => rfl) (te_isiStr G (by kernel_rfl) (by kernel_rfl) rfl ?_)))
    walk_at "w"
    rcases hc with ⟨t', e1, ht⟩ | ⟨e, rfl, e1⟩
    · refine isi_at G ht rfl ?_
      walk_at "w"
      refine (c_law_tree G (by decide) 4 ht).use (by lia) (fun _ _ z => z) fun tv m3 z => ?_
      obtain ⟨z1, u3⟩ := z
      walk_at "w"
      refine lenU rfl (fun b m4 u4 hb hb4 => ?_)
      walk_at "k"
      refine ts_nil ?_
      have u34 := u3.trans u4
      refine rest2 _ _ _ (h'.upd0 u34) (hx'.upd u34) (.inl ⟨t', b, tv, e1, rfl, hb4, (IsL.upd u4 nilB z1).weak (fun _ _ => trivial) (Nat.le_refl _) (Nat.le_refl _)⟩) ?_ ?_ ?_ ?_ ?_ <;> walk_at "lk"
    · refine isi_strS rfl ?_
      walk_at "w"
      refine rest2 _ _ _ h' hx' (.inr ⟨e, rfl, e1⟩) ?_ ?_ ?_ ?_ ?_ <;> walk_at "lk"
  clear hK
  refine te_kept (n := n + 38) (capt := ["v", "ix"]) G GL (lamOk_of (by kernel_rfl)) rfl rfl (by kernel_rfl) h.tab (.head _) (by decide) (fun pm cv ctv => by kernel_rfl) (by kernel_rfl) rfl fun f m1 u1 ht1 cd L2 => ?_
  have h1 := h.updP u1 ht1
  obtain ⟨ps, hP, _⟩ := h.tab
  have hx1 := hx.updP u1 hP
  have c1 : (captv vars ["v", "ix"]).lookup "v" = some (.ref x) := captv_get g2 (by simp)
  have c2 : (captv vars ["v", "ix"]).lookup "ix" = some (.ref ix) := captv_get g4 (by simp)
  walk_at "w"
  refine lenU rfl (fun b m2 u2 hb hb2 => ?_)
  walk_at "w"
  have h2 := h1.upd0 u2
  refine (c_element G (h2.v.weak (fun _ _ => trivial) (Nat.le_refl _) (Nat.le_refl _)) (by decide) (by decide) hb2 (hx1.upd u2).keys hne (by lia) (fun k hk => ?_)).use (by lia) (fun msg m3 z => ?_) fun w m3 z => ?_
  · have := hkb k hk
    cases k with
    | int k => exact Nat.lt_of_lt_of_le this (by decide)
    | str s => trivial
  · exact rest _ _ (h2.upd0 z.2) ((hx1.upd u2).upd z.2) (.inr ⟨msg, rfl, z.1⟩)
  · obtain ⟨t', e1, z1, u3⟩ := z
    exact rest _ _ (h2.upd0 u3) ((hx1.upd u2).upd u3) (.inl ⟨t', e1, z1⟩)
end

theorem LawAt.fresh {m : MH} {r x : Addr} {bv : MV} {ts : List T} {nm : Option (List String)} (h : LawAt m r x bv ts nm) (b : Addr) (hb : m b = none) : FX r b := by
  obtain ⟨ps, hP, _⟩ := h.tab
  exact ⟨fun z => h.row.ne (z ▸ hb), fun z => by rw [z, hP] at hb; cases hb⟩
section
variable {X : Cx} {n : Nat} {m : MH} {L : Addr} {vars : Vars} {QS : SRes → Vars → MH → Prop}
theorem law_C (G : Glo X) (GL : GloL X tP 795) {r x ix : Addr} {bv : MV} {ts : List T} {nm : Option (List String)} {ks : List Key} (h : LawAt m r x bv ts nm) (g1 : vars.lookup "row" = some (.ref r)) (g2 : vars.lookup "v" = some (.ref x)) (g3 : vars.lookup "before" = some bv) (g4 : vars.lookup "ix" = some (.ref ix))
    (hx : KeysF m r ix ks) (hne : ks ≠ []) (hl : ks.length ≤ 4) (hkb : ∀ k ∈ ks, KeyB 10 k)
    (next : ∀ vars' m' value hv tw told nl, LawAt m' r x bv ts nm → vars'.lookup "row" = some (.ref r) → vars'.lookup "v" = some (.ref x) → vars'.lookup "before" = some bv → vars'.lookup "ix" = some (.ref ix) → vars'.lookup "value" = some value → vars'.lookup "held" = some hv → vars'.lookup "notes" = some (.ref nl) → vars'.lookup "told" = some told → KeysF m' r ix ks →
      IsT FT 10 m' 2 tw value → IsL FT 10 m' 2 tw hv → m' nl = some (.list []) → ((∃ t', setT (.list ts nm) ks tw = .ok t' ∧ IsT FT 11 m' 8 t' told) ∨ ∃ e, told = .str e ∧ setT (.list ts nm) ks tw = .error e) → TS X (n + 40) (e_law L) (e_law L) vars' (execs (lawLoop.drop 9) (e_law L)) m' QS FE) :
    TS X (n + 40) (e_law L) (e_law L) vars (execs (lawLoop.drop 5) (e_law L)) m QS FE := by
  refine ts_consB rfl fun K hK => ?_
  refine ts_assign (.inr ⟨by kernel_rfl, by kernel_rfl⟩) rfl ?_
  walk_at "w"
  refine (c_law_value G 1 (by decide) h.row).use (by lia) (fun _ _ z => z) fun value m1 z => ?_
  obtain ⟨tw, hw, hrow1, u1⟩ := z
  have hF := h.fresh
  have h1 := h.updR u1 hrow1
  have hw1 : IsT (FX r) 10 m1 2 tw value := hw.weak hF (Nat.le_refl _) (Nat.le_refl _)
  have hx1 := hx.updR u1 h.row
  walk_at "k"
  refine ts_consK fun K2 hK2 => ?_
  refine ts_assign (.inl (by kernel_rfl)) rfl ?_
  walk_at "w"
  refine (c_law_tree G (by decide) 2 (hw1.weak (fun _ _ => trivial) (Nat.le_refl _) (Nat.le_refl _))).use (by lia) (fun _ _ z => z) fun hv m2 z => ?_
  obtain ⟨hv2, u2⟩ := z
  have hv2 : IsL (FX r) 10 m2 2 tw hv := hv2.weak h1.fresh (Nat.le_refl _) (Nat.le_refl _)
  walk_at "k"
  refine ts_consK fun K3 hK3 => ?_
  refine ts_assign (.inr ⟨by kernel_rfl, by kernel_rfl⟩) rfl ?_
  walk_at "w"
  refine lenU rfl (fun nl m3 u3 hnl hnl3 => ?_)
  have fnl := (h1.upd0 u2).fresh nl hnl
  have h3 := (h1.upd0 u2).upd0 u3
  have u23 := u2.trans u3
  have hw3 := IsT.upd u23 nilB hw1
  have hv3 := IsL.upd u3 nilB hv2
  have hx3 := hx1.upd u23
  walk_at "k"
  refine ts_consK fun K4 hK4 => ?_
  refine ts_assign (.inl (by kernel_rfl)) rfl ?_
  have g1' : (setv (setv (setv vars "value" value) "held" hv) "notes" (.ref nl)).lookup "row" = some (.ref r) := by walk_at "lk"
  have g2' : (setv (setv (setv vars "value" value) "held" hv) "notes" (.ref nl)).lookup "v" = some (.ref x) := by walk_at "lk"
  have g3' : (setv (setv (setv vars "value" value) "held" hv) "notes" (.ref nl)).lookup "before" = some bv := by walk_at "lk"
  have g4' : (setv (setv (setv vars "value" value) "held" hv) "notes" (.ref nl)).lookup "ix" = some (.ref ix) := by walk_at "lk"
  have g5' : (setv (setv (setv vars "value" value) "held" hv) "notes" (.ref nl)).lookup "value" = some value := by walk_at "lk"
  have g6' : (setv (setv (setv vars "value" value) "held" hv) "notes" (.ref nl)).lookup "held" = some hv := by walk_at "lk"
  have g7' : (setv (setv (setv vars "value" value) "held" hv) "notes" (.ref nl)).lookup "notes" = some (.ref nl) := by walk_at "lk"
  generalize setv (setv (setv vars "value" value) "held" hv) "notes" (.ref nl) = V at g1' g2' g3' g4' g5' g6' g7' ⊢
  refine te_kept (n := n + 38) (capt := ["v", "ix", "value", "notes"]) G GL (lamOk_of (by kernel_rfl)) rfl rfl (by kernel_rfl) h3.tab (.tail _ (.head _)) (by decide) (fun pm cv ctv => by kernel_rfl) (by kernel_rfl) rfl fun f m4 u4 ht4 cd L2 => ?_
  have h4 := h3.updP u4 ht4
  obtain ⟨ps, hP, _⟩ := h3.tab
  have hx4 := hx3.updP u4 hP
  have hw4 := (IsT.upd u4 (fun b hb => by simpa using hb.2) hw3).weak (F' := FT) (fun _ _ => trivial) (Nat.le_refl _) (Nat.le_refl _)
  have hv4 := (IsL.upd u4 (fun b hb => by simpa using hb.2) hv3).weak (F' := FT) (fun _ _ => trivial) (Nat.le_refl _) (Nat.le_refl _)
  have hnl4 := u4.list hnl3 (by simpa using fnl.2)
  have c1 : (captv V ["v", "ix", "value", "notes"]).lookup "v" = some (.ref x) := captv_get g2' (by simp)
  have c2 : (captv V ["v", "ix", "value", "notes"]).lookup "ix" = some (.ref ix) := captv_get g4' (by simp)
  have c3 : (captv V ["v", "ix", "value", "notes"]).lookup "value" = some value := captv_get g5' (by simp)
  have c4 : (captv V ["v", "ix", "value", "notes"]).lookup "notes" = some (.ref nl) := captv_get g7' (by simp)
  walk_at "w"
  refine lenU rfl (fun b m5 u5 hb hb5 => ?_)
  walk_at "w"
  have h5 := h4.upd0 u5
  have rest : ∀ told m6, Upd [] m5 m6 → ((∃ t', setT (.list ts nm) ks tw = .ok t' ∧ IsT FT 11 m6 8 t' told) ∨ ∃ e, told = .str e ∧ setT (.list ts nm) ks tw = .error e) → K4 .next (setv V "told" told) m6 := by
    intro told m6 u6 hc
    have u56 := u5.trans u6
    walk_at "k"
    exact next _ _ value hv tw told nl (h4.upd0 u56) (lk_other (by decide) g1') (lk_other (by decide) g2') (lk_other (by decide) g3') (lk_other (by decide) g4') (lk_other (by decide) g5') (lk_other (by decide) g6') (lk_other (by decide) g7') (lk_same _ _ _) (hx4.upd u56) (IsT.upd u56 nilB hw4) (IsL.upd u56 nilB hv4) (u56.list hnl4) hc
  refine (c_assign_element G (K1 := 11) (e := 8) (h5.v.weak (fun _ _ => trivial) (Nat.le_refl _) (Nat.le_refl _)) ((IsT.upd u5 nilB hw4).weak (fun _ _ => trivial) (by decide) (Nat.le_refl _)) (by decide) (by decide) (by decide) (by decide) (by lia) (by lia) hb5 (hx4.upd u5).keys hne (by lia) hkb).use (by lia) (fun msg m6 z => ?_) fun w m6 z => ?_
  · exact rest _ _ z.2 (.inr ⟨msg, rfl, z.1⟩)
  · obtain ⟨t', e1, z1, u6⟩ := z
    exact rest _ _ u6 (.inl ⟨t', e1, z1⟩)
end

theorem isL_ref {F : Addr → Prop} {K d : Nat} {m : MH} {t : T} {x : Addr} (h : IsL F K m d t (.ref x)) : ∃ xs, m x = some (.list xs) := by
  by_cases q : t = .null
  · subst q; have := isL_null.mp h; cases this
  · obtain ⟨y, l, nv, vs, e, hy, _⟩ := h.vec q
    cases e
    exact ⟨_, hy⟩
section
variable {X : Cx} {n : Nat} {m : MH} {L : Addr} {vars : Vars} {QS : SRes → Vars → MH → Prop}
theorem eq_trees {fe env : Env} {Q : MV → MH → Prop} {Ex : String → MH → Prop} {F F' : Addr → Prop} {K K' d : Nat} {t : T} {a b : MV} (hd : d ≤ 20) (ha : IsL F K m d t a) (hb : IsL F' K' m d t b) (q : Q (.bool false) m) : CmpQ X n fe env vars .NotEq a b m Q Ex :=
  eq_same (d := 2 * d + 3) (by lia) (isL_same ha hb) q (fun x y ex ey => by
    subst ex; subst ey
    obtain ⟨xs, h1⟩ := isL_ref ha
    obtain ⟨ys, h2⟩ := isL_ref hb
    exact .inl ⟨xs, ys, h1, h2⟩)
theorem law_D (G : Glo X) {r x ix nl : Addr} {bv value hv told : MV} {ts : List T} {nm : Option (List String)} {tw : T} {ks : List Key} (h : LawAt m r x bv ts nm) (g1 : vars.lookup "row" = some (.ref r)) (g2 : vars.lookup "v" = some (.ref x)) (g3 : vars.lookup "before" = some bv) (g4 : vars.lookup "ix" = some (.ref ix))
    (g5 : vars.lookup "value" = some value) (g6 : vars.lookup "held" = some hv) (g7 : vars.lookup "notes" = some (.ref nl)) (g8 : vars.lookup "told" = some told) (hx : KeysF m r ix ks) (hw : IsT FT 10 m 2 tw value) (hv2 : IsL FT 10 m 2 tw hv) (hnl : m nl = some (.list []))
    (hc : (∃ t', setT (.list ts nm) ks tw = .ok t' ∧ IsT FT 11 m 8 t' told) ∨ ∃ e, told = .str e ∧ setT (.list ts nm) ks tw = .error e) (hne : ks ≠ []) (hl : ks.length ≤ 4) (hkb : ∀ k ∈ ks, KeyB 10 k)
    (next : ∀ vars' m', LawAt m' r x bv ts nm → vars'.lookup "row" = some (.ref r) → vars'.lookup "v" = some (.ref x) → vars'.lookup "before" = some bv → QS .next vars' m') :
    TS X (n + 40) (e_law L) (e_law L) vars (execs (lawLoop.drop 9) (e_law L)) m QS FE := by
  refine ts_consB rfl fun K hK => ?_
  refine ts_unpack (xs := ["due", "fault"]) (ps := [_, _]) rfl rfl (by intro x hx; simp at hx; rcases hx with rfl | rfl <;> exact .inl (by kernel_rfl)) rfl rfl ?_
  obtain ⟨kd, l, a, _, hvx, hkl, _⟩ := hx
  walk_at "w"
  refine (c_law_set G (K1 := 11) (e := 8) (by decide) (by decide) (by decide) (by decide) ks (h.bef.weak (fun _ _ => trivial) (Nat.le_refl _) (Nat.le_refl _)) (by simp) (hv2.weak (fun _ _ => trivial) (by decide) (Nat.le_refl _)) (by lia) (by lia) hne (by lia) hkl hkb).use (by lia) (fun _ _ z => z) fun p m1 z => ?_
  obtain ⟨⟨b, due, fault, rfl, hb, z⟩, u1⟩ := z
  refine ⟨b, _, rfl, .inr hb, rfl, ?_⟩
  dsimp only [setvs]
  walk_at "k"
  refine ts_consK fun K2 hK2 => ?_
  have g1' : (setv (setv vars "due" due) "fault" (.str fault)).lookup "row" = some (.ref r) := by walk_at "lk"
  have g2' : (setv (setv vars "due" due) "fault" (.str fault)).lookup "v" = some (.ref x) := by walk_at "lk"
  have g3' : (setv (setv vars "due" due) "fault" (.str fault)).lookup "before" = some bv := by walk_at "lk"
  have g5' : (setv (setv vars "due" due) "fault" (.str fault)).lookup "value" = some value := by walk_at "lk"
  have g6' : (setv (setv vars "due" due) "fault" (.str fault)).lookup "held" = some hv := by walk_at "lk"
  have g7' : (setv (setv vars "due" due) "fault" (.str fault)).lookup "notes" = some (.ref nl) := by walk_at "lk"
  have g8' : (setv (setv vars "due" due) "fault" (.str fault)).lookup "told" = some told := by walk_at "lk"
  have ga' : (setv (setv vars "due" due) "fault" (.str fault)).lookup "due" = some due := by walk_at "lk"
  have gb' : (setv (setv vars "due" due) "fault" (.str fault)).lookup "fault" = some (.str fault) := by walk_at "lk"
  generalize setv (setv vars "due" due) "fault" (.str fault) = V at g1' g2' g3' g5' g6' g7' g8' ga' gb' ⊢
  have last : ∀ m2, Upd [] m1 m2 → K2 .next V m2 := by
    intro m2 u2
    have u12 := u1.trans u2
    have h2 := h.upd0 u12
    have hw2 := IsT.upd u12 nilB hw
    have hv3 := IsL.upd u12 nilB hv2
    refine hK2 .next _ _ ?_
    clear hK2
    dsimp only
    walk_at "w"
    refine (c_law_tree G (by decide) 4 (h2.v.weak (fun _ _ => trivial) (Nat.le_refl _) (Nat.le_refl _))).use (by lia) (fun _ _ z => z) fun tv m3 z => ?_
    obtain ⟨z3, u3⟩ := z
    walk_at "w"
    refine eq_trees (by decide) z3 (h2.upd0 u3).bef ?_
    walk_at "w"
    refine (c_law_tree G (by decide) 2 (IsT.upd u3 nilB hw2)).use (by lia) (fun _ _ z => z) fun tv4 m4 z => ?_
    obtain ⟨z4, u4⟩ := z
    have u34 := u3.trans u4
    walk_at "w"
    refine eq_trees (by decide) z4 (IsL.upd u34 nilB hv3) ?_
    walk_at "w"
    exact next _ _ (h2.upd0 u34) g1' g2' g3'
  clear hK2
  refine ts_if (tb_boolop (ta_or_cons (tb_value (fun _ => rfl) (te_isiStr G (by kernel_rfl) (by kernel_rfl) rfl ?_))))
  walk_at "w"
  rcases hc with ⟨t', e1, ht⟩ | ⟨e, rfl, e1⟩
  · refine isi_at G (IsT.upd u1 nilB ht) rfl ?_
    rcases z with ⟨t2, e2, rfl, hd⟩ | ⟨e2, hf, rfl⟩
    · rw [e1] at e2; cases e2
      walk_at "w"
      refine (c_law_tree G (by decide) 8 (IsT.upd u1 nilB ht)).use (by lia) (fun _ _ z => z) fun tv m3 z => ?_
      obtain ⟨z3, u3⟩ := z
      walk_at "w"
      refine eq_trees (by decide) z3 (IsL.upd u3 nilB hd) ?_
      walk_at "w"
      refine lenU rfl (fun b4 m4 u4 hb4 hb5 => ?_)
      have hn4 := ((u1.trans u3).trans u4).list hnl
      refine ne_nil hn4 hb5 ?_
      walk_at "w"
      exact last _ (u3.trans u4)
    · rw [e1] at e2; cases e2
  · refine isi_strS rfl ?_
    rcases z with ⟨t2, e2, rfl, hd⟩ | ⟨e2, hf, rfl⟩
    · rw [e1] at e2; cases e2
    · rw [e1] at e2; cases e2
      walk_at "w"
      simp only [decide_true, Bool.not_true]
      walk_at "w"
      exact last _ (.refl _ _)
end

theorem FX.of {m : MH} {r b : Addr} (hrow : RowAt m r) (ht : LamTab m tP lamQ lamPs) (hb : m b = none) : FX r b := by
  obtain ⟨ps, hP, _⟩ := ht
  exact ⟨fun z => hrow.ne (z ▸ hb), fun z => by rw [z, hP] at hb; cases hb⟩
section
variable {X : Cx} {n : Nat} {m : MH} {L : Addr} {vars : Vars} {QS : SRes → Vars → MH → Prop}
theorem law_turn (G : Glo X) (GL : GloL X tP 795) {r x : Addr} {bv : MV} {ts : List T} {nm : Option (List String)} (h : LawAt m r x bv ts nm) (g1 : vars.lookup "row" = some (.ref r)) (g2 : vars.lookup "v" = some (.ref x)) (g3 : vars.lookup "before" = some bv)
    (next : ∀ vars' m', LawAt m' r x bv ts nm → vars'.lookup "row" = some (.ref r) → vars'.lookup "v" = some (.ref x) → vars'.lookup "before" = some bv → QS .next vars' m') :
    TS X (n + 40) (e_law L) (e_law L) vars (execs lawLoop (e_law L)) m QS FE :=
  law_A G h g1 g2 g3 fun _ _ ix ks h1 a1 a2 a3 a4 hx hne hl hkb => law_B G GL h1 a1 a2 a3 a4 hx hne hl hkb fun _ _ h2 b1 b2 b3 b4 hx2 =>
    law_C G GL h2 b1 b2 b3 b4 hx2 hne hl hkb fun _ _ value hv tw told nl h3 c1 c2 c3 c4 c5 c6 c7 c8 hx3 hw hv2 hnl hc =>
      law_D G h3 c1 c2 c3 c4 c5 c6 c7 c8 hx3 hw hv2 hnl hc hne hl hkb next
theorem law_for (G : Glo X) (GL : GloL X tP 795) {r x : Addr} {ts : List T} {nm : Option (List String)} (hrow : RowAt m r) (hv : IsT (FX r) 10 m 4 (.list ts nm) (.ref x)) (ht : LamTab m tP lamQ lamPs) (g1 : vars.lookup "row" = some (.ref r)) (g2 : vars.lookup "v" = some (.ref x)) (fin : ∀ V m', LamTab m' tP lamQ lamPs → QS (.ret (.bool true)) V m') :
    TS X (n + 40) (e_law L) (e_law L) vars (execs ((fBody (st 120)).drop 3) (e_law L)) m QS FE := by
  walk_at "w"
  refine (c_law_tree G (by decide) 4 (hv.weak (fun _ _ => trivial) (Nat.le_refl _) (Nat.le_refl _))).use (by lia) (fun _ _ z => z) fun bv m1 z => ?_
  obtain ⟨hb, u1⟩ := z
  have h0 : ∀ b, m b = none → FX r b := fun b hb => FX.of hrow ht hb
  have h1 : LawAt m1 r x bv ts nm := ⟨hrow.upd u1, IsT.upd u1 nilB hv, hb.weak h0 (Nat.le_refl _) (Nat.le_refl _), ht.upd u1 fun _ z => by cases z⟩
  walk_at "w"
  refine ts_for rfl (.inl (by kernel_rfl)) (fun _ => rfl) (fun _ _ => rfl) (ti_range1 G (by kernel_rfl) rfl ?_)
  walk_at "w"
  refine (c_law_next G h1.row).u12 (by lia) (fun _ _ z => z) fun i m2 hrow2 u2 => ?_
  walk_at "w"
  refine bin_mod (by decide) ?_
  obtain ⟨f1, f2⟩ := fmod_at i (k := 4) (by decide)
  generalize i.fmod 4 = j at f1 f2 ⊢
  walk_at "w"
  refine ⟨by lia, by lia, fun i vars m' => A4 (LawAt m' r x bv ts nm) (vars.lookup "row" = some (.ref r)) (vars.lookup "v" = some (.ref x)) (vars.lookup "before" = some bv), ⟨h1.updR u2 hrow2, lk_other (by decide) g1, lk_other (by decide) g2, lk_same _ _ _⟩, fun i vars m' hi z _ => ?_, fun vars m' z _ => ?_⟩
  · obtain ⟨z1, z2, z3, z4⟩ := z
    exact law_turn G GL z1 (lk_other (by decide) z2) (lk_other (by decide) z3) (lk_other (by decide) z4) fun V m'' h' k1 k2 k3 => ⟨trivial, h', k1, k2, k3⟩
  · walk_at "w"
    obtain ⟨z1, _⟩ := z
    exact fin _ _ z1.tab
theorem c_law (G : Glo X) (GL : GloL X tP 795) {sc : Addr} {is : List Int} (h : m sc = some (.ro (is.map .int))) (hs : is.length ≤ 1000000) (ht : LamTab m tP lamQ lamPs) : CallOk X 50 (.ref 796) [.ref sc] m (fun v m' => v = .bool true ∧ LamTab m' tP lamQ lamPs) FE := by
  refine call_fnK G (f_law _) rfl fun L K hK => ?_
  refine ts_consB rfl fun K1 hK1 => ?_
  refine ts_assign (.inr ⟨by kernel_rfl, by kernel_rfl⟩) rfl ?_
  walk_at "w"
  refine (c_law_row G h hs).u13 (by lia) (fun _ _ z => z) fun r m1 hr hrow1 u1 => ?_
  have ht1 := ht.upd u1 fun _ z => by cases z
  walk_at "k"
  refine ts_consK fun K2 hK2 => ?_
  refine ts_assign (.inr ⟨by kernel_rfl, by kernel_rfl⟩) rfl ?_
  walk_at "w"
  refine te_comp (capt := ["row"]) (compOk_of (by kernel_rfl)) G (fun _ => rfl) (compJ r (fun D i u m' => ∃ t, IsT (fun b => FX r b ∧ b ≠ D) 10 m' 3 t u) ?_ (ti_range1 G (by kernel_rfl) rfl ?_))
  · intro D i u m' m'' uu z
    obtain ⟨t, z⟩ := z
    exact ⟨t, IsT.upd uu (fun b hb => by simp; exact ⟨hb.2, hb.1.1⟩) z⟩
  walk_at "w"
  refine (c_law_next G hrow1).u12 (by lia) (fun _ _ z => z) fun i m2 hrow2 u2 => ?_
  have ht2 := ht1.upd u2 hrow1.noRaw
  walk_at "w"
  refine bin_mod (by decide) ?_
  obtain ⟨f1, f2⟩ := fmod_at i (k := 5) (by decide)
  generalize i.fmod 5 = j at f1 f2 ⊢
  obtain ⟨many, rfl⟩ : ∃ k : Nat, j = k := Int.eq_ofNat_of_zero_le f1
  refine ⟨many, rfl, by lia, by lia, by simp; lia, hrow2, (fun _ _ => trivial), fun D i m' C hi hD hD' u hrow' => ?_, fun D ys m' hD u hrow' hD' hyl hR => ?_⟩
  · have ht' := ht2.upd u hrow2.noRaw
    clear hK hK1 hK2
    walk_at "w"
    refine (c_law_value G 2 (by decide) hrow').use (by lia) (fun _ _ z => z) fun v m4 z => ?_
    obtain ⟨t, z1, z2, z3⟩ := z
    refine ⟨z3, z2, t, z1.weak (fun b hb => ?_) (Nat.le_refl _) (Nat.le_refl _)⟩
    exact ⟨FX.of hrow' ht' hb, fun z => hD' (z ▸ hb)⟩
  · have ht3 := ht2.upd u hrow2.noRaw
    walk_at "w"
    refine (c_Vector1 G _ _).u13 (by lia) (fun _ _ z => z) fun x m4 hx hxv u4 => ?_
    obtain ⟨ts, hts⟩ := all2_ex hR
    have hyl' : ys.length = many := by simpa using hyl
    have fx := FX.of hrow' ht3 hx
    have fD := FX.of hrow2 ht2 hD
    have hD4 := u4.list hD'
    have hT : MadeV (FX r) 10 m4 3 x (.list ts none) := ⟨rfl, fx, D, ys, hxv, fD, hD4, hts.imp fun t w z => (IsT.upd u4 nilB z.live).weak (fun b hb => ⟨hb.1.1, by rintro rfl; exact hb.2 hx⟩) (Nat.le_refl _) (Nat.le_refl _), by rw [hts.length]; lia⟩
    have htl : ts.length = many := by rw [hts.length]; exact hyl'
    clear hts hR
    have hrow4 := hrow'.upd u4
    have ht4 := ht3.upd u4 fun _ z => by cases z
    walk_at "k"
    refine ts_consK fun K3 hK3 => ?_
    have next : ∀ m' nm V, RowAt m' r → IsT (FX r) 10 m' 4 (.list ts nm) (.ref x) → LamTab m' tP lamQ lamPs → V.lookup "row" = some (.ref r) → V.lookup "v" = some (.ref x) → K3 .next V m' := fun m' nm V h1 h2 h3 g1 g2 => hK3 .next _ _ (law_for (n := 9) G GL h1 h2 h3 g1 g2 fun V m' ht => hK _ _ _ ⟨rfl, ht⟩)
    clear hK hK1 hK2 hK3
    walk_at "w"
    refine (c_law_next G hrow4).u12 (by lia) (fun _ _ z => z) fun i4 m5 hrow5 u5 => ?_
    have hT5 := hT.upd u5 (fun b hb => by simpa using hb.1)
    have ht5 := ht4.upd u5 hrow4.noRaw
    have hx5 := u5.vec hxv (by simpa using fx.1)
    have hD5 := u5.list hD4 (by simpa using fD.1)
    walk_at "w"
    refine bin_mod (by decide) ?_
    walk_at "w"
    by_cases q1 : i4.fmod 2 = 1
    · have hh : (i4.fmod 2 == 1) = true := beq_iff_eq.mpr q1
      walk_at "t"
      walk_at "w"
      with_reducible refine te_dict1 fun d hd => ?_
      have u6 : Upd [] m5 (m5.set d (.sd [])) := .new hd
      have hd6 := MH.set_same m5 d (.sd [])
      generalize m5.set d (.sd []) = m6 at u6 hd6 ⊢
      have hrow6 := hrow5.upd u6
      have fd := FX.of hrow5 ht5 hd
      have ht6 := ht5.upd u6 fun _ z => by cases z
      have hx6 := u6.vec hx5
      have hD6 := u6.list hD5
      walk_at "w"
      refine call_len G (k := many) (by simp [lenM, hD6, hyl']) (by lia) ?_
      walk_at "w"
      refine (c_law_heads G hrow6 (by lia)).u25 (by lia) (fun _ _ z => z) fun b ss m7 hb hb7 hss hrow7 u7 => ?_
      have fb := FX.of hrow6 ht6 hb
      have ht7 := ht6.upd u7 hrow6.noRaw
      walk_at "w"
      refine (c_Vector1 G _ _).u13 (by lia) (fun _ _ z => z) fun y m8 hy hyv u8 => ?_
      have fy := FX.of hrow7 ht7 hy
      have hd7 := u7.sd hd6 (by simpa using fd.1)
      have hd8 := u8.sd hd7
      refine ⟨hd8, ?_⟩
      have u9 : Upd [d] m8 (m8.set d (.sd [("names", .ref y)])) := .set
      have hd9 := MH.set_same m8 d (.sd [("names", .ref y)])
      generalize m8.set d (.sd [("names", .ref y)]) = m9 at u9 hd9 ⊢
      have u58 : Upd [r] m5 m8 := u6.any.trans (u7.trans u8.any)
      have u59 : Upd [r] m5 m9 := ((u58.mono (B' := [r, d]) fun x hx => by simp at hx ⊢; exact .inl hx).trans (u9.mono fun x hx => by simp at hx ⊢; exact .inr hx)).shut fun x hx => by
        simp at hx
        rcases hx with rfl | rfl
        · exact .inl (.head _)
        · exact .inr hd
      have hyd : y ≠ d := by rintro rfl; rw [hd7] at hy; cases hy
      have hbd : b ≠ d := by rintro rfl; rw [hd6] at hb; cases hb
      have hy9 := u9.vec hyv (by first | exact ni1 hyd | simpa using hyd)
      have hb9 := u9.list (u8.list hb7) (by first | exact ni1 hbd | simpa using hbd)
      have hrow9 := (hrow7.upd u8).upd u9 (by simpa using Ne.symm fd.1)
      have ht9 : LamTab m9 tP lamQ lamPs := (ht7.upd u8 fun _ z => by cases z).upd u9 fun b hb o z => by
        rw [List.mem_singleton.mp hb, hd8] at z; cases z
      have hT9 := hT5.upd u59 (fun b hb => by simpa using hb.1)
      have hx9 := u59.vec hx5 (by simpa using fx.1)
      walk_at "w"
      obtain ⟨dx, as, z, hl, u10⟩ := set_attrsU hx9
      refine ⟨x, _, dx, as, rfl, z, rfl, hl, ?_⟩
      obtain ⟨u10, h10⟩ := u10 (.ref d)
      generalize m9.set x _ = m10 at u10 h10 ⊢
      have hdx : d ≠ x := by rintro rfl; obtain ⟨_, _, z⟩ := hx9; rw [hd9] at z; cases z
      have hbx : b ≠ x := by rintro rfl; obtain ⟨_, _, z⟩ := hx9; rw [hb9] at z; cases z
      have hyx : y ≠ x := by
        rintro rfl
        exact absurd (hx9.kd hy9) (by decide)
      have ht10 : LamTab m10 tP lamQ lamPs := ht9.upd u10 fun b hb o z => by
        obtain ⟨_, _, e⟩ := hx9
        rw [List.mem_singleton.mp hb, e] at z; cases z
      walk_at "k"
      refine ts_nil ?_
      refine next m10 (some ss) _ (hrow9.upd u10 (by simpa using Ne.symm fx.1)) (hT9.named (by rw [hss]; exact htl.symm) u10 hx9 h10 fd (u10.sd hd9 (by first | exact ni1 hdx | simpa using hdx)) fy (u10.vec hy9 (by first | exact ni1 hyx | simpa using hyx)) fb (u10.list hb9 (by first | exact ni1 hbx | simpa using hbx))) ht10 ?_ ?_ <;> exact rfl
    · have hh : (i4.fmod 2 == 1) = false := beq_eq_false_iff_ne.mpr q1
      walk_at "f"
      walk_at "w"
      refine next m5 none _ hrow5 hT5.isT ht5 ?_ ?_ <;> exact rfl
end

theorem ints_vr {vs : List Value} {ns : List Int} (h : IntsAre vs ns) : VRs (ns.map .int) vs := by
  induction h with
  | nil => exact .nil
  | cons i t _ ih => exact .cons (.int i t) ih
noncomputable def freeAt (h : Heap) (P : Addr) : Heap := { h with objs := h.objs.setIfInBounds P { cls := .none, data := .freed } }
theorem freeAt_self (h : Heap) (P : Addr) : (freeAt h P).get? P = none := by
  unfold freeAt Heap.get?
  by_cases q : P < h.objs.size
  · simp [q]
  · simp [q]
theorem freeAt_other (h : Heap) {P b : Addr} (hb : b ≠ P) : (freeAt h P).get? b = h.get? b := by
  unfold freeAt Heap.get?
  simp only [Array.getElem?_setIfInBounds_ne (Ne.symm hb)]
theorem keep_ns {h h' : Heap} {a : Addr} {ml : Str → Option Value} (x : h.Ns a ml) (e : h'.get? a = h.get? a) : h'.Ns a ml :=
  ns_keepO x fun o q => ⟨o, e.trans q, .refl o⟩
theorem recs_view : recsOf view = [dLaw] := by kernel_rfl
theorem law_core {w : World} {s₁ : Shared} {mg mb : Str → Option Value} (KI : (KK w.params).In s₁.heap) (hg : s₁.heap.Ns mainGlobals mg) (hb : s₁.heap.Ns builtinsNs mb) (hbb : ∀ x : Str, x ≠ "__name__" → mb x = bootBuiltins x) (hnl : s₁.heap.NoLimit) (hT : s₁.heap.TableAt 795 tP #[])
    (hbm : ∃ bm ob, mg "__builtins__" = some (.ref bm) ∧ bm ≠ builtinsNs ∧ s₁.heap.get? bm = some ob ∧ ob.cls = .type "module" ∧ ob.dict = some builtinsNs ∧ ob.data = .plain) (hgens : s₁.gens = #[]) {is : List Int} {sc : Addr} {vs : List Value} (hL : s₁.heap.IsList sc vs.toArray) (hI : IntsAre vs is) (hlen : is.length ≤ 63) :
    codeAny (model pw w) callerA (.call (.ref 796) ⟨[.ref sc], []⟩) (fun r s' => r = .ok (.ret (.bool true)) ∧ s'.os = s₁.os ∧ s'.gens = #[] ∧ OldK s₁.heap s'.heap) s₁ := by
  have h795 : s₁.heap.get? 795 = some (o795 w.params) := KI 795 (o795 w.params) (by kernel_rfl)
  have hP : s₁.heap.get? tP = some (tabObj #[]) := hT.2
  have hscP : sc ≠ tP := by
    rintro rfl
    obtain ⟨o, e, _, hd⟩ := hL
    rw [hP] at e; cases e
    obtain ⟨_, hd⟩ := hd
    cases hd
  have hsc : s₁.heap.IsList sc vs.toArray := hL
  generalize hX : (⟨w, freeAt s₁.heap tP, s₁.os⟩ : Cx) = X
  have hX0 : X.h₀ = freeAt s₁.heap tP := by rw [← hX]
  have hXw : X.w = w := by rw [← hX]
  have same : ∀ b, b ≠ tP → X.h₀.get? b = s₁.heap.get? b := fun b hb => by rw [hX0]; exact freeAt_other _ hb
  have atP : X.h₀.get? tP = none := by rw [hX0]; exact freeAt_self _ _
  have base : ∀ b o, X.h₀.get? b = some o → s₁.heap.get? b = some o := fun b o e => by
    have hb : b ≠ tP := by rintro rfl; rw [atP] at e; cases e
    rw [← same b hb]; exact e
  have hgX : X.h₀.Ns mainGlobals mg := keep_ns hg (same _ (by decide))
  have hbX : X.h₀.Ns builtinsNs mb := keep_ns hb (same _ (by decide))
  have GX : Glo X := by
    refine ⟨fun b o e => ?_, ⟨mg, hgX⟩, ⟨mb, hbX, hbb⟩, ?_⟩
    · have hb : b ≠ tP := by
        rintro rfl
        have : (KK X.w.params).lookup tP = none := by kernel_rfl
        rw [this] at e; cases e
      rw [same b hb]
      exact KI b o (by rw [hXw] at e; exact e)
    · obtain ⟨mc, h1, h2⟩ := hnl
      exact ⟨mc, keep_ns h1 (same _ (by decide)), h2⟩
  have GL : GloL X tP 795 := by
    obtain ⟨bm, ob, b1, b2, b3, b4, b5, b6⟩ := hbm
    have hbP : bm ≠ tP := by rintro rfl; rw [hP] at b3; cases b3; cases b6
    have hbm : bm ≠ mainGlobals := by
      rintro rfl
      obtain ⟨o, es, ep, q1, q2, _⟩ := hg
      rw [q1] at b3; cases b3; rw [q2] at b6; cases b6
    refine ⟨⟨mg, hgX, bm, ob, b1, b2, hbm, hbP, (same _ hbP).trans b3, b4, b5, b6⟩, ?_, by decide⟩
    exact ⟨o795 w.params, _, _, _, _, _, _, _, _, (same _ (by decide)).trans h795, rfl, rfl, rfl, rfl, rfl, rfl, rfl, rfl, by decide⟩
  generalize hm : (fun b => if b = sc then some (.ro (is.map .int)) else if b = tP then some (.raw (tabObj #[])) else none : MH) = m
  have m1 : m sc = some (.ro (is.map .int)) := by rw [← hm]; exact if_pos rfl
  have m2 : m tP = some (.raw (tabObj #[])) := by rw [← hm]; show (if tP = sc then _ else _) = _; rw [if_neg (Ne.symm hscP), if_pos rfl]
  have m3 : ∀ b o, m b = some o → (b = sc ∧ o = .ro (is.map .int)) ∨ (b = tP ∧ o = .raw (tabObj #[])) := fun b o e => by
    rw [← hm] at e
    by_cases q : b = sc
    · simp only [q, if_true] at e
      exact .inl ⟨q, (Option.some.inj e).symm⟩
    · by_cases q2 : b = tP
      · subst q2
        simp only [q, if_false, if_true] at e
        exact .inr ⟨rfl, (Option.some.inj e).symm⟩
      · simp only [q, q2, if_false] at e; cases e
  clear hm
  have rel : Rel X m s₁ := by
    refine ⟨⟨base, fun b o e => ?_, fun b o e hr => ?_, fun b c dx as e => ?_, fun b c c1 c2 dx as as' e _ => ?_⟩, hgens, by rw [← hX]⟩
    · rcases m3 b o e with ⟨rfl, rfl⟩ | ⟨rfl, rfl⟩
      · exact ⟨vs, hsc, ints_vr hI⟩
      · exact hP
    · rcases m3 b o e with ⟨rfl, rfl⟩ | ⟨rfl, rfl⟩
      · cases hr
      · exact atP
    · rcases m3 b _ e with ⟨_, z⟩ | ⟨_, z⟩ <;> cases z
    · rcases m3 b _ e with ⟨_, z⟩ | ⟨_, z⟩ <;> cases z
  have tab : LamTab m tP lamQ lamPs := ⟨#[], m2, trivial, fun pos _ => .inl rfl⟩
  have main := c_law GX GL m1 (by lia) tab callerA s₁ [.ref sc] ⟨by decide, by decide, rfl, rfl⟩ ⟨[], rfl, trivial, fun b hb => by cases hb⟩ rel (.cons (.ref sc) .nil)
  rw [show md X = model pw w by show model pw X.w = model pw w; rw [hXw]] at main
  refine codeAny_mono main fun r s' x => ?_
  cases r with
  | error e => cases x with | mk _ _ _ _ _ z => exact z.elim
  | ok fl => cases fl with
    | ret rv =>
      obtain ⟨v, m', hv, rel', st, rfl, tab'⟩ := x
      cases hv
      obtain ⟨ps, hps, _⟩ := tab'
      have hp' : s'.heap.get? tP = some (tabObj ps) := rel'.hr.obj tP _ hps
      refine ⟨rfl, rel'.os.trans (by rw [← hX]), rel'.gens, ⟨fun b o e => ?_, fun b o e => ?_⟩⟩
      · by_cases hb : b = tP
        · subst hb
          rw [hP] at e; cases e
          exact .inr (.inl ⟨hT.isCodeTable, rfl, #[], ps, rfl, by rw [hp']; simp⟩)
        · exact .inl (rel'.hr.base b o ((same b hb).trans e))
      · by_cases hb : b = tP
        · subst hb; exact ⟨_, hp'⟩
        · exact ⟨o, rel'.hr.base b o ((same b hb).trans e)⟩
    | _ => exact x.elim
theorem law_walk : WalkO view loose (XL view []) hk.says rwl.row.toRowW dLaw [] fun f vs => PySem.call f vs := by
  intro w s₀ s₁ mg mb G Y a o pm cd doc dV kV ho hd hc hD hmg hgens args vals as hpre hlay hrd hwl hlo
  wrow_args hpre hlay hrd hwl hlo
  rename_i is x1 x2 x3 x4 x5 x6 x7 sc vs x8 hL x9 x10 x11 hI x12 hlen x13
  clear x1 x2 x3 x4 x5 x9 x10 x11 x12 x13 x6 x7 x8 hc hD hd ho
  have KI : (KK w.params).In s₁.heap := kIn_of Y
  have hg : s₁.heap.Ns mainGlobals mg := G.T.g
  have ha : mg "law" = some (.ref 796) := mg_of KI hg (by kernel_rfl)
  obtain rfl : a = 796 := by
    have : some (Value.ref 796) = some (.ref a) := ha.symm.trans hmg
    cases this; rfl
  have h796 : s₁.heap.get? 796 = some (o796 w.params) := KI 796 (o796 w.params) (by kernel_rfl)
  have h795 : s₁.heap.get? 795 = some (o795 w.params) := KI 795 (o795 w.params) (by kernel_rfl)
  have hT : s₁.heap.TableAt 795 tP #[] := by
    obtain ⟨a', o', fd, c, P, t1, t2, t3, t4, _, t6⟩ := G.T.tab dLaw (recs_view ▸ .head _)
    have e1 : a' = 796 := by
      have : some (Value.ref 796) = some (.ref a') := ha.symm.trans t1
      cases this; rfl
    subst e1
    rw [h796] at t2; cases t2
    cases t3
    cases t4
    obtain ⟨⟨oc, cs, c1, c2, c3, c4⟩, t7⟩ := t6
    rw [h795] at c1; cases c1
    cases c3
    cases c4
    exact ⟨⟨_, _, h795, rfl, rfl, rfl⟩, t7⟩
  refine wpAny_call (codeAny_mono (law_core KI hg G.T.b G.T.builtins G.T.nolimit hT G.T.bmain hgens hL hI (by simp at hlen; lia)) fun r s' x => ?_)
  obtain ⟨rfl, hos, hge, hold⟩ := x
  exact ⟨.inl ⟨_, _, [], rfl, fun _ => rfl, ReadsW.bool true, by wrow_post, fun _ => ⟨List.nodup_nil, fun _ hm => (nomatch hm)⟩⟩, hold, hos, AllBare.of_eq hge⟩
theorem holds : rwl.Holds := hd law_walk
end Mine.Internal
theorem PySem.Challenge.cw_nz0524_01_holds : PySem.Challenge.rw_nz0524_01.Holds :=
  Mine.Internal.holds
