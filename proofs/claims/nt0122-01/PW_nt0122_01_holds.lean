import PyProof.Rows.All
import Wide.All
import OpenK.AllK
import Wide.FinOn
import KE.KEqDat
import Lean
import PySem.Challenge.RW_nt0122_01
set_option Elab.async false
set_option linter.all false
section
open PySem PySem.W PyProof.Rows
set_option maxRecDepth 100000
namespace Mine
namespace hd
noncomputable abbrev PR : Program := PySem.Challenge.rw_nt0122_01.row.toRowW.1
@[reducible] def n : Value := .none
@[reducible] def tt : Value := .bool true
@[reducible] def ff : Value := .bool false
@[reducible] def i (k : Int) : Value := .int k 0
@[reducible] def it (k : Int) (x : Nat) : Value := .int k x
@[reducible] def s (x : String) (k : Nat) : Value := .str (Str.ofString x) k
@[reducible] def ty (x : String) : Value := .type x
@[reducible] def bi (x : String) : Value := .builtin x
@[reducible] def r (a : Nat) : Value := .ref a
def e (P : Params) (x : String) (k : Nat) (v : Value) : DictEntry := ⟨PyData.keyHash P (Str.ofString x), .str (Str.ofString x) k, v⟩
def sq (l : List Value) : Data := .seq ⟨l⟩ 0
def f (l : List Value) : Data := .fields ⟨l⟩
def c (x : String) (bases mro : List Value) (ns : Nat) (qual : String) (hd : Bool) (slots : List Str) (subs : List Value) (ab : Bool) (co : Option Bool) (del : Bool) : Data := .cls ⟨Str.ofString x, bases, mro, ns, Str.ofString qual, hd, slots, subs, ab, co, del⟩
def o (cls : Value) (d : Data) : Obj := ⟨cls, none, d, #[]⟩
def t (l : List Value) : Obj := ⟨.type "tuple", none, .seq ⟨l⟩ 0, #[]⟩
noncomputable def nth : List Stmt → Nat → Stmt
  | [], _ => .Pass ⟨0, 0, 0, 0⟩
  | x :: _, 0 => x
  | _ :: l, k + 1 => nth l k
noncomputable def inner : Stmt → List Stmt
  | .FunctionDef _ _ b .. => b
  | .ClassDef _ _ _ b .. => b
  | _ => []
noncomputable def sub : Stmt → List Nat → Stmt
  | x, [] => x
  | x, k :: l => sub (nth (inner x) k) l
noncomputable def st : List Nat → Stmt
  | [] => .Pass ⟨0, 0, 0, 0⟩
  | k :: l => sub (nth PR.main.body k) l
/-- a function object of a def of the text -/
noncomputable def fn (z : Stmt) (qual : String) (g : Addr) (cl : List (Str × Addr)) (dV kV doc pm : Value) (an : Option Addr) (cd ct : Value) (bl : Addr) : Data := match z with
  | .FunctionDef name args body _ _ _ scope _ _ _ => .func { name := name, qualname := Str.ofString qual, params := args, body := .stmts body, scope := scope, globals := g, closure := cl, defaults := dV, kwdefaults := kV, doc := doc, pyModule := pm, annotations := an, code := cd, closureTuple := ct, builtins := bl }
  | _ => .plain
@[reducible] def fk {z : Stmt} {name : Str} {args : Arguments} {body : List Stmt} {dec : List Expr} {ret : Option Expr} {tp : List TypeParam} {scope : Scope} {ts : Option Scope} {bind : Str} {pos : Pos} (_ : z = .FunctionDef name args body dec ret tp scope ts bind pos) (qual : String) (dV kV doc pm : Value) (an : Option Addr) (cd ct : Value) : Obj :=
  ⟨.type "function", none, .func (fnOf name (Str.ofString qual) args body scope dV kV doc pm an cd ct), #[]⟩
noncomputable def chg (l : List Obj) (x : List (Nat × Obj)) : List Obj := x.foldl (fun l p => l.set p.1 p.2) l
noncomputable def alt : List Obj → List Obj × List Obj
  | [] => ([], [])
  | [a] => ([a], [])
  | a :: b :: l => (a :: (alt l).1, b :: (alt l).2)
noncomputable def tree : Nat → List Obj → BT
  | 0, _ => .nil
  | _ + 1, [] => .nil
  | k + 1, a :: l => .node a (tree k (alt l).1) (tree k (alt l).2)
noncomputable def BE : List Stmt := behindTheImports PR
noncomputable def EV : Env := { scope := PR.main.scope, locals := mainNs, globals := mainNs, cells := [], code := .ref 13, frame := some 14 }
noncomputable def CE : Code := .body BE EV
noncomputable abbrev BF : List Frame := [topFrame ⟨0, 0, 0, 0⟩]
noncomputable def w0 (P : Params) : List Obj := [t [],
  o n (f []),
  o (ty "code") (f [(s "<module>" 182), (s "<module>" 183), (s "/claim/cut.py" 184), (i 1), (i 0), (i 0), (i 0), (i 0), (r 11), ff, (i 181), (r 12), n, n, n, n, (i 185), (i 1), (s "/claim/cut.py" 186)]),
  ⟨(ty "frame"), none, .plain, ⟨[some (r 13), some (r 3), some (r 3), none, some (s "__main__" 164), none, some (r 0)]⟩⟩]
noncomputable def l0 (P : Params) : List Obj := [boot_o_0 P, boot_o_1 P, boot_o_2 P, boot_o_3 P, boot_o_4 P, boot_o_5 P, boot_o_6 P, boot_o_7 P, boot_o_8 P, boot_o_9 P, boot_o_10 P] ++ w0 P
noncomputable def h0 (P : Params) : Heap := ⟨⟨l0 P⟩, {}⟩
noncomputable def t0 (P : Params) : BT := tree 1000 (l0 P)
noncomputable def s0 (w : World) (os : OsState) : SharedT := ⟨t0 w.params, 15, {}, ⟨[]⟩, {}, 187, os⟩
noncomputable def c1 (P : Params) : List (Nat × Obj) := [(2, o n (.dict ⟨[e P "type.__subclasses__.Exception.0" 221 (i 38), e P "type.__subclasses__.Exception.n" 222 (i 1)]⟩ 2)),
  (3, o (ty "dict") (.dict ⟨[e P "__name__" 165 (s "pagebase.nodes" 241), e P "__doc__" 166 n, e P "__package__" 167 n, e P "__loader__" 168 (bi "__main__.__loader__#opaque"), e P "__spec__" 169 n, e P "__annotations__" 170 (r 6), e P "__builtins__" 171 (r 4), e P "__file__" 173 (s "/claim/cut.py" 172), e P "__cached__" 174 n, e P "_wall" 193 (r 21), e P "PagebaseError" 224 (r 38), e P "MisuseError" 240 (r 51), e P "row_of" 249 (r 60), e P "rows_of" 255 (r 65), e P "Node" 282 (r 82), e P "Expr" 298 (r 96)]⟩ 16)),
  (12, o n (f [(i 1), (i 0), (r 20), (i 5), (i 0), (r 27), (i 9), (i 0), (r 47), (i 12), (i 0), (r 59), (i 14), (i 0), (r 64), (i 16), (i 0), (r 71), (i 20), (i 0), (r 92)]))]
noncomputable def w1 (P : Params) : List Obj := [t [],
  o n (f []),
  t [(s "k" 190)],
  t [],
  o n (fn (st [0]) "_wall" 0 [] n n n n none n n 0),
  o (ty "code") (f [(s "_wall" 187), (s "_wall" 188), (s "/claim/cut.py" 189), (i 1), (i 1), (i 0), (i 0), (i 3), (r 15), tt, (i 181), (r 16), n, (r 17), (r 18), (r 19), (i 191), (i 1), (s "/claim/cut.py" 192)]),
  o (ty "function") (fn (st [0]) "_wall" 3 [] n n n (s "__main__" 164) none (r 20) n 0),
  t [(ty "Exception")],
  o (ty "builtin_function_or_method") (f [(bi "type.__prepare__"), (ty "type")]),
  o (ty "dict") (.dict ⟨[e P "__module__" 203 (s "pagebase.errors" 194), e P "__qualname__" 205 (s "PagebaseError" 204), e P "__firstlineno__" 207 (it 5 206), e P "__init__" 215 (r 35), e P "__static_attributes__" 217 (r 36)]⟩ 5),
  t [],
  o n (f [(i 7), (i 4), (r 34)]),
  o (ty "code") (f [(s "PagebaseError" 198), (s "PagebaseError" 199), (s "/claim/cut.py" 200), (i 5), (i 0), (i 0), (i 0), (i 0), (r 25), ff, (i 181), (r 26), n, n, n, n, (i 201), (i 5), (s "/claim/cut.py" 202)]),
  ⟨(ty "frame"), none, .plain, ⟨[some (r 27), some (r 3), some (r 24), none, some (s "pagebase.errors" 194), none, some (r 0)]⟩⟩,
  t [],
  o n (f []),
  t [(s "self" 211), (s "message" 212)],
  t [],
  o n (fn (st [2, 0]) "PagebaseError.__init__" 0 [] n n n n none n n 0),
  o (ty "code") (f [(s "__init__" 208), (s "PagebaseError.__init__" 209), (s "/claim/cut.py" 210), (i 7), (i 2), (i 0), (i 0), (i 3), (r 29), tt, (i 181), (r 30), n, (r 31), (r 32), (r 33), (i 213), (i 7), (s "/claim/cut.py" 214)]),
  o (ty "function") (fn (st [2, 0]) "PagebaseError.__init__" 3 [] n n n (s "pagebase.errors" 194) none (r 34) n 0),
  t [(s "message" 216)],
  o (ty "dict") (.dict ⟨[e P "__module__" 203 (s "pagebase.errors" 194), e P "__firstlineno__" 207 (it 5 206), e P "__init__" 215 (r 35), e P "__static_attributes__" 217 (r 36), e P "__weakref__" 219 (r 39), e P "__doc__" 220 n]⟩ 3),
  ⟨(ty "type"), none, (c "PagebaseError" [(ty "Exception")] [(r 38), (ty "Exception"), (ty "BaseException"), (ty "object")] 37 "PagebaseError" true [] [(r 51)] false none false), ⟨[some (r 22), none, some (s "PagebaseError" 196), some (s "PagebaseError" 204), some (bi "Exception.__new__"), some tt]⟩⟩,
  o (ty "getset_descriptor") (f [(s "__weakref__" 218), (r 38), (bi "ExceptionGroup.__weakref__"), n]),
  o (ty "super") (f [(r 38), (r 38), (r 38)]),
  o (ty "builtin_function_or_method") (f [(bi "object.__init_subclass__"), (r 38)]),
  t [(r 38)],
  o (ty "builtin_function_or_method") (f [(bi "type.__prepare__"), (ty "type")]),
  o (ty "dict") (.dict ⟨[e P "__module__" 232 (s "pagebase.errors" 194), e P "__qualname__" 234 (s "MisuseError" 233), e P "__firstlineno__" 236 (it 9 235), e P "__static_attributes__" 237 (r 49)]⟩ 4),
  t [],
  o n (f []),
  o (ty "code") (f [(s "MisuseError" 227), (s "MisuseError" 228), (s "/claim/cut.py" 229), (i 9), (i 0), (i 0), (i 0), (i 0), (r 45), ff, (i 181), (r 46), n, n, n, n, (i 230), (i 9), (s "/claim/cut.py" 231)]),
  ⟨(ty "frame"), none, .plain, ⟨[some (r 47), some (r 3), some (r 44), none, some (s "pagebase.errors" 194), none, some (r 0)]⟩⟩,
  t [],
  o (ty "dict") (.dict ⟨[e P "__module__" 232 (s "pagebase.errors" 194), e P "__firstlineno__" 236 (it 9 235), e P "__static_attributes__" 237 (r 49), e P "__doc__" 238 n]⟩ 2),
  ⟨(ty "type"), none, (c "MisuseError" [(r 38)] [(r 51), (r 38), (ty "Exception"), (ty "BaseException"), (ty "object")] 50 "MisuseError" true [] [] false none false), ⟨[some (r 42), none, some (s "MisuseError" 225), some (s "MisuseError" 233), some (bi "Exception.__new__"), some tt]⟩⟩,
  o (ty "super") (f [(r 51), (r 51), (r 51)]),
  o (ty "builtin_function_or_method") (f [(bi "object.__init_subclass__"), (r 51)]),
  t [],
  o n (f []),
  t [(s "node" 246)],
  t [],
  o n (fn (st [5]) "row_of" 0 [] n n n n none n n 0),
  o (ty "code") (f [(s "row_of" 243), (s "row_of" 244), (s "/claim/cut.py" 245), (i 12), (i 1), (i 0), (i 0), (i 3), (r 54), tt, (i 181), (r 55), n, (r 56), (r 57), (r 58), (i 247), (i 12), (s "/claim/cut.py" 248)]),
  o (ty "function") (fn (st [5]) "row_of" 3 [] n n n (s "pagebase.nodes" 241) none (r 59) n 0),
  t [],
  o n (f []),
  o n (fn (st [6]) "rows_of" 0 [] n n n n none n n 0),
  o (ty "code") (f [(s "rows_of" 250), (s "rows_of" 251), (s "/claim/cut.py" 252), (i 14), (i 1), (i 0), (i 0), (i 3), (r 61), tt, (i 181), (r 62), n, n, n, (r 63), (i 253), (i 14), (s "/claim/cut.py" 254)]),
  o (ty "function") (fn (st [6]) "rows_of" 3 [] n n n (s "pagebase.nodes" 241) none (r 64) n 0),
  t [],
  o (ty "builtin_function_or_method") (f [(bi "type.__prepare__"), (ty "type")]),
  o (ty "dict") (.dict ⟨[e P "__module__" 263 (s "pagebase.nodes" 241), e P "__qualname__" 265 (s "Node" 264), e P "__firstlineno__" 267 (it 16 266), e P "row" 274 (r 79), e P "__static_attributes__" 275 (r 80)]⟩ 5),
  t [],
  o n (f [(i 18), (i 4), (r 78)]),
  o (ty "code") (f [(s "Node" 258), (s "Node" 259), (s "/claim/cut.py" 260), (i 16), (i 0), (i 0), (i 0), (i 0), (r 69), ff, (i 181), (r 70), n, n, n, n, (i 261), (i 16), (s "/claim/cut.py" 262)]),
  ⟨(ty "frame"), none, .plain, ⟨[some (r 71), some (r 3), some (r 68), none, some (s "pagebase.nodes" 241), none, some (r 0)]⟩⟩,
  t [],
  o n (f []),
  t [(s "self" 271)],
  t [],
  o n (fn (st [7, 0]) "Node.row" 0 [] n n n n none n n 0),
  o (ty "code") (f [(s "row" 268), (s "Node.row" 269), (s "/claim/cut.py" 270), (i 18), (i 1), (i 0), (i 0), (i 3), (r 73), tt, (i 181), (r 74), n, (r 75), (r 76), (r 77), (i 272), (i 18), (s "/claim/cut.py" 273)]),
  o (ty "function") (fn (st [7, 0]) "Node.row" 3 [] n n n (s "pagebase.nodes" 241) none (r 78) n 0),
  t [],
  o (ty "dict") (.dict ⟨[e P "__module__" 263 (s "pagebase.nodes" 241), e P "__firstlineno__" 267 (it 16 266), e P "row" 274 (r 79), e P "__static_attributes__" 275 (r 80), e P "__dict__" 277 (r 83), e P "__weakref__" 279 (r 84), e P "__doc__" 280 n]⟩ 4),
  ⟨(ty "type"), none, (c "Node" [(ty "object")] [(r 82), (ty "object")] 81 "Node" true [] [(r 96)] false none false), ⟨[none, none, some (s "Node" 256), some (s "Node" 264), some (bi "object.__new__"), some tt]⟩⟩,
  o (ty "getset_descriptor") (f [(s "__dict__" 276), (r 82), (bi "function.__dict__"), (bi "function.__dict__#set")]),
  o (ty "getset_descriptor") (f [(s "__weakref__" 278), (r 82), (bi "ExceptionGroup.__weakref__"), n]),
  o (ty "super") (f [(r 82), (r 82), (r 82)]),
  o (ty "builtin_function_or_method") (f [(bi "object.__init_subclass__"), (r 82)]),
  t [(r 82)],
  o (ty "builtin_function_or_method") (f [(bi "type.__prepare__"), (ty "type")]),
  o (ty "dict") (.dict ⟨[e P "__module__" 290 (s "pagebase.nodes" 241), e P "__qualname__" 292 (s "Expr" 291), e P "__firstlineno__" 294 (it 20 293), e P "__static_attributes__" 295 (r 94)]⟩ 4),
  t [],
  o n (f []),
  o (ty "code") (f [(s "Expr" 285), (s "Expr" 286), (s "/claim/cut.py" 287), (i 20), (i 0), (i 0), (i 0), (i 0), (r 90), ff, (i 181), (r 91), n, n, n, n, (i 288), (i 20), (s "/claim/cut.py" 289)]),
  ⟨(ty "frame"), none, .plain, ⟨[some (r 92), some (r 3), some (r 89), none, some (s "pagebase.nodes" 241), none, some (r 0)]⟩⟩,
  t [],
  o (ty "dict") (.dict ⟨[e P "__module__" 290 (s "pagebase.nodes" 241), e P "__firstlineno__" 294 (it 20 293), e P "__static_attributes__" 295 (r 94), e P "__doc__" 296 n]⟩ 2),
  ⟨(ty "type"), none, (c "Expr" [(r 82)] [(r 96), (r 82), (ty "object")] 95 "Expr" true [] [] false none false), ⟨[some (r 87), none, some (s "Expr" 283), some (s "Expr" 291), some (bi "object.__new__"), some tt]⟩⟩,
  o (ty "super") (f [(r 96), (r 96), (r 96)]),
  o (ty "builtin_function_or_method") (f [(bi "object.__init_subclass__"), (r 96)])]
noncomputable def l1 (P : Params) : List Obj := chg (l0 P) (c1 P) ++ w1 P
noncomputable def t1 (P : Params) : BT := tree 1000 (l1 P)
noncomputable def s1 (w : World) (os : OsState) : SharedT := ⟨t1 w.params, 99, {}, ⟨[]⟩, {}, 299, os⟩
noncomputable def c2 (P : Params) : List (Nat × Obj) := [(3, o (ty "dict") (.dict ⟨[e P "__name__" 165 (s "pagebase.nodes" 241), e P "__doc__" 166 n, e P "__package__" 167 n, e P "__loader__" 168 (bi "__main__.__loader__#opaque"), e P "__spec__" 169 n, e P "__annotations__" 170 (r 6), e P "__builtins__" 171 (r 4), e P "__file__" 173 (s "/claim/cut.py" 172), e P "__cached__" 174 n, e P "_wall" 193 (r 21), e P "PagebaseError" 224 (r 38), e P "MisuseError" 240 (r 51), e P "row_of" 249 (r 60), e P "rows_of" 255 (r 65), e P "Node" 282 (r 82), e P "Expr" 298 (r 96), e P "Literal" 330 (r 122), e P "Name" 367 (r 148), e P "Variable" 399 (r 174), e P "Unary" 433 (r 200)]⟩ 20)),
  (12, o n (f [(i 1), (i 0), (r 20), (i 5), (i 0), (r 27), (i 9), (i 0), (r 47), (i 12), (i 0), (r 59), (i 14), (i 0), (r 64), (i 16), (i 0), (r 71), (i 20), (i 0), (r 92), (i 22), (i 0), (r 104), (i 33), (i 0), (r 130), (i 44), (i 0), (r 156), (i 51), (i 0), (r 182)])),
  (96, ⟨(ty "type"), none, (c "Expr" [(r 82)] [(r 96), (r 82), (ty "object")] 95 "Expr" true [] [(r 122), (r 148), (r 174), (r 200)] false none false), ⟨[some (r 87), none, some (s "Expr" 283), some (s "Expr" 291), some (bi "object.__new__"), some tt]⟩⟩)]
noncomputable def w2 (P : Params) : List Obj := [t [(r 96)],
  o (ty "builtin_function_or_method") (f [(bi "type.__prepare__"), (ty "type")]),
  o (ty "dict") (.dict ⟨[e P "__module__" 306 (s "pagebase.nodes" 241), e P "__qualname__" 308 (s "Literal" 307), e P "__firstlineno__" 310 (it 22 309), e P "__init__" 318 (r 112), e P "row" 325 (r 119), e P "__static_attributes__" 327 (r 120)]⟩ 6),
  t [],
  o n (f [(i 24), (i 4), (r 111), (i 27), (i 4), (r 118)]),
  o (ty "code") (f [(s "Literal" 301), (s "Literal" 302), (s "/claim/cut.py" 303), (i 22), (i 0), (i 0), (i 0), (i 0), (r 102), ff, (i 181), (r 103), n, n, n, n, (i 304), (i 22), (s "/claim/cut.py" 305)]),
  ⟨(ty "frame"), none, .plain, ⟨[some (r 104), some (r 3), some (r 101), none, some (s "pagebase.nodes" 241), none, some (r 0)]⟩⟩,
  t [],
  o n (f []),
  t [(s "self" 314), (s "value" 315)],
  t [],
  o n (fn (st [9, 0]) "Literal.__init__" 0 [] n n n n none n n 0),
  o (ty "code") (f [(s "__init__" 311), (s "Literal.__init__" 312), (s "/claim/cut.py" 313), (i 24), (i 2), (i 0), (i 0), (i 3), (r 106), tt, (i 181), (r 107), n, (r 108), (r 109), (r 110), (i 316), (i 24), (s "/claim/cut.py" 317)]),
  o (ty "function") (fn (st [9, 0]) "Literal.__init__" 3 [] n n n (s "pagebase.nodes" 241) none (r 111) n 0),
  t [],
  o n (f []),
  t [(s "self" 322)],
  t [],
  o n (fn (st [9, 1]) "Literal.row" 0 [] n n n n none n n 0),
  o (ty "code") (f [(s "row" 319), (s "Literal.row" 320), (s "/claim/cut.py" 321), (i 27), (i 1), (i 0), (i 0), (i 3), (r 113), tt, (i 181), (r 114), n, (r 115), (r 116), (r 117), (i 323), (i 27), (s "/claim/cut.py" 324)]),
  o (ty "function") (fn (st [9, 1]) "Literal.row" 3 [] n n n (s "pagebase.nodes" 241) none (r 118) n 0),
  t [(s "value" 326)],
  o (ty "dict") (.dict ⟨[e P "__module__" 306 (s "pagebase.nodes" 241), e P "__firstlineno__" 310 (it 22 309), e P "__init__" 318 (r 112), e P "row" 325 (r 119), e P "__static_attributes__" 327 (r 120), e P "__doc__" 328 n]⟩ 2),
  ⟨(ty "type"), none, (c "Literal" [(r 96)] [(r 122), (r 96), (r 82), (ty "object")] 121 "Literal" true [] [] false none false), ⟨[some (r 99), none, some (s "Literal" 299), some (s "Literal" 307), some (bi "object.__new__"), some tt]⟩⟩,
  o (ty "super") (f [(r 122), (r 122), (r 122)]),
  o (ty "builtin_function_or_method") (f [(bi "object.__init_subclass__"), (r 122)]),
  t [(r 96)],
  o (ty "builtin_function_or_method") (f [(bi "type.__prepare__"), (ty "type")]),
  o (ty "dict") (.dict ⟨[e P "__module__" 338 (s "pagebase.nodes" 241), e P "__qualname__" 340 (s "Name" 339), e P "__firstlineno__" 342 (it 33 341), e P "__init__" 351 (r 138), e P "row" 358 (r 145), e P "__static_attributes__" 364 (r 146)]⟩ 6),
  t [],
  o n (f [(i 35), (i 4), (r 137), (i 42), (i 4), (r 144)]),
  o (ty "code") (f [(s "Name" 333), (s "Name" 334), (s "/claim/cut.py" 335), (i 33), (i 0), (i 0), (i 0), (i 0), (r 128), ff, (i 181), (r 129), n, n, n, n, (i 336), (i 33), (s "/claim/cut.py" 337)]),
  ⟨(ty "frame"), none, .plain, ⟨[some (r 130), some (r 3), some (r 127), none, some (s "pagebase.nodes" 241), none, some (r 0)]⟩⟩,
  t [],
  o n (f []),
  t [(s "self" 346), (s "table" 347), (s "column" 348)],
  t [],
  o n (fn (st [10, 0]) "Name.__init__" 0 [] n n n n none n n 0),
  o (ty "code") (f [(s "__init__" 343), (s "Name.__init__" 344), (s "/claim/cut.py" 345), (i 35), (i 3), (i 0), (i 0), (i 3), (r 132), tt, (i 181), (r 133), n, (r 134), (r 135), (r 136), (i 349), (i 35), (s "/claim/cut.py" 350)]),
  o (ty "function") (fn (st [10, 0]) "Name.__init__" 3 [] n n n (s "pagebase.nodes" 241) none (r 137) n 0),
  t [],
  o n (f []),
  t [(s "self" 355)],
  t [],
  o n (fn (st [10, 1]) "Name.row" 0 [] n n n n none n n 0),
  o (ty "code") (f [(s "row" 352), (s "Name.row" 353), (s "/claim/cut.py" 354), (i 42), (i 1), (i 0), (i 0), (i 3), (r 139), tt, (i 181), (r 140), n, (r 141), (r 142), (r 143), (i 356), (i 42), (s "/claim/cut.py" 357)]),
  o (ty "function") (fn (st [10, 1]) "Name.row" 3 [] n n n (s "pagebase.nodes" 241) none (r 144) n 0),
  t [(s "column" 359), (s "depth" 360), (s "place" 361), (s "source" 362), (s "table" 363)],
  o (ty "dict") (.dict ⟨[e P "__module__" 338 (s "pagebase.nodes" 241), e P "__firstlineno__" 342 (it 33 341), e P "__init__" 351 (r 138), e P "row" 358 (r 145), e P "__static_attributes__" 364 (r 146), e P "__doc__" 365 n]⟩ 2),
  ⟨(ty "type"), none, (c "Name" [(r 96)] [(r 148), (r 96), (r 82), (ty "object")] 147 "Name" true [] [] false none false), ⟨[some (r 125), none, some (s "Name" 331), some (s "Name" 339), some (bi "object.__new__"), some tt]⟩⟩,
  o (ty "super") (f [(r 148), (r 148), (r 148)]),
  o (ty "builtin_function_or_method") (f [(bi "object.__init_subclass__"), (r 148)]),
  t [(r 96)],
  o (ty "builtin_function_or_method") (f [(bi "type.__prepare__"), (ty "type")]),
  o (ty "dict") (.dict ⟨[e P "__module__" 375 (s "pagebase.nodes" 241), e P "__qualname__" 377 (s "Variable" 376), e P "__firstlineno__" 379 (it 44 378), e P "__init__" 387 (r 164), e P "row" 394 (r 171), e P "__static_attributes__" 396 (r 172)]⟩ 6),
  t [],
  o n (f [(i 46), (i 4), (r 163), (i 49), (i 4), (r 170)]),
  o (ty "code") (f [(s "Variable" 370), (s "Variable" 371), (s "/claim/cut.py" 372), (i 44), (i 0), (i 0), (i 0), (i 0), (r 154), ff, (i 181), (r 155), n, n, n, n, (i 373), (i 44), (s "/claim/cut.py" 374)]),
  ⟨(ty "frame"), none, .plain, ⟨[some (r 156), some (r 3), some (r 153), none, some (s "pagebase.nodes" 241), none, some (r 0)]⟩⟩,
  t [],
  o n (f []),
  t [(s "self" 383), (s "number" 384)],
  t [],
  o n (fn (st [11, 0]) "Variable.__init__" 0 [] n n n n none n n 0),
  o (ty "code") (f [(s "__init__" 380), (s "Variable.__init__" 381), (s "/claim/cut.py" 382), (i 46), (i 2), (i 0), (i 0), (i 3), (r 158), tt, (i 181), (r 159), n, (r 160), (r 161), (r 162), (i 385), (i 46), (s "/claim/cut.py" 386)]),
  o (ty "function") (fn (st [11, 0]) "Variable.__init__" 3 [] n n n (s "pagebase.nodes" 241) none (r 163) n 0),
  t [],
  o n (f []),
  t [(s "self" 391)],
  t [],
  o n (fn (st [11, 1]) "Variable.row" 0 [] n n n n none n n 0),
  o (ty "code") (f [(s "row" 388), (s "Variable.row" 389), (s "/claim/cut.py" 390), (i 49), (i 1), (i 0), (i 0), (i 3), (r 165), tt, (i 181), (r 166), n, (r 167), (r 168), (r 169), (i 392), (i 49), (s "/claim/cut.py" 393)]),
  o (ty "function") (fn (st [11, 1]) "Variable.row" 3 [] n n n (s "pagebase.nodes" 241) none (r 170) n 0),
  t [(s "number" 395)],
  o (ty "dict") (.dict ⟨[e P "__module__" 375 (s "pagebase.nodes" 241), e P "__firstlineno__" 379 (it 44 378), e P "__init__" 387 (r 164), e P "row" 394 (r 171), e P "__static_attributes__" 396 (r 172), e P "__doc__" 397 n]⟩ 2),
  ⟨(ty "type"), none, (c "Variable" [(r 96)] [(r 174), (r 96), (r 82), (ty "object")] 173 "Variable" true [] [] false none false), ⟨[some (r 151), none, some (s "Variable" 368), some (s "Variable" 376), some (bi "object.__new__"), some tt]⟩⟩,
  o (ty "super") (f [(r 174), (r 174), (r 174)]),
  o (ty "builtin_function_or_method") (f [(bi "object.__init_subclass__"), (r 174)]),
  t [(r 96)],
  o (ty "builtin_function_or_method") (f [(bi "type.__prepare__"), (ty "type")]),
  o (ty "dict") (.dict ⟨[e P "__module__" 407 (s "pagebase.nodes" 241), e P "__qualname__" 409 (s "Unary" 408), e P "__firstlineno__" 411 (it 51 410), e P "__init__" 420 (r 190), e P "row" 427 (r 197), e P "__static_attributes__" 430 (r 198)]⟩ 6),
  t [],
  o n (f [(i 53), (i 4), (r 189), (i 57), (i 4), (r 196)]),
  o (ty "code") (f [(s "Unary" 402), (s "Unary" 403), (s "/claim/cut.py" 404), (i 51), (i 0), (i 0), (i 0), (i 0), (r 180), ff, (i 181), (r 181), n, n, n, n, (i 405), (i 51), (s "/claim/cut.py" 406)]),
  ⟨(ty "frame"), none, .plain, ⟨[some (r 182), some (r 3), some (r 179), none, some (s "pagebase.nodes" 241), none, some (r 0)]⟩⟩,
  t [],
  o n (f []),
  t [(s "self" 415), (s "op" 416), (s "operand" 417)],
  t [],
  o n (fn (st [12, 0]) "Unary.__init__" 0 [] n n n n none n n 0),
  o (ty "code") (f [(s "__init__" 412), (s "Unary.__init__" 413), (s "/claim/cut.py" 414), (i 53), (i 3), (i 0), (i 0), (i 3), (r 184), tt, (i 181), (r 185), n, (r 186), (r 187), (r 188), (i 418), (i 53), (s "/claim/cut.py" 419)]),
  o (ty "function") (fn (st [12, 0]) "Unary.__init__" 3 [] n n n (s "pagebase.nodes" 241) none (r 189) n 0),
  t [],
  o n (f []),
  t [(s "self" 424)],
  t [],
  o n (fn (st [12, 1]) "Unary.row" 0 [] n n n n none n n 0),
  o (ty "code") (f [(s "row" 421), (s "Unary.row" 422), (s "/claim/cut.py" 423), (i 57), (i 1), (i 0), (i 0), (i 3), (r 191), tt, (i 181), (r 192), n, (r 193), (r 194), (r 195), (i 425), (i 57), (s "/claim/cut.py" 426)]),
  o (ty "function") (fn (st [12, 1]) "Unary.row" 3 [] n n n (s "pagebase.nodes" 241) none (r 196) n 0),
  t [(s "op" 428), (s "operand" 429)],
  o (ty "dict") (.dict ⟨[e P "__module__" 407 (s "pagebase.nodes" 241), e P "__firstlineno__" 411 (it 51 410), e P "__init__" 420 (r 190), e P "row" 427 (r 197), e P "__static_attributes__" 430 (r 198), e P "__doc__" 431 n]⟩ 2),
  ⟨(ty "type"), none, (c "Unary" [(r 96)] [(r 200), (r 96), (r 82), (ty "object")] 199 "Unary" true [] [] false none false), ⟨[some (r 177), none, some (s "Unary" 400), some (s "Unary" 408), some (bi "object.__new__"), some tt]⟩⟩,
  o (ty "super") (f [(r 200), (r 200), (r 200)]),
  o (ty "builtin_function_or_method") (f [(bi "object.__init_subclass__"), (r 200)])]
noncomputable def l2 (P : Params) : List Obj := chg (l1 P) (c2 P) ++ w2 P
noncomputable def t2 (P : Params) : BT := tree 1000 (l2 P)
noncomputable def s2 (w : World) (os : OsState) : SharedT := ⟨t2 w.params, 203, {}, ⟨[]⟩, {}, 434, os⟩
noncomputable def c3 (P : Params) : List (Nat × Obj) := [(3, o (ty "dict") (.dict ⟨[e P "__name__" 165 (s "pagebase.nodes" 241), e P "__doc__" 166 n, e P "__package__" 167 n, e P "__loader__" 168 (bi "__main__.__loader__#opaque"), e P "__spec__" 169 n, e P "__annotations__" 170 (r 6), e P "__builtins__" 171 (r 4), e P "__file__" 173 (s "/claim/cut.py" 172), e P "__cached__" 174 n, e P "_wall" 193 (r 21), e P "PagebaseError" 224 (r 38), e P "MisuseError" 240 (r 51), e P "row_of" 249 (r 60), e P "rows_of" 255 (r 65), e P "Node" 282 (r 82), e P "Expr" 298 (r 96), e P "Literal" 330 (r 122), e P "Name" 367 (r 148), e P "Variable" 399 (r 174), e P "Unary" 433 (r 200), e P "Binary" 469 (r 226), e P "Between" 507 (r 252), e P "InList" 543 (r 278), e P "Scalar" 575 (r 304)]⟩ 24)),
  (12, o n (f [(i 1), (i 0), (r 20), (i 5), (i 0), (r 27), (i 9), (i 0), (r 47), (i 12), (i 0), (r 59), (i 14), (i 0), (r 64), (i 16), (i 0), (r 71), (i 20), (i 0), (r 92), (i 22), (i 0), (r 104), (i 33), (i 0), (r 130), (i 44), (i 0), (r 156), (i 51), (i 0), (r 182), (i 59), (i 0), (r 208), (i 68), (i 0), (r 234), (i 78), (i 0), (r 260), (i 87), (i 0), (r 286)])),
  (96, ⟨(ty "type"), none, (c "Expr" [(r 82)] [(r 96), (r 82), (ty "object")] 95 "Expr" true [] [(r 122), (r 148), (r 174), (r 200), (r 226), (r 252), (r 278), (r 304)] false none false), ⟨[some (r 87), none, some (s "Expr" 283), some (s "Expr" 291), some (bi "object.__new__"), some tt]⟩⟩)]
noncomputable def w3 (P : Params) : List Obj := [t [(r 96)],
  o (ty "builtin_function_or_method") (f [(bi "type.__prepare__"), (ty "type")]),
  o (ty "dict") (.dict ⟨[e P "__module__" 441 (s "pagebase.nodes" 241), e P "__qualname__" 443 (s "Binary" 442), e P "__firstlineno__" 445 (it 59 444), e P "__init__" 455 (r 216), e P "row" 462 (r 223), e P "__static_attributes__" 466 (r 224)]⟩ 6),
  t [],
  o n (f [(i 61), (i 4), (r 215), (i 66), (i 4), (r 222)]),
  o (ty "code") (f [(s "Binary" 436), (s "Binary" 437), (s "/claim/cut.py" 438), (i 59), (i 0), (i 0), (i 0), (i 0), (r 206), ff, (i 181), (r 207), n, n, n, n, (i 439), (i 59), (s "/claim/cut.py" 440)]),
  ⟨(ty "frame"), none, .plain, ⟨[some (r 208), some (r 3), some (r 205), none, some (s "pagebase.nodes" 241), none, some (r 0)]⟩⟩,
  t [],
  o n (f []),
  t [(s "self" 449), (s "op" 450), (s "left" 451), (s "right" 452)],
  t [],
  o n (fn (st [13, 0]) "Binary.__init__" 0 [] n n n n none n n 0),
  o (ty "code") (f [(s "__init__" 446), (s "Binary.__init__" 447), (s "/claim/cut.py" 448), (i 61), (i 4), (i 0), (i 0), (i 3), (r 210), tt, (i 181), (r 211), n, (r 212), (r 213), (r 214), (i 453), (i 61), (s "/claim/cut.py" 454)]),
  o (ty "function") (fn (st [13, 0]) "Binary.__init__" 3 [] n n n (s "pagebase.nodes" 241) none (r 215) n 0),
  t [],
  o n (f []),
  t [(s "self" 459)],
  t [],
  o n (fn (st [13, 1]) "Binary.row" 0 [] n n n n none n n 0),
  o (ty "code") (f [(s "row" 456), (s "Binary.row" 457), (s "/claim/cut.py" 458), (i 66), (i 1), (i 0), (i 0), (i 3), (r 217), tt, (i 181), (r 218), n, (r 219), (r 220), (r 221), (i 460), (i 66), (s "/claim/cut.py" 461)]),
  o (ty "function") (fn (st [13, 1]) "Binary.row" 3 [] n n n (s "pagebase.nodes" 241) none (r 222) n 0),
  t [(s "left" 463), (s "op" 464), (s "right" 465)],
  o (ty "dict") (.dict ⟨[e P "__module__" 441 (s "pagebase.nodes" 241), e P "__firstlineno__" 445 (it 59 444), e P "__init__" 455 (r 216), e P "row" 462 (r 223), e P "__static_attributes__" 466 (r 224), e P "__doc__" 467 n]⟩ 2),
  ⟨(ty "type"), none, (c "Binary" [(r 96)] [(r 226), (r 96), (r 82), (ty "object")] 225 "Binary" true [] [] false none false), ⟨[some (r 203), none, some (s "Binary" 434), some (s "Binary" 442), some (bi "object.__new__"), some tt]⟩⟩,
  o (ty "super") (f [(r 226), (r 226), (r 226)]),
  o (ty "builtin_function_or_method") (f [(bi "object.__init_subclass__"), (r 226)]),
  t [(r 96)],
  o (ty "builtin_function_or_method") (f [(bi "type.__prepare__"), (ty "type")]),
  o (ty "dict") (.dict ⟨[e P "__module__" 477 (s "pagebase.nodes" 241), e P "__qualname__" 479 (s "Between" 478), e P "__firstlineno__" 481 (it 68 480), e P "__init__" 492 (r 242), e P "row" 499 (r 249), e P "__static_attributes__" 504 (r 250)]⟩ 6),
  t [],
  o n (f [(i 70), (i 4), (r 241), (i 76), (i 4), (r 248)]),
  o (ty "code") (f [(s "Between" 472), (s "Between" 473), (s "/claim/cut.py" 474), (i 68), (i 0), (i 0), (i 0), (i 0), (r 232), ff, (i 181), (r 233), n, n, n, n, (i 475), (i 68), (s "/claim/cut.py" 476)]),
  ⟨(ty "frame"), none, .plain, ⟨[some (r 234), some (r 3), some (r 231), none, some (s "pagebase.nodes" 241), none, some (r 0)]⟩⟩,
  t [],
  o n (f []),
  t [(s "self" 485), (s "value" 486), (s "low" 487), (s "high" 488), (s "negated" 489)],
  t [],
  o n (fn (st [14, 0]) "Between.__init__" 0 [] n n n n none n n 0),
  o (ty "code") (f [(s "__init__" 482), (s "Between.__init__" 483), (s "/claim/cut.py" 484), (i 70), (i 5), (i 0), (i 0), (i 3), (r 236), tt, (i 181), (r 237), n, (r 238), (r 239), (r 240), (i 490), (i 70), (s "/claim/cut.py" 491)]),
  o (ty "function") (fn (st [14, 0]) "Between.__init__" 3 [] n n n (s "pagebase.nodes" 241) none (r 241) n 0),
  t [],
  o n (f []),
  t [(s "self" 496)],
  t [],
  o n (fn (st [14, 1]) "Between.row" 0 [] n n n n none n n 0),
  o (ty "code") (f [(s "row" 493), (s "Between.row" 494), (s "/claim/cut.py" 495), (i 76), (i 1), (i 0), (i 0), (i 3), (r 243), tt, (i 181), (r 244), n, (r 245), (r 246), (r 247), (i 497), (i 76), (s "/claim/cut.py" 498)]),
  o (ty "function") (fn (st [14, 1]) "Between.row" 3 [] n n n (s "pagebase.nodes" 241) none (r 248) n 0),
  t [(s "high" 500), (s "low" 501), (s "negated" 502), (s "value" 503)],
  o (ty "dict") (.dict ⟨[e P "__module__" 477 (s "pagebase.nodes" 241), e P "__firstlineno__" 481 (it 68 480), e P "__init__" 492 (r 242), e P "row" 499 (r 249), e P "__static_attributes__" 504 (r 250), e P "__doc__" 505 n]⟩ 2),
  ⟨(ty "type"), none, (c "Between" [(r 96)] [(r 252), (r 96), (r 82), (ty "object")] 251 "Between" true [] [] false none false), ⟨[some (r 229), none, some (s "Between" 470), some (s "Between" 478), some (bi "object.__new__"), some tt]⟩⟩,
  o (ty "super") (f [(r 252), (r 252), (r 252)]),
  o (ty "builtin_function_or_method") (f [(bi "object.__init_subclass__"), (r 252)]),
  t [(r 96)],
  o (ty "builtin_function_or_method") (f [(bi "type.__prepare__"), (ty "type")]),
  o (ty "dict") (.dict ⟨[e P "__module__" 515 (s "pagebase.nodes" 241), e P "__qualname__" 517 (s "InList" 516), e P "__firstlineno__" 519 (it 78 518), e P "__init__" 529 (r 268), e P "row" 536 (r 275), e P "__static_attributes__" 540 (r 276)]⟩ 6),
  t [],
  o n (f [(i 80), (i 4), (r 267), (i 85), (i 4), (r 274)]),
  o (ty "code") (f [(s "InList" 510), (s "InList" 511), (s "/claim/cut.py" 512), (i 78), (i 0), (i 0), (i 0), (i 0), (r 258), ff, (i 181), (r 259), n, n, n, n, (i 513), (i 78), (s "/claim/cut.py" 514)]),
  ⟨(ty "frame"), none, .plain, ⟨[some (r 260), some (r 3), some (r 257), none, some (s "pagebase.nodes" 241), none, some (r 0)]⟩⟩,
  t [],
  o n (f []),
  t [(s "self" 523), (s "value" 524), (s "items" 525), (s "negated" 526)],
  t [],
  o n (fn (st [15, 0]) "InList.__init__" 0 [] n n n n none n n 0),
  o (ty "code") (f [(s "__init__" 520), (s "InList.__init__" 521), (s "/claim/cut.py" 522), (i 80), (i 4), (i 0), (i 0), (i 3), (r 262), tt, (i 181), (r 263), n, (r 264), (r 265), (r 266), (i 527), (i 80), (s "/claim/cut.py" 528)]),
  o (ty "function") (fn (st [15, 0]) "InList.__init__" 3 [] n n n (s "pagebase.nodes" 241) none (r 267) n 0),
  t [],
  o n (f []),
  t [(s "self" 533)],
  t [],
  o n (fn (st [15, 1]) "InList.row" 0 [] n n n n none n n 0),
  o (ty "code") (f [(s "row" 530), (s "InList.row" 531), (s "/claim/cut.py" 532), (i 85), (i 1), (i 0), (i 0), (i 3), (r 269), tt, (i 181), (r 270), n, (r 271), (r 272), (r 273), (i 534), (i 85), (s "/claim/cut.py" 535)]),
  o (ty "function") (fn (st [15, 1]) "InList.row" 3 [] n n n (s "pagebase.nodes" 241) none (r 274) n 0),
  t [(s "items" 537), (s "negated" 538), (s "value" 539)],
  o (ty "dict") (.dict ⟨[e P "__module__" 515 (s "pagebase.nodes" 241), e P "__firstlineno__" 519 (it 78 518), e P "__init__" 529 (r 268), e P "row" 536 (r 275), e P "__static_attributes__" 540 (r 276), e P "__doc__" 541 n]⟩ 2),
  ⟨(ty "type"), none, (c "InList" [(r 96)] [(r 278), (r 96), (r 82), (ty "object")] 277 "InList" true [] [] false none false), ⟨[some (r 255), none, some (s "InList" 508), some (s "InList" 516), some (bi "object.__new__"), some tt]⟩⟩,
  o (ty "super") (f [(r 278), (r 278), (r 278)]),
  o (ty "builtin_function_or_method") (f [(bi "object.__init_subclass__"), (r 278)]),
  t [(r 96)],
  o (ty "builtin_function_or_method") (f [(bi "type.__prepare__"), (ty "type")]),
  o (ty "dict") (.dict ⟨[e P "__module__" 551 (s "pagebase.nodes" 241), e P "__qualname__" 553 (s "Scalar" 552), e P "__firstlineno__" 555 (it 87 554), e P "__init__" 563 (r 294), e P "row" 570 (r 301), e P "__static_attributes__" 572 (r 302)]⟩ 6),
  t [],
  o n (f [(i 89), (i 4), (r 293), (i 92), (i 4), (r 300)]),
  o (ty "code") (f [(s "Scalar" 546), (s "Scalar" 547), (s "/claim/cut.py" 548), (i 87), (i 0), (i 0), (i 0), (i 0), (r 284), ff, (i 181), (r 285), n, n, n, n, (i 549), (i 87), (s "/claim/cut.py" 550)]),
  ⟨(ty "frame"), none, .plain, ⟨[some (r 286), some (r 3), some (r 283), none, some (s "pagebase.nodes" 241), none, some (r 0)]⟩⟩,
  t [],
  o n (f []),
  t [(s "self" 559), (s "select" 560)],
  t [],
  o n (fn (st [16, 0]) "Scalar.__init__" 0 [] n n n n none n n 0),
  o (ty "code") (f [(s "__init__" 556), (s "Scalar.__init__" 557), (s "/claim/cut.py" 558), (i 89), (i 2), (i 0), (i 0), (i 3), (r 288), tt, (i 181), (r 289), n, (r 290), (r 291), (r 292), (i 561), (i 89), (s "/claim/cut.py" 562)]),
  o (ty "function") (fn (st [16, 0]) "Scalar.__init__" 3 [] n n n (s "pagebase.nodes" 241) none (r 293) n 0),
  t [],
  o n (f []),
  t [(s "self" 567)],
  t [],
  o n (fn (st [16, 1]) "Scalar.row" 0 [] n n n n none n n 0),
  o (ty "code") (f [(s "row" 564), (s "Scalar.row" 565), (s "/claim/cut.py" 566), (i 92), (i 1), (i 0), (i 0), (i 3), (r 295), tt, (i 181), (r 296), n, (r 297), (r 298), (r 299), (i 568), (i 92), (s "/claim/cut.py" 569)]),
  o (ty "function") (fn (st [16, 1]) "Scalar.row" 3 [] n n n (s "pagebase.nodes" 241) none (r 300) n 0),
  t [(s "select" 571)],
  o (ty "dict") (.dict ⟨[e P "__module__" 551 (s "pagebase.nodes" 241), e P "__firstlineno__" 555 (it 87 554), e P "__init__" 563 (r 294), e P "row" 570 (r 301), e P "__static_attributes__" 572 (r 302), e P "__doc__" 573 n]⟩ 2),
  ⟨(ty "type"), none, (c "Scalar" [(r 96)] [(r 304), (r 96), (r 82), (ty "object")] 303 "Scalar" true [] [] false none false), ⟨[some (r 281), none, some (s "Scalar" 544), some (s "Scalar" 552), some (bi "object.__new__"), some tt]⟩⟩,
  o (ty "super") (f [(r 304), (r 304), (r 304)]),
  o (ty "builtin_function_or_method") (f [(bi "object.__init_subclass__"), (r 304)])]
noncomputable def l3 (P : Params) : List Obj := chg (l2 P) (c3 P) ++ w3 P
noncomputable def t3 (P : Params) : BT := tree 1000 (l3 P)
noncomputable def s3 (w : World) (os : OsState) : SharedT := ⟨t3 w.params, 307, {}, ⟨[]⟩, {}, 576, os⟩
noncomputable def c4 (P : Params) : List (Nat × Obj) := [(3, o (ty "dict") (.dict ⟨[e P "__name__" 165 (s "pagebase.nodes" 241), e P "__doc__" 166 n, e P "__package__" 167 n, e P "__loader__" 168 (bi "__main__.__loader__#opaque"), e P "__spec__" 169 n, e P "__annotations__" 170 (r 6), e P "__builtins__" 171 (r 4), e P "__file__" 173 (s "/claim/cut.py" 172), e P "__cached__" 174 n, e P "_wall" 193 (r 21), e P "PagebaseError" 224 (r 38), e P "MisuseError" 240 (r 51), e P "row_of" 249 (r 60), e P "rows_of" 255 (r 65), e P "Node" 282 (r 82), e P "Expr" 298 (r 96), e P "Literal" 330 (r 122), e P "Name" 367 (r 148), e P "Variable" 399 (r 174), e P "Unary" 433 (r 200), e P "Binary" 469 (r 226), e P "Between" 507 (r 252), e P "InList" 543 (r 278), e P "Scalar" 575 (r 304), e P "Case" 610 (r 328), e P "Call" 648 (r 354), e P "Cast" 682 (r 380), e P "Collate" 716 (r 406)]⟩ 28)),
  (12, o n (f [(i 1), (i 0), (r 20), (i 5), (i 0), (r 27), (i 9), (i 0), (r 47), (i 12), (i 0), (r 59), (i 14), (i 0), (r 64), (i 16), (i 0), (r 71), (i 20), (i 0), (r 92), (i 22), (i 0), (r 104), (i 33), (i 0), (r 130), (i 44), (i 0), (r 156), (i 51), (i 0), (r 182), (i 59), (i 0), (r 208), (i 68), (i 0), (r 234), (i 78), (i 0), (r 260), (i 87), (i 0), (r 286), (i 94), (i 0), (r 312), (i 104), (i 0), (r 336), (i 114), (i 0), (r 362), (i 122), (i 0), (r 388)])),
  (96, ⟨(ty "type"), none, (c "Expr" [(r 82)] [(r 96), (r 82), (ty "object")] 95 "Expr" true [] [(r 122), (r 148), (r 174), (r 200), (r 226), (r 252), (r 278), (r 304), (r 328), (r 354), (r 380), (r 406)] false none false), ⟨[some (r 87), none, some (s "Expr" 283), some (s "Expr" 291), some (bi "object.__new__"), some tt]⟩⟩)]
noncomputable def w4 (P : Params) : List Obj := [t [(r 96)],
  o (ty "builtin_function_or_method") (f [(bi "type.__prepare__"), (ty "type")]),
  o (ty "dict") (.dict ⟨[e P "__module__" 583 (s "pagebase.nodes" 241), e P "__qualname__" 585 (s "Case" 584), e P "__firstlineno__" 587 (it 94 586), e P "__init__" 597 (r 320), e P "row" 603 (r 325), e P "__static_attributes__" 607 (r 326)]⟩ 6),
  t [],
  o n (f [(i 96), (i 4), (r 319), (i 101), (i 4), (r 324)]),
  o (ty "code") (f [(s "Case" 578), (s "Case" 579), (s "/claim/cut.py" 580), (i 94), (i 0), (i 0), (i 0), (i 0), (r 310), ff, (i 181), (r 311), n, n, n, n, (i 581), (i 94), (s "/claim/cut.py" 582)]),
  ⟨(ty "frame"), none, .plain, ⟨[some (r 312), some (r 3), some (r 309), none, some (s "pagebase.nodes" 241), none, some (r 0)]⟩⟩,
  t [],
  o n (f []),
  t [(s "self" 591), (s "base" 592), (s "whens" 593), (s "other" 594)],
  t [],
  o n (fn (st [17, 0]) "Case.__init__" 0 [] n n n n none n n 0),
  o (ty "code") (f [(s "__init__" 588), (s "Case.__init__" 589), (s "/claim/cut.py" 590), (i 96), (i 4), (i 0), (i 0), (i 3), (r 314), tt, (i 181), (r 315), n, (r 316), (r 317), (r 318), (i 595), (i 96), (s "/claim/cut.py" 596)]),
  o (ty "function") (fn (st [17, 0]) "Case.__init__" 3 [] n n n (s "pagebase.nodes" 241) none (r 319) n 0),
  t [],
  o n (f []),
  o n (fn (st [17, 1]) "Case.row" 0 [] n n n n none n n 0),
  o (ty "code") (f [(s "row" 598), (s "Case.row" 599), (s "/claim/cut.py" 600), (i 101), (i 1), (i 0), (i 0), (i 3), (r 321), tt, (i 181), (r 322), n, n, n, (r 323), (i 601), (i 101), (s "/claim/cut.py" 602)]),
  o (ty "function") (fn (st [17, 1]) "Case.row" 3 [] n n n (s "pagebase.nodes" 241) none (r 324) n 0),
  t [(s "base" 604), (s "other" 605), (s "whens" 606)],
  o (ty "dict") (.dict ⟨[e P "__module__" 583 (s "pagebase.nodes" 241), e P "__firstlineno__" 587 (it 94 586), e P "__init__" 597 (r 320), e P "row" 603 (r 325), e P "__static_attributes__" 607 (r 326), e P "__doc__" 608 n]⟩ 2),
  ⟨(ty "type"), none, (c "Case" [(r 96)] [(r 328), (r 96), (r 82), (ty "object")] 327 "Case" true [] [] false none false), ⟨[some (r 307), none, some (s "Case" 576), some (s "Case" 584), some (bi "object.__new__"), some tt]⟩⟩,
  o (ty "super") (f [(r 328), (r 328), (r 328)]),
  o (ty "builtin_function_or_method") (f [(bi "object.__init_subclass__"), (r 328)]),
  t [(r 96)],
  o (ty "builtin_function_or_method") (f [(bi "type.__prepare__"), (ty "type")]),
  o (ty "dict") (.dict ⟨[e P "__module__" 618 (s "pagebase.nodes" 241), e P "__qualname__" 620 (s "Call" 619), e P "__firstlineno__" 622 (it 104 621), e P "__init__" 633 (r 344), e P "row" 640 (r 351), e P "__static_attributes__" 645 (r 352)]⟩ 6),
  t [],
  o n (f [(i 106), (i 4), (r 343), (i 112), (i 4), (r 350)]),
  o (ty "code") (f [(s "Call" 613), (s "Call" 614), (s "/claim/cut.py" 615), (i 104), (i 0), (i 0), (i 0), (i 0), (r 334), ff, (i 181), (r 335), n, n, n, n, (i 616), (i 104), (s "/claim/cut.py" 617)]),
  ⟨(ty "frame"), none, .plain, ⟨[some (r 336), some (r 3), some (r 333), none, some (s "pagebase.nodes" 241), none, some (r 0)]⟩⟩,
  t [],
  o n (f []),
  t [(s "self" 626), (s "name" 627), (s "arguments" 628), (s "distinct" 629), (s "star" 630)],
  t [],
  o n (fn (st [18, 0]) "Call.__init__" 0 [] n n n n none n n 0),
  o (ty "code") (f [(s "__init__" 623), (s "Call.__init__" 624), (s "/claim/cut.py" 625), (i 106), (i 5), (i 0), (i 0), (i 3), (r 338), tt, (i 181), (r 339), n, (r 340), (r 341), (r 342), (i 631), (i 106), (s "/claim/cut.py" 632)]),
  o (ty "function") (fn (st [18, 0]) "Call.__init__" 3 [] n n n (s "pagebase.nodes" 241) none (r 343) n 0),
  t [],
  o n (f []),
  t [(s "self" 637)],
  t [],
  o n (fn (st [18, 1]) "Call.row" 0 [] n n n n none n n 0),
  o (ty "code") (f [(s "row" 634), (s "Call.row" 635), (s "/claim/cut.py" 636), (i 112), (i 1), (i 0), (i 0), (i 3), (r 345), tt, (i 181), (r 346), n, (r 347), (r 348), (r 349), (i 638), (i 112), (s "/claim/cut.py" 639)]),
  o (ty "function") (fn (st [18, 1]) "Call.row" 3 [] n n n (s "pagebase.nodes" 241) none (r 350) n 0),
  t [(s "arguments" 641), (s "distinct" 642), (s "name" 643), (s "star" 644)],
  o (ty "dict") (.dict ⟨[e P "__module__" 618 (s "pagebase.nodes" 241), e P "__firstlineno__" 622 (it 104 621), e P "__init__" 633 (r 344), e P "row" 640 (r 351), e P "__static_attributes__" 645 (r 352), e P "__doc__" 646 n]⟩ 2),
  ⟨(ty "type"), none, (c "Call" [(r 96)] [(r 354), (r 96), (r 82), (ty "object")] 353 "Call" true [] [] false none false), ⟨[some (r 331), none, some (s "Call" 611), some (s "Call" 619), some (bi "object.__new__"), some tt]⟩⟩,
  o (ty "super") (f [(r 354), (r 354), (r 354)]),
  o (ty "builtin_function_or_method") (f [(bi "object.__init_subclass__"), (r 354)]),
  t [(r 96)],
  o (ty "builtin_function_or_method") (f [(bi "type.__prepare__"), (ty "type")]),
  o (ty "dict") (.dict ⟨[e P "__module__" 656 (s "pagebase.nodes" 241), e P "__qualname__" 658 (s "Cast" 657), e P "__firstlineno__" 660 (it 114 659), e P "__init__" 669 (r 370), e P "row" 676 (r 377), e P "__static_attributes__" 679 (r 378)]⟩ 6),
  t [],
  o n (f [(i 116), (i 4), (r 369), (i 120), (i 4), (r 376)]),
  o (ty "code") (f [(s "Cast" 651), (s "Cast" 652), (s "/claim/cut.py" 653), (i 114), (i 0), (i 0), (i 0), (i 0), (r 360), ff, (i 181), (r 361), n, n, n, n, (i 654), (i 114), (s "/claim/cut.py" 655)]),
  ⟨(ty "frame"), none, .plain, ⟨[some (r 362), some (r 3), some (r 359), none, some (s "pagebase.nodes" 241), none, some (r 0)]⟩⟩,
  t [],
  o n (f []),
  t [(s "self" 664), (s "value" 665), (s "type_name" 666)],
  t [],
  o n (fn (st [19, 0]) "Cast.__init__" 0 [] n n n n none n n 0),
  o (ty "code") (f [(s "__init__" 661), (s "Cast.__init__" 662), (s "/claim/cut.py" 663), (i 116), (i 3), (i 0), (i 0), (i 3), (r 364), tt, (i 181), (r 365), n, (r 366), (r 367), (r 368), (i 667), (i 116), (s "/claim/cut.py" 668)]),
  o (ty "function") (fn (st [19, 0]) "Cast.__init__" 3 [] n n n (s "pagebase.nodes" 241) none (r 369) n 0),
  t [],
  o n (f []),
  t [(s "self" 673)],
  t [],
  o n (fn (st [19, 1]) "Cast.row" 0 [] n n n n none n n 0),
  o (ty "code") (f [(s "row" 670), (s "Cast.row" 671), (s "/claim/cut.py" 672), (i 120), (i 1), (i 0), (i 0), (i 3), (r 371), tt, (i 181), (r 372), n, (r 373), (r 374), (r 375), (i 674), (i 120), (s "/claim/cut.py" 675)]),
  o (ty "function") (fn (st [19, 1]) "Cast.row" 3 [] n n n (s "pagebase.nodes" 241) none (r 376) n 0),
  t [(s "type_name" 677), (s "value" 678)],
  o (ty "dict") (.dict ⟨[e P "__module__" 656 (s "pagebase.nodes" 241), e P "__firstlineno__" 660 (it 114 659), e P "__init__" 669 (r 370), e P "row" 676 (r 377), e P "__static_attributes__" 679 (r 378), e P "__doc__" 680 n]⟩ 2),
  ⟨(ty "type"), none, (c "Cast" [(r 96)] [(r 380), (r 96), (r 82), (ty "object")] 379 "Cast" true [] [] false none false), ⟨[some (r 357), none, some (s "Cast" 649), some (s "Cast" 657), some (bi "object.__new__"), some tt]⟩⟩,
  o (ty "super") (f [(r 380), (r 380), (r 380)]),
  o (ty "builtin_function_or_method") (f [(bi "object.__init_subclass__"), (r 380)]),
  t [(r 96)],
  o (ty "builtin_function_or_method") (f [(bi "type.__prepare__"), (ty "type")]),
  o (ty "dict") (.dict ⟨[e P "__module__" 690 (s "pagebase.nodes" 241), e P "__qualname__" 692 (s "Collate" 691), e P "__firstlineno__" 694 (it 122 693), e P "__init__" 703 (r 396), e P "row" 710 (r 403), e P "__static_attributes__" 713 (r 404)]⟩ 6),
  t [],
  o n (f [(i 124), (i 4), (r 395), (i 128), (i 4), (r 402)]),
  o (ty "code") (f [(s "Collate" 685), (s "Collate" 686), (s "/claim/cut.py" 687), (i 122), (i 0), (i 0), (i 0), (i 0), (r 386), ff, (i 181), (r 387), n, n, n, n, (i 688), (i 122), (s "/claim/cut.py" 689)]),
  ⟨(ty "frame"), none, .plain, ⟨[some (r 388), some (r 3), some (r 385), none, some (s "pagebase.nodes" 241), none, some (r 0)]⟩⟩,
  t [],
  o n (f []),
  t [(s "self" 698), (s "value" 699), (s "collation" 700)],
  t [],
  o n (fn (st [20, 0]) "Collate.__init__" 0 [] n n n n none n n 0),
  o (ty "code") (f [(s "__init__" 695), (s "Collate.__init__" 696), (s "/claim/cut.py" 697), (i 124), (i 3), (i 0), (i 0), (i 3), (r 390), tt, (i 181), (r 391), n, (r 392), (r 393), (r 394), (i 701), (i 124), (s "/claim/cut.py" 702)]),
  o (ty "function") (fn (st [20, 0]) "Collate.__init__" 3 [] n n n (s "pagebase.nodes" 241) none (r 395) n 0),
  t [],
  o n (f []),
  t [(s "self" 707)],
  t [],
  o n (fn (st [20, 1]) "Collate.row" 0 [] n n n n none n n 0),
  o (ty "code") (f [(s "row" 704), (s "Collate.row" 705), (s "/claim/cut.py" 706), (i 128), (i 1), (i 0), (i 0), (i 3), (r 397), tt, (i 181), (r 398), n, (r 399), (r 400), (r 401), (i 708), (i 128), (s "/claim/cut.py" 709)]),
  o (ty "function") (fn (st [20, 1]) "Collate.row" 3 [] n n n (s "pagebase.nodes" 241) none (r 402) n 0),
  t [(s "collation" 711), (s "value" 712)],
  o (ty "dict") (.dict ⟨[e P "__module__" 690 (s "pagebase.nodes" 241), e P "__firstlineno__" 694 (it 122 693), e P "__init__" 703 (r 396), e P "row" 710 (r 403), e P "__static_attributes__" 713 (r 404), e P "__doc__" 714 n]⟩ 2),
  ⟨(ty "type"), none, (c "Collate" [(r 96)] [(r 406), (r 96), (r 82), (ty "object")] 405 "Collate" true [] [] false none false), ⟨[some (r 383), none, some (s "Collate" 683), some (s "Collate" 691), some (bi "object.__new__"), some tt]⟩⟩,
  o (ty "super") (f [(r 406), (r 406), (r 406)]),
  o (ty "builtin_function_or_method") (f [(bi "object.__init_subclass__"), (r 406)])]
noncomputable def l4 (P : Params) : List Obj := chg (l3 P) (c4 P) ++ w4 P
noncomputable def t4 (P : Params) : BT := tree 1000 (l4 P)
noncomputable def s4 (w : World) (os : OsState) : SharedT := ⟨t4 w.params, 409, {}, ⟨[]⟩, {}, 717, os⟩
noncomputable def c5 (P : Params) : List (Nat × Obj) := [(3, o (ty "dict") (.dict ⟨[e P "__name__" 165 (s "pagebase.code_operators" 840), e P "__doc__" 166 n, e P "__package__" 167 n, e P "__loader__" 168 (bi "__main__.__loader__#opaque"), e P "__spec__" 169 n, e P "__annotations__" 170 (r 6), e P "__builtins__" 171 (r 4), e P "__file__" 173 (s "/claim/cut.py" 172), e P "__cached__" 174 n, e P "_wall" 193 (r 21), e P "PagebaseError" 224 (r 38), e P "MisuseError" 240 (r 51), e P "row_of" 249 (r 60), e P "rows_of" 255 (r 65), e P "Node" 282 (r 82), e P "Expr" 298 (r 96), e P "Literal" 330 (r 122), e P "Name" 367 (r 148), e P "Variable" 399 (r 174), e P "Unary" 433 (r 200), e P "Binary" 469 (r 226), e P "Between" 507 (r 252), e P "InList" 543 (r 278), e P "Scalar" 575 (r 304), e P "Case" 610 (r 328), e P "Call" 648 (r 354), e P "Cast" 682 (r 380), e P "Collate" 716 (r 406), e P "IsNull" 750 (r 432), e P "NUMERIC_AFFINITIES" 755 (r 435), e P "SPACES" 757 (s " \x09\x0a\x0b\x0c\x0d" 756), e P "fold_ascii" 766 (r 442), e P "affinity_of_type" 775 (r 449), e P "comparison_affinities" 783 (r 456), e P "fold" 791 (r 461), e P "affinity_of" 799 (r 469), e P "explicit_collation" 806 (r 476), e P "column_collation" 813 (r 483), e P "collation_of" 821 (r 491), e P "call_collation" 830 (r 498), e P "comparison_collation" 839 (r 505), e P "is_comparison" 848 (r 512), e P "opposite" 855 (r 519)]⟩ 43)),
  (12, o n (f [(i 1), (i 0), (r 20), (i 5), (i 0), (r 27), (i 9), (i 0), (r 47), (i 12), (i 0), (r 59), (i 14), (i 0), (r 64), (i 16), (i 0), (r 71), (i 20), (i 0), (r 92), (i 22), (i 0), (r 104), (i 33), (i 0), (r 130), (i 44), (i 0), (r 156), (i 51), (i 0), (r 182), (i 59), (i 0), (r 208), (i 68), (i 0), (r 234), (i 78), (i 0), (r 260), (i 87), (i 0), (r 286), (i 94), (i 0), (r 312), (i 104), (i 0), (r 336), (i 114), (i 0), (r 362), (i 122), (i 0), (r 388), (i 130), (i 0), (r 414), (i 141), (i 0), (r 441), (i 149), (i 0), (r 448), (i 161), (i 0), (r 455), (i 172), (i 0), (r 460), (i 174), (i 0), (r 468), (i 184), (i 0), (r 475), (i 194), (i 0), (r 482), (i 202), (i 0), (r 490), (i 204), (i 0), (r 497), (i 210), (i 0), (r 504), (i 216), (i 0), (r 511), (i 218), (i 0), (r 518)])),
  (96, ⟨(ty "type"), none, (c "Expr" [(r 82)] [(r 96), (r 82), (ty "object")] 95 "Expr" true [] [(r 122), (r 148), (r 174), (r 200), (r 226), (r 252), (r 278), (r 304), (r 328), (r 354), (r 380), (r 406), (r 432)] false none false), ⟨[some (r 87), none, some (s "Expr" 283), some (s "Expr" 291), some (bi "object.__new__"), some tt]⟩⟩)]
noncomputable def w5 (P : Params) : List Obj := [t [(r 96)],
  o (ty "builtin_function_or_method") (f [(bi "type.__prepare__"), (ty "type")]),
  o (ty "dict") (.dict ⟨[e P "__module__" 724 (s "pagebase.nodes" 241), e P "__qualname__" 726 (s "IsNull" 725), e P "__firstlineno__" 728 (it 130 727), e P "__init__" 737 (r 422), e P "row" 744 (r 429), e P "__static_attributes__" 747 (r 430)]⟩ 6),
  t [],
  o n (f [(i 132), (i 4), (r 421), (i 136), (i 4), (r 428)]),
  o (ty "code") (f [(s "IsNull" 719), (s "IsNull" 720), (s "/claim/cut.py" 721), (i 130), (i 0), (i 0), (i 0), (i 0), (r 412), ff, (i 181), (r 413), n, n, n, n, (i 722), (i 130), (s "/claim/cut.py" 723)]),
  ⟨(ty "frame"), none, .plain, ⟨[some (r 414), some (r 3), some (r 411), none, some (s "pagebase.nodes" 241), none, some (r 0)]⟩⟩,
  t [],
  o n (f []),
  t [(s "self" 732), (s "value" 733), (s "negated" 734)],
  t [],
  o n (fn (st [21, 0]) "IsNull.__init__" 0 [] n n n n none n n 0),
  o (ty "code") (f [(s "__init__" 729), (s "IsNull.__init__" 730), (s "/claim/cut.py" 731), (i 132), (i 3), (i 0), (i 0), (i 3), (r 416), tt, (i 181), (r 417), n, (r 418), (r 419), (r 420), (i 735), (i 132), (s "/claim/cut.py" 736)]),
  o (ty "function") (fn (st [21, 0]) "IsNull.__init__" 3 [] n n n (s "pagebase.nodes" 241) none (r 421) n 0),
  t [],
  o n (f []),
  t [(s "self" 741)],
  t [],
  o n (fn (st [21, 1]) "IsNull.row" 0 [] n n n n none n n 0),
  o (ty "code") (f [(s "row" 738), (s "IsNull.row" 739), (s "/claim/cut.py" 740), (i 136), (i 1), (i 0), (i 0), (i 3), (r 423), tt, (i 181), (r 424), n, (r 425), (r 426), (r 427), (i 742), (i 136), (s "/claim/cut.py" 743)]),
  o (ty "function") (fn (st [21, 1]) "IsNull.row" 3 [] n n n (s "pagebase.nodes" 241) none (r 428) n 0),
  t [(s "negated" 745), (s "value" 746)],
  o (ty "dict") (.dict ⟨[e P "__module__" 724 (s "pagebase.nodes" 241), e P "__firstlineno__" 728 (it 130 727), e P "__init__" 737 (r 422), e P "row" 744 (r 429), e P "__static_attributes__" 747 (r 430), e P "__doc__" 748 n]⟩ 2),
  ⟨(ty "type"), none, (c "IsNull" [(r 96)] [(r 432), (r 96), (r 82), (ty "object")] 431 "IsNull" true [] [] false none false), ⟨[some (r 409), none, some (s "IsNull" 717), some (s "IsNull" 725), some (bi "object.__new__"), some tt]⟩⟩,
  o (ty "super") (f [(r 432), (r 432), (r 432)]),
  o (ty "builtin_function_or_method") (f [(bi "object.__init_subclass__"), (r 432)]),
  t [(s "integer" 753), (s "numeric" 754)],
  t [],
  o n (f []),
  t [(s "text" 761), (s "signs" 762), (s "sign" 763)],
  t [],
  o n (fn (st [25]) "fold_ascii" 0 [] n n n n none n n 0),
  o (ty "code") (f [(s "fold_ascii" 758), (s "fold_ascii" 759), (s "/claim/cut.py" 760), (i 141), (i 1), (i 0), (i 0), (i 3), (r 436), tt, (i 181), (r 437), n, (r 438), (r 439), (r 440), (i 764), (i 141), (s "/claim/cut.py" 765)]),
  o (ty "function") (fn (st [25]) "fold_ascii" 3 [] n n n (s "pagebase.values" 751) none (r 441) n 0),
  t [],
  o n (f []),
  t [(s "type_name" 770), (s "name" 771), (s "part" 772)],
  t [],
  o n (fn (st [26]) "affinity_of_type" 0 [] n n n n none n n 0),
  o (ty "code") (f [(s "affinity_of_type" 767), (s "affinity_of_type" 768), (s "/claim/cut.py" 769), (i 149), (i 1), (i 0), (i 0), (i 3), (r 443), tt, (i 181), (r 444), n, (r 445), (r 446), (r 447), (i 773), (i 149), (s "/claim/cut.py" 774)]),
  o (ty "function") (fn (st [26]) "affinity_of_type" 3 [] n n n (s "pagebase.values" 751) none (r 448) n 0),
  t [],
  o n (f []),
  t [(s "left" 779), (s "right" 780)],
  t [],
  o n (fn (st [27]) "comparison_affinities" 0 [] n n n n none n n 0),
  o (ty "code") (f [(s "comparison_affinities" 776), (s "comparison_affinities" 777), (s "/claim/cut.py" 778), (i 161), (i 2), (i 0), (i 0), (i 3), (r 450), tt, (i 181), (r 451), n, (r 452), (r 453), (r 454), (i 781), (i 161), (s "/claim/cut.py" 782)]),
  o (ty "function") (fn (st [27]) "comparison_affinities" 3 [] n n n (s "pagebase.values" 751) none (r 455) n 0),
  t [],
  o n (f []),
  o n (fn (st [29]) "fold" 0 [] n n n n none n n 0),
  o (ty "code") (f [(s "fold" 786), (s "fold" 787), (s "/claim/cut.py" 788), (i 172), (i 1), (i 0), (i 0), (i 3), (r 457), tt, (i 181), (r 458), n, n, n, (r 459), (i 789), (i 172), (s "/claim/cut.py" 790)]),
  o (ty "function") (fn (st [29]) "fold" 3 [] n n n (s "pagebase.expr_tools" 784) none (r 460) n 0),
  t [n],
  t [],
  o n (f []),
  t [(s "expr" 795), (s "sources" 796)],
  t [],
  o n (fn (st [30]) "affinity_of" 0 [] n n n n none n n 0),
  o (ty "code") (f [(s "affinity_of" 792), (s "affinity_of" 793), (s "/claim/cut.py" 794), (i 174), (i 2), (i 0), (i 0), (i 3), (r 463), tt, (i 181), (r 464), n, (r 465), (r 466), (r 467), (i 797), (i 174), (s "/claim/cut.py" 798)]),
  o (ty "function") (fn (st [30]) "affinity_of" 3 [] (r 462) n n (s "pagebase.expr_tools" 784) none (r 468) n 0),
  t [],
  o n (f []),
  t [(s "expr" 803)],
  t [],
  o n (fn (st [31]) "explicit_collation" 0 [] n n n n none n n 0),
  o (ty "code") (f [(s "explicit_collation" 800), (s "explicit_collation" 801), (s "/claim/cut.py" 802), (i 184), (i 1), (i 0), (i 0), (i 3), (r 470), tt, (i 181), (r 471), n, (r 472), (r 473), (r 474), (i 804), (i 184), (s "/claim/cut.py" 805)]),
  o (ty "function") (fn (st [31]) "explicit_collation" 3 [] n n n (s "pagebase.expr_tools" 784) none (r 475) n 0),
  t [],
  o n (f []),
  t [(s "expr" 810)],
  t [],
  o n (fn (st [32]) "column_collation" 0 [] n n n n none n n 0),
  o (ty "code") (f [(s "column_collation" 807), (s "column_collation" 808), (s "/claim/cut.py" 809), (i 194), (i 1), (i 0), (i 0), (i 3), (r 477), tt, (i 181), (r 478), n, (r 479), (r 480), (r 481), (i 811), (i 194), (s "/claim/cut.py" 812)]),
  o (ty "function") (fn (st [32]) "column_collation" 3 [] n n n (s "pagebase.expr_tools" 784) none (r 482) n 0),
  t [n],
  t [],
  o n (f []),
  t [(s "expr" 817), (s "sources" 818)],
  t [],
  o n (fn (st [33]) "collation_of" 0 [] n n n n none n n 0),
  o (ty "code") (f [(s "collation_of" 814), (s "collation_of" 815), (s "/claim/cut.py" 816), (i 202), (i 2), (i 0), (i 0), (i 3), (r 485), tt, (i 181), (r 486), n, (r 487), (r 488), (r 489), (i 819), (i 202), (s "/claim/cut.py" 820)]),
  o (ty "function") (fn (st [33]) "collation_of" 3 [] (r 484) n n (s "pagebase.expr_tools" 784) none (r 490) n 0),
  t [],
  o n (f []),
  t [(s "arguments" 825), (s "expr" 826), (s "found" 827)],
  t [],
  o n (fn (st [34]) "call_collation" 0 [] n n n n none n n 0),
  o (ty "code") (f [(s "call_collation" 822), (s "call_collation" 823), (s "/claim/cut.py" 824), (i 204), (i 1), (i 0), (i 0), (i 3), (r 492), tt, (i 181), (r 493), n, (r 494), (r 495), (r 496), (i 828), (i 204), (s "/claim/cut.py" 829)]),
  o (ty "function") (fn (st [34]) "call_collation" 3 [] n n n (s "pagebase.expr_tools" 784) none (r 497) n 0),
  t [],
  o n (f []),
  t [(s "left" 834), (s "right" 835), (s "found" 836)],
  t [],
  o n (fn (st [35]) "comparison_collation" 0 [] n n n n none n n 0),
  o (ty "code") (f [(s "comparison_collation" 831), (s "comparison_collation" 832), (s "/claim/cut.py" 833), (i 210), (i 2), (i 0), (i 0), (i 3), (r 499), tt, (i 181), (r 500), n, (r 501), (r 502), (r 503), (i 837), (i 210), (s "/claim/cut.py" 838)]),
  o (ty "function") (fn (st [35]) "comparison_collation" 3 [] n n n (s "pagebase.expr_tools" 784) none (r 504) n 0),
  t [],
  o n (f []),
  t [(s "op" 845)],
  t [],
  o n (fn (st [37]) "is_comparison" 0 [] n n n n none n n 0),
  o (ty "code") (f [(s "is_comparison" 842), (s "is_comparison" 843), (s "/claim/cut.py" 844), (i 216), (i 1), (i 0), (i 0), (i 3), (r 506), tt, (i 181), (r 507), n, (r 508), (r 509), (r 510), (i 846), (i 216), (s "/claim/cut.py" 847)]),
  o (ty "function") (fn (st [37]) "is_comparison" 3 [] n n n (s "pagebase.code_operators" 840) none (r 511) n 0),
  t [],
  o n (f []),
  t [(s "op" 852)],
  t [],
  o n (fn (st [38]) "opposite" 0 [] n n n n none n n 0),
  o (ty "code") (f [(s "opposite" 849), (s "opposite" 850), (s "/claim/cut.py" 851), (i 218), (i 1), (i 0), (i 0), (i 3), (r 513), tt, (i 181), (r 514), n, (r 515), (r 516), (r 517), (i 853), (i 218), (s "/claim/cut.py" 854)]),
  o (ty "function") (fn (st [38]) "opposite" 3 [] n n n (s "pagebase.code_operators" 840) none (r 518) n 0)]
noncomputable def l5 (P : Params) : List Obj := chg (l4 P) (c5 P) ++ w5 P
noncomputable def t5 (P : Params) : BT := tree 1000 (l5 P)
noncomputable def s5 (w : World) (os : OsState) : SharedT := ⟨t5 w.params, 520, {}, ⟨[]⟩, {}, 856, os⟩
noncomputable def c6 (P : Params) : List (Nat × Obj) := [(3, o (ty "dict") (.dict ⟨[e P "__name__" 165 (s "pagebase.program" 1134), e P "__doc__" 166 n, e P "__package__" 167 n, e P "__loader__" 168 (bi "__main__.__loader__#opaque"), e P "__spec__" 169 n, e P "__annotations__" 170 (r 6), e P "__builtins__" 171 (r 4), e P "__file__" 173 (s "/claim/cut.py" 172), e P "__cached__" 174 n, e P "_wall" 193 (r 21), e P "PagebaseError" 224 (r 38), e P "MisuseError" 240 (r 51), e P "row_of" 249 (r 60), e P "rows_of" 255 (r 65), e P "Node" 282 (r 82), e P "Expr" 298 (r 96), e P "Literal" 330 (r 122), e P "Name" 367 (r 148), e P "Variable" 399 (r 174), e P "Unary" 433 (r 200), e P "Binary" 469 (r 226), e P "Between" 507 (r 252), e P "InList" 543 (r 278), e P "Scalar" 575 (r 304), e P "Case" 610 (r 328), e P "Call" 648 (r 354), e P "Cast" 682 (r 380), e P "Collate" 716 (r 406), e P "IsNull" 750 (r 432), e P "NUMERIC_AFFINITIES" 755 (r 435), e P "SPACES" 757 (s " \x09\x0a\x0b\x0c\x0d" 756), e P "fold_ascii" 766 (r 442), e P "affinity_of_type" 775 (r 449), e P "comparison_affinities" 783 (r 456), e P "fold" 791 (r 461), e P "affinity_of" 799 (r 469), e P "explicit_collation" 806 (r 476), e P "column_collation" 813 (r 483), e P "collation_of" 821 (r 491), e P "call_collation" 830 (r 498), e P "comparison_collation" 839 (r 505), e P "is_comparison" 848 (r 512), e P "opposite" 855 (r 519), e P "OperatorCoder" 1069 (r 644), e P "FunctionCoder" 1133 (r 686)]⟩ 45)),
  (12, o n (f [(i 1), (i 0), (r 20), (i 5), (i 0), (r 27), (i 9), (i 0), (r 47), (i 12), (i 0), (r 59), (i 14), (i 0), (r 64), (i 16), (i 0), (r 71), (i 20), (i 0), (r 92), (i 22), (i 0), (r 104), (i 33), (i 0), (r 130), (i 44), (i 0), (r 156), (i 51), (i 0), (r 182), (i 59), (i 0), (r 208), (i 68), (i 0), (r 234), (i 78), (i 0), (r 260), (i 87), (i 0), (r 286), (i 94), (i 0), (r 312), (i 104), (i 0), (r 336), (i 114), (i 0), (r 362), (i 122), (i 0), (r 388), (i 130), (i 0), (r 414), (i 141), (i 0), (r 441), (i 149), (i 0), (r 448), (i 161), (i 0), (r 455), (i 172), (i 0), (r 460), (i 174), (i 0), (r 468), (i 184), (i 0), (r 475), (i 194), (i 0), (r 482), (i 202), (i 0), (r 490), (i 204), (i 0), (r 497), (i 210), (i 0), (r 504), (i 216), (i 0), (r 511), (i 218), (i 0), (r 518), (i 220), (i 0), (r 525), (i 395), (i 0), (r 654)]))]
noncomputable def w6 (P : Params) : List Obj := [t [],
  o (ty "builtin_function_or_method") (f [(bi "type.__prepare__"), (ty "type")]),
  o (ty "dict") (.dict ⟨[e P "__module__" 863 (s "pagebase.code_operators" 840), e P "__qualname__" 865 (s "OperatorCoder" 864), e P "__firstlineno__" 867 (it 220 866), e P "__init__" 875 (r 533), e P "expression" 886 (r 541), e P "other" 895 (r 548), e P "row_of" 905 (r 555), e P "column" 917 (r 562), e P "binary" 930 (r 569), e P "compared" 945 (r 576), e P "between" 957 (r 583), e P "negate" 966 (r 590), e P "is_null" 977 (r 597), e P "case" 992 (r 604), e P "in_list" 1009 (r 611), e P "jump_if" 1021 (r 619), e P "jump_unless" 1033 (r 627), e P "jump_compared" 1048 (r 634), e P "jump_null" 1059 (r 641), e P "__static_attributes__" 1062 (r 642)]⟩ 20),
  t [],
  o n (f [(i 222), (i 4), (r 532), (i 226), (i 4), (r 540), (i 253), (i 4), (r 547), (i 256), (i 4), (r 554), (i 262), (i 4), (r 561), (i 266), (i 4), (r 568), (i 278), (i 4), (r 575), (i 284), (i 4), (r 582), (i 293), (i 4), (r 589), (i 297), (i 4), (r 596), (i 305), (i 4), (r 603), (i 325), (i 4), (r 610), (i 346), (i 4), (r 618), (i 365), (i 4), (r 626), (i 384), (i 4), (r 633), (i 391), (i 4), (r 640)]),
  o (ty "code") (f [(s "OperatorCoder" 858), (s "OperatorCoder" 859), (s "/claim/cut.py" 860), (i 220), (i 0), (i 0), (i 0), (i 0), (r 523), ff, (i 181), (r 524), n, n, n, n, (i 861), (i 220), (s "/claim/cut.py" 862)]),
  ⟨(ty "frame"), none, .plain, ⟨[some (r 525), some (r 3), some (r 522), none, some (s "pagebase.code_operators" 840), none, some (r 0)]⟩⟩,
  t [],
  o n (f []),
  t [(s "self" 871), (s "program" 872)],
  t [],
  o n (fn (st [39, 0]) "OperatorCoder.__init__" 0 [] n n n n none n n 0),
  o (ty "code") (f [(s "__init__" 868), (s "OperatorCoder.__init__" 869), (s "/claim/cut.py" 870), (i 222), (i 2), (i 0), (i 0), (i 3), (r 527), tt, (i 181), (r 528), n, (r 529), (r 530), (r 531), (i 873), (i 222), (s "/claim/cut.py" 874)]),
  o (ty "function") (fn (st [39, 0]) "OperatorCoder.__init__" 3 [] n n n (s "pagebase.code_operators" 840) none (r 532) n 0),
  t [n],
  t [],
  o n (f []),
  t [(s "self" 879), (s "expr" 880), (s "into" 881), (s "target" 882), (s "operand" 883)],
  t [],
  o n (fn (st [39, 1]) "OperatorCoder.expression" 0 [] n n n n none n n 0),
  o (ty "code") (f [(s "expression" 876), (s "OperatorCoder.expression" 877), (s "/claim/cut.py" 878), (i 226), (i 3), (i 0), (i 0), (i 3), (r 535), tt, (i 181), (r 536), n, (r 537), (r 538), (r 539), (i 884), (i 226), (s "/claim/cut.py" 885)]),
  o (ty "function") (fn (st [39, 1]) "OperatorCoder.expression" 3 [] (r 534) n n (s "pagebase.code_operators" 840) none (r 540) n 0),
  t [],
  o n (f []),
  t [(s "self" 890), (s "expr" 891), (s "target" 892)],
  t [],
  o n (fn (st [39, 2]) "OperatorCoder.other" 0 [] n n n n none n n 0),
  o (ty "code") (f [(s "other" 887), (s "OperatorCoder.other" 888), (s "/claim/cut.py" 889), (i 253), (i 3), (i 0), (i 0), (i 3), (r 542), tt, (i 181), (r 543), n, (r 544), (r 545), (r 546), (i 893), (i 253), (s "/claim/cut.py" 894)]),
  o (ty "function") (fn (st [39, 2]) "OperatorCoder.other" 3 [] n n n (s "pagebase.code_operators" 840) none (r 547) n 0),
  t [],
  o n (f []),
  t [(s "self" 899), (s "exprs" 900), (s "first" 901), (s "at" 902)],
  t [],
  o n (fn (st [39, 3]) "OperatorCoder.row_of" 0 [] n n n n none n n 0),
  o (ty "code") (f [(s "row_of" 896), (s "OperatorCoder.row_of" 897), (s "/claim/cut.py" 898), (i 256), (i 2), (i 0), (i 0), (i 3), (r 549), tt, (i 181), (r 550), n, (r 551), (r 552), (r 553), (i 903), (i 256), (s "/claim/cut.py" 904)]),
  o (ty "function") (fn (st [39, 3]) "OperatorCoder.row_of" 3 [] n n n (s "pagebase.code_operators" 840) none (r 554) n 0),
  t [],
  o n (f []),
  t [(s "self" 909), (s "number" 910), (s "place" 911), (s "target" 912), (s "kind" 913), (s "held" 914)],
  t [],
  o n (fn (st [39, 4]) "OperatorCoder.column" 0 [] n n n n none n n 0),
  o (ty "code") (f [(s "column" 906), (s "OperatorCoder.column" 907), (s "/claim/cut.py" 908), (i 262), (i 4), (i 0), (i 0), (i 3), (r 556), tt, (i 181), (r 557), n, (r 558), (r 559), (r 560), (i 915), (i 262), (s "/claim/cut.py" 916)]),
  o (ty "function") (fn (st [39, 4]) "OperatorCoder.column" 3 [] n n n (s "pagebase.code_operators" 840) none (r 561) n 0),
  t [],
  o n (f []),
  t [(s "self" 921), (s "expr" 922), (s "target" 923), (s "left" 924), (s "right" 925), (s "affinities" 926), (s "collation" 927)],
  t [],
  o n (fn (st [39, 5]) "OperatorCoder.binary" 0 [] n n n n none n n 0),
  o (ty "code") (f [(s "binary" 918), (s "OperatorCoder.binary" 919), (s "/claim/cut.py" 920), (i 266), (i 3), (i 0), (i 0), (i 3), (r 563), tt, (i 181), (r 564), n, (r 565), (r 566), (r 567), (i 928), (i 266), (s "/claim/cut.py" 929)]),
  o (ty "function") (fn (st [39, 5]) "OperatorCoder.binary" 3 [] n n n (s "pagebase.code_operators" 840) none (r 568) n 0),
  t [],
  o n (f []),
  t [(s "self" 934), (s "op" 935), (s "value" 936), (s "register" 937), (s "other" 938), (s "target" 939), (s "right" 940), (s "affinities" 941), (s "told" 942)],
  t [],
  o n (fn (st [39, 6]) "OperatorCoder.compared" 0 [] n n n n none n n 0),
  o (ty "code") (f [(s "compared" 931), (s "OperatorCoder.compared" 932), (s "/claim/cut.py" 933), (i 278), (i 6), (i 0), (i 0), (i 3), (r 570), tt, (i 181), (r 571), n, (r 572), (r 573), (r 574), (i 943), (i 278), (s "/claim/cut.py" 944)]),
  o (ty "function") (fn (st [39, 6]) "OperatorCoder.compared" 3 [] n n n (s "pagebase.code_operators" 840) none (r 575) n 0),
  t [],
  o n (f []),
  t [(s "self" 949), (s "expr" 950), (s "target" 951), (s "value" 952), (s "low" 953), (s "high" 954)],
  t [],
  o n (fn (st [39, 7]) "OperatorCoder.between" 0 [] n n n n none n n 0),
  o (ty "code") (f [(s "between" 946), (s "OperatorCoder.between" 947), (s "/claim/cut.py" 948), (i 284), (i 3), (i 0), (i 0), (i 3), (r 577), tt, (i 181), (r 578), n, (r 579), (r 580), (r 581), (i 955), (i 284), (s "/claim/cut.py" 956)]),
  o (ty "function") (fn (st [39, 7]) "OperatorCoder.between" 3 [] n n n (s "pagebase.code_operators" 840) none (r 582) n 0),
  t [],
  o n (f []),
  t [(s "self" 961), (s "target" 962), (s "negated" 963)],
  t [],
  o n (fn (st [39, 8]) "OperatorCoder.negate" 0 [] n n n n none n n 0),
  o (ty "code") (f [(s "negate" 958), (s "OperatorCoder.negate" 959), (s "/claim/cut.py" 960), (i 293), (i 3), (i 0), (i 0), (i 3), (r 584), tt, (i 181), (r 585), n, (r 586), (r 587), (r 588), (i 964), (i 293), (s "/claim/cut.py" 965)]),
  o (ty "function") (fn (st [39, 8]) "OperatorCoder.negate" 3 [] n n n (s "pagebase.code_operators" 840) none (r 589) n 0),
  t [],
  o n (f []),
  t [(s "self" 970), (s "expr" 971), (s "target" 972), (s "value" 973), (s "end" 974)],
  t [],
  o n (fn (st [39, 9]) "OperatorCoder.is_null" 0 [] n n n n none n n 0),
  o (ty "code") (f [(s "is_null" 967), (s "OperatorCoder.is_null" 968), (s "/claim/cut.py" 969), (i 297), (i 3), (i 0), (i 0), (i 3), (r 591), tt, (i 181), (r 592), n, (r 593), (r 594), (r 595), (i 975), (i 297), (s "/claim/cut.py" 976)]),
  o (ty "function") (fn (st [39, 9]) "OperatorCoder.is_null" 3 [] n n n (s "pagebase.code_operators" 840) none (r 596) n 0),
  t [],
  o n (f []),
  t [(s "self" 981), (s "expr" 982), (s "target" 983), (s "end" 984), (s "base" 985), (s "when" 986), (s "then" 987), (s "following" 988), (s "found" 989)],
  t [],
  o n (fn (st [39, 10]) "OperatorCoder.case" 0 [] n n n n none n n 0),
  o (ty "code") (f [(s "case" 978), (s "OperatorCoder.case" 979), (s "/claim/cut.py" 980), (i 305), (i 3), (i 0), (i 0), (i 3), (r 598), tt, (i 181), (r 599), n, (r 600), (r 601), (r 602), (i 990), (i 305), (s "/claim/cut.py" 991)]),
  o (ty "function") (fn (st [39, 10]) "OperatorCoder.case" 3 [] n n n (s "pagebase.code_operators" 840) none (r 603) n 0),
  t [],
  o n (f []),
  t [(s "self" 996), (s "expr" 997), (s "target" 998), (s "value" 999), (s "hit" 1000), (s "end" 1001), (s "told" 1002), (s "item" 1003), (s "following" 1004), (s "register" 1005), (s "found" 1006)],
  t [],
  o n (fn (st [39, 11]) "OperatorCoder.in_list" 0 [] n n n n none n n 0),
  o (ty "code") (f [(s "in_list" 993), (s "OperatorCoder.in_list" 994), (s "/claim/cut.py" 995), (i 325), (i 3), (i 0), (i 0), (i 3), (r 605), tt, (i 181), (r 606), n, (r 607), (r 608), (r 609), (i 1007), (i 325), (s "/claim/cut.py" 1008)]),
  o (ty "function") (fn (st [39, 11]) "OperatorCoder.in_list" 3 [] n n n (s "pagebase.code_operators" 840) none (r 610) n 0),
  t [ff],
  t [],
  o n (f []),
  t [(s "self" 1013), (s "expr" 1014), (s "label" 1015), (s "null_jumps" 1016), (s "past" 1017), (s "value" 1018)],
  t [],
  o n (fn (st [39, 12]) "OperatorCoder.jump_if" 0 [] n n n n none n n 0),
  o (ty "code") (f [(s "jump_if" 1010), (s "OperatorCoder.jump_if" 1011), (s "/claim/cut.py" 1012), (i 346), (i 4), (i 0), (i 0), (i 3), (r 613), tt, (i 181), (r 614), n, (r 615), (r 616), (r 617), (i 1019), (i 346), (s "/claim/cut.py" 1020)]),
  o (ty "function") (fn (st [39, 12]) "OperatorCoder.jump_if" 3 [] (r 612) n n (s "pagebase.code_operators" 840) none (r 618) n 0),
  t [ff],
  t [],
  o n (f []),
  t [(s "self" 1025), (s "expr" 1026), (s "label" 1027), (s "null_jumps" 1028), (s "past" 1029), (s "value" 1030)],
  t [],
  o n (fn (st [39, 13]) "OperatorCoder.jump_unless" 0 [] n n n n none n n 0),
  o (ty "code") (f [(s "jump_unless" 1022), (s "OperatorCoder.jump_unless" 1023), (s "/claim/cut.py" 1024), (i 365), (i 4), (i 0), (i 0), (i 3), (r 621), tt, (i 181), (r 622), n, (r 623), (r 624), (r 625), (i 1031), (i 365), (s "/claim/cut.py" 1032)]),
  o (ty "function") (fn (st [39, 13]) "OperatorCoder.jump_unless" 3 [] (r 620) n n (s "pagebase.code_operators" 840) none (r 626) n 0),
  t [],
  o n (f []),
  t [(s "self" 1037), (s "expr" 1038), (s "op" 1039), (s "label" 1040), (s "null_jumps" 1041), (s "left" 1042), (s "right" 1043), (s "affinities" 1044), (s "told" 1045)],
  t [],
  o n (fn (st [39, 14]) "OperatorCoder.jump_compared" 0 [] n n n n none n n 0),
  o (ty "code") (f [(s "jump_compared" 1034), (s "OperatorCoder.jump_compared" 1035), (s "/claim/cut.py" 1036), (i 384), (i 5), (i 0), (i 0), (i 3), (r 628), tt, (i 181), (r 629), n, (r 630), (r 631), (r 632), (i 1046), (i 384), (s "/claim/cut.py" 1047)]),
  o (ty "function") (fn (st [39, 14]) "OperatorCoder.jump_compared" 3 [] n n n (s "pagebase.code_operators" 840) none (r 633) n 0),
  t [],
  o n (f []),
  t [(s "self" 1052), (s "expr" 1053), (s "negated" 1054), (s "label" 1055), (s "value" 1056)],
  t [],
  o n (fn (st [39, 15]) "OperatorCoder.jump_null" 0 [] n n n n none n n 0),
  o (ty "code") (f [(s "jump_null" 1049), (s "OperatorCoder.jump_null" 1050), (s "/claim/cut.py" 1051), (i 391), (i 4), (i 0), (i 0), (i 3), (r 635), tt, (i 181), (r 636), n, (r 637), (r 638), (r 639), (i 1057), (i 391), (s "/claim/cut.py" 1058)]),
  o (ty "function") (fn (st [39, 15]) "OperatorCoder.jump_null" 3 [] n n n (s "pagebase.code_operators" 840) none (r 640) n 0),
  t [(s "bindings" 1060), (s "program" 1061)],
  o (ty "dict") (.dict ⟨[e P "__module__" 863 (s "pagebase.code_operators" 840), e P "__firstlineno__" 867 (it 220 866), e P "__init__" 875 (r 533), e P "expression" 886 (r 541), e P "other" 895 (r 548), e P "row_of" 905 (r 555), e P "column" 917 (r 562), e P "binary" 930 (r 569), e P "compared" 945 (r 576), e P "between" 957 (r 583), e P "negate" 966 (r 590), e P "is_null" 977 (r 597), e P "case" 992 (r 604), e P "in_list" 1009 (r 611), e P "jump_if" 1021 (r 619), e P "jump_unless" 1033 (r 627), e P "jump_compared" 1048 (r 634), e P "jump_null" 1059 (r 641), e P "__static_attributes__" 1062 (r 642), e P "__dict__" 1064 (r 645), e P "__weakref__" 1066 (r 646), e P "__doc__" 1067 n]⟩ 4),
  ⟨(ty "type"), none, (c "OperatorCoder" [(ty "object")] [(r 644), (ty "object")] 643 "OperatorCoder" true [] [(r 686)] false none false), ⟨[none, none, some (s "OperatorCoder" 856), some (s "OperatorCoder" 864), some (bi "object.__new__"), some tt]⟩⟩,
  o (ty "getset_descriptor") (f [(s "__dict__" 1063), (r 644), (bi "function.__dict__"), (bi "function.__dict__#set")]),
  o (ty "getset_descriptor") (f [(s "__weakref__" 1065), (r 644), (bi "ExceptionGroup.__weakref__"), n]),
  o (ty "super") (f [(r 644), (r 644), (r 644)]),
  o (ty "builtin_function_or_method") (f [(bi "object.__init_subclass__"), (r 644)]),
  t [(r 644)],
  o (ty "builtin_function_or_method") (f [(bi "type.__prepare__"), (ty "type")]),
  o (ty "dict") (.dict ⟨[e P "__module__" 1079 (s "pagebase.code_functions" 1070), e P "__qualname__" 1081 (s "FunctionCoder" 1080), e P "__firstlineno__" 1083 (it 395 1082), e P "__init__" 1091 (r 662), e P "other" 1100 (r 669), e P "call" 1117 (r 676), e P "first_known" 1128 (r 683), e P "__static_attributes__" 1130 (r 684)]⟩ 8),
  t [],
  o n (f [(i 397), (i 4), (r 661), (i 401), (i 4), (r 668), (i 407), (i 4), (r 675), (i 423), (i 4), (r 682)]),
  o (ty "code") (f [(s "FunctionCoder" 1074), (s "FunctionCoder" 1075), (s "/claim/cut.py" 1076), (i 395), (i 0), (i 0), (i 0), (i 0), (r 652), ff, (i 181), (r 653), n, n, n, n, (i 1077), (i 395), (s "/claim/cut.py" 1078)]),
  ⟨(ty "frame"), none, .plain, ⟨[some (r 654), some (r 3), some (r 651), none, some (s "pagebase.code_functions" 1070), none, some (r 0)]⟩⟩,
  t [],
  o n (f []),
  t [(s "self" 1087), (s "program" 1088)],
  t [],
  o n (fn (st [41, 0]) "FunctionCoder.__init__" 0 [] n n n n none n n 0),
  o (ty "code") (f [(s "__init__" 1084), (s "FunctionCoder.__init__" 1085), (s "/claim/cut.py" 1086), (i 397), (i 2), (i 0), (i 0), (i 3), (r 656), tt, (i 181), (r 657), n, (r 658), (r 659), (r 660), (i 1089), (i 397), (s "/claim/cut.py" 1090)]),
  o (ty "function") (fn (st [41, 0]) "FunctionCoder.__init__" 3 [] n n n (s "pagebase.code_functions" 1070) none (r 661) n 0),
  t [],
  o n (f []),
  t [(s "self" 1095), (s "expr" 1096), (s "target" 1097)],
  t [],
  o n (fn (st [41, 1]) "FunctionCoder.other" 0 [] n n n n none n n 0),
  o (ty "code") (f [(s "other" 1092), (s "FunctionCoder.other" 1093), (s "/claim/cut.py" 1094), (i 401), (i 3), (i 0), (i 0), (i 3), (r 663), tt, (i 181), (r 664), n, (r 665), (r 666), (r 667), (i 1098), (i 401), (s "/claim/cut.py" 1099)]),
  o (ty "function") (fn (st [41, 1]) "FunctionCoder.other" 3 [] n n n (s "pagebase.code_functions" 1070) none (r 668) n 0),
  t [],
  o n (f []),
  t [(s "self" 1104), (s "expr" 1105), (s "target" 1106), (s "call" 1107), (s "register" 1108), (s "name" 1109), (s "condition" 1110), (s "then" 1111), (s "other" 1112), (s "first" 1113), (s "told" 1114)],
  t [],
  o n (fn (st [41, 2]) "FunctionCoder.call" 0 [] n n n n none n n 0),
  o (ty "code") (f [(s "call" 1101), (s "FunctionCoder.call" 1102), (s "/claim/cut.py" 1103), (i 407), (i 3), (i 0), (i 0), (i 3), (r 670), tt, (i 181), (r 671), n, (r 672), (r 673), (r 674), (i 1115), (i 407), (s "/claim/cut.py" 1116)]),
  o (ty "function") (fn (st [41, 2]) "FunctionCoder.call" 3 [] n n n (s "pagebase.code_functions" 1070) none (r 675) n 0),
  t [],
  o n (f []),
  t [(s "self" 1121), (s "exprs" 1122), (s "target" 1123), (s "end" 1124), (s "expr" 1125)],
  t [],
  o n (fn (st [41, 3]) "FunctionCoder.first_known" 0 [] n n n n none n n 0),
  o (ty "code") (f [(s "first_known" 1118), (s "FunctionCoder.first_known" 1119), (s "/claim/cut.py" 1120), (i 423), (i 3), (i 0), (i 0), (i 3), (r 677), tt, (i 181), (r 678), n, (r 679), (r 680), (r 681), (i 1126), (i 423), (s "/claim/cut.py" 1127)]),
  o (ty "function") (fn (st [41, 3]) "FunctionCoder.first_known" 3 [] n n n (s "pagebase.code_functions" 1070) none (r 682) n 0),
  t [(s "aggregates" 1129)],
  o (ty "dict") (.dict ⟨[e P "__module__" 1079 (s "pagebase.code_functions" 1070), e P "__firstlineno__" 1083 (it 395 1082), e P "__init__" 1091 (r 662), e P "other" 1100 (r 669), e P "call" 1117 (r 676), e P "first_known" 1128 (r 683), e P "__static_attributes__" 1130 (r 684), e P "__doc__" 1131 n]⟩ 2),
  ⟨(ty "type"), none, (c "FunctionCoder" [(r 644)] [(r 686), (r 644), (ty "object")] 685 "FunctionCoder" true [] [] false none false), ⟨[some (r 649), none, some (s "FunctionCoder" 1072), some (s "FunctionCoder" 1080), some (bi "object.__new__"), some tt]⟩⟩,
  o (ty "super") (f [(r 686), (r 686), (r 686)]),
  o (ty "builtin_function_or_method") (f [(bi "object.__init_subclass__"), (r 686)])]
noncomputable def l6 (P : Params) : List Obj := chg (l5 P) (c6 P) ++ w6 P
noncomputable def t6 (P : Params) : BT := tree 1000 (l6 P)
noncomputable def s6 (w : World) (os : OsState) : SharedT := ⟨t6 w.params, 689, {}, ⟨[]⟩, {}, 1136, os⟩
noncomputable def c7 (P : Params) : List (Nat × Obj) := [(3, o (ty "dict") (.dict ⟨[e P "__name__" 165 (s "pagebase.program" 1134), e P "__doc__" 166 n, e P "__package__" 167 n, e P "__loader__" 168 (bi "__main__.__loader__#opaque"), e P "__spec__" 169 n, e P "__annotations__" 170 (r 6), e P "__builtins__" 171 (r 4), e P "__file__" 173 (s "/claim/cut.py" 172), e P "__cached__" 174 n, e P "_wall" 193 (r 21), e P "PagebaseError" 224 (r 38), e P "MisuseError" 240 (r 51), e P "row_of" 249 (r 60), e P "rows_of" 255 (r 65), e P "Node" 282 (r 82), e P "Expr" 298 (r 96), e P "Literal" 330 (r 122), e P "Name" 367 (r 148), e P "Variable" 399 (r 174), e P "Unary" 433 (r 200), e P "Binary" 469 (r 226), e P "Between" 507 (r 252), e P "InList" 543 (r 278), e P "Scalar" 575 (r 304), e P "Case" 610 (r 328), e P "Call" 648 (r 354), e P "Cast" 682 (r 380), e P "Collate" 716 (r 406), e P "IsNull" 750 (r 432), e P "NUMERIC_AFFINITIES" 755 (r 435), e P "SPACES" 757 (s " \x09\x0a\x0b\x0c\x0d" 756), e P "fold_ascii" 766 (r 442), e P "affinity_of_type" 775 (r 449), e P "comparison_affinities" 783 (r 456), e P "fold" 791 (r 461), e P "affinity_of" 799 (r 469), e P "explicit_collation" 806 (r 476), e P "column_collation" 813 (r 483), e P "collation_of" 821 (r 491), e P "call_collation" 830 (r 498), e P "comparison_collation" 839 (r 505), e P "is_comparison" 848 (r 512), e P "opposite" 855 (r 519), e P "OperatorCoder" 1069 (r 644), e P "FunctionCoder" 1133 (r 686), e P "JUMPS" 1226 (r 689)]⟩ 46))]
noncomputable def w7 (P : Params) : List Obj := [o (ty "dict") (.dict ⟨[e P "Goto" 1136 (it 1 1137), e P "Gosub" 1139 (it 1 1140), e P "Once" 1142 (it 1 1143), e P "If" 1145 (it 1 1146), e P "IfNot" 1148 (it 1 1149), e P "IsNull" 1151 (it 1 1152), e P "NotNull" 1154 (it 1 1155), e P "IfPos" 1157 (it 1 1158), e P "MustBeInt" 1160 (it 1 1161), e P "CompareJump" 1163 (it 1 1164), e P "Rewind" 1166 (it 1 1167), e P "Last" 1169 (it 1 1170), e P "Next" 1172 (it 1 1173), e P "Prev" 1175 (it 1 1176), e P "SeekRowid" 1178 (it 1 1179), e P "SeekGE" 1181 (it 1 1182), e P "SeekGT" 1184 (it 1 1185), e P "SeekLE" 1187 (it 1 1188), e P "SeekLT" 1189 (it 1 1190), e P "IdxGT" 1191 (it 1 1192), e P "IdxGE" 1193 (it 1 1194), e P "IdxLT" 1195 (it 1 1196), e P "IdxLE" 1197 (it 1 1198), e P "Found" 1199 (it 1 1200), e P "NotFound" 1201 (it 1 1202), e P "NoConflict" 1203 (it 1 1204), e P "NotExists" 1205 (it 1 1206), e P "SorterSort" 1207 (it 1 1208), e P "SorterNext" 1209 (it 1 1210), e P "IntegrityRows" 1211 (it 1 1212)]⟩ 30),
  o (ty "dict") (.dict ⟨[e P "SeekLE" 1187 (it 1 1188), e P "SeekLT" 1189 (it 1 1190), e P "IdxGT" 1191 (it 1 1192), e P "IdxGE" 1193 (it 1 1194), e P "IdxLT" 1195 (it 1 1196), e P "IdxLE" 1197 (it 1 1198), e P "Found" 1199 (it 1 1200), e P "NotFound" 1201 (it 1 1202), e P "NoConflict" 1203 (it 1 1204), e P "NotExists" 1205 (it 1 1206), e P "SorterSort" 1207 (it 1 1208), e P "SorterNext" 1209 (it 1 1210), e P "IntegrityRows" 1211 (it 1 1212)]⟩ 13)]
noncomputable def l7 (P : Params) : List Obj := chg (l6 P) (c7 P) ++ w7 P
noncomputable def t7 (P : Params) : BT := tree 1000 (l7 P)
noncomputable def s7 (w : World) (os : OsState) : SharedT := ⟨t7 w.params, 691, {}, ⟨[]⟩, {}, 1227, os⟩
noncomputable def c8 (P : Params) : List (Nat × Obj) := [(3, o (ty "dict") (.dict ⟨[e P "__name__" 165 (s "law_nt0122_01" 1352), e P "__doc__" 166 n, e P "__package__" 167 n, e P "__loader__" 168 (bi "__main__.__loader__#opaque"), e P "__spec__" 169 n, e P "__annotations__" 170 (r 6), e P "__builtins__" 171 (r 4), e P "__file__" 173 (s "/claim/cut.py" 172), e P "__cached__" 174 n, e P "_wall" 193 (r 21), e P "PagebaseError" 224 (r 38), e P "MisuseError" 240 (r 51), e P "row_of" 249 (r 60), e P "rows_of" 255 (r 65), e P "Node" 282 (r 82), e P "Expr" 298 (r 96), e P "Literal" 330 (r 122), e P "Name" 367 (r 148), e P "Variable" 399 (r 174), e P "Unary" 433 (r 200), e P "Binary" 469 (r 226), e P "Between" 507 (r 252), e P "InList" 543 (r 278), e P "Scalar" 575 (r 304), e P "Case" 610 (r 328), e P "Call" 648 (r 354), e P "Cast" 682 (r 380), e P "Collate" 716 (r 406), e P "IsNull" 750 (r 432), e P "NUMERIC_AFFINITIES" 755 (r 435), e P "SPACES" 757 (s " \x09\x0a\x0b\x0c\x0d" 756), e P "fold_ascii" 766 (r 442), e P "affinity_of_type" 775 (r 449), e P "comparison_affinities" 783 (r 456), e P "fold" 791 (r 461), e P "affinity_of" 799 (r 469), e P "explicit_collation" 806 (r 476), e P "column_collation" 813 (r 483), e P "collation_of" 821 (r 491), e P "call_collation" 830 (r 498), e P "comparison_collation" 839 (r 505), e P "is_comparison" 848 (r 512), e P "opposite" 855 (r 519), e P "OperatorCoder" 1069 (r 644), e P "FunctionCoder" 1133 (r 686), e P "JUMPS" 1226 (r 689), e P "Program" 1351 (r 780), e P "_law_pool" 1364 (r 791), e P "_law_take" 1373 (r 798), e P "_law_one" 1381 (r 805), e P "_law_tree" 1387 (r 810), e P "_law_node" 1393 (r 815), e P "_law_worth" 1402 (r 822), e P "_law_collation" 1408 (r 827), e P "_law_found" 1414 (r 832), e P "_law_run" 1420 (r 837), e P "law" 1426 (r 842)]⟩ 57)),
  (12, o n (f [(i 1), (i 0), (r 20), (i 5), (i 0), (r 27), (i 9), (i 0), (r 47), (i 12), (i 0), (r 59), (i 14), (i 0), (r 64), (i 16), (i 0), (r 71), (i 20), (i 0), (r 92), (i 22), (i 0), (r 104), (i 33), (i 0), (r 130), (i 44), (i 0), (r 156), (i 51), (i 0), (r 182), (i 59), (i 0), (r 208), (i 68), (i 0), (r 234), (i 78), (i 0), (r 260), (i 87), (i 0), (r 286), (i 94), (i 0), (r 312), (i 104), (i 0), (r 336), (i 114), (i 0), (r 362), (i 122), (i 0), (r 388), (i 130), (i 0), (r 414), (i 141), (i 0), (r 441), (i 149), (i 0), (r 448), (i 161), (i 0), (r 455), (i 172), (i 0), (r 460), (i 174), (i 0), (r 468), (i 184), (i 0), (r 475), (i 194), (i 0), (r 482), (i 202), (i 0), (r 490), (i 204), (i 0), (r 497), (i 210), (i 0), (r 504), (i 216), (i 0), (r 511), (i 218), (i 0), (r 518), (i 220), (i 0), (r 525), (i 395), (i 0), (r 654), (i 431), (i 0), (r 696), (i 497), (i 0), (r 790), (i 504), (i 0), (r 797), (i 511), (i 0), (r 804), (i 513), (i 0), (r 809), (i 523), (i 0), (r 814), (i 536), (i 0), (r 821), (i 541), (i 0), (r 826), (i 544), (i 0), (r 831), (i 564), (i 0), (r 836), (i 589), (i 0), (r 841)]))]
noncomputable def w8 (P : Params) : List Obj := [t [],
  o (ty "builtin_function_or_method") (f [(bi "type.__prepare__"), (ty "type")]),
  o (ty "dict") (.dict ⟨[e P "__module__" 1234 (s "pagebase.program" 1134), e P "__qualname__" 1236 (s "Program" 1235), e P "__firstlineno__" 1238 (it 431 1237), e P "__init__" 1245 (r 704), e P "add" 1260 (r 712), e P "here" 1267 (r 719), e P "label" 1275 (r 726), e P "place" 1283 (r 733), e P "register" 1293 (r 741), e P "cursor" 1300 (r 748), e P "slot" 1307 (r 755), e P "value" 1316 (r 762), e P "null" 1326 (r 770), e P "finish" 1335 (r 777), e P "__static_attributes__" 1344 (r 778)]⟩ 15),
  t [],
  o n (f [(i 433), (i 4), (r 703), (i 443), (i 4), (r 711), (i 447), (i 4), (r 718), (i 450), (i 4), (r 725), (i 455), (i 4), (r 732), (i 462), (i 4), (r 740), (i 467), (i 4), (r 747), (i 470), (i 4), (r 754), (i 473), (i 4), (r 761), (i 478), (i 4), (r 769), (i 483), (i 4), (r 776)]),
  o (ty "code") (f [(s "Program" 1229), (s "Program" 1230), (s "/claim/cut.py" 1231), (i 431), (i 0), (i 0), (i 0), (i 0), (r 694), ff, (i 181), (r 695), n, n, n, n, (i 1232), (i 431), (s "/claim/cut.py" 1233)]),
  ⟨(ty "frame"), none, .plain, ⟨[some (r 696), some (r 3), some (r 693), none, some (s "pagebase.program" 1134), none, some (r 0)]⟩⟩,
  t [],
  o n (f []),
  t [(s "self" 1242)],
  t [],
  o n (fn (st [44, 0]) "Program.__init__" 0 [] n n n n none n n 0),
  o (ty "code") (f [(s "__init__" 1239), (s "Program.__init__" 1240), (s "/claim/cut.py" 1241), (i 433), (i 1), (i 0), (i 0), (i 3), (r 698), tt, (i 181), (r 699), n, (r 700), (r 701), (r 702), (i 1243), (i 433), (s "/claim/cut.py" 1244)]),
  o (ty "function") (fn (st [44, 0]) "Program.__init__" 3 [] n n n (s "pagebase.program" 1134) none (r 703) n 0),
  t [(it 0 1246), (it 0 1247), (it 0 1248), n],
  t [],
  o n (f []),
  t [(s "self" 1252), (s "name" 1253), (s "p1" 1254), (s "p2" 1255), (s "p3" 1256), (s "p4" 1257)],
  t [],
  o n (fn (st [44, 1]) "Program.add" 0 [] n n n n none n n 0),
  o (ty "code") (f [(s "add" 1249), (s "Program.add" 1250), (s "/claim/cut.py" 1251), (i 443), (i 6), (i 0), (i 0), (i 3), (r 706), tt, (i 181), (r 707), n, (r 708), (r 709), (r 710), (i 1258), (i 443), (s "/claim/cut.py" 1259)]),
  o (ty "function") (fn (st [44, 1]) "Program.add" 3 [] (r 705) n n (s "pagebase.program" 1134) none (r 711) n 0),
  t [],
  o n (f []),
  t [(s "self" 1264)],
  t [],
  o n (fn (st [44, 2]) "Program.here" 0 [] n n n n none n n 0),
  o (ty "code") (f [(s "here" 1261), (s "Program.here" 1262), (s "/claim/cut.py" 1263), (i 447), (i 1), (i 0), (i 0), (i 3), (r 713), tt, (i 181), (r 714), n, (r 715), (r 716), (r 717), (i 1265), (i 447), (s "/claim/cut.py" 1266)]),
  o (ty "function") (fn (st [44, 2]) "Program.here" 3 [] n n n (s "pagebase.program" 1134) none (r 718) n 0),
  t [],
  o n (f []),
  t [(s "self" 1271), (s "label" 1272)],
  t [],
  o n (fn (st [44, 3]) "Program.label" 0 [] n n n n none n n 0),
  o (ty "code") (f [(s "label" 1268), (s "Program.label" 1269), (s "/claim/cut.py" 1270), (i 450), (i 1), (i 0), (i 0), (i 3), (r 720), tt, (i 181), (r 721), n, (r 722), (r 723), (r 724), (i 1273), (i 450), (s "/claim/cut.py" 1274)]),
  o (ty "function") (fn (st [44, 3]) "Program.label" 3 [] n n n (s "pagebase.program" 1134) none (r 725) n 0),
  t [],
  o n (f []),
  t [(s "self" 1279), (s "label" 1280)],
  t [],
  o n (fn (st [44, 4]) "Program.place" 0 [] n n n n none n n 0),
  o (ty "code") (f [(s "place" 1276), (s "Program.place" 1277), (s "/claim/cut.py" 1278), (i 455), (i 2), (i 0), (i 0), (i 3), (r 727), tt, (i 181), (r 728), n, (r 729), (r 730), (r 731), (i 1281), (i 455), (s "/claim/cut.py" 1282)]),
  o (ty "function") (fn (st [44, 4]) "Program.place" 3 [] n n n (s "pagebase.program" 1134) none (r 732) n 0),
  t [(it 1 1284)],
  t [],
  o n (f []),
  t [(s "self" 1288), (s "many" 1289), (s "first" 1290)],
  t [],
  o n (fn (st [44, 5]) "Program.register" 0 [] n n n n none n n 0),
  o (ty "code") (f [(s "register" 1285), (s "Program.register" 1286), (s "/claim/cut.py" 1287), (i 462), (i 2), (i 0), (i 0), (i 3), (r 735), tt, (i 181), (r 736), n, (r 737), (r 738), (r 739), (i 1291), (i 462), (s "/claim/cut.py" 1292)]),
  o (ty "function") (fn (st [44, 5]) "Program.register" 3 [] (r 734) n n (s "pagebase.program" 1134) none (r 740) n 0),
  t [],
  o n (f []),
  t [(s "self" 1297)],
  t [],
  o n (fn (st [44, 6]) "Program.cursor" 0 [] n n n n none n n 0),
  o (ty "code") (f [(s "cursor" 1294), (s "Program.cursor" 1295), (s "/claim/cut.py" 1296), (i 467), (i 1), (i 0), (i 0), (i 3), (r 742), tt, (i 181), (r 743), n, (r 744), (r 745), (r 746), (i 1298), (i 467), (s "/claim/cut.py" 1299)]),
  o (ty "function") (fn (st [44, 6]) "Program.cursor" 3 [] n n n (s "pagebase.program" 1134) none (r 747) n 0),
  t [],
  o n (f []),
  t [(s "self" 1304)],
  t [],
  o n (fn (st [44, 7]) "Program.slot" 0 [] n n n n none n n 0),
  o (ty "code") (f [(s "slot" 1301), (s "Program.slot" 1302), (s "/claim/cut.py" 1303), (i 470), (i 1), (i 0), (i 0), (i 3), (r 749), tt, (i 181), (r 750), n, (r 751), (r 752), (r 753), (i 1305), (i 470), (s "/claim/cut.py" 1306)]),
  o (ty "function") (fn (st [44, 7]) "Program.slot" 3 [] n n n (s "pagebase.program" 1134) none (r 754) n 0),
  t [],
  o n (f []),
  t [(s "self" 1311), (s "value" 1312), (s "target" 1313)],
  t [],
  o n (fn (st [44, 8]) "Program.value" 0 [] n n n n none n n 0),
  o (ty "code") (f [(s "value" 1308), (s "Program.value" 1309), (s "/claim/cut.py" 1310), (i 473), (i 2), (i 0), (i 0), (i 3), (r 756), tt, (i 181), (r 757), n, (r 758), (r 759), (r 760), (i 1314), (i 473), (s "/claim/cut.py" 1315)]),
  o (ty "function") (fn (st [44, 8]) "Program.value" 3 [] n n n (s "pagebase.program" 1134) none (r 761) n 0),
  t [(it 1 1317)],
  t [],
  o n (f []),
  t [(s "self" 1321), (s "many" 1322), (s "target" 1323)],
  t [],
  o n (fn (st [44, 9]) "Program.null" 0 [] n n n n none n n 0),
  o (ty "code") (f [(s "null" 1318), (s "Program.null" 1319), (s "/claim/cut.py" 1320), (i 478), (i 2), (i 0), (i 0), (i 3), (r 764), tt, (i 181), (r 765), n, (r 766), (r 767), (r 768), (i 1324), (i 478), (s "/claim/cut.py" 1325)]),
  o (ty "function") (fn (st [44, 9]) "Program.null" 3 [] (r 763) n n (s "pagebase.program" 1134) none (r 769) n 0),
  t [],
  o n (f []),
  t [(s "self" 1330), (s "label" 1331), (s "op" 1332)],
  t [],
  o n (fn (st [44, 10]) "Program.finish" 0 [] n n n n none n n 0),
  o (ty "code") (f [(s "finish" 1327), (s "Program.finish" 1328), (s "/claim/cut.py" 1329), (i 483), (i 1), (i 0), (i 0), (i 3), (r 771), tt, (i 181), (r 772), n, (r 773), (r 774), (r 775), (i 1333), (i 483), (s "/claim/cut.py" 1334)]),
  o (ty "function") (fn (st [44, 10]) "Program.finish" 3 [] n n n (s "pagebase.program" 1134) none (r 776) n 0),
  t [(s "columns" 1336), (s "cursors" 1337), (s "labels" 1338), (s "next_label" 1339), (s "ops" 1340), (s "registers" 1341), (s "slots" 1342), (s "writes" 1343)],
  o (ty "dict") (.dict ⟨[e P "__module__" 1234 (s "pagebase.program" 1134), e P "__firstlineno__" 1238 (it 431 1237), e P "__init__" 1245 (r 704), e P "add" 1260 (r 712), e P "here" 1267 (r 719), e P "label" 1275 (r 726), e P "place" 1283 (r 733), e P "register" 1293 (r 741), e P "cursor" 1300 (r 748), e P "slot" 1307 (r 755), e P "value" 1316 (r 762), e P "null" 1326 (r 770), e P "finish" 1335 (r 777), e P "__static_attributes__" 1344 (r 778), e P "__dict__" 1346 (r 781), e P "__weakref__" 1348 (r 782), e P "__doc__" 1349 n]⟩ 4),
  ⟨(ty "type"), none, (c "Program" [(ty "object")] [(r 780), (ty "object")] 779 "Program" true [] [] false none false), ⟨[none, none, some (s "Program" 1227), some (s "Program" 1235), some (bi "object.__new__"), some tt]⟩⟩,
  o (ty "getset_descriptor") (f [(s "__dict__" 1345), (r 780), (bi "function.__dict__"), (bi "function.__dict__#set")]),
  o (ty "getset_descriptor") (f [(s "__weakref__" 1347), (r 780), (bi "ExceptionGroup.__weakref__"), n]),
  o (ty "super") (f [(r 780), (r 780), (r 780)]),
  o (ty "builtin_function_or_method") (f [(bi "object.__init_subclass__"), (r 780)]),
  t [],
  o n (f []),
  t [(s "script" 1357), (s "k" 1358), (s "cell" 1359), (s "big" 1360), (s "mixed" 1361)],
  t [],
  o n (fn (st [46]) "_law_pool" 0 [] n n n n none n n 0),
  o (ty "code") (f [(s "_law_pool" 1354), (s "_law_pool" 1355), (s "/claim/cut.py" 1356), (i 497), (i 2), (i 0), (i 0), (i 3), (r 785), tt, (i 181), (r 786), n, (r 787), (r 788), (r 789), (i 1362), (i 497), (s "/claim/cut.py" 1363)]),
  o (ty "function") (fn (st [46]) "_law_pool" 3 [] n n n (s "law_nt0122_01" 1352) none (r 790) n 0),
  t [],
  o n (f []),
  t [(s "source" 1368), (s "top" 1369), (s "drawn" 1370)],
  t [],
  o n (fn (st [47]) "_law_take" 0 [] n n n n none n n 0),
  o (ty "code") (f [(s "_law_take" 1365), (s "_law_take" 1366), (s "/claim/cut.py" 1367), (i 504), (i 2), (i 0), (i 0), (i 3), (r 792), tt, (i 181), (r 793), n, (r 794), (r 795), (r 796), (i 1371), (i 504), (s "/claim/cut.py" 1372)]),
  o (ty "function") (fn (st [47]) "_law_take" 3 [] n n n (s "law_nt0122_01" 1352) none (r 797) n 0),
  t [],
  o n (f []),
  t [(s "source" 1377), (s "things" 1378)],
  t [],
  o n (fn (st [48]) "_law_one" 0 [] n n n n none n n 0),
  o (ty "code") (f [(s "_law_one" 1374), (s "_law_one" 1375), (s "/claim/cut.py" 1376), (i 511), (i 2), (i 0), (i 0), (i 3), (r 799), tt, (i 181), (r 800), n, (r 801), (r 802), (r 803), (i 1379), (i 511), (s "/claim/cut.py" 1380)]),
  o (ty "function") (fn (st [48]) "_law_one" 3 [] n n n (s "law_nt0122_01" 1352) none (r 804) n 0),
  t [],
  o n (f []),
  o n (fn (st [49]) "_law_tree" 0 [] n n n n none n n 0),
  o (ty "code") (f [(s "_law_tree" 1382), (s "_law_tree" 1383), (s "/claim/cut.py" 1384), (i 513), (i 2), (i 0), (i 0), (i 3), (r 806), tt, (i 181), (r 807), n, n, n, (r 808), (i 1385), (i 513), (s "/claim/cut.py" 1386)]),
  o (ty "function") (fn (st [49]) "_law_tree" 3 [] n n n (s "law_nt0122_01" 1352) none (r 809) n 0),
  t [],
  o n (f []),
  o n (fn (st [50]) "_law_node" 0 [] n n n n none n n 0),
  o (ty "code") (f [(s "_law_node" 1388), (s "_law_node" 1389), (s "/claim/cut.py" 1390), (i 523), (i 2), (i 0), (i 0), (i 3), (r 811), tt, (i 181), (r 812), n, n, n, (r 813), (i 1391), (i 523), (s "/claim/cut.py" 1392)]),
  o (ty "function") (fn (st [50]) "_law_node" 3 [] n n n (s "law_nt0122_01" 1352) none (r 814) n 0),
  t [],
  o n (f []),
  t [(s "values" 1397), (s "total" 1398), (s "value" 1399)],
  t [],
  o n (fn (st [51]) "_law_worth" 0 [] n n n n none n n 0),
  o (ty "code") (f [(s "_law_worth" 1394), (s "_law_worth" 1395), (s "/claim/cut.py" 1396), (i 536), (i 1), (i 0), (i 0), (i 3), (r 816), tt, (i 181), (r 817), n, (r 818), (r 819), (r 820), (i 1400), (i 536), (s "/claim/cut.py" 1401)]),
  o (ty "function") (fn (st [51]) "_law_worth" 3 [] n n n (s "law_nt0122_01" 1352) none (r 821) n 0),
  t [],
  o n (f []),
  o n (fn (st [52]) "_law_collation" 0 [] n n n n none n n 0),
  o (ty "code") (f [(s "_law_collation" 1403), (s "_law_collation" 1404), (s "/claim/cut.py" 1405), (i 541), (i 1), (i 0), (i 0), (i 3), (r 823), tt, (i 181), (r 824), n, n, n, (r 825), (i 1406), (i 541), (s "/claim/cut.py" 1407)]),
  o (ty "function") (fn (st [52]) "_law_collation" 3 [] n n n (s "law_nt0122_01" 1352) none (r 826) n 0),
  t [],
  o n (f []),
  o n (fn (st [53]) "_law_found" 0 [] n n n n none n n 0),
  o (ty "code") (f [(s "_law_found" 1409), (s "_law_found" 1410), (s "/claim/cut.py" 1411), (i 544), (i 3), (i 0), (i 0), (i 3), (r 828), tt, (i 181), (r 829), n, n, n, (r 830), (i 1412), (i 544), (s "/claim/cut.py" 1413)]),
  o (ty "function") (fn (st [53]) "_law_found" 3 [] n n n (s "law_nt0122_01" 1352) none (r 831) n 0),
  t [],
  o n (f []),
  o n (fn (st [54]) "_law_run" 0 [] n n n n none n n 0),
  o (ty "code") (f [(s "_law_run" 1415), (s "_law_run" 1416), (s "/claim/cut.py" 1417), (i 564), (i 3), (i 0), (i 0), (i 3), (r 833), tt, (i 181), (r 834), n, n, n, (r 835), (i 1418), (i 564), (s "/claim/cut.py" 1419)]),
  o (ty "function") (fn (st [54]) "_law_run" 3 [] n n n (s "law_nt0122_01" 1352) none (r 836) n 0),
  t [],
  o n (f []),
  o n (fn (st [55]) "law" 0 [] n n n n none n n 0),
  o (ty "code") (f [(s "law" 1421), (s "law" 1422), (s "/claim/cut.py" 1423), (i 589), (i 1), (i 0), (i 0), (i 3), (r 838), tt, (i 181), (r 839), n, n, n, (r 840), (i 1424), (i 589), (s "/claim/cut.py" 1425)]),
  o (ty "function") (fn (st [55]) "law" 3 [] n n n (s "law_nt0122_01" 1352) none (r 841) n 0)]
noncomputable def l8 (P : Params) : List Obj := chg (l7 P) (c8 P) ++ w8 P
noncomputable def t8 (P : Params) : BT := tree 1000 (l8 P)
noncomputable def s8 (w : World) (os : OsState) : SharedT := ⟨t8 w.params, 843, {}, ⟨[]⟩, {}, 1427, os⟩
noncomputable def hF (P : Params) : Heap := ⟨⟨l8 P⟩, {}⟩
noncomputable def heap_39 (P : Params) : Frag := (nat_lit 2, o n (.dict ⟨[e P "type.__subclasses__.Exception.0" 221 (i 38), e P "type.__subclasses__.Exception.n" 222 (i 1)]⟩ 2)) ::
  (nat_lit 3, o (ty "dict") (.dict ⟨[e P "__name__" 165 (s "law_nt0122_01" 1352), e P "__doc__" 166 n, e P "__package__" 167 n, e P "__loader__" 168 (bi "__main__.__loader__#opaque"), e P "__spec__" 169 n, e P "__annotations__" 170 (r 6), e P "__builtins__" 171 (r 4), e P "__file__" 173 (s "/claim/cut.py" 172), e P "__cached__" 174 n, e P "_wall" 193 (r 21), e P "PagebaseError" 224 (r 38), e P "MisuseError" 240 (r 51), e P "row_of" 249 (r 60), e P "rows_of" 255 (r 65), e P "Node" 282 (r 82), e P "Expr" 298 (r 96), e P "Literal" 330 (r 122), e P "Name" 367 (r 148), e P "Variable" 399 (r 174), e P "Unary" 433 (r 200), e P "Binary" 469 (r 226), e P "Between" 507 (r 252), e P "InList" 543 (r 278), e P "Scalar" 575 (r 304), e P "Case" 610 (r 328), e P "Call" 648 (r 354), e P "Cast" 682 (r 380), e P "Collate" 716 (r 406), e P "IsNull" 750 (r 432), e P "NUMERIC_AFFINITIES" 755 (r 435), e P "SPACES" 757 (s " \x09\x0a\x0b\x0c\x0d" 756), e P "fold_ascii" 766 (r 442), e P "affinity_of_type" 775 (r 449), e P "comparison_affinities" 783 (r 456), e P "fold" 791 (r 461), e P "affinity_of" 799 (r 469), e P "explicit_collation" 806 (r 476), e P "column_collation" 813 (r 483), e P "collation_of" 821 (r 491), e P "call_collation" 830 (r 498), e P "comparison_collation" 839 (r 505), e P "is_comparison" 848 (r 512), e P "opposite" 855 (r 519), e P "OperatorCoder" 1069 (r 644), e P "FunctionCoder" 1133 (r 686), e P "JUMPS" 1226 (r 689), e P "Program" 1351 (r 780), e P "_law_pool" 1364 (r 791), e P "_law_take" 1373 (r 798), e P "_law_one" 1381 (r 805), e P "_law_tree" 1387 (r 810), e P "_law_node" 1393 (r 815), e P "_law_worth" 1402 (r 822), e P "_law_collation" 1408 (r 827), e P "_law_found" 1414 (r 832), e P "_law_run" 1420 (r 837), e P "law" 1426 (r 842)]⟩ 57)) ::
  (nat_lit 15, t []) ::
  (nat_lit 17, t [(s "k" 190)]) ::
  (nat_lit 18, t []) ::
  (nat_lit 20, o (ty "code") (f [(s "_wall" 187), (s "_wall" 188), (s "/claim/cut.py" 189), (i 1), (i 1), (i 0), (i 0), (i 3), (r 15), tt, (i 181), (r 16), n, (r 17), (r 18), (r 19), (i 191), (i 1), (s "/claim/cut.py" 192)])) ::
  (nat_lit 21, o (ty "function") (fn (st [0]) "_wall" 3 [] n n n (s "__main__" 164) none (r 20) n 0)) ::
  (nat_lit 22, t [(ty "Exception")]) ::
  (nat_lit 29, t []) ::
  (nat_lit 31, t [(s "self" 211), (s "message" 212)]) ::
  (nat_lit 32, t []) ::
  (nat_lit 34, o (ty "code") (f [(s "__init__" 208), (s "PagebaseError.__init__" 209), (s "/claim/cut.py" 210), (i 7), (i 2), (i 0), (i 0), (i 3), (r 29), tt, (i 181), (r 30), n, (r 31), (r 32), (r 33), (i 213), (i 7), (s "/claim/cut.py" 214)])) ::
  (nat_lit 35, o (ty "function") (fn (st [2, 0]) "PagebaseError.__init__" 3 [] n n n (s "pagebase.errors" 194) none (r 34) n 0)) ::
  (nat_lit 36, t [(s "message" 216)]) ::
  (nat_lit 37, o (ty "dict") (.dict ⟨[e P "__module__" 203 (s "pagebase.errors" 194), e P "__firstlineno__" 207 (it 5 206), e P "__init__" 215 (r 35), e P "__static_attributes__" 217 (r 36), e P "__weakref__" 219 (r 39), e P "__doc__" 220 n]⟩ 3)) ::
  (nat_lit 38, ⟨(ty "type"), none, (c "PagebaseError" [(ty "Exception")] [(r 38), (ty "Exception"), (ty "BaseException"), (ty "object")] 37 "PagebaseError" true [] [(r 51)] false none false), ⟨[some (r 22), none, some (s "PagebaseError" 196), some (s "PagebaseError" 204), some (bi "Exception.__new__"), some tt]⟩⟩) ::
  (nat_lit 39, o (ty "getset_descriptor") (f [(s "__weakref__" 218), (r 38), (bi "ExceptionGroup.__weakref__"), n])) ::
  (nat_lit 42, t [(r 38)]) ::
  (nat_lit 49, t []) ::
  (nat_lit 50, o (ty "dict") (.dict ⟨[e P "__module__" 232 (s "pagebase.errors" 194), e P "__firstlineno__" 236 (it 9 235), e P "__static_attributes__" 237 (r 49), e P "__doc__" 238 n]⟩ 2)) ::
  (nat_lit 51, ⟨(ty "type"), none, (c "MisuseError" [(r 38)] [(r 51), (r 38), (ty "Exception"), (ty "BaseException"), (ty "object")] 50 "MisuseError" true [] [] false none false), ⟨[some (r 42), none, some (s "MisuseError" 225), some (s "MisuseError" 233), some (bi "Exception.__new__"), some tt]⟩⟩) ::
  (nat_lit 54, t []) ::
  (nat_lit 56, t [(s "node" 246)]) ::
  (nat_lit 57, t []) ::
  (nat_lit 59, o (ty "code") (f [(s "row_of" 243), (s "row_of" 244), (s "/claim/cut.py" 245), (i 12), (i 1), (i 0), (i 0), (i 3), (r 54), tt, (i 181), (r 55), n, (r 56), (r 57), (r 58), (i 247), (i 12), (s "/claim/cut.py" 248)])) ::
  (nat_lit 60, o (ty "function") (fn (st [5]) "row_of" 3 [] n n n (s "pagebase.nodes" 241) none (r 59) n 0)) ::
  (nat_lit 61, t []) ::
  (nat_lit 64, o (ty "code") (f [(s "rows_of" 250), (s "rows_of" 251), (s "/claim/cut.py" 252), (i 14), (i 1), (i 0), (i 0), (i 3), (r 61), tt, (i 181), (r 62), n, n, n, (r 63), (i 253), (i 14), (s "/claim/cut.py" 254)])) ::
  (nat_lit 65, o (ty "function") (fn (st [6]) "rows_of" 3 [] n n n (s "pagebase.nodes" 241) none (r 64) n 0)) ::
  (nat_lit 73, t []) ::
  (nat_lit 75, t [(s "self" 271)]) ::
  (nat_lit 76, t []) ::
  (nat_lit 78, o (ty "code") (f [(s "row" 268), (s "Node.row" 269), (s "/claim/cut.py" 270), (i 18), (i 1), (i 0), (i 0), (i 3), (r 73), tt, (i 181), (r 74), n, (r 75), (r 76), (r 77), (i 272), (i 18), (s "/claim/cut.py" 273)])) ::
  (nat_lit 79, o (ty "function") (fn (st [7, 0]) "Node.row" 3 [] n n n (s "pagebase.nodes" 241) none (r 78) n 0)) ::
  (nat_lit 80, t []) ::
  (nat_lit 81, o (ty "dict") (.dict ⟨[e P "__module__" 263 (s "pagebase.nodes" 241), e P "__firstlineno__" 267 (it 16 266), e P "row" 274 (r 79), e P "__static_attributes__" 275 (r 80), e P "__dict__" 277 (r 83), e P "__weakref__" 279 (r 84), e P "__doc__" 280 n]⟩ 4)) ::
  (nat_lit 82, ⟨(ty "type"), none, (c "Node" [(ty "object")] [(r 82), (ty "object")] 81 "Node" true [] [(r 96)] false none false), ⟨[none, none, some (s "Node" 256), some (s "Node" 264), some (bi "object.__new__"), some tt]⟩⟩) ::
  (nat_lit 83, o (ty "getset_descriptor") (f [(s "__dict__" 276), (r 82), (bi "function.__dict__"), (bi "function.__dict__#set")])) ::
  (nat_lit 84, o (ty "getset_descriptor") (f [(s "__weakref__" 278), (r 82), (bi "ExceptionGroup.__weakref__"), n])) ::
  (nat_lit 87, t [(r 82)]) ::
  (nat_lit 94, t []) ::
  (nat_lit 95, o (ty "dict") (.dict ⟨[e P "__module__" 290 (s "pagebase.nodes" 241), e P "__firstlineno__" 294 (it 20 293), e P "__static_attributes__" 295 (r 94), e P "__doc__" 296 n]⟩ 2)) ::
  (nat_lit 96, ⟨(ty "type"), none, (c "Expr" [(r 82)] [(r 96), (r 82), (ty "object")] 95 "Expr" true [] [(r 122), (r 148), (r 174), (r 200), (r 226), (r 252), (r 278), (r 304), (r 328), (r 354), (r 380), (r 406), (r 432)] false none false), ⟨[some (r 87), none, some (s "Expr" 283), some (s "Expr" 291), some (bi "object.__new__"), some tt]⟩⟩) ::
  (nat_lit 99, t [(r 96)]) ::
  (nat_lit 106, t []) ::
  (nat_lit 108, t [(s "self" 314), (s "value" 315)]) ::
  (nat_lit 109, t []) ::
  (nat_lit 111, o (ty "code") (f [(s "__init__" 311), (s "Literal.__init__" 312), (s "/claim/cut.py" 313), (i 24), (i 2), (i 0), (i 0), (i 3), (r 106), tt, (i 181), (r 107), n, (r 108), (r 109), (r 110), (i 316), (i 24), (s "/claim/cut.py" 317)])) ::
  (nat_lit 112, o (ty "function") (fn (st [9, 0]) "Literal.__init__" 3 [] n n n (s "pagebase.nodes" 241) none (r 111) n 0)) ::
  (nat_lit 113, t []) ::
  (nat_lit 115, t [(s "self" 322)]) ::
  (nat_lit 116, t []) ::
  (nat_lit 118, o (ty "code") (f [(s "row" 319), (s "Literal.row" 320), (s "/claim/cut.py" 321), (i 27), (i 1), (i 0), (i 0), (i 3), (r 113), tt, (i 181), (r 114), n, (r 115), (r 116), (r 117), (i 323), (i 27), (s "/claim/cut.py" 324)])) ::
  (nat_lit 119, o (ty "function") (fn (st [9, 1]) "Literal.row" 3 [] n n n (s "pagebase.nodes" 241) none (r 118) n 0)) ::
  (nat_lit 120, t [(s "value" 326)]) ::
  (nat_lit 121, o (ty "dict") (.dict ⟨[e P "__module__" 306 (s "pagebase.nodes" 241), e P "__firstlineno__" 310 (it 22 309), e P "__init__" 318 (r 112), e P "row" 325 (r 119), e P "__static_attributes__" 327 (r 120), e P "__doc__" 328 n]⟩ 2)) ::
  (nat_lit 122, ⟨(ty "type"), none, (c "Literal" [(r 96)] [(r 122), (r 96), (r 82), (ty "object")] 121 "Literal" true [] [] false none false), ⟨[some (r 99), none, some (s "Literal" 299), some (s "Literal" 307), some (bi "object.__new__"), some tt]⟩⟩) ::
  (nat_lit 125, t [(r 96)]) ::
  (nat_lit 132, t []) ::
  (nat_lit 134, t [(s "self" 346), (s "table" 347), (s "column" 348)]) ::
  (nat_lit 135, t []) ::
  (nat_lit 137, o (ty "code") (f [(s "__init__" 343), (s "Name.__init__" 344), (s "/claim/cut.py" 345), (i 35), (i 3), (i 0), (i 0), (i 3), (r 132), tt, (i 181), (r 133), n, (r 134), (r 135), (r 136), (i 349), (i 35), (s "/claim/cut.py" 350)])) ::
  (nat_lit 138, o (ty "function") (fn (st [10, 0]) "Name.__init__" 3 [] n n n (s "pagebase.nodes" 241) none (r 137) n 0)) ::
  (nat_lit 139, t []) ::
  (nat_lit 141, t [(s "self" 355)]) ::
  (nat_lit 142, t []) ::
  (nat_lit 144, o (ty "code") (f [(s "row" 352), (s "Name.row" 353), (s "/claim/cut.py" 354), (i 42), (i 1), (i 0), (i 0), (i 3), (r 139), tt, (i 181), (r 140), n, (r 141), (r 142), (r 143), (i 356), (i 42), (s "/claim/cut.py" 357)])) ::
  (nat_lit 145, o (ty "function") (fn (st [10, 1]) "Name.row" 3 [] n n n (s "pagebase.nodes" 241) none (r 144) n 0)) ::
  (nat_lit 146, t [(s "column" 359), (s "depth" 360), (s "place" 361), (s "source" 362), (s "table" 363)]) ::
  (nat_lit 147, o (ty "dict") (.dict ⟨[e P "__module__" 338 (s "pagebase.nodes" 241), e P "__firstlineno__" 342 (it 33 341), e P "__init__" 351 (r 138), e P "row" 358 (r 145), e P "__static_attributes__" 364 (r 146), e P "__doc__" 365 n]⟩ 2)) ::
  (nat_lit 148, ⟨(ty "type"), none, (c "Name" [(r 96)] [(r 148), (r 96), (r 82), (ty "object")] 147 "Name" true [] [] false none false), ⟨[some (r 125), none, some (s "Name" 331), some (s "Name" 339), some (bi "object.__new__"), some tt]⟩⟩) ::
  (nat_lit 151, t [(r 96)]) ::
  (nat_lit 158, t []) ::
  (nat_lit 160, t [(s "self" 383), (s "number" 384)]) ::
  (nat_lit 161, t []) ::
  (nat_lit 163, o (ty "code") (f [(s "__init__" 380), (s "Variable.__init__" 381), (s "/claim/cut.py" 382), (i 46), (i 2), (i 0), (i 0), (i 3), (r 158), tt, (i 181), (r 159), n, (r 160), (r 161), (r 162), (i 385), (i 46), (s "/claim/cut.py" 386)])) ::
  (nat_lit 164, o (ty "function") (fn (st [11, 0]) "Variable.__init__" 3 [] n n n (s "pagebase.nodes" 241) none (r 163) n 0)) ::
  (nat_lit 165, t []) ::
  (nat_lit 167, t [(s "self" 391)]) ::
  (nat_lit 168, t []) ::
  (nat_lit 170, o (ty "code") (f [(s "row" 388), (s "Variable.row" 389), (s "/claim/cut.py" 390), (i 49), (i 1), (i 0), (i 0), (i 3), (r 165), tt, (i 181), (r 166), n, (r 167), (r 168), (r 169), (i 392), (i 49), (s "/claim/cut.py" 393)])) ::
  (nat_lit 171, o (ty "function") (fn (st [11, 1]) "Variable.row" 3 [] n n n (s "pagebase.nodes" 241) none (r 170) n 0)) ::
  (nat_lit 172, t [(s "number" 395)]) ::
  (nat_lit 173, o (ty "dict") (.dict ⟨[e P "__module__" 375 (s "pagebase.nodes" 241), e P "__firstlineno__" 379 (it 44 378), e P "__init__" 387 (r 164), e P "row" 394 (r 171), e P "__static_attributes__" 396 (r 172), e P "__doc__" 397 n]⟩ 2)) ::
  (nat_lit 174, ⟨(ty "type"), none, (c "Variable" [(r 96)] [(r 174), (r 96), (r 82), (ty "object")] 173 "Variable" true [] [] false none false), ⟨[some (r 151), none, some (s "Variable" 368), some (s "Variable" 376), some (bi "object.__new__"), some tt]⟩⟩) ::
  (nat_lit 177, t [(r 96)]) ::
  (nat_lit 184, t []) ::
  (nat_lit 186, t [(s "self" 415), (s "op" 416), (s "operand" 417)]) ::
  (nat_lit 187, t []) ::
  (nat_lit 189, o (ty "code") (f [(s "__init__" 412), (s "Unary.__init__" 413), (s "/claim/cut.py" 414), (i 53), (i 3), (i 0), (i 0), (i 3), (r 184), tt, (i 181), (r 185), n, (r 186), (r 187), (r 188), (i 418), (i 53), (s "/claim/cut.py" 419)])) ::
  (nat_lit 190, o (ty "function") (fn (st [12, 0]) "Unary.__init__" 3 [] n n n (s "pagebase.nodes" 241) none (r 189) n 0)) ::
  (nat_lit 191, t []) ::
  (nat_lit 193, t [(s "self" 424)]) ::
  (nat_lit 194, t []) ::
  (nat_lit 196, o (ty "code") (f [(s "row" 421), (s "Unary.row" 422), (s "/claim/cut.py" 423), (i 57), (i 1), (i 0), (i 0), (i 3), (r 191), tt, (i 181), (r 192), n, (r 193), (r 194), (r 195), (i 425), (i 57), (s "/claim/cut.py" 426)])) ::
  (nat_lit 197, o (ty "function") (fn (st [12, 1]) "Unary.row" 3 [] n n n (s "pagebase.nodes" 241) none (r 196) n 0)) ::
  (nat_lit 198, t [(s "op" 428), (s "operand" 429)]) ::
  (nat_lit 199, o (ty "dict") (.dict ⟨[e P "__module__" 407 (s "pagebase.nodes" 241), e P "__firstlineno__" 411 (it 51 410), e P "__init__" 420 (r 190), e P "row" 427 (r 197), e P "__static_attributes__" 430 (r 198), e P "__doc__" 431 n]⟩ 2)) ::
  (nat_lit 200, ⟨(ty "type"), none, (c "Unary" [(r 96)] [(r 200), (r 96), (r 82), (ty "object")] 199 "Unary" true [] [] false none false), ⟨[some (r 177), none, some (s "Unary" 400), some (s "Unary" 408), some (bi "object.__new__"), some tt]⟩⟩) ::
  (nat_lit 203, t [(r 96)]) ::
  (nat_lit 210, t []) ::
  (nat_lit 212, t [(s "self" 449), (s "op" 450), (s "left" 451), (s "right" 452)]) ::
  (nat_lit 213, t []) ::
  (nat_lit 215, o (ty "code") (f [(s "__init__" 446), (s "Binary.__init__" 447), (s "/claim/cut.py" 448), (i 61), (i 4), (i 0), (i 0), (i 3), (r 210), tt, (i 181), (r 211), n, (r 212), (r 213), (r 214), (i 453), (i 61), (s "/claim/cut.py" 454)])) ::
  (nat_lit 216, o (ty "function") (fn (st [13, 0]) "Binary.__init__" 3 [] n n n (s "pagebase.nodes" 241) none (r 215) n 0)) ::
  (nat_lit 217, t []) ::
  (nat_lit 219, t [(s "self" 459)]) ::
  (nat_lit 220, t []) ::
  (nat_lit 222, o (ty "code") (f [(s "row" 456), (s "Binary.row" 457), (s "/claim/cut.py" 458), (i 66), (i 1), (i 0), (i 0), (i 3), (r 217), tt, (i 181), (r 218), n, (r 219), (r 220), (r 221), (i 460), (i 66), (s "/claim/cut.py" 461)])) ::
  (nat_lit 223, o (ty "function") (fn (st [13, 1]) "Binary.row" 3 [] n n n (s "pagebase.nodes" 241) none (r 222) n 0)) ::
  (nat_lit 224, t [(s "left" 463), (s "op" 464), (s "right" 465)]) ::
  (nat_lit 225, o (ty "dict") (.dict ⟨[e P "__module__" 441 (s "pagebase.nodes" 241), e P "__firstlineno__" 445 (it 59 444), e P "__init__" 455 (r 216), e P "row" 462 (r 223), e P "__static_attributes__" 466 (r 224), e P "__doc__" 467 n]⟩ 2)) ::
  (nat_lit 226, ⟨(ty "type"), none, (c "Binary" [(r 96)] [(r 226), (r 96), (r 82), (ty "object")] 225 "Binary" true [] [] false none false), ⟨[some (r 203), none, some (s "Binary" 434), some (s "Binary" 442), some (bi "object.__new__"), some tt]⟩⟩) ::
  (nat_lit 229, t [(r 96)]) ::
  (nat_lit 236, t []) ::
  (nat_lit 238, t [(s "self" 485), (s "value" 486), (s "low" 487), (s "high" 488), (s "negated" 489)]) ::
  (nat_lit 239, t []) ::
  (nat_lit 241, o (ty "code") (f [(s "__init__" 482), (s "Between.__init__" 483), (s "/claim/cut.py" 484), (i 70), (i 5), (i 0), (i 0), (i 3), (r 236), tt, (i 181), (r 237), n, (r 238), (r 239), (r 240), (i 490), (i 70), (s "/claim/cut.py" 491)])) ::
  (nat_lit 242, o (ty "function") (fn (st [14, 0]) "Between.__init__" 3 [] n n n (s "pagebase.nodes" 241) none (r 241) n 0)) ::
  (nat_lit 243, t []) ::
  (nat_lit 245, t [(s "self" 496)]) ::
  (nat_lit 246, t []) ::
  (nat_lit 248, o (ty "code") (f [(s "row" 493), (s "Between.row" 494), (s "/claim/cut.py" 495), (i 76), (i 1), (i 0), (i 0), (i 3), (r 243), tt, (i 181), (r 244), n, (r 245), (r 246), (r 247), (i 497), (i 76), (s "/claim/cut.py" 498)])) ::
  (nat_lit 249, o (ty "function") (fn (st [14, 1]) "Between.row" 3 [] n n n (s "pagebase.nodes" 241) none (r 248) n 0)) ::
  (nat_lit 250, t [(s "high" 500), (s "low" 501), (s "negated" 502), (s "value" 503)]) ::
  (nat_lit 251, o (ty "dict") (.dict ⟨[e P "__module__" 477 (s "pagebase.nodes" 241), e P "__firstlineno__" 481 (it 68 480), e P "__init__" 492 (r 242), e P "row" 499 (r 249), e P "__static_attributes__" 504 (r 250), e P "__doc__" 505 n]⟩ 2)) ::
  (nat_lit 252, ⟨(ty "type"), none, (c "Between" [(r 96)] [(r 252), (r 96), (r 82), (ty "object")] 251 "Between" true [] [] false none false), ⟨[some (r 229), none, some (s "Between" 470), some (s "Between" 478), some (bi "object.__new__"), some tt]⟩⟩) ::
  (nat_lit 255, t [(r 96)]) ::
  (nat_lit 262, t []) ::
  (nat_lit 264, t [(s "self" 523), (s "value" 524), (s "items" 525), (s "negated" 526)]) ::
  (nat_lit 265, t []) ::
  (nat_lit 267, o (ty "code") (f [(s "__init__" 520), (s "InList.__init__" 521), (s "/claim/cut.py" 522), (i 80), (i 4), (i 0), (i 0), (i 3), (r 262), tt, (i 181), (r 263), n, (r 264), (r 265), (r 266), (i 527), (i 80), (s "/claim/cut.py" 528)])) ::
  (nat_lit 268, o (ty "function") (fn (st [15, 0]) "InList.__init__" 3 [] n n n (s "pagebase.nodes" 241) none (r 267) n 0)) ::
  (nat_lit 269, t []) ::
  (nat_lit 271, t [(s "self" 533)]) ::
  (nat_lit 272, t []) ::
  (nat_lit 274, o (ty "code") (f [(s "row" 530), (s "InList.row" 531), (s "/claim/cut.py" 532), (i 85), (i 1), (i 0), (i 0), (i 3), (r 269), tt, (i 181), (r 270), n, (r 271), (r 272), (r 273), (i 534), (i 85), (s "/claim/cut.py" 535)])) ::
  (nat_lit 275, o (ty "function") (fn (st [15, 1]) "InList.row" 3 [] n n n (s "pagebase.nodes" 241) none (r 274) n 0)) ::
  (nat_lit 276, t [(s "items" 537), (s "negated" 538), (s "value" 539)]) ::
  (nat_lit 277, o (ty "dict") (.dict ⟨[e P "__module__" 515 (s "pagebase.nodes" 241), e P "__firstlineno__" 519 (it 78 518), e P "__init__" 529 (r 268), e P "row" 536 (r 275), e P "__static_attributes__" 540 (r 276), e P "__doc__" 541 n]⟩ 2)) ::
  (nat_lit 278, ⟨(ty "type"), none, (c "InList" [(r 96)] [(r 278), (r 96), (r 82), (ty "object")] 277 "InList" true [] [] false none false), ⟨[some (r 255), none, some (s "InList" 508), some (s "InList" 516), some (bi "object.__new__"), some tt]⟩⟩) ::
  (nat_lit 281, t [(r 96)]) ::
  (nat_lit 288, t []) ::
  (nat_lit 290, t [(s "self" 559), (s "select" 560)]) ::
  (nat_lit 291, t []) ::
  (nat_lit 293, o (ty "code") (f [(s "__init__" 556), (s "Scalar.__init__" 557), (s "/claim/cut.py" 558), (i 89), (i 2), (i 0), (i 0), (i 3), (r 288), tt, (i 181), (r 289), n, (r 290), (r 291), (r 292), (i 561), (i 89), (s "/claim/cut.py" 562)])) ::
  (nat_lit 294, o (ty "function") (fn (st [16, 0]) "Scalar.__init__" 3 [] n n n (s "pagebase.nodes" 241) none (r 293) n 0)) ::
  (nat_lit 295, t []) ::
  (nat_lit 297, t [(s "self" 567)]) ::
  (nat_lit 298, t []) ::
  (nat_lit 300, o (ty "code") (f [(s "row" 564), (s "Scalar.row" 565), (s "/claim/cut.py" 566), (i 92), (i 1), (i 0), (i 0), (i 3), (r 295), tt, (i 181), (r 296), n, (r 297), (r 298), (r 299), (i 568), (i 92), (s "/claim/cut.py" 569)])) ::
  (nat_lit 301, o (ty "function") (fn (st [16, 1]) "Scalar.row" 3 [] n n n (s "pagebase.nodes" 241) none (r 300) n 0)) ::
  (nat_lit 302, t [(s "select" 571)]) ::
  (nat_lit 303, o (ty "dict") (.dict ⟨[e P "__module__" 551 (s "pagebase.nodes" 241), e P "__firstlineno__" 555 (it 87 554), e P "__init__" 563 (r 294), e P "row" 570 (r 301), e P "__static_attributes__" 572 (r 302), e P "__doc__" 573 n]⟩ 2)) ::
  (nat_lit 304, ⟨(ty "type"), none, (c "Scalar" [(r 96)] [(r 304), (r 96), (r 82), (ty "object")] 303 "Scalar" true [] [] false none false), ⟨[some (r 281), none, some (s "Scalar" 544), some (s "Scalar" 552), some (bi "object.__new__"), some tt]⟩⟩) ::
  (nat_lit 307, t [(r 96)]) ::
  (nat_lit 314, t []) ::
  (nat_lit 316, t [(s "self" 591), (s "base" 592), (s "whens" 593), (s "other" 594)]) ::
  (nat_lit 317, t []) ::
  (nat_lit 319, o (ty "code") (f [(s "__init__" 588), (s "Case.__init__" 589), (s "/claim/cut.py" 590), (i 96), (i 4), (i 0), (i 0), (i 3), (r 314), tt, (i 181), (r 315), n, (r 316), (r 317), (r 318), (i 595), (i 96), (s "/claim/cut.py" 596)])) ::
  (nat_lit 320, o (ty "function") (fn (st [17, 0]) "Case.__init__" 3 [] n n n (s "pagebase.nodes" 241) none (r 319) n 0)) ::
  (nat_lit 321, t []) ::
  (nat_lit 324, o (ty "code") (f [(s "row" 598), (s "Case.row" 599), (s "/claim/cut.py" 600), (i 101), (i 1), (i 0), (i 0), (i 3), (r 321), tt, (i 181), (r 322), n, n, n, (r 323), (i 601), (i 101), (s "/claim/cut.py" 602)])) ::
  (nat_lit 325, o (ty "function") (fn (st [17, 1]) "Case.row" 3 [] n n n (s "pagebase.nodes" 241) none (r 324) n 0)) ::
  (nat_lit 326, t [(s "base" 604), (s "other" 605), (s "whens" 606)]) ::
  (nat_lit 327, o (ty "dict") (.dict ⟨[e P "__module__" 583 (s "pagebase.nodes" 241), e P "__firstlineno__" 587 (it 94 586), e P "__init__" 597 (r 320), e P "row" 603 (r 325), e P "__static_attributes__" 607 (r 326), e P "__doc__" 608 n]⟩ 2)) ::
  (nat_lit 328, ⟨(ty "type"), none, (c "Case" [(r 96)] [(r 328), (r 96), (r 82), (ty "object")] 327 "Case" true [] [] false none false), ⟨[some (r 307), none, some (s "Case" 576), some (s "Case" 584), some (bi "object.__new__"), some tt]⟩⟩) ::
  (nat_lit 331, t [(r 96)]) ::
  (nat_lit 338, t []) ::
  (nat_lit 340, t [(s "self" 626), (s "name" 627), (s "arguments" 628), (s "distinct" 629), (s "star" 630)]) ::
  (nat_lit 341, t []) ::
  (nat_lit 343, o (ty "code") (f [(s "__init__" 623), (s "Call.__init__" 624), (s "/claim/cut.py" 625), (i 106), (i 5), (i 0), (i 0), (i 3), (r 338), tt, (i 181), (r 339), n, (r 340), (r 341), (r 342), (i 631), (i 106), (s "/claim/cut.py" 632)])) ::
  (nat_lit 344, o (ty "function") (fn (st [18, 0]) "Call.__init__" 3 [] n n n (s "pagebase.nodes" 241) none (r 343) n 0)) ::
  (nat_lit 345, t []) ::
  (nat_lit 347, t [(s "self" 637)]) ::
  (nat_lit 348, t []) ::
  (nat_lit 350, o (ty "code") (f [(s "row" 634), (s "Call.row" 635), (s "/claim/cut.py" 636), (i 112), (i 1), (i 0), (i 0), (i 3), (r 345), tt, (i 181), (r 346), n, (r 347), (r 348), (r 349), (i 638), (i 112), (s "/claim/cut.py" 639)])) ::
  (nat_lit 351, o (ty "function") (fn (st [18, 1]) "Call.row" 3 [] n n n (s "pagebase.nodes" 241) none (r 350) n 0)) ::
  (nat_lit 352, t [(s "arguments" 641), (s "distinct" 642), (s "name" 643), (s "star" 644)]) ::
  (nat_lit 353, o (ty "dict") (.dict ⟨[e P "__module__" 618 (s "pagebase.nodes" 241), e P "__firstlineno__" 622 (it 104 621), e P "__init__" 633 (r 344), e P "row" 640 (r 351), e P "__static_attributes__" 645 (r 352), e P "__doc__" 646 n]⟩ 2)) ::
  (nat_lit 354, ⟨(ty "type"), none, (c "Call" [(r 96)] [(r 354), (r 96), (r 82), (ty "object")] 353 "Call" true [] [] false none false), ⟨[some (r 331), none, some (s "Call" 611), some (s "Call" 619), some (bi "object.__new__"), some tt]⟩⟩) ::
  (nat_lit 357, t [(r 96)]) ::
  (nat_lit 364, t []) ::
  (nat_lit 366, t [(s "self" 664), (s "value" 665), (s "type_name" 666)]) ::
  (nat_lit 367, t []) ::
  (nat_lit 369, o (ty "code") (f [(s "__init__" 661), (s "Cast.__init__" 662), (s "/claim/cut.py" 663), (i 116), (i 3), (i 0), (i 0), (i 3), (r 364), tt, (i 181), (r 365), n, (r 366), (r 367), (r 368), (i 667), (i 116), (s "/claim/cut.py" 668)])) ::
  (nat_lit 370, o (ty "function") (fn (st [19, 0]) "Cast.__init__" 3 [] n n n (s "pagebase.nodes" 241) none (r 369) n 0)) ::
  (nat_lit 371, t []) ::
  (nat_lit 373, t [(s "self" 673)]) ::
  (nat_lit 374, t []) ::
  (nat_lit 376, o (ty "code") (f [(s "row" 670), (s "Cast.row" 671), (s "/claim/cut.py" 672), (i 120), (i 1), (i 0), (i 0), (i 3), (r 371), tt, (i 181), (r 372), n, (r 373), (r 374), (r 375), (i 674), (i 120), (s "/claim/cut.py" 675)])) ::
  (nat_lit 377, o (ty "function") (fn (st [19, 1]) "Cast.row" 3 [] n n n (s "pagebase.nodes" 241) none (r 376) n 0)) ::
  (nat_lit 378, t [(s "type_name" 677), (s "value" 678)]) ::
  (nat_lit 379, o (ty "dict") (.dict ⟨[e P "__module__" 656 (s "pagebase.nodes" 241), e P "__firstlineno__" 660 (it 114 659), e P "__init__" 669 (r 370), e P "row" 676 (r 377), e P "__static_attributes__" 679 (r 378), e P "__doc__" 680 n]⟩ 2)) ::
  (nat_lit 380, ⟨(ty "type"), none, (c "Cast" [(r 96)] [(r 380), (r 96), (r 82), (ty "object")] 379 "Cast" true [] [] false none false), ⟨[some (r 357), none, some (s "Cast" 649), some (s "Cast" 657), some (bi "object.__new__"), some tt]⟩⟩) ::
  (nat_lit 383, t [(r 96)]) ::
  (nat_lit 390, t []) ::
  (nat_lit 392, t [(s "self" 698), (s "value" 699), (s "collation" 700)]) ::
  (nat_lit 393, t []) ::
  (nat_lit 395, o (ty "code") (f [(s "__init__" 695), (s "Collate.__init__" 696), (s "/claim/cut.py" 697), (i 124), (i 3), (i 0), (i 0), (i 3), (r 390), tt, (i 181), (r 391), n, (r 392), (r 393), (r 394), (i 701), (i 124), (s "/claim/cut.py" 702)])) ::
  (nat_lit 396, o (ty "function") (fn (st [20, 0]) "Collate.__init__" 3 [] n n n (s "pagebase.nodes" 241) none (r 395) n 0)) ::
  (nat_lit 397, t []) ::
  (nat_lit 399, t [(s "self" 707)]) ::
  (nat_lit 400, t []) ::
  (nat_lit 402, o (ty "code") (f [(s "row" 704), (s "Collate.row" 705), (s "/claim/cut.py" 706), (i 128), (i 1), (i 0), (i 0), (i 3), (r 397), tt, (i 181), (r 398), n, (r 399), (r 400), (r 401), (i 708), (i 128), (s "/claim/cut.py" 709)])) ::
  (nat_lit 403, o (ty "function") (fn (st [20, 1]) "Collate.row" 3 [] n n n (s "pagebase.nodes" 241) none (r 402) n 0)) ::
  (nat_lit 404, t [(s "collation" 711), (s "value" 712)]) ::
  (nat_lit 405, o (ty "dict") (.dict ⟨[e P "__module__" 690 (s "pagebase.nodes" 241), e P "__firstlineno__" 694 (it 122 693), e P "__init__" 703 (r 396), e P "row" 710 (r 403), e P "__static_attributes__" 713 (r 404), e P "__doc__" 714 n]⟩ 2)) ::
  (nat_lit 406, ⟨(ty "type"), none, (c "Collate" [(r 96)] [(r 406), (r 96), (r 82), (ty "object")] 405 "Collate" true [] [] false none false), ⟨[some (r 383), none, some (s "Collate" 683), some (s "Collate" 691), some (bi "object.__new__"), some tt]⟩⟩) ::
  (nat_lit 409, t [(r 96)]) ::
  (nat_lit 416, t []) ::
  (nat_lit 418, t [(s "self" 732), (s "value" 733), (s "negated" 734)]) ::
  (nat_lit 419, t []) ::
  (nat_lit 421, o (ty "code") (f [(s "__init__" 729), (s "IsNull.__init__" 730), (s "/claim/cut.py" 731), (i 132), (i 3), (i 0), (i 0), (i 3), (r 416), tt, (i 181), (r 417), n, (r 418), (r 419), (r 420), (i 735), (i 132), (s "/claim/cut.py" 736)])) ::
  (nat_lit 422, o (ty "function") (fn (st [21, 0]) "IsNull.__init__" 3 [] n n n (s "pagebase.nodes" 241) none (r 421) n 0)) ::
  (nat_lit 423, t []) ::
  (nat_lit 425, t [(s "self" 741)]) ::
  (nat_lit 426, t []) ::
  (nat_lit 428, o (ty "code") (f [(s "row" 738), (s "IsNull.row" 739), (s "/claim/cut.py" 740), (i 136), (i 1), (i 0), (i 0), (i 3), (r 423), tt, (i 181), (r 424), n, (r 425), (r 426), (r 427), (i 742), (i 136), (s "/claim/cut.py" 743)])) ::
  (nat_lit 429, o (ty "function") (fn (st [21, 1]) "IsNull.row" 3 [] n n n (s "pagebase.nodes" 241) none (r 428) n 0)) ::
  (nat_lit 430, t [(s "negated" 745), (s "value" 746)]) ::
  (nat_lit 431, o (ty "dict") (.dict ⟨[e P "__module__" 724 (s "pagebase.nodes" 241), e P "__firstlineno__" 728 (it 130 727), e P "__init__" 737 (r 422), e P "row" 744 (r 429), e P "__static_attributes__" 747 (r 430), e P "__doc__" 748 n]⟩ 2)) ::
  (nat_lit 432, ⟨(ty "type"), none, (c "IsNull" [(r 96)] [(r 432), (r 96), (r 82), (ty "object")] 431 "IsNull" true [] [] false none false), ⟨[some (r 409), none, some (s "IsNull" 717), some (s "IsNull" 725), some (bi "object.__new__"), some tt]⟩⟩) ::
  (nat_lit 435, t [(s "integer" 753), (s "numeric" 754)]) ::
  (nat_lit 436, t []) ::
  (nat_lit 438, t [(s "text" 761), (s "signs" 762), (s "sign" 763)]) ::
  (nat_lit 439, t []) ::
  (nat_lit 441, o (ty "code") (f [(s "fold_ascii" 758), (s "fold_ascii" 759), (s "/claim/cut.py" 760), (i 141), (i 1), (i 0), (i 0), (i 3), (r 436), tt, (i 181), (r 437), n, (r 438), (r 439), (r 440), (i 764), (i 141), (s "/claim/cut.py" 765)])) ::
  (nat_lit 442, o (ty "function") (fn (st [25]) "fold_ascii" 3 [] n n n (s "pagebase.values" 751) none (r 441) n 0)) ::
  (nat_lit 443, t []) ::
  (nat_lit 445, t [(s "type_name" 770), (s "name" 771), (s "part" 772)]) ::
  (nat_lit 446, t []) ::
  (nat_lit 448, o (ty "code") (f [(s "affinity_of_type" 767), (s "affinity_of_type" 768), (s "/claim/cut.py" 769), (i 149), (i 1), (i 0), (i 0), (i 3), (r 443), tt, (i 181), (r 444), n, (r 445), (r 446), (r 447), (i 773), (i 149), (s "/claim/cut.py" 774)])) ::
  (nat_lit 449, o (ty "function") (fn (st [26]) "affinity_of_type" 3 [] n n n (s "pagebase.values" 751) none (r 448) n 0)) ::
  (nat_lit 450, t []) ::
  (nat_lit 452, t [(s "left" 779), (s "right" 780)]) ::
  (nat_lit 453, t []) ::
  (nat_lit 455, o (ty "code") (f [(s "comparison_affinities" 776), (s "comparison_affinities" 777), (s "/claim/cut.py" 778), (i 161), (i 2), (i 0), (i 0), (i 3), (r 450), tt, (i 181), (r 451), n, (r 452), (r 453), (r 454), (i 781), (i 161), (s "/claim/cut.py" 782)])) ::
  (nat_lit 456, o (ty "function") (fn (st [27]) "comparison_affinities" 3 [] n n n (s "pagebase.values" 751) none (r 455) n 0)) ::
  (nat_lit 457, t []) ::
  (nat_lit 460, o (ty "code") (f [(s "fold" 786), (s "fold" 787), (s "/claim/cut.py" 788), (i 172), (i 1), (i 0), (i 0), (i 3), (r 457), tt, (i 181), (r 458), n, n, n, (r 459), (i 789), (i 172), (s "/claim/cut.py" 790)])) ::
  (nat_lit 461, o (ty "function") (fn (st [29]) "fold" 3 [] n n n (s "pagebase.expr_tools" 784) none (r 460) n 0)) ::
  (nat_lit 462, t [n]) ::
  (nat_lit 463, t []) ::
  (nat_lit 465, t [(s "expr" 795), (s "sources" 796)]) ::
  (nat_lit 466, t []) ::
  (nat_lit 468, o (ty "code") (f [(s "affinity_of" 792), (s "affinity_of" 793), (s "/claim/cut.py" 794), (i 174), (i 2), (i 0), (i 0), (i 3), (r 463), tt, (i 181), (r 464), n, (r 465), (r 466), (r 467), (i 797), (i 174), (s "/claim/cut.py" 798)])) ::
  (nat_lit 469, o (ty "function") (fn (st [30]) "affinity_of" 3 [] (r 462) n n (s "pagebase.expr_tools" 784) none (r 468) n 0)) ::
  (nat_lit 470, t []) ::
  (nat_lit 472, t [(s "expr" 803)]) ::
  (nat_lit 473, t []) ::
  (nat_lit 475, o (ty "code") (f [(s "explicit_collation" 800), (s "explicit_collation" 801), (s "/claim/cut.py" 802), (i 184), (i 1), (i 0), (i 0), (i 3), (r 470), tt, (i 181), (r 471), n, (r 472), (r 473), (r 474), (i 804), (i 184), (s "/claim/cut.py" 805)])) ::
  (nat_lit 476, o (ty "function") (fn (st [31]) "explicit_collation" 3 [] n n n (s "pagebase.expr_tools" 784) none (r 475) n 0)) ::
  (nat_lit 477, t []) ::
  (nat_lit 479, t [(s "expr" 810)]) ::
  (nat_lit 480, t []) ::
  (nat_lit 482, o (ty "code") (f [(s "column_collation" 807), (s "column_collation" 808), (s "/claim/cut.py" 809), (i 194), (i 1), (i 0), (i 0), (i 3), (r 477), tt, (i 181), (r 478), n, (r 479), (r 480), (r 481), (i 811), (i 194), (s "/claim/cut.py" 812)])) ::
  (nat_lit 483, o (ty "function") (fn (st [32]) "column_collation" 3 [] n n n (s "pagebase.expr_tools" 784) none (r 482) n 0)) ::
  (nat_lit 484, t [n]) ::
  (nat_lit 485, t []) ::
  (nat_lit 487, t [(s "expr" 817), (s "sources" 818)]) ::
  (nat_lit 488, t []) ::
  (nat_lit 490, o (ty "code") (f [(s "collation_of" 814), (s "collation_of" 815), (s "/claim/cut.py" 816), (i 202), (i 2), (i 0), (i 0), (i 3), (r 485), tt, (i 181), (r 486), n, (r 487), (r 488), (r 489), (i 819), (i 202), (s "/claim/cut.py" 820)])) ::
  (nat_lit 491, o (ty "function") (fn (st [33]) "collation_of" 3 [] (r 484) n n (s "pagebase.expr_tools" 784) none (r 490) n 0)) ::
  (nat_lit 492, t []) ::
  (nat_lit 494, t [(s "arguments" 825), (s "expr" 826), (s "found" 827)]) ::
  (nat_lit 495, t []) ::
  (nat_lit 497, o (ty "code") (f [(s "call_collation" 822), (s "call_collation" 823), (s "/claim/cut.py" 824), (i 204), (i 1), (i 0), (i 0), (i 3), (r 492), tt, (i 181), (r 493), n, (r 494), (r 495), (r 496), (i 828), (i 204), (s "/claim/cut.py" 829)])) ::
  (nat_lit 498, o (ty "function") (fn (st [34]) "call_collation" 3 [] n n n (s "pagebase.expr_tools" 784) none (r 497) n 0)) ::
  (nat_lit 499, t []) ::
  (nat_lit 501, t [(s "left" 834), (s "right" 835), (s "found" 836)]) ::
  (nat_lit 502, t []) ::
  (nat_lit 504, o (ty "code") (f [(s "comparison_collation" 831), (s "comparison_collation" 832), (s "/claim/cut.py" 833), (i 210), (i 2), (i 0), (i 0), (i 3), (r 499), tt, (i 181), (r 500), n, (r 501), (r 502), (r 503), (i 837), (i 210), (s "/claim/cut.py" 838)])) ::
  (nat_lit 505, o (ty "function") (fn (st [35]) "comparison_collation" 3 [] n n n (s "pagebase.expr_tools" 784) none (r 504) n 0)) ::
  (nat_lit 506, t []) ::
  (nat_lit 508, t [(s "op" 845)]) ::
  (nat_lit 509, t []) ::
  (nat_lit 511, o (ty "code") (f [(s "is_comparison" 842), (s "is_comparison" 843), (s "/claim/cut.py" 844), (i 216), (i 1), (i 0), (i 0), (i 3), (r 506), tt, (i 181), (r 507), n, (r 508), (r 509), (r 510), (i 846), (i 216), (s "/claim/cut.py" 847)])) ::
  (nat_lit 512, o (ty "function") (fn (st [37]) "is_comparison" 3 [] n n n (s "pagebase.code_operators" 840) none (r 511) n 0)) ::
  (nat_lit 513, t []) ::
  (nat_lit 515, t [(s "op" 852)]) ::
  (nat_lit 516, t []) ::
  (nat_lit 518, o (ty "code") (f [(s "opposite" 849), (s "opposite" 850), (s "/claim/cut.py" 851), (i 218), (i 1), (i 0), (i 0), (i 3), (r 513), tt, (i 181), (r 514), n, (r 515), (r 516), (r 517), (i 853), (i 218), (s "/claim/cut.py" 854)])) ::
  (nat_lit 519, o (ty "function") (fn (st [38]) "opposite" 3 [] n n n (s "pagebase.code_operators" 840) none (r 518) n 0)) ::
  (nat_lit 527, t []) ::
  (nat_lit 529, t [(s "self" 871), (s "program" 872)]) ::
  (nat_lit 530, t []) ::
  (nat_lit 532, o (ty "code") (f [(s "__init__" 868), (s "OperatorCoder.__init__" 869), (s "/claim/cut.py" 870), (i 222), (i 2), (i 0), (i 0), (i 3), (r 527), tt, (i 181), (r 528), n, (r 529), (r 530), (r 531), (i 873), (i 222), (s "/claim/cut.py" 874)])) ::
  (nat_lit 533, o (ty "function") (fn (st [39, 0]) "OperatorCoder.__init__" 3 [] n n n (s "pagebase.code_operators" 840) none (r 532) n 0)) ::
  (nat_lit 534, t [n]) ::
  (nat_lit 535, t []) ::
  (nat_lit 537, t [(s "self" 879), (s "expr" 880), (s "into" 881), (s "target" 882), (s "operand" 883)]) ::
  (nat_lit 538, t []) ::
  (nat_lit 540, o (ty "code") (f [(s "expression" 876), (s "OperatorCoder.expression" 877), (s "/claim/cut.py" 878), (i 226), (i 3), (i 0), (i 0), (i 3), (r 535), tt, (i 181), (r 536), n, (r 537), (r 538), (r 539), (i 884), (i 226), (s "/claim/cut.py" 885)])) ::
  (nat_lit 541, o (ty "function") (fn (st [39, 1]) "OperatorCoder.expression" 3 [] (r 534) n n (s "pagebase.code_operators" 840) none (r 540) n 0)) ::
  (nat_lit 542, t []) ::
  (nat_lit 544, t [(s "self" 890), (s "expr" 891), (s "target" 892)]) ::
  (nat_lit 545, t []) ::
  (nat_lit 547, o (ty "code") (f [(s "other" 887), (s "OperatorCoder.other" 888), (s "/claim/cut.py" 889), (i 253), (i 3), (i 0), (i 0), (i 3), (r 542), tt, (i 181), (r 543), n, (r 544), (r 545), (r 546), (i 893), (i 253), (s "/claim/cut.py" 894)])) ::
  (nat_lit 548, o (ty "function") (fn (st [39, 2]) "OperatorCoder.other" 3 [] n n n (s "pagebase.code_operators" 840) none (r 547) n 0)) ::
  (nat_lit 549, t []) ::
  (nat_lit 551, t [(s "self" 899), (s "exprs" 900), (s "first" 901), (s "at" 902)]) ::
  (nat_lit 552, t []) ::
  (nat_lit 554, o (ty "code") (f [(s "row_of" 896), (s "OperatorCoder.row_of" 897), (s "/claim/cut.py" 898), (i 256), (i 2), (i 0), (i 0), (i 3), (r 549), tt, (i 181), (r 550), n, (r 551), (r 552), (r 553), (i 903), (i 256), (s "/claim/cut.py" 904)])) ::
  (nat_lit 555, o (ty "function") (fn (st [39, 3]) "OperatorCoder.row_of" 3 [] n n n (s "pagebase.code_operators" 840) none (r 554) n 0)) ::
  (nat_lit 556, t []) ::
  (nat_lit 558, t [(s "self" 909), (s "number" 910), (s "place" 911), (s "target" 912), (s "kind" 913), (s "held" 914)]) ::
  (nat_lit 559, t []) ::
  (nat_lit 561, o (ty "code") (f [(s "column" 906), (s "OperatorCoder.column" 907), (s "/claim/cut.py" 908), (i 262), (i 4), (i 0), (i 0), (i 3), (r 556), tt, (i 181), (r 557), n, (r 558), (r 559), (r 560), (i 915), (i 262), (s "/claim/cut.py" 916)])) ::
  (nat_lit 562, o (ty "function") (fn (st [39, 4]) "OperatorCoder.column" 3 [] n n n (s "pagebase.code_operators" 840) none (r 561) n 0)) ::
  (nat_lit 563, t []) ::
  (nat_lit 565, t [(s "self" 921), (s "expr" 922), (s "target" 923), (s "left" 924), (s "right" 925), (s "affinities" 926), (s "collation" 927)]) ::
  (nat_lit 566, t []) ::
  (nat_lit 568, o (ty "code") (f [(s "binary" 918), (s "OperatorCoder.binary" 919), (s "/claim/cut.py" 920), (i 266), (i 3), (i 0), (i 0), (i 3), (r 563), tt, (i 181), (r 564), n, (r 565), (r 566), (r 567), (i 928), (i 266), (s "/claim/cut.py" 929)])) ::
  (nat_lit 569, o (ty "function") (fn (st [39, 5]) "OperatorCoder.binary" 3 [] n n n (s "pagebase.code_operators" 840) none (r 568) n 0)) ::
  (nat_lit 570, t []) ::
  (nat_lit 572, t [(s "self" 934), (s "op" 935), (s "value" 936), (s "register" 937), (s "other" 938), (s "target" 939), (s "right" 940), (s "affinities" 941), (s "told" 942)]) ::
  (nat_lit 573, t []) ::
  (nat_lit 575, o (ty "code") (f [(s "compared" 931), (s "OperatorCoder.compared" 932), (s "/claim/cut.py" 933), (i 278), (i 6), (i 0), (i 0), (i 3), (r 570), tt, (i 181), (r 571), n, (r 572), (r 573), (r 574), (i 943), (i 278), (s "/claim/cut.py" 944)])) ::
  (nat_lit 576, o (ty "function") (fn (st [39, 6]) "OperatorCoder.compared" 3 [] n n n (s "pagebase.code_operators" 840) none (r 575) n 0)) ::
  (nat_lit 577, t []) ::
  (nat_lit 579, t [(s "self" 949), (s "expr" 950), (s "target" 951), (s "value" 952), (s "low" 953), (s "high" 954)]) ::
  (nat_lit 580, t []) ::
  (nat_lit 582, o (ty "code") (f [(s "between" 946), (s "OperatorCoder.between" 947), (s "/claim/cut.py" 948), (i 284), (i 3), (i 0), (i 0), (i 3), (r 577), tt, (i 181), (r 578), n, (r 579), (r 580), (r 581), (i 955), (i 284), (s "/claim/cut.py" 956)])) ::
  (nat_lit 583, o (ty "function") (fn (st [39, 7]) "OperatorCoder.between" 3 [] n n n (s "pagebase.code_operators" 840) none (r 582) n 0)) ::
  (nat_lit 584, t []) ::
  (nat_lit 586, t [(s "self" 961), (s "target" 962), (s "negated" 963)]) ::
  (nat_lit 587, t []) ::
  (nat_lit 589, o (ty "code") (f [(s "negate" 958), (s "OperatorCoder.negate" 959), (s "/claim/cut.py" 960), (i 293), (i 3), (i 0), (i 0), (i 3), (r 584), tt, (i 181), (r 585), n, (r 586), (r 587), (r 588), (i 964), (i 293), (s "/claim/cut.py" 965)])) ::
  (nat_lit 590, o (ty "function") (fn (st [39, 8]) "OperatorCoder.negate" 3 [] n n n (s "pagebase.code_operators" 840) none (r 589) n 0)) ::
  (nat_lit 591, t []) ::
  (nat_lit 593, t [(s "self" 970), (s "expr" 971), (s "target" 972), (s "value" 973), (s "end" 974)]) ::
  (nat_lit 594, t []) ::
  (nat_lit 596, o (ty "code") (f [(s "is_null" 967), (s "OperatorCoder.is_null" 968), (s "/claim/cut.py" 969), (i 297), (i 3), (i 0), (i 0), (i 3), (r 591), tt, (i 181), (r 592), n, (r 593), (r 594), (r 595), (i 975), (i 297), (s "/claim/cut.py" 976)])) ::
  (nat_lit 597, o (ty "function") (fn (st [39, 9]) "OperatorCoder.is_null" 3 [] n n n (s "pagebase.code_operators" 840) none (r 596) n 0)) ::
  (nat_lit 598, t []) ::
  (nat_lit 600, t [(s "self" 981), (s "expr" 982), (s "target" 983), (s "end" 984), (s "base" 985), (s "when" 986), (s "then" 987), (s "following" 988), (s "found" 989)]) ::
  (nat_lit 601, t []) ::
  (nat_lit 603, o (ty "code") (f [(s "case" 978), (s "OperatorCoder.case" 979), (s "/claim/cut.py" 980), (i 305), (i 3), (i 0), (i 0), (i 3), (r 598), tt, (i 181), (r 599), n, (r 600), (r 601), (r 602), (i 990), (i 305), (s "/claim/cut.py" 991)])) ::
  (nat_lit 604, o (ty "function") (fn (st [39, 10]) "OperatorCoder.case" 3 [] n n n (s "pagebase.code_operators" 840) none (r 603) n 0)) ::
  (nat_lit 605, t []) ::
  (nat_lit 607, t [(s "self" 996), (s "expr" 997), (s "target" 998), (s "value" 999), (s "hit" 1000), (s "end" 1001), (s "told" 1002), (s "item" 1003), (s "following" 1004), (s "register" 1005), (s "found" 1006)]) ::
  (nat_lit 608, t []) ::
  (nat_lit 610, o (ty "code") (f [(s "in_list" 993), (s "OperatorCoder.in_list" 994), (s "/claim/cut.py" 995), (i 325), (i 3), (i 0), (i 0), (i 3), (r 605), tt, (i 181), (r 606), n, (r 607), (r 608), (r 609), (i 1007), (i 325), (s "/claim/cut.py" 1008)])) ::
  (nat_lit 611, o (ty "function") (fn (st [39, 11]) "OperatorCoder.in_list" 3 [] n n n (s "pagebase.code_operators" 840) none (r 610) n 0)) ::
  (nat_lit 612, t [ff]) ::
  (nat_lit 613, t []) ::
  (nat_lit 615, t [(s "self" 1013), (s "expr" 1014), (s "label" 1015), (s "null_jumps" 1016), (s "past" 1017), (s "value" 1018)]) ::
  (nat_lit 616, t []) ::
  (nat_lit 618, o (ty "code") (f [(s "jump_if" 1010), (s "OperatorCoder.jump_if" 1011), (s "/claim/cut.py" 1012), (i 346), (i 4), (i 0), (i 0), (i 3), (r 613), tt, (i 181), (r 614), n, (r 615), (r 616), (r 617), (i 1019), (i 346), (s "/claim/cut.py" 1020)])) ::
  (nat_lit 619, o (ty "function") (fn (st [39, 12]) "OperatorCoder.jump_if" 3 [] (r 612) n n (s "pagebase.code_operators" 840) none (r 618) n 0)) ::
  (nat_lit 620, t [ff]) ::
  (nat_lit 621, t []) ::
  (nat_lit 623, t [(s "self" 1025), (s "expr" 1026), (s "label" 1027), (s "null_jumps" 1028), (s "past" 1029), (s "value" 1030)]) ::
  (nat_lit 624, t []) ::
  (nat_lit 626, o (ty "code") (f [(s "jump_unless" 1022), (s "OperatorCoder.jump_unless" 1023), (s "/claim/cut.py" 1024), (i 365), (i 4), (i 0), (i 0), (i 3), (r 621), tt, (i 181), (r 622), n, (r 623), (r 624), (r 625), (i 1031), (i 365), (s "/claim/cut.py" 1032)])) ::
  (nat_lit 627, o (ty "function") (fn (st [39, 13]) "OperatorCoder.jump_unless" 3 [] (r 620) n n (s "pagebase.code_operators" 840) none (r 626) n 0)) ::
  (nat_lit 628, t []) ::
  (nat_lit 630, t [(s "self" 1037), (s "expr" 1038), (s "op" 1039), (s "label" 1040), (s "null_jumps" 1041), (s "left" 1042), (s "right" 1043), (s "affinities" 1044), (s "told" 1045)]) ::
  (nat_lit 631, t []) ::
  (nat_lit 633, o (ty "code") (f [(s "jump_compared" 1034), (s "OperatorCoder.jump_compared" 1035), (s "/claim/cut.py" 1036), (i 384), (i 5), (i 0), (i 0), (i 3), (r 628), tt, (i 181), (r 629), n, (r 630), (r 631), (r 632), (i 1046), (i 384), (s "/claim/cut.py" 1047)])) ::
  (nat_lit 634, o (ty "function") (fn (st [39, 14]) "OperatorCoder.jump_compared" 3 [] n n n (s "pagebase.code_operators" 840) none (r 633) n 0)) ::
  (nat_lit 635, t []) ::
  (nat_lit 637, t [(s "self" 1052), (s "expr" 1053), (s "negated" 1054), (s "label" 1055), (s "value" 1056)]) ::
  (nat_lit 638, t []) ::
  (nat_lit 640, o (ty "code") (f [(s "jump_null" 1049), (s "OperatorCoder.jump_null" 1050), (s "/claim/cut.py" 1051), (i 391), (i 4), (i 0), (i 0), (i 3), (r 635), tt, (i 181), (r 636), n, (r 637), (r 638), (r 639), (i 1057), (i 391), (s "/claim/cut.py" 1058)])) ::
  (nat_lit 641, o (ty "function") (fn (st [39, 15]) "OperatorCoder.jump_null" 3 [] n n n (s "pagebase.code_operators" 840) none (r 640) n 0)) ::
  (nat_lit 642, t [(s "bindings" 1060), (s "program" 1061)]) ::
  (nat_lit 643, o (ty "dict") (.dict ⟨[e P "__module__" 863 (s "pagebase.code_operators" 840), e P "__firstlineno__" 867 (it 220 866), e P "__init__" 875 (r 533), e P "expression" 886 (r 541), e P "other" 895 (r 548), e P "row_of" 905 (r 555), e P "column" 917 (r 562), e P "binary" 930 (r 569), e P "compared" 945 (r 576), e P "between" 957 (r 583), e P "negate" 966 (r 590), e P "is_null" 977 (r 597), e P "case" 992 (r 604), e P "in_list" 1009 (r 611), e P "jump_if" 1021 (r 619), e P "jump_unless" 1033 (r 627), e P "jump_compared" 1048 (r 634), e P "jump_null" 1059 (r 641), e P "__static_attributes__" 1062 (r 642), e P "__dict__" 1064 (r 645), e P "__weakref__" 1066 (r 646), e P "__doc__" 1067 n]⟩ 4)) ::
  (nat_lit 644, ⟨(ty "type"), none, (c "OperatorCoder" [(ty "object")] [(r 644), (ty "object")] 643 "OperatorCoder" true [] [(r 686)] false none false), ⟨[none, none, some (s "OperatorCoder" 856), some (s "OperatorCoder" 864), some (bi "object.__new__"), some tt]⟩⟩) ::
  (nat_lit 645, o (ty "getset_descriptor") (f [(s "__dict__" 1063), (r 644), (bi "function.__dict__"), (bi "function.__dict__#set")])) ::
  (nat_lit 646, o (ty "getset_descriptor") (f [(s "__weakref__" 1065), (r 644), (bi "ExceptionGroup.__weakref__"), n])) ::
  (nat_lit 649, t [(r 644)]) ::
  (nat_lit 656, t []) ::
  (nat_lit 658, t [(s "self" 1087), (s "program" 1088)]) ::
  (nat_lit 659, t []) ::
  (nat_lit 661, o (ty "code") (f [(s "__init__" 1084), (s "FunctionCoder.__init__" 1085), (s "/claim/cut.py" 1086), (i 397), (i 2), (i 0), (i 0), (i 3), (r 656), tt, (i 181), (r 657), n, (r 658), (r 659), (r 660), (i 1089), (i 397), (s "/claim/cut.py" 1090)])) ::
  (nat_lit 662, o (ty "function") (fn (st [41, 0]) "FunctionCoder.__init__" 3 [] n n n (s "pagebase.code_functions" 1070) none (r 661) n 0)) ::
  (nat_lit 663, t []) ::
  (nat_lit 665, t [(s "self" 1095), (s "expr" 1096), (s "target" 1097)]) ::
  (nat_lit 666, t []) ::
  (nat_lit 668, o (ty "code") (f [(s "other" 1092), (s "FunctionCoder.other" 1093), (s "/claim/cut.py" 1094), (i 401), (i 3), (i 0), (i 0), (i 3), (r 663), tt, (i 181), (r 664), n, (r 665), (r 666), (r 667), (i 1098), (i 401), (s "/claim/cut.py" 1099)])) ::
  (nat_lit 669, o (ty "function") (fn (st [41, 1]) "FunctionCoder.other" 3 [] n n n (s "pagebase.code_functions" 1070) none (r 668) n 0)) ::
  (nat_lit 670, t []) ::
  (nat_lit 672, t [(s "self" 1104), (s "expr" 1105), (s "target" 1106), (s "call" 1107), (s "register" 1108), (s "name" 1109), (s "condition" 1110), (s "then" 1111), (s "other" 1112), (s "first" 1113), (s "told" 1114)]) ::
  (nat_lit 673, t []) ::
  (nat_lit 675, o (ty "code") (f [(s "call" 1101), (s "FunctionCoder.call" 1102), (s "/claim/cut.py" 1103), (i 407), (i 3), (i 0), (i 0), (i 3), (r 670), tt, (i 181), (r 671), n, (r 672), (r 673), (r 674), (i 1115), (i 407), (s "/claim/cut.py" 1116)])) ::
  (nat_lit 676, o (ty "function") (fn (st [41, 2]) "FunctionCoder.call" 3 [] n n n (s "pagebase.code_functions" 1070) none (r 675) n 0)) ::
  (nat_lit 677, t []) ::
  (nat_lit 679, t [(s "self" 1121), (s "exprs" 1122), (s "target" 1123), (s "end" 1124), (s "expr" 1125)]) ::
  (nat_lit 680, t []) ::
  (nat_lit 682, o (ty "code") (f [(s "first_known" 1118), (s "FunctionCoder.first_known" 1119), (s "/claim/cut.py" 1120), (i 423), (i 3), (i 0), (i 0), (i 3), (r 677), tt, (i 181), (r 678), n, (r 679), (r 680), (r 681), (i 1126), (i 423), (s "/claim/cut.py" 1127)])) ::
  (nat_lit 683, o (ty "function") (fn (st [41, 3]) "FunctionCoder.first_known" 3 [] n n n (s "pagebase.code_functions" 1070) none (r 682) n 0)) ::
  (nat_lit 684, t [(s "aggregates" 1129)]) ::
  (nat_lit 685, o (ty "dict") (.dict ⟨[e P "__module__" 1079 (s "pagebase.code_functions" 1070), e P "__firstlineno__" 1083 (it 395 1082), e P "__init__" 1091 (r 662), e P "other" 1100 (r 669), e P "call" 1117 (r 676), e P "first_known" 1128 (r 683), e P "__static_attributes__" 1130 (r 684), e P "__doc__" 1131 n]⟩ 2)) ::
  (nat_lit 686, ⟨(ty "type"), none, (c "FunctionCoder" [(r 644)] [(r 686), (r 644), (ty "object")] 685 "FunctionCoder" true [] [] false none false), ⟨[some (r 649), none, some (s "FunctionCoder" 1072), some (s "FunctionCoder" 1080), some (bi "object.__new__"), some tt]⟩⟩) ::
  (nat_lit 689, o (ty "dict") (.dict ⟨[e P "Goto" 1136 (it 1 1137), e P "Gosub" 1139 (it 1 1140), e P "Once" 1142 (it 1 1143), e P "If" 1145 (it 1 1146), e P "IfNot" 1148 (it 1 1149), e P "IsNull" 1151 (it 1 1152), e P "NotNull" 1154 (it 1 1155), e P "IfPos" 1157 (it 1 1158), e P "MustBeInt" 1160 (it 1 1161), e P "CompareJump" 1163 (it 1 1164), e P "Rewind" 1166 (it 1 1167), e P "Last" 1169 (it 1 1170), e P "Next" 1172 (it 1 1173), e P "Prev" 1175 (it 1 1176), e P "SeekRowid" 1178 (it 1 1179), e P "SeekGE" 1181 (it 1 1182), e P "SeekGT" 1184 (it 1 1185), e P "SeekLE" 1187 (it 1 1188), e P "SeekLT" 1189 (it 1 1190), e P "IdxGT" 1191 (it 1 1192), e P "IdxGE" 1193 (it 1 1194), e P "IdxLT" 1195 (it 1 1196), e P "IdxLE" 1197 (it 1 1198), e P "Found" 1199 (it 1 1200), e P "NotFound" 1201 (it 1 1202), e P "NoConflict" 1203 (it 1 1204), e P "NotExists" 1205 (it 1 1206), e P "SorterSort" 1207 (it 1 1208), e P "SorterNext" 1209 (it 1 1210), e P "IntegrityRows" 1211 (it 1 1212)]⟩ 30)) ::
  (nat_lit 698, t []) ::
  (nat_lit 700, t [(s "self" 1242)]) ::
  (nat_lit 701, t []) ::
  (nat_lit 703, o (ty "code") (f [(s "__init__" 1239), (s "Program.__init__" 1240), (s "/claim/cut.py" 1241), (i 433), (i 1), (i 0), (i 0), (i 3), (r 698), tt, (i 181), (r 699), n, (r 700), (r 701), (r 702), (i 1243), (i 433), (s "/claim/cut.py" 1244)])) ::
  (nat_lit 704, o (ty "function") (fn (st [44, 0]) "Program.__init__" 3 [] n n n (s "pagebase.program" 1134) none (r 703) n 0)) ::
  (nat_lit 705, t [(it 0 1246), (it 0 1247), (it 0 1248), n]) ::
  (nat_lit 706, t []) ::
  (nat_lit 708, t [(s "self" 1252), (s "name" 1253), (s "p1" 1254), (s "p2" 1255), (s "p3" 1256), (s "p4" 1257)]) ::
  (nat_lit 709, t []) ::
  (nat_lit 711, o (ty "code") (f [(s "add" 1249), (s "Program.add" 1250), (s "/claim/cut.py" 1251), (i 443), (i 6), (i 0), (i 0), (i 3), (r 706), tt, (i 181), (r 707), n, (r 708), (r 709), (r 710), (i 1258), (i 443), (s "/claim/cut.py" 1259)])) ::
  (nat_lit 712, o (ty "function") (fn (st [44, 1]) "Program.add" 3 [] (r 705) n n (s "pagebase.program" 1134) none (r 711) n 0)) ::
  (nat_lit 713, t []) ::
  (nat_lit 715, t [(s "self" 1264)]) ::
  (nat_lit 716, t []) ::
  (nat_lit 718, o (ty "code") (f [(s "here" 1261), (s "Program.here" 1262), (s "/claim/cut.py" 1263), (i 447), (i 1), (i 0), (i 0), (i 3), (r 713), tt, (i 181), (r 714), n, (r 715), (r 716), (r 717), (i 1265), (i 447), (s "/claim/cut.py" 1266)])) ::
  (nat_lit 719, o (ty "function") (fn (st [44, 2]) "Program.here" 3 [] n n n (s "pagebase.program" 1134) none (r 718) n 0)) ::
  (nat_lit 720, t []) ::
  (nat_lit 722, t [(s "self" 1271), (s "label" 1272)]) ::
  (nat_lit 723, t []) ::
  (nat_lit 725, o (ty "code") (f [(s "label" 1268), (s "Program.label" 1269), (s "/claim/cut.py" 1270), (i 450), (i 1), (i 0), (i 0), (i 3), (r 720), tt, (i 181), (r 721), n, (r 722), (r 723), (r 724), (i 1273), (i 450), (s "/claim/cut.py" 1274)])) ::
  (nat_lit 726, o (ty "function") (fn (st [44, 3]) "Program.label" 3 [] n n n (s "pagebase.program" 1134) none (r 725) n 0)) ::
  (nat_lit 727, t []) ::
  (nat_lit 729, t [(s "self" 1279), (s "label" 1280)]) ::
  (nat_lit 730, t []) ::
  (nat_lit 732, o (ty "code") (f [(s "place" 1276), (s "Program.place" 1277), (s "/claim/cut.py" 1278), (i 455), (i 2), (i 0), (i 0), (i 3), (r 727), tt, (i 181), (r 728), n, (r 729), (r 730), (r 731), (i 1281), (i 455), (s "/claim/cut.py" 1282)])) ::
  (nat_lit 733, o (ty "function") (fn (st [44, 4]) "Program.place" 3 [] n n n (s "pagebase.program" 1134) none (r 732) n 0)) ::
  (nat_lit 734, t [(it 1 1284)]) ::
  (nat_lit 735, t []) ::
  (nat_lit 737, t [(s "self" 1288), (s "many" 1289), (s "first" 1290)]) ::
  (nat_lit 738, t []) ::
  (nat_lit 740, o (ty "code") (f [(s "register" 1285), (s "Program.register" 1286), (s "/claim/cut.py" 1287), (i 462), (i 2), (i 0), (i 0), (i 3), (r 735), tt, (i 181), (r 736), n, (r 737), (r 738), (r 739), (i 1291), (i 462), (s "/claim/cut.py" 1292)])) ::
  (nat_lit 741, o (ty "function") (fn (st [44, 5]) "Program.register" 3 [] (r 734) n n (s "pagebase.program" 1134) none (r 740) n 0)) ::
  (nat_lit 742, t []) ::
  (nat_lit 744, t [(s "self" 1297)]) ::
  (nat_lit 745, t []) ::
  (nat_lit 747, o (ty "code") (f [(s "cursor" 1294), (s "Program.cursor" 1295), (s "/claim/cut.py" 1296), (i 467), (i 1), (i 0), (i 0), (i 3), (r 742), tt, (i 181), (r 743), n, (r 744), (r 745), (r 746), (i 1298), (i 467), (s "/claim/cut.py" 1299)])) ::
  (nat_lit 748, o (ty "function") (fn (st [44, 6]) "Program.cursor" 3 [] n n n (s "pagebase.program" 1134) none (r 747) n 0)) ::
  (nat_lit 749, t []) ::
  (nat_lit 751, t [(s "self" 1304)]) ::
  (nat_lit 752, t []) ::
  (nat_lit 754, o (ty "code") (f [(s "slot" 1301), (s "Program.slot" 1302), (s "/claim/cut.py" 1303), (i 470), (i 1), (i 0), (i 0), (i 3), (r 749), tt, (i 181), (r 750), n, (r 751), (r 752), (r 753), (i 1305), (i 470), (s "/claim/cut.py" 1306)])) ::
  (nat_lit 755, o (ty "function") (fn (st [44, 7]) "Program.slot" 3 [] n n n (s "pagebase.program" 1134) none (r 754) n 0)) ::
  (nat_lit 756, t []) ::
  (nat_lit 758, t [(s "self" 1311), (s "value" 1312), (s "target" 1313)]) ::
  (nat_lit 759, t []) ::
  (nat_lit 761, o (ty "code") (f [(s "value" 1308), (s "Program.value" 1309), (s "/claim/cut.py" 1310), (i 473), (i 2), (i 0), (i 0), (i 3), (r 756), tt, (i 181), (r 757), n, (r 758), (r 759), (r 760), (i 1314), (i 473), (s "/claim/cut.py" 1315)])) ::
  (nat_lit 762, o (ty "function") (fn (st [44, 8]) "Program.value" 3 [] n n n (s "pagebase.program" 1134) none (r 761) n 0)) ::
  (nat_lit 763, t [(it 1 1317)]) ::
  (nat_lit 764, t []) ::
  (nat_lit 766, t [(s "self" 1321), (s "many" 1322), (s "target" 1323)]) ::
  (nat_lit 767, t []) ::
  (nat_lit 769, o (ty "code") (f [(s "null" 1318), (s "Program.null" 1319), (s "/claim/cut.py" 1320), (i 478), (i 2), (i 0), (i 0), (i 3), (r 764), tt, (i 181), (r 765), n, (r 766), (r 767), (r 768), (i 1324), (i 478), (s "/claim/cut.py" 1325)])) ::
  (nat_lit 770, o (ty "function") (fn (st [44, 9]) "Program.null" 3 [] (r 763) n n (s "pagebase.program" 1134) none (r 769) n 0)) ::
  (nat_lit 771, t []) ::
  (nat_lit 773, t [(s "self" 1330), (s "label" 1331), (s "op" 1332)]) ::
  (nat_lit 774, t []) ::
  (nat_lit 776, o (ty "code") (f [(s "finish" 1327), (s "Program.finish" 1328), (s "/claim/cut.py" 1329), (i 483), (i 1), (i 0), (i 0), (i 3), (r 771), tt, (i 181), (r 772), n, (r 773), (r 774), (r 775), (i 1333), (i 483), (s "/claim/cut.py" 1334)])) ::
  (nat_lit 777, o (ty "function") (fn (st [44, 10]) "Program.finish" 3 [] n n n (s "pagebase.program" 1134) none (r 776) n 0)) ::
  (nat_lit 778, t [(s "columns" 1336), (s "cursors" 1337), (s "labels" 1338), (s "next_label" 1339), (s "ops" 1340), (s "registers" 1341), (s "slots" 1342), (s "writes" 1343)]) ::
  (nat_lit 779, o (ty "dict") (.dict ⟨[e P "__module__" 1234 (s "pagebase.program" 1134), e P "__firstlineno__" 1238 (it 431 1237), e P "__init__" 1245 (r 704), e P "add" 1260 (r 712), e P "here" 1267 (r 719), e P "label" 1275 (r 726), e P "place" 1283 (r 733), e P "register" 1293 (r 741), e P "cursor" 1300 (r 748), e P "slot" 1307 (r 755), e P "value" 1316 (r 762), e P "null" 1326 (r 770), e P "finish" 1335 (r 777), e P "__static_attributes__" 1344 (r 778), e P "__dict__" 1346 (r 781), e P "__weakref__" 1348 (r 782), e P "__doc__" 1349 n]⟩ 4)) ::
  (nat_lit 780, ⟨(ty "type"), none, (c "Program" [(ty "object")] [(r 780), (ty "object")] 779 "Program" true [] [] false none false), ⟨[none, none, some (s "Program" 1227), some (s "Program" 1235), some (bi "object.__new__"), some tt]⟩⟩) ::
  (nat_lit 781, o (ty "getset_descriptor") (f [(s "__dict__" 1345), (r 780), (bi "function.__dict__"), (bi "function.__dict__#set")])) ::
  (nat_lit 782, o (ty "getset_descriptor") (f [(s "__weakref__" 1347), (r 780), (bi "ExceptionGroup.__weakref__"), n])) ::
  (nat_lit 785, t []) ::
  (nat_lit 787, t [(s "script" 1357), (s "k" 1358), (s "cell" 1359), (s "big" 1360), (s "mixed" 1361)]) ::
  (nat_lit 788, t []) ::
  (nat_lit 790, o (ty "code") (f [(s "_law_pool" 1354), (s "_law_pool" 1355), (s "/claim/cut.py" 1356), (i 497), (i 2), (i 0), (i 0), (i 3), (r 785), tt, (i 181), (r 786), n, (r 787), (r 788), (r 789), (i 1362), (i 497), (s "/claim/cut.py" 1363)])) ::
  (nat_lit 791, o (ty "function") (fn (st [46]) "_law_pool" 3 [] n n n (s "law_nt0122_01" 1352) none (r 790) n 0)) ::
  (nat_lit 792, t []) ::
  (nat_lit 794, t [(s "source" 1368), (s "top" 1369), (s "drawn" 1370)]) ::
  (nat_lit 795, t []) ::
  (nat_lit 797, o (ty "code") (f [(s "_law_take" 1365), (s "_law_take" 1366), (s "/claim/cut.py" 1367), (i 504), (i 2), (i 0), (i 0), (i 3), (r 792), tt, (i 181), (r 793), n, (r 794), (r 795), (r 796), (i 1371), (i 504), (s "/claim/cut.py" 1372)])) ::
  (nat_lit 798, o (ty "function") (fn (st [47]) "_law_take" 3 [] n n n (s "law_nt0122_01" 1352) none (r 797) n 0)) ::
  (nat_lit 799, t []) ::
  (nat_lit 801, t [(s "source" 1377), (s "things" 1378)]) ::
  (nat_lit 802, t []) ::
  (nat_lit 804, o (ty "code") (f [(s "_law_one" 1374), (s "_law_one" 1375), (s "/claim/cut.py" 1376), (i 511), (i 2), (i 0), (i 0), (i 3), (r 799), tt, (i 181), (r 800), n, (r 801), (r 802), (r 803), (i 1379), (i 511), (s "/claim/cut.py" 1380)])) ::
  (nat_lit 805, o (ty "function") (fn (st [48]) "_law_one" 3 [] n n n (s "law_nt0122_01" 1352) none (r 804) n 0)) ::
  (nat_lit 806, t []) ::
  (nat_lit 809, o (ty "code") (f [(s "_law_tree" 1382), (s "_law_tree" 1383), (s "/claim/cut.py" 1384), (i 513), (i 2), (i 0), (i 0), (i 3), (r 806), tt, (i 181), (r 807), n, n, n, (r 808), (i 1385), (i 513), (s "/claim/cut.py" 1386)])) ::
  (nat_lit 810, o (ty "function") (fn (st [49]) "_law_tree" 3 [] n n n (s "law_nt0122_01" 1352) none (r 809) n 0)) ::
  (nat_lit 811, t []) ::
  (nat_lit 814, o (ty "code") (f [(s "_law_node" 1388), (s "_law_node" 1389), (s "/claim/cut.py" 1390), (i 523), (i 2), (i 0), (i 0), (i 3), (r 811), tt, (i 181), (r 812), n, n, n, (r 813), (i 1391), (i 523), (s "/claim/cut.py" 1392)])) ::
  (nat_lit 815, o (ty "function") (fn (st [50]) "_law_node" 3 [] n n n (s "law_nt0122_01" 1352) none (r 814) n 0)) ::
  (nat_lit 816, t []) ::
  (nat_lit 818, t [(s "values" 1397), (s "total" 1398), (s "value" 1399)]) ::
  (nat_lit 819, t []) ::
  (nat_lit 821, o (ty "code") (f [(s "_law_worth" 1394), (s "_law_worth" 1395), (s "/claim/cut.py" 1396), (i 536), (i 1), (i 0), (i 0), (i 3), (r 816), tt, (i 181), (r 817), n, (r 818), (r 819), (r 820), (i 1400), (i 536), (s "/claim/cut.py" 1401)])) ::
  (nat_lit 822, o (ty "function") (fn (st [51]) "_law_worth" 3 [] n n n (s "law_nt0122_01" 1352) none (r 821) n 0)) ::
  (nat_lit 823, t []) ::
  (nat_lit 826, o (ty "code") (f [(s "_law_collation" 1403), (s "_law_collation" 1404), (s "/claim/cut.py" 1405), (i 541), (i 1), (i 0), (i 0), (i 3), (r 823), tt, (i 181), (r 824), n, n, n, (r 825), (i 1406), (i 541), (s "/claim/cut.py" 1407)])) ::
  (nat_lit 827, o (ty "function") (fn (st [52]) "_law_collation" 3 [] n n n (s "law_nt0122_01" 1352) none (r 826) n 0)) ::
  (nat_lit 828, t []) ::
  (nat_lit 831, o (ty "code") (f [(s "_law_found" 1409), (s "_law_found" 1410), (s "/claim/cut.py" 1411), (i 544), (i 3), (i 0), (i 0), (i 3), (r 828), tt, (i 181), (r 829), n, n, n, (r 830), (i 1412), (i 544), (s "/claim/cut.py" 1413)])) ::
  (nat_lit 832, o (ty "function") (fn (st [53]) "_law_found" 3 [] n n n (s "law_nt0122_01" 1352) none (r 831) n 0)) ::
  (nat_lit 833, t []) ::
  (nat_lit 836, o (ty "code") (f [(s "_law_run" 1415), (s "_law_run" 1416), (s "/claim/cut.py" 1417), (i 564), (i 3), (i 0), (i 0), (i 3), (r 833), tt, (i 181), (r 834), n, n, n, (r 835), (i 1418), (i 564), (s "/claim/cut.py" 1419)])) ::
  (nat_lit 837, o (ty "function") (fn (st [54]) "_law_run" 3 [] n n n (s "law_nt0122_01" 1352) none (r 836) n 0)) ::
  (nat_lit 838, t []) ::
  (nat_lit 841, o (ty "code") (f [(s "law" 1421), (s "law" 1422), (s "/claim/cut.py" 1423), (i 589), (i 1), (i 0), (i 0), (i 3), (r 838), tt, (i 181), (r 839), n, n, n, (r 840), (i 1424), (i 589), (s "/claim/cut.py" 1425)])) ::
  (nat_lit 842, o (ty "function") (fn (st [55]) "law" 3 [] n n n (s "law_nt0122_01" 1352) none (r 841) n 0)) :: []
noncomputable def addrs : List Addr := [2, 3, 15, 17, 18, 20, 21, 22, 29, 31, 32, 34, 35, 36, 37, 38, 39, 42, 49, 50, 51, 54, 56, 57, 59, 60, 61, 64, 65, 73, 75, 76, 78, 79, 80, 81, 82, 83, 84, 87, 94, 95, 96, 99, 106, 108, 109, 111, 112, 113, 115, 116, 118, 119, 120, 121, 122, 125, 132, 134, 135, 137, 138, 139, 141, 142, 144, 145, 146, 147, 148, 151, 158, 160, 161, 163, 164, 165, 167, 168, 170, 171, 172, 173, 174, 177, 184, 186, 187, 189, 190, 191, 193, 194, 196, 197, 198, 199, 200, 203, 210, 212, 213, 215, 216, 217, 219, 220, 222, 223, 224, 225, 226, 229, 236, 238, 239, 241, 242, 243, 245, 246, 248, 249, 250, 251, 252, 255, 262, 264, 265, 267, 268, 269, 271, 272, 274, 275, 276, 277, 278, 281, 288, 290, 291, 293, 294, 295, 297, 298, 300, 301, 302, 303, 304, 307, 314, 316, 317, 319, 320, 321, 324, 325, 326, 327, 328, 331, 338, 340, 341, 343, 344, 345, 347, 348, 350, 351, 352, 353, 354, 357, 364, 366, 367, 369, 370, 371, 373, 374, 376, 377, 378, 379, 380, 383, 390, 392, 393, 395, 396, 397, 399, 400, 402, 403, 404, 405, 406, 409, 416, 418, 419, 421, 422, 423, 425, 426, 428, 429, 430, 431, 432, 435, 436, 438, 439, 441, 442, 443, 445, 446, 448, 449, 450, 452, 453, 455, 456, 457, 460, 461, 462, 463, 465, 466, 468, 469, 470, 472, 473, 475, 476, 477, 479, 480, 482, 483, 484, 485, 487, 488, 490, 491, 492, 494, 495, 497, 498, 499, 501, 502, 504, 505, 506, 508, 509, 511, 512, 513, 515, 516, 518, 519, 527, 529, 530, 532, 533, 534, 535, 537, 538, 540, 541, 542, 544, 545, 547, 548, 549, 551, 552, 554, 555, 556, 558, 559, 561, 562, 563, 565, 566, 568, 569, 570, 572, 573, 575, 576, 577, 579, 580, 582, 583, 584, 586, 587, 589, 590, 591, 593, 594, 596, 597, 598, 600, 601, 603, 604, 605, 607, 608, 610, 611, 612, 613, 615, 616, 618, 619, 620, 621, 623, 624, 626, 627, 628, 630, 631, 633, 634, 635, 637, 638, 640, 641, 642, 643, 644, 645, 646, 649, 656, 658, 659, 661, 662, 663, 665, 666, 668, 669, 670, 672, 673, 675, 676, 677, 679, 680, 682, 683, 684, 685, 686, 689, 698, 700, 701, 703, 704, 705, 706, 708, 709, 711, 712, 713, 715, 716, 718, 719, 720, 722, 723, 725, 726, 727, 729, 730, 732, 733, 734, 735, 737, 738, 740, 741, 742, 744, 745, 747, 748, 749, 751, 752, 754, 755, 756, 758, 759, 761, 762, 763, 764, 766, 767, 769, 770, 771, 773, 774, 776, 777, 778, 779, 780, 781, 782, 785, 787, 788, 790, 791, 792, 794, 795, 797, 798, 799, 801, 802, 804, 805, 806, 809, 810, 811, 814, 815, 816, 818, 819, 821, 822, 823, 826, 827, 828, 831, 832, 833, 836, 837, 838, 841, 842]
noncomputable def view_39 : Program := view PR [0, 2, 3, 5, 6, 7, 8, 9, 10, 11, 12, 13, 14, 15, 16, 17, 18, 19, 20, 21, 23, 24, 25, 26, 27, 29, 31, 32, 34, 35, 37, 38, 39, 41, 43, 44, 46, 47, 48, 49, 50, 51, 52, 53, 54, 55]
noncomputable def loose : List Str := [Str.ofString "affinity_of", Str.ofString "collation_of", Str.ofString "JUMPS"]
theorem pre (w : World) : (fun os => topGo treeTable PR w 11 (some (.ref 6)) 12 ⟨boot_heap w.params, ⟨[]⟩, boot_drawn, boot_toks, os⟩ (topStub PR)) = fun os => some (⟨h0 w.params, ⟨[]⟩, {}, 187, os⟩, ⟨denote treeTable CE, CE, ⟨0, 0, 0, 0⟩, BF⟩) := by
  rw [Fast.te15667345088766844465, Fast.te14364793385576792824, Fast.te11892475500146522536]; kernel_rfl
theorem block (w : World) : (fun os => segRun treeTable PR w 11 (some (.ref 6)) 1 1 ⟨h0 w.params, ⟨[]⟩, {}, 187, os⟩ (blockOf BE EV CE ⟨0, 0, 0, 0⟩ BF)) = fun os => some (.next, (s0 w os).abs, CE, ⟨0, 0, 0, 0⟩) := by
  rw [Fast.te14374325043358763698, Fast.te14364793385576792824]; kernel_rfl
noncomputable def b0 : List Stmt := (BE.drop 0).take 9
theorem p0 (w : World) : (fun os => segRunT treeTable PR w 11 (some (.ref 6)) 1 977 (s0 w os) (piecesOf b0 EV CE ⟨0, 0, 0, 0⟩ BF)) = fun os => some (.next, s1 w os, CE, ⟨20, 0, 21, 8⟩) := by
  rw [Fast.te10110043849684766642, Fast.te14364793385576792824]; kernel_rfl
noncomputable def b1 : List Stmt := (BE.drop 9).take 4
theorem p1 (w : World) : (fun os => segRunT treeTable PR w 11 (some (.ref 6)) 1 1168 (s1 w os) (piecesOf b1 EV CE ⟨20, 0, 21, 8⟩ BF)) = fun os => some (.next, s2 w os, CE, ⟨51, 0, 58, 53⟩) := by
  rw [Fast.te10110043849684766642, Fast.te14364793385576792824]; kernel_rfl
noncomputable def b2 : List Stmt := (BE.drop 13).take 4
theorem p2 (w : World) : (fun os => segRunT treeTable PR w 11 (some (.ref 6)) 1 1175 (s2 w os) (piecesOf b2 EV CE ⟨51, 0, 58, 53⟩ BF)) = fun os => some (.next, s3 w os, CE, ⟨87, 0, 93, 44⟩) := by
  rw [Fast.te10110043849684766642, Fast.te14364793385576792824]; kernel_rfl
noncomputable def b3 : List Stmt := (BE.drop 17).take 4
theorem p3 (w : World) : (fun os => segRunT treeTable PR w 11 (some (.ref 6)) 1 1172 (s3 w os) (piecesOf b3 EV CE ⟨87, 0, 93, 44⟩ BF)) = fun os => some (.next, s4 w os, CE, ⟨122, 0, 129, 60⟩) := by
  rw [Fast.te10110043849684766642, Fast.te14364793385576792824]; kernel_rfl
noncomputable def b4 : List Stmt := (BE.drop 21).take 18
theorem p4 (w : World) : (fun os => segRunT treeTable PR w 11 (some (.ref 6)) 1 699 (s4 w os) (piecesOf b4 EV CE ⟨122, 0, 129, 60⟩ BF)) = fun os => some (.next, s5 w os, CE, ⟨218, 0, 219, 113⟩) := by
  rw [Fast.te10110043849684766642, Fast.te14364793385576792824]; kernel_rfl
noncomputable def b5 : List Stmt := (BE.drop 39).take 4
theorem p5 (w : World) : (fun os => segRunT treeTable PR w 11 (some (.ref 6)) 1 1143 (s5 w os) (piecesOf b5 EV CE ⟨218, 0, 219, 113⟩ BF)) = fun os => some (.next, s6 w os, CE, ⟨429, 0, 429, 8⟩) := by
  rw [Fast.te10110043849684766642, Fast.te14364793385576792824]; kernel_rfl
noncomputable def b6 : List Stmt := (BE.drop 43).take 1
theorem p6 (w : World) : (fun os => segRunT treeTable PR w 11 (some (.ref 6)) 1 546 (s6 w os) (piecesOf b6 EV CE ⟨429, 0, 429, 8⟩ BF)) = fun os => some (.next, s7 w os, CE, ⟨430, 0, 430, 5⟩) := by
  refine byRow2 "special-get-raises" (P := fun w => (fun os => segRunT treeTable PR w 11 (some (.ref 6)) 1 546 (s6 w os) (piecesOf b6 EV CE ⟨429, 0, 429, 8⟩ BF)) = fun os => some (.next, s7 w os, CE, ⟨430, 0, 430, 5⟩)) (fun w => ?_) (fun w => ?_) w <;> (rw [Fast.te10110043849684766642, Fast.te14364793385576792824]; kernel_rfl)
noncomputable def b7 : List Stmt := (BE.drop 44).take 12
theorem p7 (w : World) : (fun os => segRunT treeTable PR w 11 (some (.ref 6)) 1 852 (s7 w os) (piecesOf b7 EV CE ⟨430, 0, 430, 5⟩ BF)) = fun os => some (.next, s8 w os, CE, ⟨589, 0, 609, 65⟩) := by
  rw [Fast.te10110043849684766642, Fast.te14364793385576792824]; kernel_rfl
theorem fin (w : World) : (fun os => topRun treeTable PR w 11 (some (.ref 6)) 2 (s8 w os).abs ⟨doneF .next, CE, ⟨589, 0, 609, 65⟩, BF⟩) = fun os => some ⟨hF w.params, ⟨[]⟩, {}, 1427, os⟩ := by
  rw [Fast.te14082659384304107361, Fast.te14364793385576792824]; kernel_rfl
theorem cells : BE = b0 ++ (b1 ++ (b2 ++ (b3 ++ (b4 ++ (b5 ++ (b6 ++ (b7 ++ ([])))))))) := by kernel_rfl
theorem run (w : World) (os : OsState) : topRun treeTable PR w 11 (some (.ref 6)) (12 + (1 + (977 + (1168 + (1175 + (1172 + (699 + (1143 + (546 + (852 + (2))))))))))) ⟨boot_heap w.params, ⟨[]⟩, boot_drawn, boot_toks, os⟩ (topStub PR) = some ⟨hF w.params, ⟨[]⟩, {}, 1427, os⟩ :=
  go_top (congrFun (pre w) os) (piece_block (congrFun (block w) os) (by
    rw [show restOf BE EV CE ⟨0, 0, 0, 0⟩ BF = restOf (b0 ++ (b1 ++ (b2 ++ (b3 ++ (b4 ++ (b5 ++ (b6 ++ (b7 ++ ([]))))))))) EV CE ⟨0, 0, 0, 0⟩ BF from congrArg (fun x => restOf x EV CE ⟨0, 0, 0, 0⟩ BF) cells]
    exact piece_app (segRun_of (congrFun (p0 w) os)) (piece_app (segRun_of (congrFun (p1 w) os)) (piece_app (segRun_of (congrFun (p2 w) os)) (piece_app (segRun_of (congrFun (p3 w) os)) (piece_app (segRun_of (congrFun (p4 w) os)) (piece_app (segRun_of (congrFun (p5 w) os)) (piece_app (segRun_of (congrFun (p6 w) os)) (piece_app (segRun_of (congrFun (p7 w) os)) (piece_nil (congrFun (fin w) os)))))))))))
noncomputable abbrev V : Program := view_39
noncomputable abbrev sF (w : World) (os : OsState) : Shared := ⟨hF w.params, ⟨[]⟩, {}, 1427, os⟩
noncomputable abbrev Xt (s : Shared) : Bool := xlAt view_39 [] s && recOk (RowW.records PySem.Challenge.rw_nt0122_01.row.toRowW) s
noncomputable abbrev hook : Hook := kHook heap_39 addrs (fun _ => by kernel_rfl)
theorem size (w : World) : ((boot_heap w.params).isNs mainGlobals && (Array.mk ([] : List GenState)).size == 0, (boot_heap w.params).objs.size, (boot_heap w.params).nsMap mainGlobals "__annotations__") = (true, 11, some (.ref 6)) := by
  rw [Fast.te8920871248978507458]; kernel_rfl
theorem k1 (w : World) : (fun os => (staticsOk (importedModules PR.main.body) (boot_heap w.params) (hF w.params) && namesBound PR (hF w.params) && gensDone (sF w os) && laidKept (boot_heap w.params) (hF w.params))) = fun _ => true := by
  rw [Fast.te5923862056798008813]; kernel_rfl
theorem q1 (w : World) : (fun os => seen ((recsOf V).map (·.name)) (ownsOf V) [] { sF w os with gens := #[] }) = fun _ => expectedOf V := by
  rw [Fast.te5160383126252970620, R.mapR_eq, Fast.te3399658132070893891, Fast.te5991557255702980513]; kernel_rfl
theorem q2 (w : World) : (fun os => (sF w os).heap.bltView) = fun _ => bltViewBooted := by kernel_rfl
theorem q3 (w : World) : (fun os => (sF w os).heap.keysOk (looseW V loose) ((recsOf V).map (·.name)) ((litsOf V).map (·.1)) ((clssOf V (looseW V loose)).map (·.name)) && (sF w os).heap.accountedOkI (importedModules PR.main.body) && (sF w os).heap.isNs mainGlobals && (sF w os).heap.isNs builtinsNs && tablesOk V (sF w os).heap && Xt (sF w os) && (if true then (sF w os).gens.size == 0 else !leftWithCleanup (sF w os).gens)) = fun _ => true := by
  rw [Fast.te10880121769531294198, Fast.te821141287760084731, R.mapR_eq, Fast.te3399658132070893891, Fast.te7409074990110511671, Fast.te13664370479719496447, Fast.te14722251495701143533, Fast.te5923862056798008813, Fast.te10994771534591457954]; kernel_rfl
theorem q4 (w : World) : (fun os => tabsOk V (sF w os)) = fun _ => true := by
  rw [Fast.te479339242167458305]; kernel_rfl
theorem q5 (w : World) : (fun os => pinSeenD V (drecsOf V) (sF w os)) = fun _ => pinGoodD (drecsOf V) := by
  rw [Fast.te16090120013241838585, Fast.te3247288618530077131]; kernel_rfl
theorem q6 (w : World) : (fun os => plainSeenE V (looseW V loose) (sF w os)) = fun _ => plainGoodE V (looseW V loose) := by
  rw [Fast.te2386780881361962483, Fast.te821141287760084731]; kernel_rfl
theorem q7 (w : World) : (fun os => plainSeenD V loose (sF w os)) = fun _ => plainGoodD V loose := by
  rw [Fast.te11698064438423848299]; kernel_rfl
theorem q8 (w : World) : (fun os => wideSeen V (sF w os)) = fun _ => wideGood V := by
  rw [Fast.te7317090234206586261]; kernel_rfl
theorem q9 (w : World) : (fun os => clsSeenW V loose (sF w os)) = fun _ => clsGoodW V loose := by
  rw [Fast.te7369524293546568484]; kernel_rfl
theorem map_cut {α β γ : Type} {f : α → γ} {g : β → γ} {l : List α} {l' : List β} (n : Nat) (h : (l.take n).map f = (l'.take n).map g) (k : (l.drop n).map f = (l'.drop n).map g) : l.map f = l'.map g := by
  rw [← List.take_append_drop n l, List.map_append, h, k, ← List.map_append, List.take_append_drop]
theorem k30 (w : World) : (fun os => (addrs.take 100).map (sF w os).heap.get?) = fun _ => ((heap_39 w.params).take 100).map fun p => some p.2 := by kernel_rfl
theorem k31 (w : World) : (fun os => ((addrs.drop 100).take 100).map (sF w os).heap.get?) = fun _ => (((heap_39 w.params).drop 100).take 100).map fun p => some p.2 := by kernel_rfl
theorem k32 (w : World) : (fun os => (((addrs.drop 100).drop 100).take 100).map (sF w os).heap.get?) = fun _ => ((((heap_39 w.params).drop 100).drop 100).take 100).map fun p => some p.2 := by kernel_rfl
theorem k33 (w : World) : (fun os => ((((addrs.drop 100).drop 100).drop 100).take 40).map (sF w os).heap.get?) = fun _ => (((((heap_39 w.params).drop 100).drop 100).drop 100).take 40).map fun p => some p.2 := by kernel_rfl
theorem k34 (w : World) : (fun os => (((((addrs.drop 100).drop 100).drop 100).drop 40).take 40).map (sF w os).heap.get?) = fun _ => ((((((heap_39 w.params).drop 100).drop 100).drop 100).drop 40).take 40).map fun p => some p.2 := by kernel_rfl
theorem k35 (w : World) : (fun os => (((((addrs.drop 100).drop 100).drop 100).drop 40).drop 40).map (sF w os).heap.get?) = fun _ => ((((((heap_39 w.params).drop 100).drop 100).drop 100).drop 40).drop 40).map fun p => some p.2 := by kernel_rfl
theorem k3 (w : World) : (fun os => addrs.map (sF w os).heap.get?) = fun _ => (heap_39 w.params).map fun p => some p.2 :=
  funext fun os => map_cut 100 (congrFun (k30 w) os) (map_cut 100 (congrFun (k31 w) os) (map_cut 100 (congrFun (k32 w) os) (map_cut 40 (congrFun (k33 w) os) (map_cut 40 (congrFun (k34 w) os) (congrFun (k35 w) os)))))
theorem and_of {a b : Bool} (h : a = true) (k : b = true) : (a && b) = true := by rw [h, k]; rfl
noncomputable abbrev lrow := Fast.tw2368527892694137696 PySem.Challenge.rw_nt0122_01
theorem said1 : Fast.tw8377067652309620493 lrow.prog = true := by kernel_rfl
theorem said2 : Fast.tw8326940854005059898 { strict := !R.allR (Fast.tw5923862056798008813 lrow.prog.main.body) (@Fast.tw3471404346716756564 Str (@instBEqOfDecidableEq Str Fast.sDec) Fast.tw17691160309236699985), foot := none, bare := R.filterR (Fast.tw13343964577679436407 lrow.prog lrow.prog.main.body) [{ cps := { toList := [nat_lit 118, nat_lit 97, nat_lit 114, nat_lit 115] } }, { cps := { toList := [nat_lit 100, nat_lit 105, nat_lit 114] } }, { cps := { toList := [nat_lit 108, nat_lit 111, nat_lit 99, nat_lit 97, nat_lit 108, nat_lit 115] } }] } lrow.prog.main.body = true := by kernel_rfl
theorem said3 : (Fast.tw17119622794617984870 lrow.prog lrow.prog.main.body fun _ n => Fast.tw17868728402115742887 n) = true := by kernel_rfl
set_option maxRecDepth 100000 in
set_option maxHeartbeats 8000000 in
theorem said : PySem.Challenge.rw_nt0122_01.wellSaid = true := by
  rw [Fast.te9446332074065402090]
  unfold Fast.tw9446332074065402090 Fast.tw17960256430627541270 Fast.tw2436336058641802641 Fast.tw12908688711261696721
  repeat' (with_reducible refine and_of ?_ ?_)
  all_goals (first | (with_reducible exact said1) | (with_reducible exact said2) | (with_reducible exact said3) | kernel_rfl)
theorem left : LeftO PR view_39 loose Xt hook.obs hook.val 15574 :=
  LeftO.of_pieces (H₀ := boot_heap) (H₁ := hF) (gs₀ := ⟨[]⟩) (gs₁ := ⟨[]⟩) (d₀ := boot_drawn) (d₁ := {}) (k₀ := boot_toks) (k₁ := 1427) (m₀ := 11) (ann := some (.ref 6)) (M := 12 + (1 + (977 + (1168 + (1175 + (1172 + (699 + (1143 + (546 + (852 + (2)))))))))))
    (boot_open (by kernel_rfl) (by kernel_rfl) (fun _ => by kernel_rfl)) size run (by kernel_rfl)
    fun w => funext fun os => looks_pair (congrFun (k1 w) os) (looks_pair
      (looks_pair (congrFun (q1 w) os) (looks_pair (congrFun (q2 w) os) (looks_pair (congrFun (q3 w) os) (looks_pair (congrFun (q4 w) os) (looks_pair (congrFun (q5 w) os) (looks_pair (congrFun (q6 w) os) (looks_pair (congrFun (q7 w) os) (looks_pair (congrFun (q8 w) os) (congrFun (q9 w) os)))))))))
      (congrFun (k3 w) os))
end hd
set_option maxRecDepth 100000 in
set_option maxHeartbeats 8000000 in
theorem hd {d : DefRec} {kwd : List (Str × Expr)} (hdef : defOf hd.view_39 PySem.Challenge.rw_nt0122_01.row.name = some (d, kwd)) (hp : PySem.Challenge.rw_nt0122_01.row.prog.theDef PySem.Challenge.rw_nt0122_01.row.name = some (d.params, d.body, d.scope)) (hk : kwWritten? d.params.kwonlyargs d.params.kw_defaults = some kwd)
    (call : WalkO hd.view_39 hd.loose (XL hd.view_39 []) hd.hook.says PySem.Challenge.rw_nt0122_01.row.toRowW d kwd fun f vs => PySem.call f vs) : PySem.Challenge.rw_nt0122_01.Holds := by
  w_on
  refine holds_law hd.said fun said => ?_
  refine holds_open (q := hd.view_39) (loose := hd.loose) (Xt := hd.Xt) (XP := XL hd.view_39 []) (Yf := hd.hook.obs) (Ya := hd.hook.val) (YP := hd.hook.says) (N := 15574) hd.left hd.hook.of hd.hook.keeps
    (fun s e => xl_of s (Bool.and_eq_true_iff.mp e).1) XL.keeps hdef hp hk (fun s e => recFacts_of (Bool.and_eq_true_iff.mp e).2) (by rfl) said (by decide +kernel) ⟨rfl, rfl, rfl, rfl, rfl, by decide +kernel⟩ ?hw call
  w_witness2
end Mine
end
namespace Mine
theorem walk_plain : True := by
  w_top off
  exact True.intro
end Mine
local macro_rules | `(tactic| k_lt $h:ident) => `(tactic| replace $h := PySem.W.allLt_of $h)
local macro_rules | `(tactic| walk_at $s:str) => `(tactic| k_extra $s)
local macro_rules | `(tactic| walk_at "pyIter ref") => `(tactic| k_extra "pyIterM ref")
local macro_rules | `(tactic| kmk_size) => `(tactic| k_extra "kmk_size")
local macro_rules | `(tactic| size_fits) => `(tactic| k_extra "size_fits")
local macro_rules | `(tactic| k_ne) => `(tactic| k_extra "k_ne")
local macro_rules | `(tactic| k_room) => `(tactic| k_extra "k_room")
local macro_rules | `(tactic| k_in) => `(tactic| k_extra "k_in")
local macro_rules | `(tactic| k_inst) => `(tactic| k_extra "k_inst")
local macro_rules | `(tactic| tb_start) => `(tactic| k_extra "tb_start")
local macro_rules | `(tactic| ktr_rel) => `(tactic| k_extra "ktr_rel")
local macro_rules | `(tactic| kst_has) => `(tactic| k_extra "kst_has")
local macro_rules | `(tactic| k_mem) => `(tactic| k_extra "k_mem")
local macro_rules | `(tactic| k_all) => `(tactic| k_extra "k_all")
local macro_rules | `(tactic| z_head) => `(tactic| k_extra "z_head")
local macro_rules | `(tactic| lcg_sub) => `(tactic| k_extra "lcg_sub")
local macro_rules | `(tactic| x_run) => `(tactic| k_extra "x_run")
local macro_rules | `(tactic| x_auto) => `(tactic| k_extra "x_auto")
local macro_rules | `(tactic| x_head) => `(tactic| k_extra "x_head")
local macro_rules | `(tactic| z_run) => `(tactic| k_extra "z_run")
local macro_rules | `(tactic| kcf_m) => `(tactic| k_extra "kcf_m")
local macro_rules | `(tactic| kcf_all) => `(tactic| k_extra "kcf_all")
local macro_rules | `(tactic| mul_fits) => `(tactic| k_extra "mul_fits")
local macro_rules | `(tactic| k_handed) => `(tactic| k_extra "k_handed")
local macro_rules | `(tactic| l_fit) => `(tactic| k_extra "l_fit")
local macro_rules | `(tactic| k_upd) => `(tactic| k_extra "k_upd")
local macro_rules | `(tactic| tb_rel) => `(tactic| k_extra "tb_rel")
namespace Mine
theorem lines0 : True := by
  k_with "subscriptTail Name" => k_extra "subscriptTail"
  k_with "subscriptTail Name Constant ref int" => k_extra "subscriptTail"
  k_with "subscriptTail Name Name ref int" => k_extra "subscriptTail"
  k_with "k_room" => first | exact room0 (by with_reducible assumption) | exact room0 (by assumption) | exact room1 (by with_reducible assumption) (by first | exact r1 rfl | exact r2 rfl | exact r3 rfl | decide | lia) | exact room2 (by with_reducible assumption) (by first | exact r1 rfl | exact r2 rfl | exact r3 rfl | decide | lia) | ktr_room
  k_with "k_in" => first | (with_reducible assumption) | ((with_reducible refine' Frag.In.keeps ?z1kx (Fr.keep ?z1kf)); (case z1kf => with_reducible assumption); (case z1kx => with_reducible assumption))
  k_with "k_inst" => first | (refine' InstAt.of_news ?z2N ?z2h1 ?z2h2; (case z2N => k_asm); (case z2h1 => k_mem); (case z2h2 => k_mem)) | (refine' InstAt.of_K ?z2X ?z2h1 ?z2h2; (case z2X => k_in); (case z2h1 => k_is); (case z2h2 => k_is))
  k_with "exec If" => refine wpAny_If ?_
  k_with "eval Name" => (k_here; k_dflt ((with_reducible refine' nmL ?z3b ?z3F ?z3v ?_); (case z3b => kernel_rfl!); (case z3F => k_asm); (case z3v => exact rfl); k_whole))
  k_with "eval Name" => (k_here; k_dflt ((with_reducible refine' nmLc ?z4b ?z4F ?z4v ?_); (case z4b => kernel_rfl!); (case z4F => k_asm); (case z4v => exact rfl); k_whole))
  k_with "eval Name" => (k_here; k_dflt ((with_reducible refine' nmLo ?z5b ?z5F ?z5v ?_); (case z5b => kernel_rfl!); (case z5F => k_asm); (case z5v => exact rfl); k_whole))
  k_with "eval Name" => (k_here; (first | (with_reducible show wpAny _ _ (PySem.eval (PySem.Expr.Name (Str.ofString "isinstance") _) _) _ _ _) | (with_reducible show wpAny _ _ (PySem.eval (PySem.Expr.Name (Str.ofString "len") _) _) _ _ _) | (with_reducible show wpAny _ _ (PySem.eval (PySem.Expr.Name (Str.ofString "range") _) _) _ _ _) | (with_reducible show wpAny _ _ (PySem.eval (PySem.Expr.Name (Str.ofString "max") _) _) _ _ _) | (with_reducible show wpAny _ _ (PySem.eval (PySem.Expr.Name (Str.ofString "repr") _) _) _ _ _)); k_dflt (refine' nmB ?z6b ?z6F ?z6X ?z6T ?z6e ?z6v ?z6n ?_; (case z6b => kernel_rfl!); (case z6F => k_asm); (case z6X => k_asm); (case z6T => k_asm); (case z6e => k_is); (case z6v => boot_fast); (case z6n => decide); k_whole))
  k_with "storeName" => (k_here; k_dflt ((with_reducible refine' stX ?z7k ?z7F ?z7N ?_); (case z7k => kernel_rfl!); (case z7F => k_asm); (case z7N => k_asm); k_whole; intro mkₘ h'ₘ t'ₘ F'ₘ N'ₘ; (try k_sweep)))
  k_with "storeName" => (k_here; k_dflt ((with_reducible refine' stC ?z8k ?z8F ?z8N ?_); (case z8k => kernel_rfl!); (case z8F => k_asm); (case z8N => k_asm); k_whole; intro mkₘ h'ₘ t'ₘ F'ₘ N'ₘ; (try k_sweep)))
  k_with "storeName" => (k_here; k_dflt ((with_reducible refine' stO ?z9k ?z9F ?z9N ?_); (case z9k => kernel_rfl!); (case z9F => k_asm); (case z9N => k_asm); k_whole; intro mkₘ h'ₘ t'ₘ F'ₘ N'ₘ; (try k_sweep)))
  k_with "newTuple" => (k_here; k_dflt ((with_reducible refine' nwT ?z10F ?z10N ?z10z ?_); (case z10F => k_asm); (case z10N => k_asm); (case z10z => exact leSz rfl); k_whole; intro D'ₘ h'ₘ t'ₘ F'ₘ ekₘ lkₘ N'ₘ l1ₘ; (try k_sweep)))
  k_with "newList" => (k_here; k_dflt ((with_reducible refine' nwL ?z11F ?z11N ?z11z ?_); (case z11F => k_asm); (case z11N => k_asm); (case z11z => exact leSz rfl); k_whole; intro D'ₘ h'ₘ t'ₘ F'ₘ ekₘ lkₘ N'ₘ l1ₘ; (try k_sweep)))
  k_with "isTrue Compare" => (k_here; k_dflt ((with_reducible refine' cmp_X ?z12k ?z12F ?z12v1 ?z12v2 ?z12hm ?_); (case z12k => kernel_rfl!); (case z12F => k_asm); (case z12v1 => first | exact SA.name rfl | exact SA.int | exact SA.str | exact SA.none | exact SA.bool); (case z12v2 => first | exact SA.name rfl | exact SA.int | exact SA.str | exact SA.none | exact SA.bool); (case z12hm => with_unfolding_all rfl); k_whole))
  k_with "eval BinOp" => (k_here; k_dflt ((with_reducible refine' bin_X ?z13k ?z13F ?z13v1 ?z13v2 ?_); (case z13k => kernel_rfl!); (case z13F => k_asm); (case z13v1 => first | exact SA.name rfl | exact SA.int | exact SA.str | exact SA.none | exact SA.bool); (case z13v2 => first | exact SA.name rfl | exact SA.int | exact SA.str | exact SA.none | exact SA.bool); k_whole))
  k_with "eval Subscript" => (k_here; k_dflt ((with_reducible refine' sub_X ?z14k ?z14F ?z14v1 ?z14v2 ?_); (case z14k => kernel_rfl!); (case z14F => k_asm); (case z14v1 => first | exact SA.name rfl | exact SA.int | exact SA.str | exact SA.none | exact SA.bool); (case z14v2 => first | exact SA.name rfl | exact SA.int | exact SA.str | exact SA.none | exact SA.bool); k_whole))
  k_with "eval Attribute Name" => (k_here; k_dflt ((with_reducible refine' att_X ?z15k ?z15F ?z15v1 ?_); (case z15k => kernel_rfl!); (case z15F => k_asm); (case z15v1 => exact rfl); k_whole))
  k_with "isTrue Compare" => (k_here; k_dflt ((with_reducible refine' cmp_C ?z16k ?z16F ?z16v1 ?z16v2 ?z16hm ?_); (case z16k => kernel_rfl!); (case z16F => k_asm); (case z16v1 => first | exact SA.name rfl | exact SA.int | exact SA.str | exact SA.none | exact SA.bool); (case z16v2 => first | exact SA.name rfl | exact SA.int | exact SA.str | exact SA.none | exact SA.bool); (case z16hm => with_unfolding_all rfl); k_whole))
  k_with "eval BinOp" => (k_here; k_dflt ((with_reducible refine' bin_C ?z17k ?z17F ?z17v1 ?z17v2 ?_); (case z17k => kernel_rfl!); (case z17F => k_asm); (case z17v1 => first | exact SA.name rfl | exact SA.int | exact SA.str | exact SA.none | exact SA.bool); (case z17v2 => first | exact SA.name rfl | exact SA.int | exact SA.str | exact SA.none | exact SA.bool); k_whole))
  k_with "eval Subscript" => (k_here; k_dflt ((with_reducible refine' sub_C ?z18k ?z18F ?z18v1 ?z18v2 ?_); (case z18k => kernel_rfl!); (case z18F => k_asm); (case z18v1 => first | exact SA.name rfl | exact SA.int | exact SA.str | exact SA.none | exact SA.bool); (case z18v2 => first | exact SA.name rfl | exact SA.int | exact SA.str | exact SA.none | exact SA.bool); k_whole))
  k_with "eval Attribute Name" => (k_here; k_dflt ((with_reducible refine' att_C ?z19k ?z19F ?z19v1 ?_); (case z19k => kernel_rfl!); (case z19F => k_asm); (case z19v1 => exact rfl); k_whole))
  k_with "isTrue Compare" => (k_here; k_dflt ((with_reducible refine' cmp_O ?z20k ?z20F ?z20v1 ?z20v2 ?z20hm ?_); (case z20k => kernel_rfl!); (case z20F => k_asm); (case z20v1 => first | exact SA.name rfl | exact SA.int | exact SA.str | exact SA.none | exact SA.bool); (case z20v2 => first | exact SA.name rfl | exact SA.int | exact SA.str | exact SA.none | exact SA.bool); (case z20hm => with_unfolding_all rfl); k_whole))
  k_with "eval BinOp" => (k_here; k_dflt ((with_reducible refine' bin_O ?z21k ?z21F ?z21v1 ?z21v2 ?_); (case z21k => kernel_rfl!); (case z21F => k_asm); (case z21v1 => first | exact SA.name rfl | exact SA.int | exact SA.str | exact SA.none | exact SA.bool); (case z21v2 => first | exact SA.name rfl | exact SA.int | exact SA.str | exact SA.none | exact SA.bool); k_whole))
  k_with "eval Subscript" => (k_here; k_dflt ((with_reducible refine' sub_O ?z22k ?z22F ?z22v1 ?z22v2 ?_); (case z22k => kernel_rfl!); (case z22F => k_asm); (case z22v1 => first | exact SA.name rfl | exact SA.int | exact SA.str | exact SA.none | exact SA.bool); (case z22v2 => first | exact SA.name rfl | exact SA.int | exact SA.str | exact SA.none | exact SA.bool); k_whole))
  k_with "eval Attribute Name" => (k_here; k_dflt ((with_reducible refine' att_O ?z23k ?z23F ?z23v1 ?_); (case z23k => kernel_rfl!); (case z23F => k_asm); (case z23v1 => exact rfl); k_whole))
  k_with "isTrue Call" => (k_here; k_dflt ((with_reducible refine' isi_X ?z24k0 ?z24k1 ?z24k2 ?z24F ?z24X ?z24T ?z24e0 ?z24hb ?z24e2 ?z24v ?_); (case z24k0 => kernel_rfl!); (case z24k1 => kernel_rfl!); (case z24k2 => kernel_rfl!); (case z24F => k_asm); (case z24v => exact rfl); (case z24X => k_asm); (case z24T => k_asm); (case z24e0 => k_is); (case z24hb => boot_fast); (case z24e2 => k_is); k_whole))
  k_with "isTrue Call" => (k_here; k_dflt ((with_reducible refine' isi_C ?z25k0 ?z25k1 ?z25k2 ?z25F ?z25X ?z25T ?z25e0 ?z25hb ?z25e2 ?z25v ?_); (case z25k0 => kernel_rfl!); (case z25k1 => kernel_rfl!); (case z25k2 => kernel_rfl!); (case z25F => k_asm); (case z25v => exact rfl); (case z25X => k_asm); (case z25T => k_asm); (case z25e0 => k_is); (case z25hb => boot_fast); (case z25e2 => k_is); k_whole))
  k_with "isTrue Call" => (k_here; k_dflt ((with_reducible refine' isi_O ?z26k0 ?z26k1 ?z26k2 ?z26F ?z26X ?z26T ?z26e0 ?z26hb ?z26e2 ?z26v ?_); (case z26k0 => kernel_rfl!); (case z26k1 => kernel_rfl!); (case z26k2 => kernel_rfl!); (case z26F => k_asm); (case z26v => exact rfl); (case z26X => k_asm); (case z26T => k_asm); (case z26e0 => k_is); (case z26hb => boot_fast); (case z26e2 => k_is); k_whole))
  k_with "setAttr ref" => (k_here; k_dflt (refine' setD ?z27k1 ?z27k2 ?z27k3 ?z27k4 ?z27k5 ?z27k6 ?z27k7 ?z27k8 ?z27k9 ?z27kA ?z27kB ?z27kC ?z27kD ?_; (case z27k1 => k_asm); (case z27k2 => k_asm); (case z27k3 => k_asm); (case z27k4 => k_inst); (case z27k5 => exact rfl); (case z27k6 => k_is); (case z27k7 => k_is); (case z27k8 => k_is); (case z27k9 => k_is); (case z27kA => k_get); (case z27kB => k_put); (case z27kC => k_upd); (case z27kD => exact Nat.le_of_ble_eq_true rfl); k_whole; intro h'ₘ t'ₘ F'ₘ lkₘ N'ₘ; (try k_sweep)))
  k_with "rmD" => first | exact room (by with_reducible assumption) (by first | exact r1 rfl | exact r2 rfl | exact r3 rfl | decide | lia) | ktr_room | decide +kernel
  k_with "rmU" => first | exact roomU (by with_reducible assumption) (by first | exact r1 rfl | exact r2 rfl | exact r3 rfl | decide | lia) | ktr_units | decide +kernel
  k_with "kmk_size" => exact leSz rfl
  k_with "size_fits" => exact leSz rfl
  k_with "sas" => first | exact SAs.nil | (refine' SAs.cons ?z28a ?z28b; (case z28a => first | exact SA.name rfl | exact SA.int | exact SA.str | exact SA.none | exact SA.bool); (case z28b => k_extra "sas"))
  k_with "spliced" => (k_here; k_dflt ((with_reducible refine' args_X ?z29k ?z29F (SAs.cons ?z29v1 ?z29v2) ?_); (case z29k => kernel_rfl!); (case z29F => k_asm); (case z29v1 => first | exact SA.name rfl | exact SA.int | exact SA.str | exact SA.none | exact SA.bool); (case z29v2 => k_extra "sas"); k_whole); (try dsimp only [List.cons_append, List.nil_append]))
  k_with "spliced" => (k_here; k_dflt ((with_reducible refine' args_C ?z30k ?z30F (SAs.cons ?z30v1 ?z30v2) ?_); (case z30k => kernel_rfl!); (case z30F => k_asm); (case z30v1 => first | exact SA.name rfl | exact SA.int | exact SA.str | exact SA.none | exact SA.bool); (case z30v2 => k_extra "sas"); k_whole); (try dsimp only [List.cons_append, List.nil_append]))
  k_with "spliced" => (k_here; k_dflt ((with_reducible refine' args_O ?z31k ?z31F (SAs.cons ?z31v1 ?z31v2) ?_); (case z31k => kernel_rfl!); (case z31F => k_asm); (case z31v1 => first | exact SA.name rfl | exact SA.int | exact SA.str | exact SA.none | exact SA.bool); (case z31v2 => k_extra "sas"); k_whole); (try dsimp only [List.cons_append, List.nil_append]))
  k_with "call builtin:isinstance" => (k_here; (with_reducible show wpAny _ _ (call _ [Value.ref _, Value.ref _]) _ _ _); k_dflt (refine' kin_callC ?z32k1 ?z32k2 ?z32k3 ?z32k4 ?z32k5 ?z32k6 ?z32k7 ?z32k8 ?z32k9 ?_; (case z32k1 => k_in); (case z32k2 => k_inst); (case z32k3 => kin_no); (case z32k4 => k_is); (case z32k5 => k_is); (case z32k6 => k_is); (case z32k7 => k_is); (case z32k8 => k_is); (case z32k9 => k_is); k_whole))
  k_with "tb_start" => first | exact Pick.head | (refine' Pick.tail ?z33pk; (case z33pk => tb_start))
  k_with "ktr_rel" => first | (refine' InsF.cons ?z34ik; (case z34ik => ktr_rel)) | exact InsF.here | (refine' InsT.cons ?z34il; (case z34il => ktr_rel)) | exact InsT.here
  k_with "kst_has" => first | (with_reducible exact mem_hd) | (with_reducible assumption) | (with_reducible exact mem_1) | (with_reducible exact mem_2) | (with_reducible exact mem_3) | ((with_reducible refine mem_t4 ?_); kst_has) | ((fail_if_success (with_reducible refine mem_t4 ?_)); (with_reducible refine mem_tl ?_); kst_has) | ((with_reducible refine mem_apl ?_); kst_has) | ((with_reducible refine mem_apr ?_); kst_has)
  k_with "k_ne" => first | (with_reducible assumption) | (with_reducible exact neS (by assumption)) | (refine' neA ?z35h ?z35m; (case z35h => tbn_find); (case z35m => kst_has)) | (refine' neB ?z35h ?z35m; (case z35h => tbn_find); (case z35m => kst_has)) | (refine' neB' ?z35h ?z35m; (case z35h => tbn_find); (case z35m => kst_has)) | (refine' neC ?z35h ?z35m; (case z35h => tbn_find); (case z35m => kst_has)) | (refine' neC' ?z35h ?z35m; (case z35h => tbn_find); (case z35m => kst_has)) | (refine' neD ?z35h ?z35m; (case z35h => tbn_find); (case z35m => kst_has)) | (refine' neD' ?z35h ?z35m; (case z35h => tbn_find); (case z35m => kst_has)) | (refine' neF ?z35k ?z35h ?z35m; (case z35k => with_reducible assumption); (case z35h => tbn_find); (case z35m => kst_has)) | (refine' neE ?z35h ?z35m ?z35k; (case z35k => with_reducible assumption); (case z35h => tbn_find); (case z35m => kst_has)) | (refine' neE' ?z35h ?z35m ?z35k; (case z35k => with_reducible assumption); (case z35h => tbn_find); (case z35m => kst_has)) | exact neP (by with_reducible assumption) | exact neP' (by with_reducible assumption) | (with_reducible exact neU) | (with_reducible exact neU') | (with_reducible exact neV) | (with_reducible exact neV') | (refine neN ?_; (try dsimp only); lia)
  k_with "k_mem" => kst_has
  k_with "k_all" => first | (with_reducible assumption) | (with_reducible exact off_nil) | ((with_reducible refine' off_sub ?z36h ?z36s); (case z36h => tbn_find); (case z36s => z_head)) | ((with_reducible refine' off_lt2 ?z36a ?z36h ?z36s); (case z36a => with_reducible assumption); (case z36h => tbn_find); (case z36s => z_head)) | (with_reducible refine off_cons ?_ ?_; (focus k_ne); k_all) | (with_reducible refine tbn_neAll ?_; tbn_find) | (with_reducible exact Apart.off (by with_reducible assumption) (by k_mem)) | (with_reducible refine off_app ?_ ?_; (focus k_all); k_all) | ((with_reducible refine' off_le ?z36h ?z36s ?z36l); (case z36h => tbn_find); (case z36s => z_head); (case z36l => first | exact leU | exact leV | lia)) | fail
  k_with "z_head" => first | (with_reducible exact sub_nil) | (with_reducible exact sub_id) | (with_reducible exact sub_i1) | (with_reducible exact sub_i2) | (with_reducible exact sub_i3) | (with_reducible assumption) | ((with_reducible refine sub_cons ?_ ?_); (focus kst_has); z_head) | ((with_reducible refine sub_app ?_ ?_); (focus z_head); z_head) | ((fail_if_success (with_reducible refine sub_cons ?_ ?_)); (fail_if_success (with_reducible refine sub_app ?_ ?_)); first | ((with_reducible refine sub_t4 ?_); z_head) | ((fail_if_success (with_reducible refine sub_t4 ?_)); (with_reducible refine sub_tl ?_); z_head) | ((with_reducible refine sub_apl ?_); z_head) | ((with_reducible refine sub_apr ?_); z_head))
  k_with "lcg_sub" => z_head
  k_with "subscriptTail" => (k_here; (with_reducible show wpAny _ _ (subscriptTail _ _ (Value.ref _) (Value.int _ _)) _ _ _); k_dflt (refine' item_tupleT ?z37t ?z37a ?z37b ?z37c ?z37d ?_; (case z37t => (refine' News.isTup ?z37n ?z37m; (case z37n => k_asm); (case z37m => k_mem))); (case z37a => decide); (case z37b => decide); (case z37c => rfl); (case z37d => rfl); k_whole))
  k_with "call builtin:len" => (k_here; k_dflt (refine' len_open ?z38N ?z38m ?z38f ?_; (case z38N => k_asm); (case z38m => k_mem); (case z38f => first | lia | (simp only [List.length_append, List.length_cons, List.length_nil]; lia)); k_whole))
  k_with "subscriptTail" => (k_here; (with_reducible show wpAny _ _ (subscriptTail _ _ (Value.ref _) (Value.int _ _)) _ _ _); k_dflt (refine' kda_item (knd := PySem.intKind _ _) ?z39n ?z39m ?z39d (intKind_is _ _ _ _) ?z39v ?_ ?z39hs ?z39hg; (case z39n => k_asm); (case z39m => k_mem); (case z39d => with_reducible assumption); (case z39v => rfl); (case z39hs => with_unfolding_all rfl); (case z39hg => intro _; with_unfolding_all rfl); k_whole); (try dsimp only))
  k_with "ite" => first | (with_reducible refine ite_neg ?_ ?_; (focus (with_reducible exact not_of_false (by with_reducible assumption)))) | (with_reducible refine ite_pos ?_ ?_; (focus (with_reducible assumption))) | (with_reducible refine ite_neg ?_ ?_; (focus (with_reducible assumption))) | (k_closed; first | (with_reducible refine ite_pos ?_ ?_; (focus decide)) | (with_reducible refine ite_neg ?_ ?_; (focus decide)))
  k_with "call ref" => (k_here; dsimp only [List.append_nil, List.nil_append, List.cons_append])
  k_with "exec If" => (k_here; k_fold)
  k_with "execs cons" => (k_here; k_fold)
  exact True.intro
end Mine
section
open PySem PySem.W PyProof.Rows
namespace Mine

noncomputable def Does (w : World) (f : Addr) (n : Nat) (vs : List Value) (news : List (Addr × Obj)) (Post : Value → List (Addr × Obj) → Prop) : Prop :=
  ∀ (dp un : Nat) (gd : Option (List Code)) (cn : Str) (cs : Scope) (a : Addr) (ccd : Value) (cl : List (Str × Addr)) (outer : List Env) (A₀ : Around) (base h₀ : Heap) (L : Addr) (m : Str → Option Value)
    (p : Program) (loose : List Str) (mean : ExcName → Option Value) (mg mb : Str → Option Value) (s : Shared) (Q E : Value → Shared → Prop),
    Below A₀ base outer h₀ → Fr h₀ L s.heap m → (hd.heap_39 w.params).In h₀ → News h₀ L s.heap news → Top p loose mean mg mb h₀ → cs.kind = .function →
    dp + n < recursionLimit → un + 8 * n < cLine →
    (∀ r news' h' tk', Fr h₀ L h' m → News h₀ L h' news' → Post r news' → Q r { s with heap := h', toks := tk' }) →
    wpAny (model PySem.Challenge.rw_nt0122_01.row.prog w) (ktrTop dp un gd cn cs L a ccd cl outer) (call (.ref f) vs) Q E s

theorem Does.of {w : World} {f : Addr} {n : Nat} {vs : List Value} {news : List (Addr × Obj)} {Post : Value → List (Addr × Obj) → Prop} (h : ∀ (dp un : Nat) (gd : Option (List Code)) (cn : Str) (cs : Scope) (a : Addr) (ccd : Value) (cl : List (Str × Addr)) (outer : List Env) (A₀ : Around) (base h₀ : Heap) (L : Addr) (m : Str → Option Value)
    (p : Program) (loose : List Str) (mean : ExcName → Option Value) (mg mb : Str → Option Value) (hp gn dr tk oo) (Q E : Value → Shared → Prop),
    Below A₀ base outer h₀ → Fr h₀ L hp m → (hd.heap_39 w.params).In h₀ → News h₀ L hp news → Top p loose mean mg mb h₀ → cs.kind = .function → dp + n < recursionLimit → un + 8 * n < cLine →
    (∀ r news' h' tk', Fr h₀ L h' m → News h₀ L h' news' → Post r news' → Q r ⟨h', gn, dr, tk', oo⟩) →
    wpAny (model PySem.Challenge.rw_nt0122_01.row.prog w) (ktrTop dp un gd cn cs L a ccd cl outer) (call (.ref f) vs) Q E ⟨hp, gn, dr, tk, oo⟩) : Does w f n vs news Post :=
  fun dp un gd cn cs a ccd cl outer A₀ base h₀ L m p loose mean mg mb s Q E B F X N T hk hd hu ret => h dp un gd cn cs a ccd cl outer A₀ base h₀ L m p loose mean mg mb s.heap s.gens s.drawn s.toks s.os Q E B F X N T hk hd hu ret
inductive Pick (e : Addr × Obj) : List (Addr × Obj) → List (Addr × Obj) → Prop
  | head {r} : Pick e (e :: r) r
  | tail {p r r'} : Pick e r r' → Pick e (p :: r) (p :: r')
theorem Pick.sub {e : Addr × Obj} {l r : List (Addr × Obj)} (h : Pick e l r) : ∀ p ∈ e :: r, p ∈ l := by
  induction h with
  | head => exact fun p hp => hp
  | tail _ ih =>
    intro p hp
    rcases List.mem_cons.mp hp with rfl | hp
    · exact .tail _ (ih _ (.head _))
    · rcases List.mem_cons.mp hp with rfl | hp
      · exact .head _
      · exact .tail _ (ih _ (.tail _ hp))
theorem news_sub {h₀ h : Heap} {L : Addr} {l l' : List (Addr × Obj)} (N : News h₀ L h l) (hs : ∀ p ∈ l', p ∈ l) : News h₀ L h l' := fun p hp => N p (hs p hp)
theorem sub_pick {e : Addr × Obj} {l r t : List (Addr × Obj)} (h : Pick e l r) (ht : ∀ p ∈ t, p ∈ r) : ∀ p ∈ e :: t, p ∈ l := fun p hp => by
  rcases List.mem_cons.mp hp with rfl | hp
  · exact h.sub _ (.head _)
  · exact h.sub _ (.tail _ (ht p hp))
inductive InsT (nw : List (Addr × Obj)) : List (Addr × Obj) → List (Addr × Obj) → Prop
  | here {os} : InsT nw os (nw ++ os)
  | cons {p r r'} : InsT nw r r' → InsT nw (p :: r) (p :: r')
theorem InsT.sub {nw l r : List (Addr × Obj)} (h : InsT nw l r) : ∀ p ∈ r, p ∈ nw ++ l := by
  induction h with
  | here => exact fun p hp => hp
  | cons _ ih =>
    intro p hp
    rcases List.mem_cons.mp hp with rfl | hp
    · exact List.mem_append_right _ (.head _)
    · rcases List.mem_append.mp (ih p hp) with h | h
      · exact List.mem_append_left _ h
      · exact List.mem_append_right _ (.tail _ h)
inductive InsF : List (Addr × Obj) → (List (Addr × Obj) → List (Addr × Obj)) → Prop
  | here {os} : InsF os fun nw => nw ++ os
  | cons {p r f} : InsF r f → InsF (p :: r) fun nw => p :: f nw
theorem InsF.insT {l : List (Addr × Obj)} {f : List (Addr × Obj) → List (Addr × Obj)} (h : InsF l f) (nw : List (Addr × Obj)) : InsT nw l (f nw) := by
  induction h with
  | here => exact .here
  | cons _ ih => exact .cons ih
noncomputable def Apart (l nw : List (Addr × Obj)) : Prop := ∀ q ∈ l, ∀ p ∈ nw, p.1 ≠ q.1
theorem Apart.off {l nw : List (Addr × Obj)} {d : Addr} {o : Obj} (h : Apart l nw) (m : (d, o) ∈ l) : ∀ p ∈ nw, p.1 ≠ d := fun p hp => h _ m p hp
theorem off_app {l r : List (Addr × Obj)} {d : Addr} (h : ∀ p ∈ l, p.1 ≠ d) (k : ∀ p ∈ r, p.1 ≠ d) : ∀ p ∈ l ++ r, p.1 ≠ d := fun p hp => (List.mem_append.mp hp).elim (h p) (k p)
theorem off_nil {d : Addr} : ∀ p ∈ ([] : List (Addr × Obj)), p.1 ≠ d := fun _ h => nomatch h
theorem off_cons {a : Addr × Obj} {r : List (Addr × Obj)} {d : Addr} (h : a.1 ≠ d) (k : ∀ p ∈ r, p.1 ≠ d) : ∀ p ∈ a :: r, p.1 ≠ d := fun p hp => by
  rcases List.mem_cons.mp hp with rfl | hp
  · exact h
  · exact k p hp
theorem off_lt {l : List (Addr × Obj)} {d e : Addr} (h : AllLt d l) (k : @LE.le Nat _ d e) : ∀ p ∈ l, p.1 ≠ e := fun p hp => Nat.ne_of_lt (Nat.lt_of_lt_of_le (ktn_ltOf h p hp) k)
theorem neA {d : Nat} {l : List (Addr × Obj)} {p : Addr × Obj} (h : AllLt d l) (m : p ∈ l) : @Ne Nat p.1 d := Nat.ne_of_lt (ktn_ltOf h p m)
section Ne
variable {a d : Nat} {o : Obj} {l : List (Addr × Obj)} (h : AllLt d l) (m : (((a : Addr), o) : Addr × Obj) ∈ l)
include h m
theorem neB : @Ne Nat a d := Nat.ne_of_lt (ktn_ltOf h _ m)
theorem neB' : @Ne Nat d a := (neB h m).symm
theorem neC : @Ne Nat a (d + 1) := Nat.ne_of_lt (Nat.lt_succ_of_lt (ktn_ltOf h _ m))
theorem neC' : @Ne Nat (d + 1) a := (neC h m).symm
theorem neD : @Ne Nat a (d + 1 + 1) := Nat.ne_of_lt (Nat.lt_succ_of_lt (Nat.lt_succ_of_lt (ktn_ltOf h _ m)))
theorem neD' : @Ne Nat (d + 1 + 1) a := (neD h m).symm
theorem neE {x : Nat} (k : d < x) : @Ne Nat a x := Nat.ne_of_lt (Nat.lt_trans (ktn_ltOf h _ m) k)
theorem neE' {x : Nat} (k : d < x) : @Ne Nat x a := (neE h m k).symm
end Ne
theorem neF {d x : Nat} {l : List (Addr × Obj)} {p : Addr × Obj} (k : d < x) (h : AllLt d l) (m : p ∈ l) : @Ne Nat p.1 x := Nat.ne_of_lt (Nat.lt_trans (ktn_ltOf h _ m) k)
theorem neP {a b : Nat} (h : a < b) : @Ne Nat a b := Nat.ne_of_lt h
theorem neP' {a b : Nat} (h : a < b) : @Ne Nat b a := (Nat.ne_of_lt h).symm
theorem neS {a b : Nat} (h : @Ne Nat a b) : @Ne Nat b a := h.symm
theorem neU {a : Nat} : @Ne Nat a (a + 1) := Nat.ne_of_lt (Nat.lt_succ_self a)
theorem neU' {a : Nat} : @Ne Nat (a + 1) a := neU.symm
theorem neV {a : Nat} : @Ne Nat a (a + 1 + 1) := Nat.ne_of_lt (Nat.lt_succ_of_lt (Nat.lt_succ_self a))
theorem neV' {a : Nat} : @Ne Nat (a + 1 + 1) a := neV.symm
theorem off_sub {d : Addr} {l l' : List (Addr × Obj)} (h : AllLt d l) (s : ∀ p ∈ l', p ∈ l) : ∀ p ∈ l', p.1 ≠ d := fun p hp => Nat.ne_of_lt (ktn_ltOf h p (s p hp))
theorem off_lt2 {d e : Addr} {l l' : List (Addr × Obj)} (a : @LT.lt Nat _ d e) (h : AllLt d l) (s : ∀ p ∈ l', p ∈ l) : ∀ p ∈ l', p.1 ≠ e := fun p hp => Nat.ne_of_lt (Nat.lt_trans (ktn_ltOf h p (s p hp)) a)
theorem off_le {d e : Addr} {l l' : List (Addr × Obj)} (h : AllLt d l) (s : ∀ p ∈ l', p ∈ l) (a : @LE.le Nat _ d e) : ∀ p ∈ l', p.1 ≠ e := fun p hp => Nat.ne_of_lt (Nat.lt_of_lt_of_le (ktn_ltOf h p (s p hp)) a)
theorem leU {a : Nat} : a ≤ a + 1 := Nat.le_succ a
theorem leV {a : Nat} : a ≤ a + 1 + 1 := Nat.le_succ_of_le (Nat.le_succ a)
theorem Apart.nil {l : List (Addr × Obj)} : Apart l [] := fun _ _ _ h => nomatch h
theorem Apart.cons {l nw : List (Addr × Obj)} {a : Addr} {o : Obj} (h : ∀ q ∈ l, q.1 ≠ a) (k : Apart l nw) : Apart l ((a, o) :: nw) := fun q hq p hp => by
  rcases List.mem_cons.mp hp with rfl | hp
  · exact (h q hq).symm
  · exact k q hq p hp
theorem Apart.app {l nw nw' : List (Addr × Obj)} (h : Apart l nw) (k : Apart l nw') : Apart l (nw ++ nw') := fun q hq p hp => (List.mem_append.mp hp).elim (h q hq p) (k q hq p)
theorem Apart.sub {l l' nw : List (Addr × Obj)} (h : Apart l nw) (hs : ∀ q ∈ l', ∃ o, (q.1, o) ∈ l) : Apart l' nw := fun q hq p hp => by
  obtain ⟨o, ho⟩ := hs q hq
  exact h _ ho p hp

section
variable {w : World} {f : Addr} {n : Nat} {vs : List Value} {es : List (Addr × Obj)} {e1 e2 e3 e4 : Addr × Obj} {news r1 r2 r3 os : List (Addr × Obj)} {Post : Value → List (Addr × Obj) → Prop}
  {dp un : Nat} {gd : Option (List Code)} {cn : Str} {cs : Scope} {a : Addr} {ccd : Value} {cl : List (Str × Addr)} {outer : List Env} {A₀ : Around} {base h₀ : Heap} {L : Addr} {m : Str → Option Value}
  {p : Program} {loose : List Str} {mean : ExcName → Option Value} {mg mb : Str → Option Value} {s : Shared} {Q E : Value → Shared → Prop}
theorem use0 (D : Does w f n vs news Post) (B : Below A₀ base outer h₀) (F : Fr h₀ L s.heap m) (X : (hd.heap_39 w.params).In h₀) (N : News h₀ L s.heap news) (T : Top p loose mean mg mb h₀) (hk : cs.kind = .function)
    (hd : dp + n < recursionLimit) (hu : un + 8 * n < cLine)
    (ret : ∀ r news' h' tk', Fr h₀ L h' m → News h₀ L h' news' → Post r news' → Q r { s with heap := h', toks := tk' }) :
    wpAny (model PySem.Challenge.rw_nt0122_01.row.prog w) (ktrTop dp un gd cn cs L a ccd cl outer) (call (.ref f) vs) Q E s :=
  D _ _ _ _ _ _ _ _ _ _ _ _ _ _ _ _ _ _ _ _ _ _ B F X N T hk hd hu ret
theorem use1 (D : Does w f n vs (e1 :: os) Post) (B : Below A₀ base outer h₀) (F : Fr h₀ L s.heap m) (X : (hd.heap_39 w.params).In h₀) (N : News h₀ L s.heap news) (T : Top p loose mean mg mb h₀) (hk : cs.kind = .function)
    (P1 : Pick e1 news os) (hd : dp + n < recursionLimit) (hu : un + 8 * n < cLine)
    (ret : ∀ r news' h' tk', Fr h₀ L h' m → News h₀ L h' news' → Post r news' → Q r { s with heap := h', toks := tk' }) :
    wpAny (model PySem.Challenge.rw_nt0122_01.row.prog w) (ktrTop dp un gd cn cs L a ccd cl outer) (call (.ref f) vs) Q E s :=
  use0 D B F X (news_sub N P1.sub) T hk hd hu ret
theorem use2 (D : Does w f n vs (e1 :: e2 :: os) Post) (B : Below A₀ base outer h₀) (F : Fr h₀ L s.heap m) (X : (hd.heap_39 w.params).In h₀) (N : News h₀ L s.heap news) (T : Top p loose mean mg mb h₀) (hk : cs.kind = .function)
    (P1 : Pick e1 news r1) (P2 : Pick e2 r1 os) (hd : dp + n < recursionLimit) (hu : un + 8 * n < cLine)
    (ret : ∀ r news' h' tk', Fr h₀ L h' m → News h₀ L h' news' → Post r news' → Q r { s with heap := h', toks := tk' }) :
    wpAny (model PySem.Challenge.rw_nt0122_01.row.prog w) (ktrTop dp un gd cn cs L a ccd cl outer) (call (.ref f) vs) Q E s :=
  use0 D B F X (news_sub N (sub_pick P1 P2.sub)) T hk hd hu ret
theorem use3 (D : Does w f n vs (e1 :: e2 :: e3 :: os) Post) (B : Below A₀ base outer h₀) (F : Fr h₀ L s.heap m) (X : (hd.heap_39 w.params).In h₀) (N : News h₀ L s.heap news) (T : Top p loose mean mg mb h₀) (hk : cs.kind = .function)
    (P1 : Pick e1 news r1) (P2 : Pick e2 r1 r2) (P3 : Pick e3 r2 os) (hd : dp + n < recursionLimit) (hu : un + 8 * n < cLine)
    (ret : ∀ r news' h' tk', Fr h₀ L h' m → News h₀ L h' news' → Post r news' → Q r { s with heap := h', toks := tk' }) :
    wpAny (model PySem.Challenge.rw_nt0122_01.row.prog w) (ktrTop dp un gd cn cs L a ccd cl outer) (call (.ref f) vs) Q E s :=
  use0 D B F X (news_sub N (sub_pick P1 (sub_pick P2 P3.sub))) T hk hd hu ret
variable {hp : Heap} {gn dr oo} {tk : Nat}
theorem usx0 (B : Below A₀ base outer h₀) (F : Fr h₀ L hp m) (X : (hd.heap_39 w.params).In h₀) (N : News h₀ L hp news) (T : Top p loose mean mg mb h₀) (hk : cs.kind = .function)
     (D : Does w f n vs news Post) (hd : dp + n < recursionLimit) (hu : un + 8 * n < cLine)
    (ret : ∀ r news' h' tk', Fr h₀ L h' m → News h₀ L h' news' → Post r news' → Q r ⟨h', gn, dr, tk', oo⟩) :
    wpAny (model PySem.Challenge.rw_nt0122_01.row.prog w) (ktrTop dp un gd cn cs L a ccd cl outer) (call (.ref f) vs) Q E ⟨hp, gn, dr, tk, oo⟩ :=
  use0 D B F X N T hk hd hu ret
theorem usx1 (B : Below A₀ base outer h₀) (F : Fr h₀ L hp m) (X : (hd.heap_39 w.params).In h₀) (N : News h₀ L hp news) (T : Top p loose mean mg mb h₀) (hk : cs.kind = .function)
    (P1 : Pick e1 news os) (D : Does w f n vs (e1 :: os) Post) (hd : dp + n < recursionLimit) (hu : un + 8 * n < cLine)
    (ret : ∀ r news' h' tk', Fr h₀ L h' m → News h₀ L h' news' → Post r news' → Q r ⟨h', gn, dr, tk', oo⟩) :
    wpAny (model PySem.Challenge.rw_nt0122_01.row.prog w) (ktrTop dp un gd cn cs L a ccd cl outer) (call (.ref f) vs) Q E ⟨hp, gn, dr, tk, oo⟩ :=
  use1 D B F X N T hk P1 hd hu ret
theorem usx2 (B : Below A₀ base outer h₀) (F : Fr h₀ L hp m) (X : (hd.heap_39 w.params).In h₀) (N : News h₀ L hp news) (T : Top p loose mean mg mb h₀) (hk : cs.kind = .function)
    (P1 : Pick e1 news r1) (P2 : Pick e2 r1 os) (D : Does w f n vs (e1 :: e2 :: os) Post) (hd : dp + n < recursionLimit) (hu : un + 8 * n < cLine)
    (ret : ∀ r news' h' tk', Fr h₀ L h' m → News h₀ L h' news' → Post r news' → Q r ⟨h', gn, dr, tk', oo⟩) :
    wpAny (model PySem.Challenge.rw_nt0122_01.row.prog w) (ktrTop dp un gd cn cs L a ccd cl outer) (call (.ref f) vs) Q E ⟨hp, gn, dr, tk, oo⟩ :=
  use2 D B F X N T hk P1 P2 hd hu ret
theorem usx3 (B : Below A₀ base outer h₀) (F : Fr h₀ L hp m) (X : (hd.heap_39 w.params).In h₀) (N : News h₀ L hp news) (T : Top p loose mean mg mb h₀) (hk : cs.kind = .function)
    (P1 : Pick e1 news r1) (P2 : Pick e2 r1 r2) (P3 : Pick e3 r2 os) (D : Does w f n vs (e1 :: e2 :: e3 :: os) Post) (hd : dp + n < recursionLimit) (hu : un + 8 * n < cLine)
    (ret : ∀ r news' h' tk', Fr h₀ L h' m → News h₀ L h' news' → Post r news' → Q r ⟨h', gn, dr, tk', oo⟩) :
    wpAny (model PySem.Challenge.rw_nt0122_01.row.prog w) (ktrTop dp un gd cn cs L a ccd cl outer) (call (.ref f) vs) Q E ⟨hp, gn, dr, tk, oo⟩ :=
  use3 D B F X N T hk P1 P2 P3 hd hu ret
end
theorem news_ins {h₀ h : Heap} {L : Addr} {e1 : Addr × Obj} {nw os l' : List (Addr × Obj)} (N : News h₀ L h (e1 :: (nw ++ os))) (I : InsT nw os l') : News h₀ L h (e1 :: l') := news_sub N fun p hp => by
  rcases List.mem_cons.mp hp with rfl | hp
  · exact .head _
  · exact .tail _ (I.sub p hp)
theorem news_ins0 {h₀ h : Heap} {L : Addr} {nw os l' : List (Addr × Obj)} (N : News h₀ L h (nw ++ os)) (I : InsT nw os l') : News h₀ L h l' := news_sub N I.sub
theorem news_ins2 {h₀ h : Heap} {L : Addr} {e1 e2 : Addr × Obj} {nw os l' : List (Addr × Obj)} (N : News h₀ L h (e1 :: e2 :: (nw ++ os))) (I : InsT nw os l') : News h₀ L h (e1 :: e2 :: l') := news_sub N fun p hp => by
  rcases List.mem_cons.mp hp with rfl | hp
  · exact .head _
  · rcases List.mem_cons.mp hp with rfl | hp
    · exact .tail _ (.head _)
    · exact .tail _ (.tail _ (I.sub p hp))
theorem news_ins3 {h₀ h : Heap} {L : Addr} {e1 e2 e3 : Addr × Obj} {nw os l' : List (Addr × Obj)} (N : News h₀ L h (e1 :: e2 :: e3 :: (nw ++ os))) (I : InsT nw os l') : News h₀ L h (e1 :: e2 :: e3 :: l') := news_sub N fun p hp => by
  rcases List.mem_cons.mp hp with rfl | hp
  · exact .head _
  · rcases List.mem_cons.mp hp with rfl | hp
    · exact .tail _ (.head _)
    · rcases List.mem_cons.mp hp with rfl | hp
      · exact .tail _ (.tail _ (.head _))
      · exact .tail _ (.tail _ (.tail _ (I.sub p hp)))
theorem room {d n n' : Nat} (h : d + n < recursionLimit) (e : n' + 1 ≤ n) : d + 1 + n' < recursionLimit := by lia
theorem roomU {d n n' : Nat} (h : d + 8 * n < cLine) (e : n' + 1 ≤ n) : d + 3 + 8 * n' < cLine := by lia
theorem room1 {d n : Nat} (h : d + n < recursionLimit) (e : 1 ≤ n) : d + 1 < recursionLimit := by lia
theorem r1 {a c c' : Nat} (h : Nat.ble (c + 1) c' = true) : a + c + 1 ≤ a + c' := Nat.add_le_add_left (Nat.le_of_ble_eq_true h) a
theorem r2 {a c c' : Nat} (h : Nat.ble (c + 1) c' = true) : c + 1 ≤ a + c' := Nat.le_trans (Nat.le_of_ble_eq_true h) (Nat.le_add_left ..)
theorem r3 {a c c' : Nat} (h : Nat.ble c c' = true) : c ≤ a + c' := Nat.le_trans (Nat.le_of_ble_eq_true h) (Nat.le_add_left ..)
theorem room2 {d n : Nat} (h : d + n < recursionLimit) (e : 2 ≤ n) : d + 1 + 1 < recursionLimit := by lia
theorem room0 {d n : Nat} (h : d + n < recursionLimit) : d < recursionLimit := by lia

noncomputable def Src (o : Obj) : Prop := ∃ x y tx ty n, o = listOf #[.int x tx, .int y ty] n ∧ 0 ≤ x ∧ 0 ≤ y ∧ y < 2147483647
theorem not_of_false {b : Bool} (h : b = false) : ¬ b = true := by rw [h]; decide
theorem mem_tl {α : Type} {a b : α} {l : List α} (h : a ∈ l) : a ∈ b :: l := .tail _ h
theorem mem_hd {α : Type} {a : α} {l : List α} : a ∈ a :: l := .head _
theorem mem_1 {α : Type} {a b : α} {l : List α} : a ∈ b :: a :: l := .tail _ (.head _)
theorem mem_2 {α : Type} {a b c : α} {l : List α} : a ∈ b :: c :: a :: l := .tail _ (.tail _ (.head _))
theorem mem_3 {α : Type} {a b c d : α} {l : List α} : a ∈ b :: c :: d :: a :: l := .tail _ (.tail _ (.tail _ (.head _)))
theorem mem_t4 {α : Type} {a b c d e : α} {l : List α} (h : a ∈ l) : a ∈ b :: c :: d :: e :: l := .tail _ (.tail _ (.tail _ (.tail _ h)))
theorem mem_t2 {α : Type} {a b c : α} {l : List α} (h : a ∈ l) : a ∈ b :: c :: l := .tail _ (.tail _ h)
theorem mem_apl {α : Type} {a : α} {l r : List α} (h : a ∈ l) : a ∈ l ++ r := List.mem_append_left _ h
theorem mem_apr {α : Type} {a : α} {l r : List α} (h : a ∈ r) : a ∈ l ++ r := List.mem_append_right _ h
theorem sub_nil {α : Type} {t : List α} : ∀ p ∈ ([] : List α), p ∈ t := fun _ h => nomatch h
theorem sub_id {α : Type} {t : List α} : ∀ p ∈ t, p ∈ t := fun _ h => h
theorem sub_cons {α : Type} {a : α} {l t : List α} (h : a ∈ t) (k : ∀ p ∈ l, p ∈ t) : ∀ p ∈ a :: l, p ∈ t := fun p hp => by
  rcases List.mem_cons.mp hp with rfl | hp
  · exact h
  · exact k p hp
theorem sub_app {α : Type} {l r t : List α} (h : ∀ p ∈ l, p ∈ t) (k : ∀ p ∈ r, p ∈ t) : ∀ p ∈ l ++ r, p ∈ t := fun p hp => (List.mem_append.mp hp).elim (h p) (k p)
theorem sub_tl {α : Type} {b : α} {l t : List α} (h : ∀ p ∈ l, p ∈ t) : ∀ p ∈ l, p ∈ b :: t := fun p hp => .tail _ (h p hp)
theorem sub_i1 {α : Type} {a : α} {l : List α} : ∀ p ∈ l, p ∈ a :: l := fun _ h => mem_tl h
theorem sub_i2 {α : Type} {a b : α} {l : List α} : ∀ p ∈ l, p ∈ a :: b :: l := fun _ h => mem_t2 h
theorem sub_i3 {α : Type} {a b c : α} {l : List α} : ∀ p ∈ l, p ∈ a :: b :: c :: l := fun _ h => mem_tl (mem_t2 h)
theorem sub_t4 {α : Type} {a b c d : α} {l t : List α} (h : ∀ p ∈ l, p ∈ t) : ∀ p ∈ l, p ∈ a :: b :: c :: d :: t := fun p hp => mem_t4 (h p hp)
theorem sub_apl {α : Type} {l r t : List α} (h : ∀ p ∈ l, p ∈ r) : ∀ p ∈ l, p ∈ r ++ t := fun p hp => List.mem_append_left _ (h p hp)
theorem sub_apr {α : Type} {l r t : List α} (h : ∀ p ∈ l, p ∈ t) : ∀ p ∈ l, p ∈ r ++ t := fun p hp => List.mem_append_right _ (h p hp)
section
variable {M : Model} {A : Around} {E : Value → Shared → Prop} {s : Shared} {K : Frag} {h₀ : Heap} {L a : Addr} {m mg mb : Str → Option Value} {cn : Str} {cs : Scope} {ccd : Value} {cl : List (Str × Addr)} {p : Program} {loose : List Str} {x : Str} {pos : Pos} {v : Value} {Q : Value → Shared → Prop}
noncomputable def okN (cs : Scope) (x : Str) (k : NameKind) : Bool := decide (cs.kind = .function) && decide (cs.names.lookup x = some k) && !(x == ("__debug__" : Str))
theorem okN_p {cs : Scope} {x : Str} {k : NameKind} (e : okN cs x k = true) : cs.kind = .function ∧ cs.names.lookup x = some k ∧ (x == ("__debug__" : Str)) = false := by
  unfold okN at e
  obtain ⟨e, e3⟩ := Bool.and_eq_true_iff.mp e
  obtain ⟨e1, e2⟩ := Bool.and_eq_true_iff.mp e
  exact ⟨of_decide_eq_true e1, of_decide_eq_true e2, by simpa using e3⟩
theorem nmL (e : okN cs x .local = true) (F : Fr h₀ L s.heap m) (hv : m x = some v) (h : Q v s) : wpAny M A (eval (.Name x pos) (envX cn cs L a ccd cl)) Q E s := nameX_L F hv h (okN_p e).1 (okN_p e).2.1 (okN_p e).2.2
theorem nmB (k : okN cs x .globalImplicit = true) (F : Fr h₀ L s.heap m) (X : K.In h₀) (T : TopRead p loose mg mb h₀) (e : nsIn K mainGlobals x = some none) (hv : bootBuiltins x = some v) (hn : x ≠ "__name__") (h : Q v s) : wpAny M A (eval (.Name x pos) (envX cn cs L a ccd cl)) Q E s := nameX_B F X T e hv hn h (okN_p k).1 (okN_p k).2.1 (okN_p k).2.2
theorem nmK (k : okN cs x .globalImplicit = true) (F : Fr h₀ L s.heap m) (X : K.In h₀) (T : TopRead p loose mg mb h₀) (e : nsIn K mainGlobals x = some (some v)) (h : Q v s) : wpAny M A (eval (.Name x pos) (envX cn cs L a ccd cl)) Q E s := nameX_K F X T e h (okN_p k).1 (okN_p k).2.1 (okN_p k).2.2
theorem nmLo (e : okN cs x .local = true) (F : Fr h₀ L s.heap m) (hv : m x = some v) (h : Q v s) : wpAny M A (eval (.Name x pos) (envOf cn cs L a ccd)) Q E s := by
  have z : wpAny M A (eval (.Name x pos) (envX cn cs L a ccd ([]))) Q E s := nameX_L F hv h (okN_p e).1 (okN_p e).2.1 (okN_p e).2.2
  exact z
theorem nmBo (k : okN cs x .globalImplicit = true) (F : Fr h₀ L s.heap m) (X : K.In h₀) (T : TopRead p loose mg mb h₀) (e : nsIn K mainGlobals x = some none) (hv : bootBuiltins x = some v) (hn : x ≠ "__name__") (h : Q v s) : wpAny M A (eval (.Name x pos) (envOf cn cs L a ccd)) Q E s := by
  have z : wpAny M A (eval (.Name x pos) (envX cn cs L a ccd ([]))) Q E s := nameX_B F X T e hv hn h (okN_p k).1 (okN_p k).2.1 (okN_p k).2.2
  exact z
theorem nmKo (k : okN cs x .globalImplicit = true) (F : Fr h₀ L s.heap m) (X : K.In h₀) (T : TopRead p loose mg mb h₀) (e : nsIn K mainGlobals x = some (some v)) (h : Q v s) : wpAny M A (eval (.Name x pos) (envOf cn cs L a ccd)) Q E s := by
  have z : wpAny M A (eval (.Name x pos) (envX cn cs L a ccd ([]))) Q E s := nameX_K F X T e h (okN_p k).1 (okN_p k).2.1 (okN_p k).2.2
  exact z
theorem nmLc (e : okN cs x .local = true) (F : Fr h₀ L s.heap m) (hv : m x = some v) (h : Q v s) : wpAny M A (eval (.Name x pos) (envOfC cn cs L a ccd)) Q E s := by
  have z : wpAny M A (eval (.Name x pos) (envX cn cs L a ccd (cellsFrom (L + 1) cs.names []))) Q E s := nameX_L F hv h (okN_p e).1 (okN_p e).2.1 (okN_p e).2.2
  exact z
theorem nmBc (k : okN cs x .globalImplicit = true) (F : Fr h₀ L s.heap m) (X : K.In h₀) (T : TopRead p loose mg mb h₀) (e : nsIn K mainGlobals x = some none) (hv : bootBuiltins x = some v) (hn : x ≠ "__name__") (h : Q v s) : wpAny M A (eval (.Name x pos) (envOfC cn cs L a ccd)) Q E s := by
  have z : wpAny M A (eval (.Name x pos) (envX cn cs L a ccd (cellsFrom (L + 1) cs.names []))) Q E s := nameX_B F X T e hv hn h (okN_p k).1 (okN_p k).2.1 (okN_p k).2.2
  exact z
theorem nmKc (k : okN cs x .globalImplicit = true) (F : Fr h₀ L s.heap m) (X : K.In h₀) (T : TopRead p loose mg mb h₀) (e : nsIn K mainGlobals x = some (some v)) (h : Q v s) : wpAny M A (eval (.Name x pos) (envOfC cn cs L a ccd)) Q E s := by
  have z : wpAny M A (eval (.Name x pos) (envX cn cs L a ccd (cellsFrom (L + 1) cs.names []))) Q E s := nameX_K F X T e h (okN_p k).1 (okN_p k).2.1 (okN_p k).2.2
  exact z
end
inductive SA (m : Str → Option Value) : PySem.Expr → Nat → Value → Nat → Prop
  | name {x p t v} : m x = some v → SA m (.Name x p) t v t
  | int {i k p t} : SA m (.Constant (.int i) k p) t (.int i t) (t + 1)
  | str {x k p t} : SA m (.Constant (.str x) k p) t (.str x t) (t + 1)
  | none {k p t} : SA m (.Constant .none k p) t .none t
  | bool {b k p t} : SA m (.Constant (.bool b) k p) t (.bool b) t
inductive SAs (m : Str → Option Value) : List PySem.Expr → Nat → List Value → Nat → Prop
  | nil {t} : SAs m [] t [] t
  | cons {e es t v t1 vs t2} : SA m e t v t1 → SAs m es t1 vs t2 → SAs m (e :: es) t (v :: vs) t2
noncomputable def okA (cs : Scope) : List PySem.Expr → Bool
  | [] => true
  | .Name x _ :: r => okN cs x .local && okA cs r
  | _ :: r => okA cs r
section
variable {M : Model} {A : Around} {E : Value → Shared → Prop} {h₀ : Heap} {L a : Addr} {m : Str → Option Value} {cn : Str} {cs : Scope} {ccd : Value} {cl : List (Str × Addr)} {pos : Pos} {es : List PySem.Expr}
theorem args_X {vs : List Value} {h : Heap} {g d o} {t t' : Nat} {Q : List Value → Shared → Prop} (k : okA cs es = true) (F : Fr h₀ L h m) (v : SAs m es t vs t') (q : Q vs ⟨h, g, d, t', o⟩) :
    wpAny M A (spliced (backTo pos (starEach es (envX cn cs L a ccd cl)))) Q E ⟨h, g, d, t, o⟩ := by
  induction v generalizing Q with
  | nil => exact args_nil q
  | cons h1 _ ih =>
    cases h1 with
    | name e =>
      obtain ⟨k1, k2⟩ := Bool.and_eq_true_iff.mp k
      exact args_cons (nmL k1 F e (ih k2 q)) rfl
    | int => exact args_cons (wpAny_Constant_int (ih k q)) rfl
    | str => exact args_cons (wpAny_Constant_str (ih k q)) rfl
    | none => exact args_cons (wpAny_Constant_none (ih k q)) rfl
    | bool => exact args_cons (wpAny_Constant_bool (ih k q)) rfl
theorem args_O {vs : List Value} {h : Heap} {g d o} {t t' : Nat} {Q : List Value → Shared → Prop} (k : okA cs es = true) (F : Fr h₀ L h m) (v : SAs m es t vs t') (q : Q vs ⟨h, g, d, t', o⟩) :
    wpAny M A (spliced (backTo pos (starEach es (envOf cn cs L a ccd)))) Q E ⟨h, g, d, t, o⟩ := by
  have z : wpAny M A (spliced (backTo pos (starEach es (envX cn cs L a ccd ([]))))) Q E ⟨h, g, d, t, o⟩ := args_X k F v q
  exact z
theorem args_C {vs : List Value} {h : Heap} {g d o} {t t' : Nat} {Q : List Value → Shared → Prop} (k : okA cs es = true) (F : Fr h₀ L h m) (v : SAs m es t vs t') (q : Q vs ⟨h, g, d, t', o⟩) :
    wpAny M A (spliced (backTo pos (starEach es (envOfC cn cs L a ccd)))) Q E ⟨h, g, d, t, o⟩ := by
  have z : wpAny M A (spliced (backTo pos (starEach es (envX cn cs L a ccd (cellsFrom (L + 1) cs.names []))))) Q E ⟨h, g, d, t, o⟩ := args_X k F v q
  exact z
end
theorem letF {h₀ : Heap} {L : Addr} {h : Heap} {m : Str → Option Value} {G : Prop} (F : Fr h₀ L h m) (k : let m1 := m; Fr h₀ L h m1 → G) : G := k F
section
variable {prog : Program} {w : World} {A : Around} {E : Value → Shared → Prop} {h₀ : Heap} {L a : Addr} {m : Str → Option Value} {cn : Str} {cs : Scope} {ccd : Value} {cl : List (Str × Addr)} {x : Str} {v : Value} {h : Heap} {g d o} {t : Nat} {news : List (Addr × Obj)} {Q : Unit → Shared → Prop}
theorem stX (k : okN cs x .local = true) (F : Fr h₀ L h m) (N : News h₀ L h news) (q : let m1 := fun y => if y = x then some v else m y; ∀ h' t', Fr h₀ L h' m1 → News h₀ L h' news → Q () ⟨h', g, d, t', o⟩) :
    wpAny (model prog w) A (storeName (envX cn cs L a ccd cl) x v) Q E ⟨h, g, d, t, o⟩ :=
  storeX_L (s := ⟨h, g, d, t, o⟩) F N (fun h' F' N' => q h' _ F' N') (okN_p k).1 (okN_p k).2.1
theorem stO (k : okN cs x .local = true) (F : Fr h₀ L h m) (N : News h₀ L h news) (q : let m1 := fun y => if y = x then some v else m y; ∀ h' t', Fr h₀ L h' m1 → News h₀ L h' news → Q () ⟨h', g, d, t', o⟩) :
    wpAny (model prog w) A (storeName (envOf cn cs L a ccd) x v) Q E ⟨h, g, d, t, o⟩ := by
  have z : wpAny (model prog w) A (storeName (envX cn cs L a ccd ([])) x v) Q E ⟨h, g, d, t, o⟩ := stX k F N q
  exact z
theorem stC (k : okN cs x .local = true) (F : Fr h₀ L h m) (N : News h₀ L h news) (q : let m1 := fun y => if y = x then some v else m y; ∀ h' t', Fr h₀ L h' m1 → News h₀ L h' news → Q () ⟨h', g, d, t', o⟩) :
    wpAny (model prog w) A (storeName (envOfC cn cs L a ccd) x v) Q E ⟨h, g, d, t, o⟩ := by
  have z : wpAny (model prog w) A (storeName (envX cn cs L a ccd (cellsFrom (L + 1) cs.names [])) x v) Q E ⟨h, g, d, t, o⟩ := stX k F N q
  exact z
end
section
variable {M : Model} {A : Around} {E : Value → Shared → Prop} {h₀ : Heap} {L : Addr} {m : Str → Option Value} {h : Heap} {g d o} {t : Nat} {news : List (Addr × Obj)} {vs : List Value} {Q : Value → Shared → Prop}
theorem nwT (F : Fr h₀ L h m) (N : News h₀ L h news) (hz : vs.length ≤ sizeLine)
    (q : ∀ D h' t', Fr h₀ L h' m → let e : Addr × Obj := (D, { cls := .type "tuple", data := .seq vs.toArray }); let l := e :: news; News h₀ L h' l → AllLt D news → Q (.ref D) ⟨h', g, d, t', o⟩) : wpAny M A (newTuple vs) Q E ⟨h, g, d, t, o⟩ :=
  kup_newTuple (s := ⟨h, g, d, t, o⟩) F N (fun D h' F' N' l1 => q D h' _ F' N' (allLt_of l1)) hz
theorem nwL (F : Fr h₀ L h m) (N : News h₀ L h news) (hz : vs.length ≤ sizeLine)
    (q : ∀ D h' t', Fr h₀ L h' m → let e : Addr × Obj := (D, listOf vs.toArray 0); let l := e :: news; News h₀ L h' l → AllLt D news → Q (.ref D) ⟨h', g, d, t', o⟩) : wpAny M A (newList vs) Q E ⟨h, g, d, t, o⟩ :=
  newList_K (s := ⟨h, g, d, t, o⟩) F N (fun D h' F' N' l1 => q D h' _ F' N' (allLt_of l1)) hz
theorem leSz {n : Nat} (h : Nat.ble n 16777216 = true) : n ≤ sizeLine := by rw [sizeLine_eq]; exact Nat.le_of_ble_eq_true h
end
theorem letN1 {h₀ : Heap} {L : Addr} {h : Heap} {e1 : Addr × Obj} {r : List (Addr × Obj)} {G : Prop} (N : News h₀ L h (e1 :: r)) (k : let x1 := e1; let l := x1 :: r; News h₀ L h l → G) : G := k N
theorem letN2 {h₀ : Heap} {L : Addr} {h : Heap} {e1 e2 : Addr × Obj} {r : List (Addr × Obj)} {G : Prop} (N : News h₀ L h (e1 :: e2 :: r)) (k : let x1 := e1; let x2 := e2; let l := x1 :: x2 :: r; News h₀ L h l → G) : G := k N
theorem letN3 {h₀ : Heap} {L : Addr} {h : Heap} {e1 e2 e3 : Addr × Obj} {r : List (Addr × Obj)} {G : Prop} (N : News h₀ L h (e1 :: e2 :: e3 :: r)) (k : let x1 := e1; let x2 := e2; let x3 := e3; let l := x1 :: x2 :: x3 :: r; News h₀ L h l → G) : G := k N
theorem letN4 {h₀ : Heap} {L : Addr} {h : Heap} {e1 e2 e3 e4 : Addr × Obj} {r : List (Addr × Obj)} {G : Prop} (N : News h₀ L h (e1 :: e2 :: e3 :: e4 :: r)) (k : let x1 := e1; let x2 := e2; let x3 := e3; let x4 := e4; let l := x1 :: x2 :: x3 :: x4 :: r; News h₀ L h l → G) : G := k N
theorem letN5 {h₀ : Heap} {L : Addr} {h : Heap} {e1 e2 e3 e4 e5 : Addr × Obj} {r : List (Addr × Obj)} {G : Prop} (N : News h₀ L h (e1 :: e2 :: e3 :: e4 :: e5 :: r)) (k : let x1 := e1; let x2 := e2; let x3 := e3; let x4 := e4; let x5 := e5; let l := x1 :: x2 :: x3 :: x4 :: x5 :: r; News h₀ L h l → G) : G := k N
theorem letN6 {h₀ : Heap} {L : Addr} {h : Heap} {e1 e2 e3 e4 e5 e6 : Addr × Obj} {r : List (Addr × Obj)} {G : Prop} (N : News h₀ L h (e1 :: e2 :: e3 :: e4 :: e5 :: e6 :: r)) (k : let x1 := e1; let x2 := e2; let x3 := e3; let x4 := e4; let x5 := e5; let x6 := e6; let l := x1 :: x2 :: x3 :: x4 :: x5 :: x6 :: r; News h₀ L h l → G) : G := k N
section
variable {M : Model} {A : Around} {E : Value → Shared → Prop} {h₀ : Heap} {L a : Addr} {m : Str → Option Value} {cn : Str} {cs : Scope} {ccd : Value} {cl : List (Str × Addr)} {pos xp : Pos} {l r e : PySem.Expr} {u b : Value} {h : Heap} {g d o} {t t1 t2 : Nat} {x attr : Str}
theorem at_X {Q : Value → Shared → Prop} (k : okA cs [e] = true) (F : Fr h₀ L h m) (v1 : SA m e t u t1) (q : Q u ⟨h, g, d, t1, o⟩) : wpAny M A (eval e (envX cn cs L a ccd cl)) Q E ⟨h, g, d, t, o⟩ := by
  cases v1 with
  | name e => exact nmL (Bool.and_eq_true_iff.mp k).1 F e q
  | int => exact wpAny_Constant_int q
  | str => exact wpAny_Constant_str q
  | none => exact wpAny_Constant_none q
  | bool => exact wpAny_Constant_bool q
theorem okA1 (k : okA cs [l, r] = true) : okA cs [l] = true ∧ okA cs [r] = true := by
  cases l <;> first | exact ⟨rfl, k⟩ | (obtain ⟨k1, k2⟩ := Bool.and_eq_true_iff.mp k; exact ⟨Bool.and_eq_true_iff.mpr ⟨k1, rfl⟩, k2⟩)
theorem cmp_X {op : CmpOp} {whole : Sem Value} {Q : Bool → Shared → Prop} (k : okA cs [l, r] = true) (F : Fr h₀ L h m) (v1 : SA m l t u t1) (v2 : SA m r t1 b t2) (hm : behindInMarks op r = false) (q : wpAny M A (compareOp op u b) (fun c s₃ => wpAny M A (truthy c) Q E s₃) E ⟨h, g, d, t2, o⟩) :
    wpAny M A (isTrue (.Compare l [op] [r] pos) (envX cn cs L a ccd cl) whole) Q E ⟨h, g, d, t, o⟩ := wpAny_isTrue_Compare1 (at_X (okA1 k).1 F v1 (at_X (okA1 k).2 F v2 q)) hm
theorem cmp_O {op : CmpOp} {whole : Sem Value} {Q : Bool → Shared → Prop} (k : okA cs [l, r] = true) (F : Fr h₀ L h m) (v1 : SA m l t u t1) (v2 : SA m r t1 b t2) (hm : behindInMarks op r = false) (q : wpAny M A (compareOp op u b) (fun c s₃ => wpAny M A (truthy c) Q E s₃) E ⟨h, g, d, t2, o⟩) :
    wpAny M A (isTrue (.Compare l [op] [r] pos) (envOf cn cs L a ccd) whole) Q E ⟨h, g, d, t, o⟩ := by
  have z : wpAny M A (isTrue (.Compare l [op] [r] pos) (envX cn cs L a ccd ([])) whole) Q E ⟨h, g, d, t, o⟩ := cmp_X k F v1 v2 hm q
  exact z
theorem cmp_C {op : CmpOp} {whole : Sem Value} {Q : Bool → Shared → Prop} (k : okA cs [l, r] = true) (F : Fr h₀ L h m) (v1 : SA m l t u t1) (v2 : SA m r t1 b t2) (hm : behindInMarks op r = false) (q : wpAny M A (compareOp op u b) (fun c s₃ => wpAny M A (truthy c) Q E s₃) E ⟨h, g, d, t2, o⟩) :
    wpAny M A (isTrue (.Compare l [op] [r] pos) (envOfC cn cs L a ccd) whole) Q E ⟨h, g, d, t, o⟩ := by
  have z : wpAny M A (isTrue (.Compare l [op] [r] pos) (envX cn cs L a ccd (cellsFrom (L + 1) cs.names [])) whole) Q E ⟨h, g, d, t, o⟩ := cmp_X k F v1 v2 hm q
  exact z
theorem bin_X {op : Operator} {Q : Value → Shared → Prop} (k : okA cs [l, r] = true) (F : Fr h₀ L h m) (v1 : SA m l t u t1) (v2 : SA m r t1 b t2) (q : wpAny M A (binaryOp op u b) Q E ⟨h, g, d, t2, o⟩) :
    wpAny M A (eval (.BinOp l op r pos) (envX cn cs L a ccd cl)) Q E ⟨h, g, d, t, o⟩ := wpAny_BinOp (at_X (okA1 k).1 F v1 (at_X (okA1 k).2 F v2 q))
theorem bin_O {op : Operator} {Q : Value → Shared → Prop} (k : okA cs [l, r] = true) (F : Fr h₀ L h m) (v1 : SA m l t u t1) (v2 : SA m r t1 b t2) (q : wpAny M A (binaryOp op u b) Q E ⟨h, g, d, t2, o⟩) :
    wpAny M A (eval (.BinOp l op r pos) (envOf cn cs L a ccd)) Q E ⟨h, g, d, t, o⟩ := by
  have z : wpAny M A (eval (.BinOp l op r pos) (envX cn cs L a ccd ([]))) Q E ⟨h, g, d, t, o⟩ := bin_X k F v1 v2 q
  exact z
theorem bin_C {op : Operator} {Q : Value → Shared → Prop} (k : okA cs [l, r] = true) (F : Fr h₀ L h m) (v1 : SA m l t u t1) (v2 : SA m r t1 b t2) (q : wpAny M A (binaryOp op u b) Q E ⟨h, g, d, t2, o⟩) :
    wpAny M A (eval (.BinOp l op r pos) (envOfC cn cs L a ccd)) Q E ⟨h, g, d, t, o⟩ := by
  have z : wpAny M A (eval (.BinOp l op r pos) (envX cn cs L a ccd (cellsFrom (L + 1) cs.names []))) Q E ⟨h, g, d, t, o⟩ := bin_X k F v1 v2 q
  exact z
theorem sub_X {Q : Value → Shared → Prop} (k : okA cs [l, r] = true) (F : Fr h₀ L h m) (v1 : SA m l t u t1) (v2 : SA m r t1 b t2) (q : wpAny M A (subscriptTail l r u b) Q E ⟨h, g, d, t2, o⟩) :
    wpAny M A (eval (.Subscript l r pos) (envX cn cs L a ccd cl)) Q E ⟨h, g, d, t, o⟩ := Subscript_ (at_X (okA1 k).1 F v1 (at_X (okA1 k).2 F v2 q))
theorem sub_O {Q : Value → Shared → Prop} (k : okA cs [l, r] = true) (F : Fr h₀ L h m) (v1 : SA m l t u t1) (v2 : SA m r t1 b t2) (q : wpAny M A (subscriptTail l r u b) Q E ⟨h, g, d, t2, o⟩) :
    wpAny M A (eval (.Subscript l r pos) (envOf cn cs L a ccd)) Q E ⟨h, g, d, t, o⟩ := by
  have z : wpAny M A (eval (.Subscript l r pos) (envX cn cs L a ccd ([]))) Q E ⟨h, g, d, t, o⟩ := sub_X k F v1 v2 q
  exact z
theorem sub_C {Q : Value → Shared → Prop} (k : okA cs [l, r] = true) (F : Fr h₀ L h m) (v1 : SA m l t u t1) (v2 : SA m r t1 b t2) (q : wpAny M A (subscriptTail l r u b) Q E ⟨h, g, d, t2, o⟩) :
    wpAny M A (eval (.Subscript l r pos) (envOfC cn cs L a ccd)) Q E ⟨h, g, d, t, o⟩ := by
  have z : wpAny M A (eval (.Subscript l r pos) (envX cn cs L a ccd (cellsFrom (L + 1) cs.names []))) Q E ⟨h, g, d, t, o⟩ := sub_X k F v1 v2 q
  exact z
theorem att_X {Q : Value → Shared → Prop} (k : okN cs x .local = true) (F : Fr h₀ L h m) (v1 : m x = some u) (q : wpAny M A (getAttr u attr true) Q E ⟨h, g, d, t, o⟩) :
    wpAny M A (eval (.Attribute (.Name x xp) attr pos) (envX cn cs L a ccd cl)) Q E ⟨h, g, d, t, o⟩ := Attribute_Name_ (nmL k F v1 q)
theorem att_O {Q : Value → Shared → Prop} (k : okN cs x .local = true) (F : Fr h₀ L h m) (v1 : m x = some u) (q : wpAny M A (getAttr u attr true) Q E ⟨h, g, d, t, o⟩) :
    wpAny M A (eval (.Attribute (.Name x xp) attr pos) (envOf cn cs L a ccd)) Q E ⟨h, g, d, t, o⟩ := by
  have z : wpAny M A (eval (.Attribute (.Name x xp) attr pos) (envX cn cs L a ccd ([]))) Q E ⟨h, g, d, t, o⟩ := att_X k F v1 q
  exact z
theorem att_C {Q : Value → Shared → Prop} (k : okN cs x .local = true) (F : Fr h₀ L h m) (v1 : m x = some u) (q : wpAny M A (getAttr u attr true) Q E ⟨h, g, d, t, o⟩) :
    wpAny M A (eval (.Attribute (.Name x xp) attr pos) (envOfC cn cs L a ccd)) Q E ⟨h, g, d, t, o⟩ := by
  have z : wpAny M A (eval (.Attribute (.Name x xp) attr pos) (envX cn cs L a ccd (cellsFrom (L + 1) cs.names []))) Q E ⟨h, g, d, t, o⟩ := att_X k F v1 q
  exact z
end
section
variable {M : Model} {A : Around} {E : Value → Shared → Prop} {K : Frag} {h₀ : Heap} {L a : Addr} {m mg mb : Str → Option Value} {cn : Str} {cs : Scope} {ccd : Value} {cl : List (Str × Addr)} {p : Program} {loose : List Str} {p0 p1 p2 p3 : Pos} {x C : Str} {u c : Value} {s : Shared} {Q : Bool → Shared → Prop}
theorem pl1 {env : Env} {p2 p3 : Pos} {C : Str} : (backTo p3 (starEach [.Name C p2] env)).any (·.1) = false := by
  have he : starEach [.Name C p2] env = (false, eval (.Name C p2) env) :: starEach [] env := by rfl
  rw [he]; rfl
theorem isi_X (k0 : okN cs (Str.ofString "isinstance") .globalImplicit = true) (k1 : okN cs x .local = true) (k2 : okN cs C .globalImplicit = true) (F : Fr h₀ L s.heap m) (X : K.In h₀) (T : TopRead p loose mg mb h₀) (e0 : nsIn K mainGlobals (Str.ofString "isinstance") = some none) (hb : bootBuiltins (Str.ofString "isinstance") = some (.builtin "isinstance")) (e2 : nsIn K mainGlobals C = some (some c)) (v : m x = some u) (q : wpAny M A (call (.builtin "isinstance") [u, c]) (fun r s₁ => wpAny M A (truthy r) Q E s₁) E s) :
    wpAny M A (isTrue (.Call (.Name (Str.ofString "isinstance") p0) [.Name x p1, .Name C p2] [] p3) (envX cn cs L a ccd cl) (eval (.Call (.Name (Str.ofString "isinstance") p0) [.Name x p1, .Name C p2] [] p3) (envX cn cs L a ccd cl))) Q E s := 
  isTrue_plain (Call_ (nmB k0 F X T e0 hb (by decide +kernel) (PyProof.Rows.callWith_builtin1 (e := .Name x p1) (rest := [.Name C p2]) (args_cons (nmL k1 F v (args_cons (nmK k2 F X T e2 (args_nil q)) (by rfl))) (by rfl)) (by rfl) pl1)))
theorem isi_O (k0 : okN cs (Str.ofString "isinstance") .globalImplicit = true) (k1 : okN cs x .local = true) (k2 : okN cs C .globalImplicit = true) (F : Fr h₀ L s.heap m) (X : K.In h₀) (T : TopRead p loose mg mb h₀) (e0 : nsIn K mainGlobals (Str.ofString "isinstance") = some none) (hb : bootBuiltins (Str.ofString "isinstance") = some (.builtin "isinstance")) (e2 : nsIn K mainGlobals C = some (some c)) (v : m x = some u) (q : wpAny M A (call (.builtin "isinstance") [u, c]) (fun r s₁ => wpAny M A (truthy r) Q E s₁) E s) :
    wpAny M A (isTrue (.Call (.Name (Str.ofString "isinstance") p0) [.Name x p1, .Name C p2] [] p3) (envOf cn cs L a ccd) (eval (.Call (.Name (Str.ofString "isinstance") p0) [.Name x p1, .Name C p2] [] p3) (envOf cn cs L a ccd))) Q E s := by
  have z : wpAny M A (isTrue (.Call (.Name (Str.ofString "isinstance") p0) [.Name x p1, .Name C p2] [] p3) (envX cn cs L a ccd ([])) (eval (.Call (.Name (Str.ofString "isinstance") p0) [.Name x p1, .Name C p2] [] p3) (envX cn cs L a ccd ([])))) Q E s := isi_X k0 k1 k2 F X T e0 hb e2 v q
  exact z
theorem isi_C (k0 : okN cs (Str.ofString "isinstance") .globalImplicit = true) (k1 : okN cs x .local = true) (k2 : okN cs C .globalImplicit = true) (F : Fr h₀ L s.heap m) (X : K.In h₀) (T : TopRead p loose mg mb h₀) (e0 : nsIn K mainGlobals (Str.ofString "isinstance") = some none) (hb : bootBuiltins (Str.ofString "isinstance") = some (.builtin "isinstance")) (e2 : nsIn K mainGlobals C = some (some c)) (v : m x = some u) (q : wpAny M A (call (.builtin "isinstance") [u, c]) (fun r s₁ => wpAny M A (truthy r) Q E s₁) E s) :
    wpAny M A (isTrue (.Call (.Name (Str.ofString "isinstance") p0) [.Name x p1, .Name C p2] [] p3) (envOfC cn cs L a ccd) (eval (.Call (.Name (Str.ofString "isinstance") p0) [.Name x p1, .Name C p2] [] p3) (envOfC cn cs L a ccd))) Q E s := by
  have z : wpAny M A (isTrue (.Call (.Name (Str.ofString "isinstance") p0) [.Name x p1, .Name C p2] [] p3) (envX cn cs L a ccd (cellsFrom (L + 1) cs.names [])) (eval (.Call (.Name (Str.ofString "isinstance") p0) [.Name x p1, .Name C p2] [] p3) (envX cn cs L a ccd (cellsFrom (L + 1) cs.names [])))) Q E s := isi_X k0 k1 k2 F X T e0 hb e2 v q
  exact z
end
section
variable {prog : Program} {w : World} {A : Around} {E : Value → Shared → Prop} {K : Frag} {x C dx L : Addr} {h₀ h : Heap} {m : Str → Option Value} {news news' : List (Addr × Obj)} {ox : Obj} {es es' : List DictEntry} {n n' t : Nat} {gn dr oo} {name : Str} {v : Value}
theorem setD {Q : Unit → Shared → Prop} (F : Fr h₀ L h m) (X₀ : K.In h₀) (N : News h₀ L h news) (I : InstAt h x ox C (some (dictOf es n))) (hd : ox.dict = some dx)
    (hs : findIn K (.ref C) "__setattr__" = some (some (.builtin "object.__setattr__"))) (hp : plainOver K C = true) (ht : takerIn K C name = some none) (hh : hasDictIn K C = true) (hl : (getL name es).isSome = true)
    (e : (putL name (PyData.keyHash w.params name) (.str name (t + 1)) v es, putN name es n) = (es', n')) (U : Upd dx (dictOf es n) (dictOf es' n') news news') (hz : es'.length ≤ 1000)
    (q : ∀ h' t', Fr h₀ L h' m → let l := news'; News h₀ L h' l → Q () ⟨h', gn, dr, t', oo⟩) : wpAny (model prog w) A (setAttr (.ref x) name v) Q E ⟨h, gn, dr, t, oo⟩ :=
  set_dict (s := ⟨h, gn, dr, t, oo⟩) F X₀ N I hd hs hp ht hh hl e U hz fun h' F' N' => q h' _ F' N'
end
section Cur
variable {h₀ : Heap} {L : Addr} {m : Str → Option Value} {gn dr oo} {Q : Value → Shared → Prop}
theorem cur_str {z : Str} {os : List (Addr × Obj)}
    (ret : ∀ (t8 : Tok) (h' : Heap) (tk' : Nat), Fr h₀ L h' m → News h₀ L h' (os) → Q (.str z t8) ⟨h', gn, dr, tk', oo⟩) :
    ∀ r news' h' tk', Fr h₀ L h' m → News h₀ L h' news' → (fun r l => ∃ t, r = .str z t ∧ l = os) r news' → Q r ⟨h', gn, dr, tk', oo⟩ := by
  rintro _ _ h' tk' F N ⟨t, rfl, rfl⟩; exact ret t h' tk' F N
end Cur
end Mine
end
section
open PySem PySem.W PyProof.Rows PySem.Calls
namespace Mine
section
variable {prog : Program} {w : World} {A : Around} {E : Value → Shared → Prop} {s : Shared} {h₀ : Heap} {L l : Addr} {news : List (Addr × Obj)} {vs : List Value} {n : Nat}
theorem len_open {Q : Value → Shared → Prop} (N : News h₀ L s.heap news) (hm : (l, listOf vs.toArray n) ∈ news) (hfit : vs.length < 2 ^ 62) (h : Q (.int vs.length (s.toks + 1)) { s with toks := s.toks + 1 + 1 }) :
    wpAny (model prog w) A (call (.builtin "len") [.ref l]) Q E s :=
  call_len_list (News.isList N hm) (by rw [List.size_toArray]; lia) (by rw [List.size_toArray]; exact h)
theorem item_open {value slice : PySem.Expr} {k : Int} {u : Tok} {Q : Value → Shared → Prop} (N : News h₀ L s.heap news) (hm : (l, listOf vs.toArray n) ∈ news) (h0 : 0 ≤ k) (h1 : k < vs.length) (hfit : vs.length < 2 ^ 62)
    (h : ∀ v, vs[k.toNat]? = some v → Q v s)
    (hs : subscripted slice false (.ref l) (.int k u) = operate [.ref l, .int k u] (getItem (.ref l) (.int k u)) := by with_unfolding_all rfl) :
    wpAny (model prog w) A (subscriptTail value slice (.ref l) (.int k u)) Q E s := by
  have hL := News.isList N hm
  have hk : k.toNat < vs.length := by lia
  exact tail_any hL.typeIs slot_list_getitem.lookup (wpAny_getItem_list hL h0 (by lia) (by simp [List.getElem?_eq_getElem hk]) (h _ (List.getElem?_eq_getElem hk))) hs
end
section
variable {prog : Program} {w : World} {A : Around} {h₀ : Heap} {L : Addr} {m : Str → Option Value} {env : Env} {elt : PySem.Expr} {x : Str} {scope : Scope} {cl : List (Str × Addr)} {s : Shared} {S : List (Addr × Obj) → Prop} {P : Nat → Value → Prop} {Fin : List Value → List (Addr × Obj) → Prop} {news : List (Addr × Obj)}
theorem comp_rest {n : Nat} (J : Nat → List Value → List (Addr × Obj) → Prop) (j0 : J 0 [] news)
    (turn : ∀ i v I oI C oC D m₂ ys news₁ h tk (E' : Value → Shared → Prop), i < n → P i v → J i ys news₁ → LCg.NsObj oC m₂ → m₂ x = some v → Fr h₀ L h m → News h₀ L h ((I, oI) :: (C, oC) :: (D, LCg.lst ys) :: news₁) → LCg.Off3 I C D news₁ → ((@Ne Nat I C) ∧ (@Ne Nat I D) ∧ (@Ne Nat C D)) →
      wpAny (model prog w) A (eval elt (compEnvC scope cl C env)) (LCg.CompEnd h₀ L m { s with heap := h, toks := tk } I oI C oC D (LCg.lst ys) S (fun y news' => J (i + 1) (ys ++ [y]) news')) E' { s with heap := h, toks := tk })
    (fin : ∀ ys news', J n ys news' → Fin ys news') : LCg.CompRest prog w A h₀ L m env elt x scope cl s S P Fin n 0 [] news := by
  have key : ∀ (j i : Nat) (ys : List Value) (nw : List (Addr × Obj)), i + j = n → J i ys nw → LCg.CompRest prog w A h₀ L m env elt x scope cl s S P Fin j i ys nw := by
    intro j
    induction j with
    | zero =>
      intro i ys nw hi hy
      have e : i = n := by lia
      subst e
      exact LCg.CompRest.zero (fin ys nw hy)
    | succ j ih =>
      intro i ys nw hi hy
      refine LCg.CompRest.succ ?_
      intro v I oI C oC D m₂ h tk E' hv hC hx F N off ne
      refine wpAny_mono (turn i v I oI C oC D m₂ ys nw h tk E' (by lia) hv hy hC hx F N off ne) (fun y s₂ hq => ?_) fun _ _ e => e
      obtain ⟨h', tk', nw', e, F', N', off', hS, hJ⟩ := hq
      exact ⟨h', tk', nw', e, F', N', off', hS, ih (i + 1) _ _ (by lia) hJ⟩
  exact key n 0 [] news (by lia) j0
end
end Mine
end
section
open PySem PySem.W PyProof.Rows
namespace Mine
theorem fm_lo (e : Int) : 0 ≤ e.fmod 2147483647 := Int.fmod_nonneg_of_pos e (by decide)
theorem fm_hi (e : Int) : e.fmod 2147483647 < 2147483647 := Int.fmod_lt_of_pos e (by decide)
theorem mul_ok1 (x e : Int) : IntMulOk ([x, e.fmod 2147483647].getD (Int.toNat 1) 0) ([x, e.fmod 2147483647].getD (Int.toNat 1) 0) := by
  have h1 := fm_lo e
  have h2 := fm_hi e
  show IntMulOk (e.fmod 2147483647) (e.fmod 2147483647)
  exact IntMulOk.of_right (PySem.intBits_le_64 (by lia) (by lia))
noncomputable def TakePost (S : Addr) (top : Int) (os : List (Addr × Obj)) (r : Value) (news' : List (Addr × Obj)) : Prop :=
  ∃ k tk o', r = .int k tk ∧ 0 ≤ k ∧ k < top ∧ Src o' ∧ news' = (S, o') :: os
theorem take_post {S : Addr} {top : Int} {os : List (Addr × Obj)} {e x y : Int} {tk tx ty : Tok} {n : Nat} (ht : 0 < top) (hx : 0 ≤ x) (hy : 0 ≤ y) (hy2 : y < 2147483647) :
    TakePost S top os (.int (e.fmod top) tk) ((S, listOf #[.int x tx, .int y ty] n) :: os) :=
  ⟨_, _, _, rfl, Int.fmod_nonneg_of_pos e ht, Int.fmod_lt_of_pos e ht, ⟨x, y, tx, ty, n, rfl, hx, hy, hy2⟩, rfl⟩
section Cur
variable {h₀ : Heap} {L : Addr} {m : Str → Option Value} {gn dr oo} {Q : Value → Shared → Prop}
theorem cur_take {S : Addr} {top : Int} {os : List (Addr × Obj)}
    (ret : ∀ (k : Int) (t1 : Tok) (o' : Obj) (h' : Heap) (tk' : Nat), Fr h₀ L h' m → let x1 : Addr × Obj := (S, o'); let l := x1 :: os; News h₀ L h' l → 0 ≤ k → k < top → Src o' → Q (.int k t1) ⟨h', gn, dr, tk', oo⟩) :
    ∀ r news' h' tk', Fr h₀ L h' m → News h₀ L h' news' → TakePost S top os r news' → Q r ⟨h', gn, dr, tk', oo⟩ := by
  rintro _ _ h' tk' F N ⟨k, t, o', rfl, a, b, c, rfl⟩; exact ret k t o' h' tk' F N a b c
end Cur
section
theorem lines1 : True := by
  k_with "mul_fits" => ((fail_if_success k_extra "o1"); exact mul_ok1 _ _)
  exact True.intro
set_option maxRecDepth 100000 in
set_option maxHeartbeats 8000000 in
theorem take_does (w : World) (S : Addr) (o : Obj) (top : Int) (tt : Tok) (os : List (Addr × Obj)) (hs : Src o) (hoff : ∀ p ∈ os, p.1 ≠ S) (ht : 0 < top) (ht2 : top ≤ 8) :
   Does w 798 2 [.ref S, .int top tt] ((S, o) :: os) (TakePost S top os) := by
  obtain ⟨x, y, tx, ty, n, rfl, hx, hy, hy2⟩ := hs
  refine Does.of ?_
  intro dp un gd cn cs a ccd cl outer A₀ base h₀ L m p loose mean mg mb hp0 gn0 dr0 tk0 oo0 Q E B F X N T hk hd hu hret
  revert X; k_fill; intro X
  refine wpAny_call ?_
  k_dflt ktr_enter
  k_steps
  · exact hret _ _ _ _ (by assumption) (by assumption) (take_post ht (Int.fdiv_nonneg hx (Int.le_of_lt ht)) hy hy2)
  · exact hret _ _ _ _ (by assumption) (by assumption) (take_post ht hx (fm_lo _) (fm_hi _))
end
end Mine
end
section
open PySem PySem.W PyProof.Rows
namespace Mine
noncomputable def OnePost (S : Addr) (vs : List Value) (os : List (Addr × Obj)) (r : Value) (news' : List (Addr × Obj)) : Prop :=
  ∃ o', r ∈ vs ∧ Src o' ∧ news' = (S, o') :: os
section Cur
variable {h₀ : Heap} {L : Addr} {m : Str → Option Value} {gn dr oo} {Q : Value → Shared → Prop}
theorem cur_one {S : Addr} {vs : List Value} {os : List (Addr × Obj)}
    (ret : ∀ (r : Value) (o' : Obj) (h' : Heap) (tk' : Nat), Fr h₀ L h' m → let x1 : Addr × Obj := (S, o'); let l := x1 :: os; News h₀ L h' l → r ∈ vs → Src o' → Q r ⟨h', gn, dr, tk', oo⟩) :
    ∀ r news' h' tk', Fr h₀ L h' m → News h₀ L h' news' → OnePost S vs os r news' → Q r ⟨h', gn, dr, tk', oo⟩ := by
  rintro r _ h' tk' F N ⟨o', a, b, rfl⟩; exact ret r o' h' tk' F N a b
end Cur
section
theorem lines2 : True := by
  k_with "o1" => skip
  k_with "subscriptTail Name" => ((fail_if_success k_extra "o2"); k_extra "subscriptTail")
  k_with "subscriptTail Name Constant ref int" => ((fail_if_success k_extra "o2"); k_extra "subscriptTail")
  k_with "subscriptTail Name Name ref int" => ((fail_if_success k_extra "o2"); k_extra "subscriptTail")
  k_with "call ref" => ((fail_if_success k_extra "o2"); (k_here; (with_reducible show wpAny _ _ (call (Value.ref 798) _) _ _ _); k_dflt (refine' usx1 ?z40B ?z40F ?z40X ?z40N ?z40T ?z40hk ?z40P1 (take_does _ _ _ _ _ _ ?z40hs ?z40ho ?z40h1 ?z40h2) ?_ ?_ (cur_take ?_); (case z40B => k_asm); (case z40F => k_asm); (case z40X => k_asm); (case z40N => k_asm); (case z40T => k_asm); (case z40hk => first | exact rfl | assumption); (case z40P1 => tb_start); (case z40hs => assumption); (case z40ho => k_all); (case z40h1 => first | lia | decide); (case z40h2 => first | lia | decide); (focus k_extra "rmD"); (focus k_extra "rmU"); intro k'ₘ tk''ₘ o'ₘ h'ₘ tk'ₘ F'ₘ en1ₘ lkₘ N'ₘ hk1'ₘ hk2'ₘ hs'ₘ; (try dsimp only); (try k_sweep); (try k_fold))))
  k_with "call builtin:len" => ((fail_if_success k_extra "o2"); (k_here; k_dflt (refine' len_open ?z41N ?z41m ?z41f ?_; (case z41N => k_asm); (case z41m => k_mem); (case z41f => lia); k_whole)))
  k_with "subscriptTail" => ((fail_if_success k_extra "o2"); (k_here; k_dflt (refine' item_open ?z42N ?z42m ?z42a ?z42b ?z42f ?_ ?z42hs; (case z42N => k_asm); (case z42m => k_mem); (case z42a => lia); (case z42b => lia); (case z42f => lia); (case z42hs => with_unfolding_all rfl); k_whole); intro v'ₘ hv'ₘ))
  exact True.intro
set_option maxRecDepth 100000 in
set_option maxHeartbeats 8000000 in
theorem one_does (w : World) (S T' : Addr) (o : Obj) (vs : List Value) (n : Nat) (os : List (Addr × Obj)) (hs : Src o) (hoff : ∀ p ∈ os, p.1 ≠ S) (hT : (T', listOf vs.toArray n) ∈ os) (h0 : 0 < vs.length) (h8 : vs.length ≤ 8) :
   Does w 805 3 [.ref S, .ref T'] ((S, o) :: os) (OnePost S vs os) := by
  refine Does.of ?_
  intro dp un gd cn cs a ccd cl outer A₀ base h₀ L m p loose mean mg mb hp0 gn0 dr0 tk0 oo0 Q E B F X N T hk hd hu hret
  revert X; k_fill; intro X
  refine wpAny_call ?_
  k_dflt ktr_enter
  k_steps
  all_goals (exact hret _ _ _ _ (by assumption) (by assumption) ⟨_, List.mem_of_getElem? (by assumption), by assumption, rfl⟩)
end
end Mine
end
section
open PySem PySem.W PyProof.Rows
namespace Mine
inductive F2 where | coalesce | ifnull | max
inductive F3 where | coalesce | iif | iif2
inductive Tr where
  | val (v : Option Int)
  | col (i : Bool)
  | known
  | f0
  | f1 (a : Tr)
  | f2 (k : F2) (a b : Tr)
  | f3 (k : F3) (a b c : Tr)
noncomputable def F2.nm : F2 → String | .coalesce => "coalesce" | .ifnull => "ifnull" | .max => "Max"
noncomputable def F3.nm : F3 → String | .coalesce => "Coalesce" | .iif => "iif" | .iif2 => "IIF"
noncomputable def Tr.depth : Tr → Nat
  | .f1 a => a.depth + 1
  | .f2 _ a b => max a.depth b.depth + 1
  | .f3 _ a b c => max a.depth (max b.depth c.depth) + 1
  | .f0 => 1
  | .val _ => 0
  | .col _ => 0
  | .known => 0
noncomputable abbrev tupO (vs : List Value) (k : Nat) : Obj := { cls := .type "tuple", data := .seq vs.toArray k }
inductive IsVal : Value → Option Int → Prop
  | none : IsVal .none none
  | int {i : Int} {t : Tok} : 0 ≤ i → i < 10 → IsVal (.int i t) (some i)
inductive TreeIn (os : List (Addr × Obj)) : Value → Tr → Prop
  | val {a t v x k} : (a, tupO [.str (Str.ofString "value") t, v] k) ∈ os → IsVal v x → TreeIn os (.ref a) (.val x)
  | col0 {a t u k} : (a, tupO [.str (Str.ofString "column") t, .int 0 u] k) ∈ os → TreeIn os (.ref a) (.col false)
  | col1 {a t u k} : (a, tupO [.str (Str.ofString "column") t, .int 1 u] k) ∈ os → TreeIn os (.ref a) (.col true)
  | known {a t u k} : (a, tupO [.str (Str.ofString "known") t, .int 0 u] k) ∈ os → TreeIn os (.ref a) .known
  | f0 {a t l k n} : (a, tupO [.str (Str.ofString "abs") t, .ref l] k) ∈ os → (l, listOf #[] n) ∈ os → TreeIn os (.ref a) .f0
  | f1 {a t l k n v x} : (a, tupO [.str (Str.ofString "abs") t, .ref l] k) ∈ os → (l, listOf #[v] n) ∈ os → TreeIn os v x → TreeIn os (.ref a) (.f1 x)
  | f2 {a t l k n v1 v2 x1 x2} (F : F2) : (a, tupO [.str (Str.ofString F.nm) t, .ref l] k) ∈ os → (l, listOf #[v1, v2] n) ∈ os → TreeIn os v1 x1 → TreeIn os v2 x2 → TreeIn os (.ref a) (.f2 F x1 x2)
  | f3 {a t l k n v1 v2 v3 x1 x2 x3} (F : F3) : (a, tupO [.str (Str.ofString F.nm) t, .ref l] k) ∈ os → (l, listOf #[v1, v2, v3] n) ∈ os → TreeIn os v1 x1 → TreeIn os v2 x2 → TreeIn os v3 x3 → TreeIn os (.ref a) (.f3 F x1 x2 x3)
theorem TreeIn.mono {os os' : List (Addr × Obj)} (hs : ∀ p ∈ os, p ∈ os') {v : Value} {t : Tr} (h : TreeIn os v t) : TreeIn os' v t := by
  induction h with
  | val h1 h2 => exact .val (hs _ h1) h2
  | col0 h1 => exact .col0 (hs _ h1)
  | col1 h1 => exact .col1 (hs _ h1)
  | known h1 => exact .known (hs _ h1)
  | f0 h1 h2 => exact .f0 (hs _ h1) (hs _ h2)
  | f1 h1 h2 _ i1 => exact .f1 (hs _ h1) (hs _ h2) i1
  | f2 F h1 h2 _ _ i1 i2 => exact .f2 F (hs _ h1) (hs _ h2) i1 i2
  | f3 F h1 h2 _ _ _ i1 i2 i3 => exact .f3 F (hs _ h1) (hs _ h2) i1 i2 i3
inductive TreesIn (os : List (Addr × Obj)) : List Value → List Tr → Prop
  | nil : TreesIn os [] []
  | snoc {vs ts v t} : TreesIn os vs ts → TreeIn os v t → TreesIn os (vs ++ [v]) (ts ++ [t])
theorem TreesIn.mono {os os' : List (Addr × Obj)} (hs : ∀ p ∈ os, p ∈ os') {vs : List Value} {ts : List Tr} (h : TreesIn os vs ts) : TreesIn os' vs ts := by
  induction h with
  | nil => exact .nil
  | snoc _ h2 ih => exact .snoc ih (h2.mono hs)
noncomputable def TreePost (S : Addr) (o : Obj) (d : Nat) (os : List (Addr × Obj)) (r : Value) (news' : List (Addr × Obj)) : Prop :=
  ∃ o' nw t, Src o' ∧ news' = (S, o') :: (nw ++ os) ∧ Apart ((S, o) :: os) nw ∧ TreeIn nw r t ∧ t.depth ≤ d
noncomputable def TreeD (w : World) (d : Nat) : Prop := ∀ (S : Addr) (o : Obj) (deep : Int) (td : Tok) (os : List (Addr × Obj)), Src o → (∀ p ∈ os, p.1 ≠ S) → deep = d → Does w 810 (d + 5) [.ref S, .int deep td] ((S, o) :: os) (TreePost S o d os)
theorem treeD_use {w : World} {d : Nat} (h : TreeD w d) (S : Addr) (o : Obj) (deep : Int) (td : Tok) (os : List (Addr × Obj)) (hs : Src o) (hoff : ∀ p ∈ os, p.1 ≠ S) (hd : deep = d) : Does w 810 (d + 5) [.ref S, .int deep td] ((S, o) :: os) (TreePost S o d os) := h S o deep td os hs hoff hd
section Cur
variable {h₀ : Heap} {L : Addr} {m : Str → Option Value} {gn dr oo} {Q : Value → Shared → Prop}
theorem cur_tree {S : Addr} {o : Obj} {d : Nat} {os : List (Addr × Obj)} {fI : List (Addr × Obj) → List (Addr × Obj)} (I : InsF os fI)
    (ret : ∀ (r : Value) (o8 : Obj) (nw8 : List (Addr × Obj)) (t8 : Tr) (h' : Heap) (tk' : Nat), Fr h₀ L h' m → let x1 : Addr × Obj := (S, o8); let l := x1 :: fI nw8; News h₀ L h' l → Src o8 → Apart ((S, o) :: os) nw8 → TreeIn nw8 r t8 → t8.depth ≤ d → Q r ⟨h', gn, dr, tk', oo⟩) :
    ∀ r news' h' tk', Fr h₀ L h' m → News h₀ L h' news' → TreePost S o d os r news' → Q r ⟨h', gn, dr, tk', oo⟩ := by
  rintro r _ h' tk' F N ⟨o8, nw8, t8, hs, rfl, a, b, c⟩; exact ret r o8 nw8 t8 h' tk' F (news_ins N (I.insT nw8)) hs a b c
end Cur
noncomputable def TreeJ (c1 c2 : Addr × Obj) (S : Addr) (o : Obj) (d : Nat) (os : List (Addr × Obj)) (i : Nat) (ys : List Value) (news : List (Addr × Obj)) : Prop :=
  ∃ o' nw ts, news = c1 :: c2 :: (S, o') :: (nw ++ os) ∧ Src o' ∧ Apart ((S, o) :: os) nw ∧ TreesIn nw ys ts ∧ ts.length = i ∧ ∀ t ∈ ts, t.depth ≤ d
theorem TreeJ.start {c1 c2 : Addr × Obj} {S : Addr} {o o' : Obj} {d : Nat} {os : List (Addr × Obj)} (hs : Src o') : TreeJ c1 c2 S o d os 0 [] (c1 :: c2 :: (S, o') :: os) := ⟨o', [], [], rfl, hs, .nil, .nil, rfl, fun _ h => nomatch h⟩
noncomputable def TreeCtx (c1 c2 : Addr × Obj) (S : Addr) (o : Obj) (d : Nat) (os : List (Addr × Obj)) : Prop := True
section
variable {prog : Program} {w : World} {A : Around} {h₀ : Heap} {L : Addr} {m : Str → Option Value} {env : Env} {elt : PySem.Expr} {x : Str} {scope : Scope} {cl : List (Str × Addr)} {s₁ : Shared} {Fin : Shared → List Value → List (Addr × Obj) → Prop}
theorem tree_src {c1 c2 : Addr × Obj} {S r : Addr} {o o' : Obj} {d : Nat} {os l : List (Addr × Obj)} {k : Int} {t u v : Tok} (uM : TreeCtx c1 c2 S o d os) (hh : A.handled = none) (F : Fr h₀ L s₁.heap m) (N : News h₀ L s₁.heap l) (m1 : c1 ∈ l) (m2 : c2 ∈ l) (mS : (S, o') ∈ l) (mo : ∀ p ∈ os, p ∈ l) (hs : Src o')
    (hr : IsRange s₁.heap r 0 k 1 t u v) (hk0 : 0 ≤ k) (hk3 : k ≤ 3)
    (turn : ∀ gq i v I oI C oC D m₂ ys o7 nw ts h tk (E' : Value → Shared → Prop), LCg.NsObj oC m₂ → m₂ x = some v → Fr h₀ L h m → News h₀ L h ((I, oI) :: (C, oC) :: (D, LCg.lst ys) :: c1 :: c2 :: (S, o7) :: (nw ++ os)) → Src o7 → Apart ((S, o) :: os) nw → TreesIn nw ys ts → ts.length = i → (∀ t ∈ ts, t.depth ≤ d) →
      (c1.1 ≠ I ∧ c1.1 ≠ C ∧ c1.1 ≠ D) → (c2.1 ≠ I ∧ c2.1 ≠ C ∧ c2.1 ≠ D) → ((@Ne Nat S I) ∧ (@Ne Nat S C) ∧ (@Ne Nat S D)) → LCg.Off3 I C D (nw ++ os) → ((@Ne Nat I C) ∧ (@Ne Nat I D) ∧ (@Ne Nat C D)) →
      wpAny (model prog w) A (eval elt (compEnvC scope cl C env)) (LCg.CompEnd h₀ L m { s₁ with heap := h, toks := tk } I oI C oC D (LCg.lst ys) (fun _ => True) (fun y news' => TreeJ c1 c2 S o d os (i + 1) (ys ++ [y]) news')) E' { ({ s₁ with heap := gq } : Shared) with heap := h, toks := tk })
    (fin : ∀ gq ys o7 nw ts, Src o7 → Apart ((S, o) :: os) nw → TreesIn nw ys ts → ts.length = (k - 0).toNat → (∀ t ∈ ts, t.depth ≤ d) → Fin { s₁ with heap := gq } ys (c1 :: c2 :: (S, o7) :: (nw ++ os))) :
    LCg.CompSrc prog w A h₀ L m env elt x scope cl Fin (.ref r) s₁ := by
  refine LCg.CompSrc.range (n := (k - 0).toNat) (news := c1 :: c2 :: (S, o') :: os) hh F (news_sub N fun p hp => ?_) hr (small_one (by lia) (by lia) (by lia) (by lia)) (rangeSize_nat _ _) (by rw [PySem.sizeLine_eq]; lia) fun gq => ?_
  · rcases List.mem_cons.mp hp with rfl | hp
    · exact m1
    · rcases List.mem_cons.mp hp with rfl | hp
      · exact m2
      · rcases List.mem_cons.mp hp with rfl | hp
        · exact mS
        · exact mo p hp
  · refine comp_rest (TreeJ c1 c2 S o d os) (TreeJ.start hs) (fun i v I oI C oC D m₂ ys news₁ h tk E' hi hv hJ hC hx F N off ne => ?_) fun ys news' hJ => ?_
    · obtain ⟨o7, nw, ts, rfl, hs7, ha7, hts, hlen, hdep⟩ := hJ
      obtain ⟨off1, off2, off3, off4⟩ := off
      exact turn gq i v I oI C oC D m₂ ys o7 nw ts h tk E' hC hx F N hs7 ha7 hts hlen hdep off1 off2 off3 off4 ne
    · obtain ⟨o7, nw, ts, rfl, hs7, ha7, hts, hlen, hdep⟩ := hJ
      exact fin gq ys o7 nw ts hs7 ha7 hts hlen hdep
end
theorem Apart.to {S : Addr} {o o7 : Obj} {os l nw : List (Addr × Obj)} (h : Apart l nw) (m : (S, o7) ∈ l) (hs : ∀ q ∈ os, q ∈ l) : Apart ((S, o) :: os) nw := fun q hq p hp => by
  rcases List.mem_cons.mp hq with rfl | hq
  · exact h _ m p hp
  · exact h _ (hs q hq) p hp
theorem off3_tail {I C D : Addr} {nw8 nw os : List (Addr × Obj)} (k1 : ∀ p ∈ nw8, p.1 ≠ I) (k2 : ∀ p ∈ nw8, p.1 ≠ C) (k3 : ∀ p ∈ nw8, p.1 ≠ D) (h : LCg.Off3 I C D (nw ++ os)) : LCg.Off3 I C D ((nw8 ++ nw) ++ os) :=
  LCg.Off3.of fun p hp => by
    rw [List.append_assoc] at hp
    rcases List.mem_append.mp hp with hp | hp
    · exact ⟨k1 p hp, k2 p hp, k3 p hp⟩
    · exact h.mem p hp
theorem leaf_end {S : Addr} {o o' : Obj} {d : Nat} {os : List (Addr × Obj)} {a : Addr} {ob : Obj} {t : Tr} (hs : Src o') (hd : ∀ q ∈ (S, o) :: os, q.1 ≠ a) (ht : TreeIn [(a, ob)] (.ref a) t) (h0 : t.depth = 0) : TreePost S o d os (.ref a) ((S, o') :: ([(a, ob)] ++ os)) :=
  ⟨o', [(a, ob)], t, hs, rfl, .cons hd .nil, ht, by rw [h0]; exact Nat.zero_le _⟩
theorem turn_end {c1 c2 : Addr × Obj} {S : Addr} {o o7 o8 : Obj} {d : Nat} {os l nw nw8 : List (Addr × Obj)} {i : Nat} {ys : List Value} {v : Value} {ts : List Tr} {t : Tr} (hs : Src o8) (ha : Apart ((S, o) :: os) nw) (hts : TreesIn nw ys ts) (hlen : ts.length = i) (hdep : ∀ t ∈ ts, t.depth ≤ d)
    (ha8 : Apart l nw8) (m : (S, o7) ∈ l) (hsub : ∀ q ∈ os, q ∈ l) (ht : TreeIn nw8 v t) (hd : t.depth ≤ d) : TreeJ c1 c2 S o d os (i + 1) (ys ++ [v]) (c1 :: c2 :: (S, o8) :: ((nw8 ++ nw) ++ os)) :=
  ⟨o8, nw8 ++ nw, ts ++ [t], rfl, hs, (ha8.to m hsub).app ha, .snoc (hts.mono fun _ => mem_apr) (ht.mono fun _ => mem_apl), by rw [List.length_append, hlen]; rfl, fun t' h' => by
    rcases List.mem_append.mp h' with h' | h'
    · exact hdep _ h'
    · rw [List.mem_singleton.mp h']; exact hd⟩
noncomputable def Shape (vn : Value) (n : Nat) : Prop := (n = 0 ∧ ∃ u, vn = .str (Str.ofString "abs") u) ∨ (n = 1 ∧ ∃ u, vn = .str (Str.ofString "abs") u) ∨ (n = 2 ∧ ∃ F : F2, ∃ u, vn = .str (Str.ofString F.nm) u) ∨ (n = 3 ∧ ∃ F : F3, ∃ u, vn = .str (Str.ofString F.nm) u)
theorem trees0 {os : List (Addr × Obj)} {ys : List Value} {ts : List Tr} (h : TreesIn os ys ts) (e : ts.length = 0) : ys = [] := by
  cases h with
  | nil => rfl
  | snoc => simp at e
theorem trees_pop {os : List (Addr × Obj)} {ys : List Value} {ts : List Tr} {n : Nat} (h : TreesIn os ys ts) (e : ts.length = n + 1) : ∃ ys' v ts' t, ys = ys' ++ [v] ∧ ts = ts' ++ [t] ∧ TreesIn os ys' ts' ∧ TreeIn os v t ∧ ts'.length = n := by
  cases h with
  | nil => simp at e
  | snoc h1 h2 => exact ⟨_, _, _, _, rfl, rfl, h1, h2, by simpa using e⟩
theorem tree_fin {S T D : Addr} {o o7 : Obj} {d k : Nat} {os l nw : List (Addr × Obj)} {h₀ h : Heap} {L : Addr} {vn : Value} {n : Nat} {ys : List Value} {ts : List Tr} (N : News h₀ L h l) (mT : (T, tupO [vn, .ref D] k) ∈ l) (mD : (D, LCg.lst ys) ∈ l) (mS : (S, o7) ∈ l) (mt : ∀ p ∈ nw ++ os, p ∈ l)
    (hs : Src o7) (ha : Apart ((S, o) :: os) nw) (hts : TreesIn nw ys ts) (hlen : ts.length = n) (hdep : ∀ t ∈ ts, t.depth ≤ d) (hT : ∀ q ∈ (S, o) :: (nw ++ os), q.1 ≠ T) (hDS : S ≠ D) (hD : LCg.Off1 D (nw ++ os)) (sh : Shape vn n) :
    ∃ news', News h₀ L h news' ∧ TreePost S o (d + 1) os (.ref T) news' := by
  have offD : ∀ p ∈ nw ++ os, p.1 ≠ D := by
    have key : ∀ {x : List (Addr × Obj)}, LCg.Off1 D x → ∀ p ∈ x, p.1 ≠ D := by
      intro x
      induction x with
      | nil => exact fun _ _ h => nomatch h
      | cons a r ih =>
        intro hx p hp
        rcases List.mem_cons.mp hp with rfl | hp
        · exact hx.1
        · exact ih hx.2 p hp
    exact key hD
  let nw' := (T, tupO [vn, .ref D] k) :: (D, LCg.lst ys) :: nw
  have hap : Apart ((S, o) :: os) nw' := by
    refine .cons (fun q hq => ?_) (.cons (fun q hq => ?_) ha)
    · rcases List.mem_cons.mp hq with rfl | hq
      · exact hT _ (.head _)
      · exact hT _ (.tail _ (mem_apr hq))
    · rcases List.mem_cons.mp hq with rfl | hq
      · exact hDS
      · exact offD _ (mem_apr hq)
  have hN : News h₀ L h ((S, o7) :: (nw' ++ os)) := news_sub N fun p hp => by
    rcases List.mem_cons.mp hp with rfl | hp
    · exact mS
    · rcases List.mem_cons.mp hp with rfl | hp
      · exact mT
      · rcases List.mem_cons.mp hp with rfl | hp
        · exact mD
        · exact mt p hp
  have hsub : ∀ p ∈ nw, p ∈ nw' := fun p hp => .tail _ (.tail _ hp)
  suffices H : ∃ t, TreeIn nw' (.ref T) t ∧ t.depth ≤ d + 1 by
    obtain ⟨t, h1, h2⟩ := H
    exact ⟨_, hN, o7, nw', t, hs, rfl, hap, h1, h2⟩
  rcases sh with ⟨rfl, u, rfl⟩ | ⟨rfl, u, rfl⟩ | ⟨rfl, F, u, rfl⟩ | ⟨rfl, F, u, rfl⟩
  · have e := trees0 hts hlen
    subst e
    exact ⟨.f0, .f0 (.head _) (.tail _ (.head _)), by simp [Tr.depth]⟩
  · obtain ⟨ys', v, ts', t, rfl, rfl, h1, h2, e1⟩ := trees_pop hts hlen
    have e := trees0 h1 e1
    subst e
    refine ⟨.f1 t, .f1 (.head _) (.tail _ (.head _)) (h2.mono hsub), ?_⟩
    have := hdep t (by simp)
    simp only [Tr.depth]; lia
  · obtain ⟨ys1, v1, ts1, t1, rfl, rfl, h1, k1, e1⟩ := trees_pop hts hlen
    obtain ⟨ys2, v2, ts2, t2, rfl, rfl, h2, k2, e2⟩ := trees_pop h1 e1
    have e := trees0 h2 e2
    subst e
    refine ⟨.f2 F t2 t1, .f2 F (.head _) (.tail _ (.head _)) (k2.mono hsub) (k1.mono hsub), ?_⟩
    have := hdep t1 (by simp)
    have := hdep t2 (by simp)
    simp only [Tr.depth]; lia
  · obtain ⟨ys1, v1, ts1, t1, rfl, rfl, h1, k1, e1⟩ := trees_pop hts hlen
    obtain ⟨ys2, v2, ts2, t2, rfl, rfl, h2, k2, e2⟩ := trees_pop h1 e1
    obtain ⟨ys3, v3, ts3, t3, rfl, rfl, h3, k3, e3⟩ := trees_pop h2 e2
    have e := trees0 h3 e3
    subst e
    refine ⟨.f3 F t3 t2 t1, .f3 F (.head _) (.tail _ (.head _)) (k3.mono hsub) (k2.mono hsub) (k1.mono hsub), ?_⟩
    have := hdep t1 (by simp)
    have := hdep t2 (by simp)
    have := hdep t3 (by simp)
    simp only [Tr.depth]; lia
theorem tree_back {S T D : Addr} {o o7 : Obj} {d k : Nat} {os l nw : List (Addr × Obj)} {h₀ h : Heap} {L : Addr} {vn : Value} {n : Nat} {ys : List Value} {ts : List Tr} {m : Str → Option Value} {gn dr oo} {tk : Nat} {Q : Value → Shared → Prop}
    (hret : ∀ r news' h' tk', Fr h₀ L h' m → News h₀ L h' news' → TreePost S o (d + 1) os r news' → Q r ⟨h', gn, dr, tk', oo⟩) (F : Fr h₀ L h m)
    (N : News h₀ L h l) (mT : (T, tupO [vn, .ref D] k) ∈ l) (mD : (D, LCg.lst ys) ∈ l) (mS : (S, o7) ∈ l) (mt : ∀ p ∈ nw ++ os, p ∈ l)
    (hs : Src o7) (ha : Apart ((S, o) :: os) nw) (hts : TreesIn nw ys ts) (hlen : ts.length = n) (hdep : ∀ t ∈ ts, t.depth ≤ d) (hT : ∀ q ∈ (S, o) :: (nw ++ os), q.1 ≠ T) (hDS : S ≠ D) (hD : LCg.Off1 D (nw ++ os)) (sh : Shape vn n) :
    Q (.ref T) ⟨h, gn, dr, tk, oo⟩ := by
  obtain ⟨news', N2, P⟩ := tree_fin N mT mD mS mt hs ha hts hlen hdep hT hDS hD sh
  exact hret _ _ _ _ F N2 P
theorem leaf_back {S a : Addr} {o o' ob : Obj} {d : Nat} {os l : List (Addr × Obj)} {h₀ h : Heap} {L : Addr} {m : Str → Option Value} {gn dr oo} {tk : Nat} {Q : Value → Shared → Prop} {t : Tr}
    (hret : ∀ r news' h' tk', Fr h₀ L h' m → News h₀ L h' news' → TreePost S o d os r news' → Q r ⟨h', gn, dr, tk', oo⟩) (F : Fr h₀ L h m)
    (N : News h₀ L h l) (mS : (S, o') ∈ l) (ma : (a, ob) ∈ l) (mt : ∀ p ∈ os, p ∈ l) (hs : Src o') (hd : ∀ q ∈ (S, o) :: os, q.1 ≠ a) (ht : TreeIn [(a, ob)] (.ref a) t) (h0 : t.depth = 0) :
    Q (.ref a) ⟨h, gn, dr, tk, oo⟩ :=
  hret _ _ _ _ F (news_sub N fun p hp => by
    rcases List.mem_cons.mp hp with rfl | hp
    · exact mS
    · rcases List.mem_cons.mp hp with rfl | hp
      · exact ma
      · exact mt p hp) (leaf_end hs hd ht h0)
noncomputable def Leaf (S : Addr) (o : Obj) (os l : List (Addr × Obj)) (r : Value) : Prop := ∃ a ob t, r = .ref a ∧ (a, ob) ∈ l ∧ (∀ q ∈ (S, o) :: os, q.1 ≠ a) ∧ TreeIn [(a, ob)] (.ref a) t ∧ t.depth = 0
theorem Leaf.mk {S a : Addr} {o ob : Obj} {os l : List (Addr × Obj)} {t : Tr} (ma : (a, ob) ∈ l) (hd : ∀ q ∈ (S, o) :: os, q.1 ≠ a) (ht : TreeIn [(a, ob)] (.ref a) t) (h0 : t.depth = 0) : Leaf S o os l (.ref a) := ⟨a, ob, t, rfl, ma, hd, ht, h0⟩
theorem all8 {P : Value → Prop} {a1 a2 a3 a4 a5 a6 a7 a8 r : Value} (h1 : P a1) (h2 : P a2) (h3 : P a3) (h4 : P a4) (h5 : P a5) (h6 : P a6) (h7 : P a7) (h8 : P a8) (hv : r ∈ [a1, a2, a3, a4, a5, a6, a7, a8]) : P r := by
  simp only [List.mem_cons, List.not_mem_nil, or_false] at hv
  rcases hv with rfl | rfl | rfl | rfl | rfl | rfl | rfl | rfl <;> assumption
theorem leaf_all {S : Addr} {o o' : Obj} {d : Nat} {os l : List (Addr × Obj)} {h₀ h : Heap} {L : Addr} {m : Str → Option Value} {gn dr oo} {tk : Nat} {Q : Value → Shared → Prop} {r : Value}
    (hret : ∀ r news' h' tk', Fr h₀ L h' m → News h₀ L h' news' → TreePost S o d os r news' → Q r ⟨h', gn, dr, tk', oo⟩) (F : Fr h₀ L h m)
    (N : News h₀ L h l) (mS : (S, o') ∈ l) (mt : ∀ p ∈ os, p ∈ l) (hs : Src o') (k : Leaf S o os l r) : Q r ⟨h, gn, dr, tk, oo⟩ := by
  obtain ⟨a, ob, t, rfl, ma, hd, ht, h0⟩ := k
  exact leaf_back hret F N mS ma mt hs hd ht h0
theorem turn_back {c1 c2 : Addr × Obj} {S I C D : Addr} {o o7 o8 oI oC oD1 oI1 oC1 : Obj} {d : Nat} {os l l8 nw nw8 : List (Addr × Obj)} {i : Nat} {ys : List Value} {v : Value} {ts : List Tr} {t : Tr} {h₀ h : Heap} {L : Addr} {m : Str → Option Value} {s₁ : Shared} {tk : Nat} (uM : TreeCtx c1 c2 S o d os)
    (ht : TreeIn nw8 v t) (hd : t.depth ≤ d) (ha8 : Apart l8 nw8) (m8 : (S, o7) ∈ l8) (mI : (I, oI1) ∈ l8) (mC : (C, oC1) ∈ l8) (mD : (D, oD1) ∈ l8) (hsub8 : ∀ q ∈ os, q ∈ l8) (ha : Apart ((S, o) :: os) nw) (hts : TreesIn nw ys ts) (hlen : ts.length = i) (hdep : ∀ t ∈ ts, t.depth ≤ d)
    (F : Fr h₀ L h m) (N : News h₀ L h l) (sub : ∀ p ∈ (I, oI) :: (C, oC) :: (D, LCg.lst ys) :: c1 :: c2 :: (S, o8) :: (nw8 ++ (nw ++ os)), p ∈ l) (hs : Src o8)
    (off1 : c1.1 ≠ I ∧ c1.1 ≠ C ∧ c1.1 ≠ D) (off2 : c2.1 ≠ I ∧ c2.1 ≠ C ∧ c2.1 ≠ D) (off3 : S ≠ I ∧ S ≠ C ∧ S ≠ D) (off4 : LCg.Off3 I C D (nw ++ os)) :
    LCg.CompEnd h₀ L m s₁ I oI C oC D (LCg.lst ys) (fun _ => True) (fun y news' => TreeJ c1 c2 S o d os (i + 1) (ys ++ [y]) news') v { s₁ with heap := h, toks := tk } :=
  LCg.CompEnd.intro F N (c1 :: c2 :: (S, o8) :: ((nw8 ++ nw) ++ os)) (by rw [List.append_assoc]; exact sub) ⟨off1, off2, off3, off3_tail (ha8.off mI) (ha8.off mC) (ha8.off mD) off4⟩ trivial
    (turn_end hs ha hts hlen hdep ha8 m8 hsub8 ht hd)
theorem zip_mem {l1 l2 : List Value} {i : Nat} {a b : Value} (h1 : l1[i]? = some a) (h2 : l2[i]? = some b) : (a, b) ∈ l1.zip l2 := List.mem_of_getElem? (i := i) (by rw [List.getElem?_zip_eq_some]; exact ⟨h1, h2⟩)
section
variable {k : Int} {vm vn : Value} {t0 t1 t2 t3 t4 t5 t6 u0 u1 u2 u3 u4 u5 u6 : Tok}
noncomputable def ShP (p : Value × Value) : Prop := ∀ m t, p.1 = .int m t → Shape p.2 (m - 0).toNat
theorem shP {m : Int} {t : Tok} {v : Value} (h : Shape v (m - 0).toNat) : ShP (.int m t, v) := fun _ _ e => by cases e; exact h
theorem shape_any {m : Int} {t : Tok} (hm : [Value.int 2 t0, .int 3 t1, .int 2 t2, .int 3 t3, .int 3 t4, .int 1 t5, .int 2 t6][k.toNat]? = some (.int m t))
    (hn : [Value.str (Str.ofString "coalesce") u0, .str (Str.ofString "Coalesce") u1, .str (Str.ofString "ifnull") u2, .str (Str.ofString "iif") u3, .str (Str.ofString "IIF") u4, .str (Str.ofString "abs") u5, .str (Str.ofString "Max") u6][k.toNat]? = some vn)
    (_ : ¬ k = 7) (_ : 0 ≤ k) (_ : k < 8) : Shape vn (m - 0).toNat := by
  have key : ∀ p ∈ List.zip [Value.int 2 t0, .int 3 t1, .int 2 t2, .int 3 t3, .int 3 t4, .int 1 t5, .int 2 t6] [Value.str (Str.ofString "coalesce") u0, .str (Str.ofString "Coalesce") u1, .str (Str.ofString "ifnull") u2, .str (Str.ofString "iif") u3, .str (Str.ofString "IIF") u4, .str (Str.ofString "abs") u5, .str (Str.ofString "Max") u6], ShP p :=
    List.forall_mem_cons.mpr ⟨shP (.inr (.inr (.inl ⟨rfl, .coalesce, _, rfl⟩))), List.forall_mem_cons.mpr ⟨shP (.inr (.inr (.inr ⟨rfl, .coalesce, _, rfl⟩))), List.forall_mem_cons.mpr ⟨shP (.inr (.inr (.inl ⟨rfl, .ifnull, _, rfl⟩))), List.forall_mem_cons.mpr ⟨shP (.inr (.inr (.inr ⟨rfl, .iif, _, rfl⟩))),
      List.forall_mem_cons.mpr ⟨shP (.inr (.inr (.inr ⟨rfl, .iif2, _, rfl⟩))), List.forall_mem_cons.mpr ⟨shP (.inr (.inl ⟨rfl, _, rfl⟩)), List.forall_mem_cons.mpr ⟨shP (.inr (.inr (.inl ⟨rfl, .max, _, rfl⟩))), List.forall_mem_nil _⟩⟩⟩⟩⟩⟩⟩
  exact key _ (zip_mem hm hn) _ _ rfl
theorem shape_0 (hn : [Value.str (Str.ofString "coalesce") u0, .str (Str.ofString "Coalesce") u1, .str (Str.ofString "ifnull") u2, .str (Str.ofString "iif") u3, .str (Str.ofString "IIF") u4, .str (Str.ofString "abs") u5, .str (Str.ofString "Max") u6][k.toNat]? = some vn)
    (h5 : k = 5) : Shape vn (0 - 0 : Int).toNat := by
  subst h5
  cases hn
  exact .inl ⟨rfl, _, rfl⟩
noncomputable def MnP (v : Value) : Prop := ∃ m t, v = .int m t ∧ 1 ≤ m ∧ m ≤ 3
theorem many_any (hm : [Value.int 2 t0, .int 3 t1, .int 2 t2, .int 3 t3, .int 3 t4, .int 1 t5, .int 2 t6][k.toNat]? = some vm) (_ : ¬ k = 7) (_ : 0 ≤ k) (_ : k < 8) : ∃ m t, vm = .int m t ∧ 1 ≤ m ∧ m ≤ 3 := by
  have two : ∀ t, MnP (.int 2 t) := fun t => ⟨_, _, rfl, by decide, by decide⟩
  have three : ∀ t, MnP (.int 3 t) := fun t => ⟨_, _, rfl, by decide, by decide⟩
  have key : ∀ v ∈ [Value.int 2 t0, .int 3 t1, .int 2 t2, .int 3 t3, .int 3 t4, .int 1 t5, .int 2 t6], MnP v :=
    List.forall_mem_cons.mpr ⟨two _, List.forall_mem_cons.mpr ⟨three _, List.forall_mem_cons.mpr ⟨two _, List.forall_mem_cons.mpr ⟨three _, List.forall_mem_cons.mpr ⟨three _, List.forall_mem_cons.mpr ⟨⟨_, _, rfl, by decide, by decide⟩, List.forall_mem_cons.mpr ⟨two _, List.forall_mem_nil _⟩⟩⟩⟩⟩⟩⟩
  exact key _ (List.mem_of_getElem? hm)
end
section
theorem lines3 : True := by
  k_with "o2" => skip
  k_with "subscriptTail Name" => ((fail_if_success k_extra "o3"); k_extra "subscriptTail")
  k_with "subscriptTail Name Constant ref int" => ((fail_if_success k_extra "o3"); k_extra "subscriptTail")
  k_with "subscriptTail Name Name ref int" => ((fail_if_success k_extra "o3"); k_extra "subscriptTail")
  k_with "call ref" => ((fail_if_success k_extra "o3"); (k_here; (with_reducible show wpAny _ _ (call (Value.ref 798) _) _ _ _); k_dflt (refine' usx1 ?z43B ?z43F ?z43X ?z43N ?z43T ?z43hk ?z43P1 (take_does _ _ _ _ _ _ ?z43hs ?z43ho ?z43h1 ?z43h2) ?_ ?_ (cur_take ?_); (case z43B => k_asm); (case z43F => k_asm); (case z43X => k_asm); (case z43N => k_asm); (case z43T => k_asm); (case z43hk => first | exact rfl | assumption); (case z43P1 => tb_start); (case z43hs => assumption); (case z43ho => k_all); (case z43h1 => first | lia | decide); (case z43h2 => first | lia | decide); (focus k_extra "rmD"); (focus k_extra "rmU"); intro k'ₘ tk''ₘ o'ₘ h'ₘ tk'ₘ F'ₘ en1ₘ lkₘ N'ₘ hk1'ₘ hk2'ₘ hs'ₘ; (try dsimp only); (try k_sweep); (try k_fold))))
  k_with "call ref" => ((fail_if_success k_extra "o3"); (k_here; (with_reducible show wpAny _ _ (call (Value.ref 805) _) _ _ _); k_dflt (refine' usx1 ?z44B ?z44F ?z44X ?z44N ?z44T ?z44hk ?z44P1 (one_does _ _ _ _ _ _ _ ?z44hs ?z44ho ?z44hT ?z44h1 ?z44h2) ?_ ?_ (cur_one ?_); (case z44B => k_asm); (case z44F => k_asm); (case z44X => k_asm); (case z44N => k_asm); (case z44T => k_asm); (case z44hk => first | exact rfl | assumption); (case z44P1 => tb_start); (case z44hs => assumption); (case z44ho => k_all); (case z44hT => k_mem); (case z44h1 => first | decide | (simp; done) | lia); (case z44h2 => first | decide | (simp; done) | lia); (focus k_extra "rmD"); (focus k_extra "rmU"); intro r'ₘ o'ₘ h'ₘ tk'ₘ F'ₘ en1ₘ lkₘ N'ₘ hv'ₘ hs'ₘ; (try dsimp only); (try k_sweep); (try k_fold))))
  k_with "call ref" => ((fail_if_success k_extra "o3"); (k_here; (with_reducible show wpAny _ _ (call (Value.ref 810) _) _ _ _); k_dflt (refine' usx1 ?z45B ?z45F ?z45X ?z45N ?z45T ?z45hk ?z45P1 (treeD_use (by assumption) _ _ _ _ _ ?z45hs ?z45ho ?z45h1) ?_ ?_ (cur_tree ?z45ik ?_); (case z45B => k_asm); (case z45F => k_asm); (case z45X => k_asm); (case z45N => k_asm); (case z45T => k_asm); (case z45hk => first | exact rfl | assumption); (case z45P1 => tb_start); (case z45hs => assumption); (case z45ho => k_all); (case z45h1 => lia); (case z45ik => ktr_rel); (focus k_extra "rmD"); (focus k_extra "rmU"); intro r'ₘ o8ₘ nw8ₘ t8ₘ h'ₘ tk'ₘ F'ₘ en1ₘ lkₘ N'ₘ hs8ₘ ha8ₘ ht8ₘ hd8ₘ; (try dsimp only); (try k_sweep); (try k_fold))))
  k_with "subscriptTail" => ((fail_if_success k_extra "o3"); (k_here; (with_reducible show wpAny _ _ (subscriptTail _ _ (Value.ref _) (Value.int _ _)) _ _ _); k_dflt (refine' item_open ?z46N ?z46m ?z46a ?z46b ?z46f ?_ ?z46hs; (case z46N => k_asm); (case z46m => k_mem); (case z46a => lia); (case z46b => (simp only [List.length_cons, List.length_nil]; lia)); (case z46f => (simp only [List.length_cons, List.length_nil]; lia)); (case z46hs => with_unfolding_all rfl); k_whole); intro v'ₘ hv'ₘ))
  k_with "call type:range" => ((fail_if_success k_extra "o3"); (k_here; (obtain ⟨m9ₘ, t9ₘ, e9ₘ, hl9ₘ, hg9ₘ⟩ := many_any (by assumption) (by assumption) (by assumption) (by assumption)); subst e9ₘ))
  k_with "CompSrc" => ((fail_if_success k_extra "o3"); (k_here; k_dflt ( refine' tree_src (by with_reducible assumption) rfl (by k_asm) (by k_asm) (by k_mem) (by k_mem) (by k_mem) (by lcg_sub) (by assumption) (by assumption) (by lia) (by lia) ?_ ?_; (intro gq i v I oI C oC D m₂ ys o7 nw ts h tk E' hC hx F N hs7 ha7 hts hlen hdep off1 off2 off3 off4 ne; (have nq0 := off3.1); (have nq1 := off3.2.1); (have nq2 := off3.2.2); (have nq3 := ne.1); (have nq4 := ne.2.1); (have nq5 := ne.2.2); (try dsimp only); (try k_fold)); rotate_left; (intro gq ys o7 nw ts hs7 ha7 hts hlen hdep; (try dsimp only)); rotate_right)))
  k_with "FinE" => ((fail_if_success k_extra "o3"); ((unfold LCg.FinE); intro Dq hq tkq Fq Nq o1q; (try simp only [List.nil_append, List.cons_append] at Nq); (try dsimp only)))
  k_with "leaf" => ((fail_if_success k_extra "o3"); (refine' Leaf.mk ?z47ma ?z47hd ?z47ht ?z47h0; (case z47ma => k_mem); (case z47hd => k_all); (case z47ht => first | exact TreeIn.val mem_hd .none | exact TreeIn.val mem_hd (.int (by decide) (by decide)) | exact .col0 mem_hd | exact .col1 mem_hd | exact .known mem_hd); (case z47h0 => rfl)))
  k_with "tb_rel" => ((fail_if_success k_extra "o3"); ( (rename (_ ∈ ([_, _, _, _, _, _, _, _] : List Value)) => hv); (refine' leaf_all hret ?z48f ?z48n ?z48mS ?z48mt ?z48hs (all8 ?z48a1 ?z48a2 ?z48a3 ?z48a4 ?z48a5 ?z48a6 ?z48a7 ?z48a8 hv); (case z48f => assumption); (case z48n => assumption); (case z48mS => k_mem); (case z48mt => lcg_sub); (case z48hs => assumption); (case z48a1 => k_extra "leaf"); (case z48a2 => k_extra "leaf"); (case z48a3 => k_extra "leaf"); (case z48a4 => k_extra "leaf"); (case z48a5 => k_extra "leaf"); (case z48a6 => k_extra "leaf"); (case z48a7 => k_extra "leaf"); (case z48a8 => k_extra "leaf"))))
  k_with "kcf_m" => ((fail_if_success k_extra "o3"); ( (try k_unmd); (try k_unfold); refine' turn_back (by with_reducible assumption) ?z49t1 ?z49t2 ?z49t3 ?z49t4 ?z49t5 ?z49t6 ?z49t7 ?z49t8 ?z49u1 ?z49u2 ?z49u3 ?z49u4 ?z49f ?z49n ?z49sb ?z49hs ?z49w1 ?z49w2 ?z49w3 ?z49w4; (case z49t1 => with_reducible assumption); (case z49t2 => with_reducible assumption); (case z49t3 => with_reducible assumption); (case z49t4 => k_mem); (case z49t5 => k_mem); (case z49t6 => k_mem); (case z49t7 => k_mem); (case z49t8 => lcg_sub); (case z49u1 => with_reducible assumption); (case z49u2 => with_reducible assumption); (case z49u3 => with_reducible assumption); (case z49u4 => with_reducible assumption); (case z49f => with_reducible assumption); (case z49n => with_reducible assumption); (case z49sb => lcg_sub); (case z49hs => with_reducible assumption); (case z49w1 => with_reducible assumption); (case z49w2 => with_reducible assumption); (case z49w3 => with_reducible assumption); (case z49w4 => with_reducible assumption)))
  k_with "kcf_all" => ((fail_if_success k_extra "o3"); ( refine' tree_back hret (by with_reducible assumption) (by with_reducible assumption) (by k_mem) (by k_mem) (by k_mem) (by lcg_sub) hs7 ha7 hts hlen hdep (by k_all) o1q.2.2.1 o1q.2.2.2 (by first | exact shape_any (by with_reducible assumption) (by with_reducible assumption) (by with_reducible assumption) (by with_reducible assumption) (by with_reducible assumption) | exact shape_0 (by with_reducible assumption) (by with_reducible assumption))))
  exact True.intro
set_option maxRecDepth 100000 in
set_option maxHeartbeats 2000000 in
theorem tree_does (w : World) (d : Nat) : TreeD w d := by
  induction d with
  | zero =>
    intro S o deep td os hs hoff hdp
    replace hdp : deep = 0 := hdp
    subst hdp
    refine Does.of ?_
    intro dp un gd cn cs a ccd cl outer A₀ base h₀ L m p loose mean mg mb hp0 gn0 dr0 tk0 oo0 Q E B F X N T hk hd hu hret
    revert X; k_fill; intro X
    refine wpAny_call ?_
    k_dflt (refine' code_defC ?k1 ?k2 ?k3 ?k4 ?k5 ?kA ?kF ?kK ?k6 ?k7 ?k8 ?k9 ?kB ?kD ?_ ?c2 ?c3 ?c4; (case kA => exact rfl); (case kF => exact rfl); (case kK => first | exact rfl | assumption); (case k1 => k_asm); (case k2 => k_asm); (case k3 => k_asm); (case k4 => k_asm); (case k5 => k_asm); (case k6 => k_is); (case k7 => k_is); (case k8 => k_room); (case k9 => exact BindsTo.of_eq rfl); (case kB => exact rfl); (case kD => decide +kernel); (case c2 => exact rfl); (case c3 => exact rfl); (case c4 => exact rfl); k_whole; intro g' L' h' tk' cells' FG' F' N' Y' B' X' T' l1; (try k_lt l1); have hY := CellsAre.two Y'; obtain ⟨oc1, oc2, hE, dc1, dc2⟩ := hY; subst hE; clear Y'; (try simp only [List.cons_append, List.nil_append] at N'); refine letF F' ?_; clear F'; intro mk F'; (first | (refine letN6 N' ?_; clear N'; intro e1 e2 e3 e4 e5 e6 lk N') | (refine letN5 N' ?_; clear N'; intro e1 e2 e3 e4 e5 lk N') | (refine letN4 N' ?_; clear N'; intro e1 e2 e3 e4 lk N') | (refine letN3 N' ?_; clear N'; intro e1 e2 e3 lk N') | (refine letN2 N' ?_; clear N'; intro e1 e2 lk N') | (refine letN1 N' ?_; clear N'; intro e1 lk N') | skip); (try dsimp only); (try k_lift B'); (try k_fold))
    k_steps
    all_goals tb_rel
  | succ d ih =>
    intro S o deep td os hs hoff hdp
    refine Does.of ?_
    intro dp un gd cn cs a ccd cl outer A₀ base h₀ L m p loose mean mg mb hp0 gn0 dr0 tk0 oo0 Q E B F X N T hk hd hu hret
    revert X; k_fill; intro X
    refine wpAny_call ?_
    k_dflt (refine' code_defC ?k1 ?k2 ?k3 ?k4 ?k5 ?kA ?kF ?kK ?k6 ?k7 ?k8 ?k9 ?kB ?kD ?_ ?c2 ?c3 ?c4; (case kA => exact rfl); (case kF => exact rfl); (case kK => first | exact rfl | assumption); (case k1 => k_asm); (case k2 => k_asm); (case k3 => k_asm); (case k4 => k_asm); (case k5 => k_asm); (case k6 => k_is); (case k7 => k_is); (case k8 => k_room); (case k9 => exact BindsTo.of_eq rfl); (case kB => exact rfl); (case kD => decide +kernel); (case c2 => exact rfl); (case c3 => exact rfl); (case c4 => exact rfl); k_whole; intro g' L' h' tk' cells' FG' F' N' Y' B' X' T' l1; (try k_lt l1); have hY := CellsAre.two Y'; obtain ⟨oc1, oc2, hE, dc1, dc2⟩ := hY; subst hE; clear Y'; (try simp only [List.cons_append, List.nil_append] at N'); refine letF F' ?_; clear F'; intro mk F'; (first | (refine letN6 N' ?_; clear N'; intro e1 e2 e3 e4 e5 e6 lk N') | (refine letN5 N' ?_; clear N'; intro e1 e2 e3 e4 e5 lk N') | (refine letN4 N' ?_; clear N'; intro e1 e2 e3 e4 lk N') | (refine letN3 N' ?_; clear N'; intro e1 e2 e3 lk N') | (refine letN2 N' ?_; clear N'; intro e1 e2 lk N') | (refine letN1 N' ?_; clear N'; intro e1 lk N') | skip); (try dsimp only); (try k_lift B'); (try k_fold))
    have M9 : TreeCtx (L' + 1 + 1, oc1) (L' + 1, oc2) S o d os := True.intro
    k_steps
    all_goals first | kcf_m | tb_rel | kcf_all | fail
end
end Mine
end
section
open PySem PySem.W PyProof.Rows
namespace Mine
noncomputable abbrev ent (w : World) (k : String) (t : Tok) (v : Value) : DictEntry := ⟨PyData.keyHash w.params (Str.ofString k), .str (Str.ofString k) t, v⟩
noncomputable abbrev callD (w : World) (t1 t2 t3 t4 : Tok) (nm : Value) (l : Addr) : Obj := dictOf [ent w "name" t1 nm, ent w "arguments" t2 (.ref l), ent w "distinct" t3 (.bool false), ent w "star" t4 (.bool false)] 4
noncomputable abbrev litD (w : World) (t1 : Tok) (v : Value) : Obj := dictOf [ent w "value" t1 v] 1
noncomputable abbrev nameD (w : World) (t1 t2 t3 t4 t5 t6 t7 u2 u3 u4 u5 u6 u7 : Tok) (i : Int) (co : String) : Obj :=
  dictOf [ent w "table" t1 .none, ent w "column" t2 (.str (Str.ofString "c") u2), ent w "source" t3 (.int 4 u3), ent w "place" t4 (.int i u4), ent w "depth" t5 (.int 0 u5), ent w "affinity" t6 (.str (Str.ofString "blob") u6), ent w "collation" t7 (.str (Str.ofString co) u7)] 7
inductive NodeIn (w : World) (os : List (Addr × Obj)) (K : List Value) : Value → Tr → Prop
  | val {x dx t1 v y} : (x, instObj 122 dx) ∈ os → (dx, litD w t1 v) ∈ os → IsVal v y → NodeIn w os K (.ref x) (.val y)
  | col0 {x dx t1 t2 t3 t4 t5 t6 t7 u2 u3 u4 u5 u6 u7} : (x, instObj 148 dx) ∈ os → (dx, nameD w t1 t2 t3 t4 t5 t6 t7 u2 u3 u4 u5 u6 u7 0 "nocase") ∈ os → NodeIn w os K (.ref x) (.col false)
  | col1 {x dx t1 t2 t3 t4 t5 t6 t7 u2 u3 u4 u5 u6 u7} : (x, instObj 148 dx) ∈ os → (dx, nameD w t1 t2 t3 t4 t5 t6 t7 u2 u3 u4 u5 u6 u7 1 "binary") ∈ os → NodeIn w os K (.ref x) (.col true)
  | known {x dx t1 t2 t3 t4 u l} : (x, instObj 354 dx) ∈ os → (dx, callD w t1 t2 t3 t4 (.str (Str.ofString "sum") u) l) ∈ os → Value.ref x ∈ K → NodeIn w os K (.ref x) .known
  | f0 {x dx t1 t2 t3 t4 u l n} : (x, instObj 354 dx) ∈ os → (dx, callD w t1 t2 t3 t4 (.str (Str.ofString "abs") u) l) ∈ os → (l, listOf #[] n) ∈ os → NodeIn w os K (.ref x) .f0
  | f1 {x dx t1 t2 t3 t4 u l n v1 x1} : (x, instObj 354 dx) ∈ os → (dx, callD w t1 t2 t3 t4 (.str (Str.ofString "abs") u) l) ∈ os → (l, listOf #[v1] n) ∈ os → NodeIn w os K v1 x1 → NodeIn w os K (.ref x) (.f1 x1)
  | f2 {x dx t1 t2 t3 t4 u l n v1 v2 x1 x2} (F : F2) : (x, instObj 354 dx) ∈ os → (dx, callD w t1 t2 t3 t4 (.str (Str.ofString F.nm) u) l) ∈ os → (l, listOf #[v1, v2] n) ∈ os → NodeIn w os K v1 x1 → NodeIn w os K v2 x2 → NodeIn w os K (.ref x) (.f2 F x1 x2)
  | f3 {x dx t1 t2 t3 t4 u l n v1 v2 v3 x1 x2 x3} (F : F3) : (x, instObj 354 dx) ∈ os → (dx, callD w t1 t2 t3 t4 (.str (Str.ofString F.nm) u) l) ∈ os → (l, listOf #[v1, v2, v3] n) ∈ os → NodeIn w os K v1 x1 → NodeIn w os K v2 x2 → NodeIn w os K v3 x3 → NodeIn w os K (.ref x) (.f3 F x1 x2 x3)
theorem NodeIn.mono {w : World} {os os' : List (Addr × Obj)} {K K' : List Value} (hs : ∀ p ∈ os, p ∈ os') (hk : ∀ c ∈ K, c ∈ K') {v : Value} {t : Tr} (h : NodeIn w os K v t) : NodeIn w os' K' v t := by
  induction h with
  | val h1 h2 h3 => exact .val (hs _ h1) (hs _ h2) h3
  | col0 h1 h2 => exact .col0 (hs _ h1) (hs _ h2)
  | col1 h1 h2 => exact .col1 (hs _ h1) (hs _ h2)
  | known h1 h2 h3 => exact .known (hs _ h1) (hs _ h2) (hk _ h3)
  | f0 h1 h2 h3 => exact .f0 (hs _ h1) (hs _ h2) (hs _ h3)
  | f1 h1 h2 h3 _ i1 => exact .f1 (hs _ h1) (hs _ h2) (hs _ h3) i1
  | f2 F h1 h2 h3 _ _ i1 i2 => exact .f2 F (hs _ h1) (hs _ h2) (hs _ h3) i1 i2
  | f3 F h1 h2 h3 _ _ _ i1 i2 i3 => exact .f3 F (hs _ h1) (hs _ h2) (hs _ h3) i1 i2 i3
noncomputable def KnownAt (w : World) (os : List (Addr × Obj)) (c : Value) : Prop := ∃ x dx t1 t2 t3 t4 u l, c = .ref x ∧ (x, instObj 354 dx) ∈ os ∧ (dx, callD w t1 t2 t3 t4 (.str (Str.ofString "sum") u) l) ∈ os
theorem KnownAt.mono {w : World} {os os' : List (Addr × Obj)} (hs : ∀ p ∈ os, p ∈ os') {c : Value} (h : KnownAt w os c) : KnownAt w os' c := by
  obtain ⟨x, dx, t1, t2, t3, t4, u, l, e, h1, h2⟩ := h
  exact ⟨x, dx, t1, t2, t3, t4, u, l, e, hs _ h1, hs _ h2⟩
noncomputable def Tr.sz : Tr → Nat
  | .f0 => 0
  | .f1 a => a.sz
  | .f2 _ a b => a.sz + b.sz
  | .f3 _ a b c => a.sz + b.sz + c.sz
  | .val _ => 1
  | .col _ => 1
  | .known => 1
noncomputable def NodePost (w : World) (C : Addr) (cs : List Value) (k : Nat) (t : Tr) (os : List (Addr × Obj)) (r : Value) (news' : List (Addr × Obj)) : Prop :=
  ∃ nw K k', news' = (C, listOf (cs ++ K).toArray k') :: (nw ++ os) ∧ Apart ((C, listOf cs.toArray k) :: os) nw ∧ NodeIn w nw K r t ∧ (∀ c ∈ K, KnownAt w nw c) ∧ K.length ≤ t.sz
section Cur
variable {h₀ : Heap} {L : Addr} {m : Str → Option Value} {gn dr oo} {Q : Value → Shared → Prop}
theorem cur_node {w : World} {C : Addr} {cs : List Value} {k : Nat} {t : Tr} {os : List (Addr × Obj)} {fI : List (Addr × Obj) → List (Addr × Obj)} (I : InsF os fI)
    (ret : ∀ (r : Value) (nw8 : List (Addr × Obj)) (K8 : List Value) (k8 : Nat) (h' : Heap) (tk' : Nat), Fr h₀ L h' m → let x1 : Addr × Obj := (C, listOf (cs ++ K8).toArray k8); let l := x1 :: fI nw8; News h₀ L h' l → Apart ((C, listOf cs.toArray k) :: os) nw8 → NodeIn w nw8 K8 r t → (∀ c ∈ K8, KnownAt w nw8 c) → K8.length ≤ t.sz → Q r ⟨h', gn, dr, tk', oo⟩) :
    ∀ r news' h' tk', Fr h₀ L h' m → News h₀ L h' news' → NodePost w C cs k t os r news' → Q r ⟨h', gn, dr, tk', oo⟩ := by
  rintro r _ h' tk' F N ⟨nw8, K8, k8, rfl, a, b, c, d⟩; exact ret r nw8 K8 k8 h' tk' F (news_ins N (I.insT nw8)) a b c d
theorem cur_node0 {w : World} {C : Addr} {k : Nat} {t : Tr} {os : List (Addr × Obj)} {fI : List (Addr × Obj) → List (Addr × Obj)} (I : InsF os fI)
    (ret : ∀ (r : Value) (nw8 : List (Addr × Obj)) (K8 : List Value) (k8 : Nat) (h' : Heap) (tk' : Nat), Fr h₀ L h' m → let x1 : Addr × Obj := (C, listOf K8.toArray k8); let l := x1 :: fI nw8; News h₀ L h' l → Apart ((C, listOf #[] k) :: os) nw8 → NodeIn w nw8 K8 r t → (∀ c ∈ K8, KnownAt w nw8 c) → K8.length ≤ t.sz → Q r ⟨h', gn, dr, tk', oo⟩) :
    ∀ r news' h' tk', Fr h₀ L h' m → News h₀ L h' news' → NodePost w C [] k t os r news' → Q r ⟨h', gn, dr, tk', oo⟩ := by
  rintro r _ h' tk' F N ⟨nw8, K8, k8, rfl, a, b, c, d⟩; exact ret r nw8 K8 k8 h' tk' F (news_ins N (I.insT nw8)) a b c d
end Cur
noncomputable def NodeD (w : World) (t : Tr) : Prop := ∀ (d : Nat), t.depth ≤ d → ∀ (v : Value) (C : Addr) (cs : List Value) (k : Nat) (os : List (Addr × Obj)), TreeIn os v t → (∀ p ∈ os, p.1 ≠ C) → cs.length + t.sz ≤ 1000 →
  Does w 815 (d + 6) [v, .ref C] ((C, listOf cs.toArray k) :: os) (NodePost w C cs k t os)
theorem node_leaf {w : World} {C x dx : Addr} {cs : List Value} {k : Nat} {t : Tr} {os l : List (Addr × Obj)} {dob : Obj} {c : Addr} {h₀ h : Heap} {L : Addr} {m : Str → Option Value} {gn dr oo} {tk : Nat} {Q : Value → Shared → Prop}
    (hret : ∀ r news' h' tk', Fr h₀ L h' m → News h₀ L h' news' → NodePost w C cs k t os r news' → Q r ⟨h', gn, dr, tk', oo⟩) (F : Fr h₀ L h m)
    (N : News h₀ L h l) (mx : (x, instObj c dx) ∈ l) (mdx : (dx, dob) ∈ l) (mC : (C, listOf cs.toArray k) ∈ l) (mo : ∀ p ∈ os, p ∈ l) (hx : ∀ q ∈ (C, listOf cs.toArray k) :: os, q.1 ≠ x) (hdx : ∀ q ∈ (C, listOf cs.toArray k) :: os, q.1 ≠ dx)
    (hn : NodeIn w [(x, instObj c dx), (dx, dob)] [] (.ref x) t) (hz : 0 ≤ t.sz) : Q (.ref x) ⟨h, gn, dr, tk, oo⟩ := by
  refine hret _ ((C, listOf (cs ++ []).toArray k) :: ([(x, instObj c dx), (dx, dob)] ++ os)) _ _ F (news_sub N fun p hp => ?_) ⟨[(x, instObj c dx), (dx, dob)], [], k, rfl, .cons hx (.cons hdx .nil), hn, (fun _ h => nomatch h), Nat.zero_le _⟩
  rw [List.append_nil] at hp
  rcases List.mem_cons.mp hp with rfl | hp
  · exact mC
  · rcases List.mem_cons.mp hp with rfl | hp
    · exact mx
    · rcases List.mem_cons.mp hp with rfl | hp
      · exact mdx
      · exact mo p hp
theorem node_kn {w : World} {C x dx l0 : Addr} {cs : List Value} {k : Nat} {os l : List (Addr × Obj)} {t1 t2 t3 t4 u : Tok} {h₀ h : Heap} {L : Addr} {m : Str → Option Value} {gn dr oo} {tk : Nat} {Q : Value → Shared → Prop}
    (hret : ∀ r news' h' tk', Fr h₀ L h' m → News h₀ L h' news' → NodePost w C cs k .known os r news' → Q r ⟨h', gn, dr, tk', oo⟩) (F : Fr h₀ L h m)
    (N : News h₀ L h l) (mx : (x, instObj 354 dx) ∈ l) (mdx : (dx, callD w t1 t2 t3 t4 (.str (Str.ofString "sum") u) l0) ∈ l) (mC : (C, listOf (cs.toArray.push (.ref x)) (k + 1)) ∈ l) (mo : ∀ p ∈ os, p ∈ l) (hx : ∀ q ∈ (C, listOf cs.toArray k) :: os, q.1 ≠ x) (hdx : ∀ q ∈ (C, listOf cs.toArray k) :: os, q.1 ≠ dx) : Q (.ref x) ⟨h, gn, dr, tk, oo⟩ := by
  refine hret _ ((C, listOf (cs ++ [Value.ref x]).toArray (k + 1)) :: ([(x, instObj 354 dx), (dx, callD w t1 t2 t3 t4 (.str (Str.ofString "sum") u) l0)] ++ os)) _ _ F (news_sub N fun p hp => ?_)
    ⟨[(x, instObj 354 dx), (dx, callD w t1 t2 t3 t4 (.str (Str.ofString "sum") u) l0)], [Value.ref x], k + 1, rfl, .cons hx (.cons hdx .nil), .known mem_hd (mem_tl mem_hd) mem_hd, (fun c hc => by rw [List.mem_singleton.mp hc]; exact ⟨x, dx, t1, t2, t3, t4, u, l0, rfl, mem_hd, mem_tl mem_hd⟩), Nat.le_refl _⟩
  rcases List.mem_cons.mp hp with rfl | hp
  · rw [← List.push_toArray]; exact mC
  · rcases List.mem_cons.mp hp with rfl | hp
    · exact mx
    · rcases List.mem_cons.mp hp with rfl | hp
      · exact mdx
      · exact mo p hp
section
theorem lines4 : True := by
  k_with "o3" => skip
  k_with "kcf_m" => ((fail_if_success k_extra "o4"); ( refine' node_leaf (by with_reducible assumption) ?z50f ?z50n ?z50mx ?z50mdx ?z50mC ?z50mo ?z50hx ?z50hdx ?z50hn ?z50hz; (case z50f => with_reducible assumption); (case z50n => with_reducible assumption); (case z50mx => k_mem); (case z50mdx => k_mem); (case z50hn => first | exact NodeIn.val mem_hd (mem_tl mem_hd) (by assumption) | exact NodeIn.col0 mem_hd (mem_tl mem_hd) | exact NodeIn.col1 mem_hd (mem_tl mem_hd)); (case z50mC => k_mem); (case z50mo => lcg_sub); (case z50hx => k_all); (case z50hdx => k_all); (case z50hz => exact Nat.zero_le _)))
  k_with "kcf_all" => ((fail_if_success k_extra "o4"); ( refine' node_kn (by with_reducible assumption) ?z51f ?z51n ?z51mx ?z51mdx ?z51mC ?z51mo ?z51hx ?z51hdx; (case z51f => with_reducible assumption); (case z51n => with_reducible assumption); (case z51mx => k_mem); (case z51mdx => k_mem); (case z51mC => k_mem); (case z51mo => lcg_sub); (case z51hx => k_all); (case z51hdx => k_all)))
  exact True.intro
set_option maxRecDepth 100000 in
set_option maxHeartbeats 2000000 in
theorem node_lit (w : World) (d : Nat) (C a : Addr) (cs : List Value) (k k' : Nat) (t : Tok) (x : Value) (y : Option Int) (os : List (Addr × Obj)) (ha : (a, tupO [.str (Str.ofString "value") t, x] k') ∈ os) (hv : IsVal x y) (hoff : ∀ p ∈ os, p.1 ≠ C) :
   Does w 815 (d + 6) [.ref a, .ref C] ((C, listOf cs.toArray k) :: os) (NodePost w C cs k (.val y) os) := by
  refine Does.of ?_
  intro dp un gd cn cs a ccd cl outer A₀ base h₀ L m p loose mean mg mb hp0 gn0 dr0 tk0 oo0 Q E B F X N T hk hd hu hret
  revert X; k_fill; intro X
  refine wpAny_call ?_
  k_dflt (refine' code_defC ?k1 ?k2 ?k3 ?k4 ?k5 ?kA ?kF ?kK ?k6 ?k7 ?k8 ?k9 ?kB ?kD ?_ ?c2 ?c3 ?c4; (case kA => exact rfl); (case kF => exact rfl); (case kK => first | exact rfl | assumption); (case k1 => k_asm); (case k2 => k_asm); (case k3 => k_asm); (case k4 => k_asm); (case k5 => k_asm); (case k6 => k_is); (case k7 => k_is); (case k8 => k_room); (case k9 => exact BindsTo.of_eq rfl); (case kB => exact rfl); (case kD => decide +kernel); (case c2 => exact rfl); (case c3 => exact rfl); (case c4 => exact rfl); k_whole; intro g' L' h' tk' cells' FG' F' N' Y' B' X' T' l1; (try k_lt l1); have hY := CellsAre.one Y'; obtain ⟨oc1, hE, dc1⟩ := hY; subst hE; clear Y'; (try simp only [List.cons_append, List.nil_append] at N'); refine letF F' ?_; clear F'; intro mk F'; (first | (refine letN6 N' ?_; clear N'; intro e1 e2 e3 e4 e5 e6 lk N') | (refine letN5 N' ?_; clear N'; intro e1 e2 e3 e4 e5 lk N') | (refine letN4 N' ?_; clear N'; intro e1 e2 e3 e4 lk N') | (refine letN3 N' ?_; clear N'; intro e1 e2 e3 lk N') | (refine letN2 N' ?_; clear N'; intro e1 e2 lk N') | (refine letN1 N' ?_; clear N'; intro e1 lk N') | skip); (try dsimp only); (try k_lift B'); (try k_fold))
  k_steps
  kcf_m
set_option maxRecDepth 100000 in
set_option maxHeartbeats 2000000 in
theorem node_col0 (w : World) (d : Nat) (C a : Addr) (cs : List Value) (k k' : Nat) (t u : Tok) (os : List (Addr × Obj)) (ha : (a, tupO [.str (Str.ofString "column") t, .int 0 u] k') ∈ os) (hoff : ∀ p ∈ os, p.1 ≠ C) :
   Does w 815 (d + 6) [.ref a, .ref C] ((C, listOf cs.toArray k) :: os) (NodePost w C cs k (.col false) os) := by
  refine Does.of ?_
  intro dp un gd cn cs a ccd cl outer A₀ base h₀ L m p loose mean mg mb hp0 gn0 dr0 tk0 oo0 Q E B F X N T hk hd hu hret
  revert X; k_fill; intro X
  refine wpAny_call ?_
  k_dflt (refine' code_defC ?k1 ?k2 ?k3 ?k4 ?k5 ?kA ?kF ?kK ?k6 ?k7 ?k8 ?k9 ?kB ?kD ?_ ?c2 ?c3 ?c4; (case kA => exact rfl); (case kF => exact rfl); (case kK => first | exact rfl | assumption); (case k1 => k_asm); (case k2 => k_asm); (case k3 => k_asm); (case k4 => k_asm); (case k5 => k_asm); (case k6 => k_is); (case k7 => k_is); (case k8 => k_room); (case k9 => exact BindsTo.of_eq rfl); (case kB => exact rfl); (case kD => decide +kernel); (case c2 => exact rfl); (case c3 => exact rfl); (case c4 => exact rfl); k_whole; intro g' L' h' tk' cells' FG' F' N' Y' B' X' T' l1; (try k_lt l1); have hY := CellsAre.one Y'; obtain ⟨oc1, hE, dc1⟩ := hY; subst hE; clear Y'; (try simp only [List.cons_append, List.nil_append] at N'); refine letF F' ?_; clear F'; intro mk F'; (first | (refine letN6 N' ?_; clear N'; intro e1 e2 e3 e4 e5 e6 lk N') | (refine letN5 N' ?_; clear N'; intro e1 e2 e3 e4 e5 lk N') | (refine letN4 N' ?_; clear N'; intro e1 e2 e3 e4 lk N') | (refine letN3 N' ?_; clear N'; intro e1 e2 e3 lk N') | (refine letN2 N' ?_; clear N'; intro e1 e2 lk N') | (refine letN1 N' ?_; clear N'; intro e1 lk N') | skip); (try dsimp only); (try k_lift B'); (try k_fold))
  k_steps
  kcf_m
set_option maxRecDepth 100000 in
set_option maxHeartbeats 2000000 in
theorem node_col1 (w : World) (d : Nat) (C a : Addr) (cs : List Value) (k k' : Nat) (t u : Tok) (os : List (Addr × Obj)) (ha : (a, tupO [.str (Str.ofString "column") t, .int 1 u] k') ∈ os) (hoff : ∀ p ∈ os, p.1 ≠ C) :
   Does w 815 (d + 6) [.ref a, .ref C] ((C, listOf cs.toArray k) :: os) (NodePost w C cs k (.col true) os) := by
  refine Does.of ?_
  intro dp un gd cn cs a ccd cl outer A₀ base h₀ L m p loose mean mg mb hp0 gn0 dr0 tk0 oo0 Q E B F X N T hk hd hu hret
  revert X; k_fill; intro X
  refine wpAny_call ?_
  k_dflt (refine' code_defC ?k1 ?k2 ?k3 ?k4 ?k5 ?kA ?kF ?kK ?k6 ?k7 ?k8 ?k9 ?kB ?kD ?_ ?c2 ?c3 ?c4; (case kA => exact rfl); (case kF => exact rfl); (case kK => first | exact rfl | assumption); (case k1 => k_asm); (case k2 => k_asm); (case k3 => k_asm); (case k4 => k_asm); (case k5 => k_asm); (case k6 => k_is); (case k7 => k_is); (case k8 => k_room); (case k9 => exact BindsTo.of_eq rfl); (case kB => exact rfl); (case kD => decide +kernel); (case c2 => exact rfl); (case c3 => exact rfl); (case c4 => exact rfl); k_whole; intro g' L' h' tk' cells' FG' F' N' Y' B' X' T' l1; (try k_lt l1); have hY := CellsAre.one Y'; obtain ⟨oc1, hE, dc1⟩ := hY; subst hE; clear Y'; (try simp only [List.cons_append, List.nil_append] at N'); refine letF F' ?_; clear F'; intro mk F'; (first | (refine letN6 N' ?_; clear N'; intro e1 e2 e3 e4 e5 e6 lk N') | (refine letN5 N' ?_; clear N'; intro e1 e2 e3 e4 e5 lk N') | (refine letN4 N' ?_; clear N'; intro e1 e2 e3 e4 lk N') | (refine letN3 N' ?_; clear N'; intro e1 e2 e3 lk N') | (refine letN2 N' ?_; clear N'; intro e1 e2 lk N') | (refine letN1 N' ?_; clear N'; intro e1 lk N') | skip); (try dsimp only); (try k_lift B'); (try k_fold))
  k_steps
  kcf_m
set_option maxRecDepth 100000 in
set_option maxHeartbeats 2000000 in
theorem node_known (w : World) (d : Nat) (C a : Addr) (cs : List Value) (k k' : Nat) (t u : Tok) (os : List (Addr × Obj)) (ha : (a, tupO [.str (Str.ofString "known") t, .int 0 u] k') ∈ os) (hoff : ∀ p ∈ os, p.1 ≠ C) (hz : cs.length + 1 ≤ 1000) :
   Does w 815 (d + 6) [.ref a, .ref C] ((C, listOf cs.toArray k) :: os) (NodePost w C cs k .known os) := by
  refine Does.of ?_
  intro dp un gd cn cs a ccd cl outer A₀ base h₀ L m p loose mean mg mb hp0 gn0 dr0 tk0 oo0 Q E B F X N T hk hd hu hret
  revert X; k_fill; intro X
  refine wpAny_call ?_
  k_dflt (refine' code_defC ?k1 ?k2 ?k3 ?k4 ?k5 ?kA ?kF ?kK ?k6 ?k7 ?k8 ?k9 ?kB ?kD ?_ ?c2 ?c3 ?c4; (case kA => exact rfl); (case kF => exact rfl); (case kK => first | exact rfl | assumption); (case k1 => k_asm); (case k2 => k_asm); (case k3 => k_asm); (case k4 => k_asm); (case k5 => k_asm); (case k6 => k_is); (case k7 => k_is); (case k8 => k_room); (case k9 => exact BindsTo.of_eq rfl); (case kB => exact rfl); (case kD => decide +kernel); (case c2 => exact rfl); (case c3 => exact rfl); (case c4 => exact rfl); k_whole; intro g' L' h' tk' cells' FG' F' N' Y' B' X' T' l1; (try k_lt l1); have hY := CellsAre.one Y'; obtain ⟨oc1, hE, dc1⟩ := hY; subst hE; clear Y'; (try simp only [List.cons_append, List.nil_append] at N'); refine letF F' ?_; clear F'; intro mk F'; (first | (refine letN6 N' ?_; clear N'; intro e1 e2 e3 e4 e5 e6 lk N') | (refine letN5 N' ?_; clear N'; intro e1 e2 e3 e4 e5 lk N') | (refine letN4 N' ?_; clear N'; intro e1 e2 e3 e4 lk N') | (refine letN3 N' ?_; clear N'; intro e1 e2 e3 lk N') | (refine letN2 N' ?_; clear N'; intro e1 e2 lk N') | (refine letN1 N' ?_; clear N'; intro e1 lk N') | skip); (try dsimp only); (try k_lift B'); (try k_fold))
  k_steps
  kcf_all
end
end Mine
end
section
open PySem PySem.W PyProof.Rows
namespace Mine
inductive NodesIn (w : World) (os : List (Addr × Obj)) (K : List Value) : List Value → List Tr → Prop
  | nil : NodesIn w os K [] []
  | snoc {vs ts v t} : NodesIn w os K vs ts → NodeIn w os K v t → NodesIn w os K (vs ++ [v]) (ts ++ [t])
theorem NodesIn.mono {w : World} {os os' : List (Addr × Obj)} {K K' : List Value} (hs : ∀ p ∈ os, p ∈ os') (hk : ∀ c ∈ K, c ∈ K') {vs : List Value} {ts : List Tr} (h : NodesIn w os K vs ts) : NodesIn w os' K' vs ts := by
  induction h with
  | nil => exact .nil
  | snoc _ h2 ih => exact .snoc ih (h2.mono hs hk)
noncomputable def szs (ts : List Tr) : Nat := (ts.map Tr.sz).sum
theorem szs_snoc (ts : List Tr) (t : Tr) : szs (ts ++ [t]) = szs ts + t.sz := by simp [szs]
theorem szs_take (ts : List Tr) (i : Nat) : szs (ts.take i) ≤ szs ts := by
  induction ts generalizing i with
  | nil => simp [szs]
  | cons t r ih =>
    cases i with
    | zero => simp [szs]
    | succ i => have := ih i; simp only [szs, List.take_succ_cons, List.map_cons, List.sum_cons] at this ⊢; lia
theorem nodeD_use {w : World} {t : Tr} (h : NodeD w t) (d : Nat) (hd : t.depth ≤ d) (v : Value) (C : Addr) (cs : List Value) (k : Nat) {os : List (Addr × Obj)} (ht : TreeIn os v t) (ho : ∀ p ∈ os, p.1 ≠ C) (hz : cs.length + t.sz ≤ 1000) :
  Does w 815 (d + 6) [v, .ref C] ((C, listOf cs.toArray k) :: os) (NodePost w C cs k t os) := h d hd v C cs k os ht ho hz
noncomputable def NodeJ (w : World) (c1 : Addr × Obj) (C : Addr) (cs : List Value) (k : Nat) (ts : List Tr) (os : List (Addr × Obj)) (i : Nat) (ys : List Value) (news : List (Addr × Obj)) : Prop :=
  ∃ nw K k', news = c1 :: (C, listOf (cs ++ K).toArray k') :: (nw ++ os) ∧ Apart ((C, listOf cs.toArray k) :: os) nw ∧ NodesIn w nw K ys (ts.take i) ∧ (∀ c ∈ K, KnownAt w nw c) ∧ K.length ≤ szs (ts.take i)
noncomputable def NodeCtx (w : World) (c1 : Addr × Obj) (C : Addr) (cs : List Value) (k : Nat) (vs : List Value) (ts : List Tr) (os : List (Addr × Obj)) : Prop := True
theorem trees_at {os : List (Addr × Obj)} {vs : List Value} {ts : List Tr} (h : TreesIn os vs ts) : vs.length = ts.length ∧ ∀ (i : Nat) (v : Value), vs[i]? = some v → ∃ t, ts[i]? = some t ∧ TreeIn os v t := by
  induction h with
  | nil => exact ⟨rfl, fun i v e => by simp at e⟩
  | @snoc vs ts v t h1 h2 ih =>
    obtain ⟨hl, ih⟩ := ih
    refine ⟨by simp [hl], fun i u e => ?_⟩
    by_cases q : i < vs.length
    · rw [List.getElem?_append_left q] at e
      obtain ⟨t', e1, e2⟩ := ih i u e
      exact ⟨t', by rw [List.getElem?_append_left (hl ▸ q)]; exact e1, e2⟩
    · rw [List.getElem?_append_right (Nat.le_of_not_lt q)] at e
      have hi : i - vs.length = 0 := by
        cases z : i - vs.length with
        | zero => rfl
        | succ n => rw [z] at e; simp at e
      rw [hi] at e
      cases e
      exact ⟨t, by rw [List.getElem?_append_right (by lia), ← hl, hi]; rfl, h2⟩
section
variable {prog : Program} {w : World} {A : Around} {h₀ : Heap} {L : Addr} {m : Str → Option Value} {env : Env} {elt : PySem.Expr} {x : Str} {scope : Scope} {cl : List (Str × Addr)} {s₁ : Shared} {Fin : Shared → List Value → List (Addr × Obj) → Prop}
theorem node_src {c1 : Addr × Obj} {C ax : Addr} {cs vs : List Value} {k n : Nat} {ts : List Tr} {os l : List (Addr × Obj)} (uM : NodeCtx w c1 C cs k vs ts os) (hh : A.handled = none) (F : Fr h₀ L s₁.heap m) (N : News h₀ L s₁.heap l) (m1 : c1 ∈ l) (mC : (C, listOf cs.toArray k) ∈ l) (mo : ∀ p ∈ os, p ∈ l)
    (ml : (ax, listOf vs.toArray n) ∈ os) (hvs : TreesIn os vs ts) (hsz : vs.length ≤ 1000) (hN : ∀ t ∈ ts, NodeD w t)
    (turn : ∀ gq v t I oI C' oC D m₂ ys nw K k' h tk (E' : Value → Shared → Prop) i, ts[i]? = some t → NodeD w t → t ∈ ts → TreeIn (nw ++ os) v t → LCg.NsObj oC m₂ → m₂ x = some v → Fr h₀ L h m → News h₀ L h ((I, oI) :: (C', oC) :: (D, LCg.lst ys) :: c1 :: (C, listOf (cs ++ K).toArray k') :: (nw ++ os)) → Apart ((C, listOf cs.toArray k) :: os) nw → NodesIn w nw K ys (ts.take i) → (∀ c ∈ K, KnownAt w nw c) → K.length ≤ szs (ts.take i) → szs (ts.take i) + t.sz ≤ szs ts →
      (c1.1 ≠ I ∧ c1.1 ≠ C' ∧ c1.1 ≠ D) → ((@Ne Nat C I) ∧ (@Ne Nat C C') ∧ (@Ne Nat C D)) → LCg.Off3 I C' D (nw ++ os) → ((@Ne Nat I C') ∧ (@Ne Nat I D) ∧ (@Ne Nat C' D)) →
      wpAny (model prog w) A (eval elt (compEnvC scope cl C' env)) (LCg.CompEnd h₀ L m { s₁ with heap := h, toks := tk } I oI C' oC D (LCg.lst ys) (LCg.SrcAt h₀ ax vs.toArray) (fun y news' => NodeJ w c1 C cs k ts os (i + 1) (ys ++ [y]) news')) E' { ({ s₁ with heap := gq } : Shared) with heap := h, toks := tk })
    (fin : ∀ gq ys nw K k', Apart ((C, listOf cs.toArray k) :: os) nw → NodesIn w nw K ys ts → (∀ c ∈ K, KnownAt w nw c) → K.length ≤ szs ts → Fin { s₁ with heap := gq } ys (c1 :: (C, listOf (cs ++ K).toArray k') :: (nw ++ os))) :
    LCg.CompSrc prog w A h₀ L m env elt x scope cl Fin (.ref ax) s₁ := by
  have hat := trees_at hvs
  refine LCg.CompSrc.ledger (news := c1 :: (C, listOf cs.toArray k) :: os) hh F (news_sub N fun p hp => ?_) (mem_tl (mem_tl ml)) (by rw [List.size_toArray, PySem.sizeLine_eq]; lia) fun gq => ?_
  · rcases List.mem_cons.mp hp with rfl | hp
    · exact m1
    · rcases List.mem_cons.mp hp with rfl | hp
      · exact mC
      · exact mo p hp
  · rw [List.size_toArray, hat.1]
    refine comp_rest (NodeJ w c1 C cs k ts os) ⟨[], [], k, by rw [List.append_nil, List.nil_append], .nil, .nil, (fun _ h => nomatch h), Nat.zero_le _⟩ (fun i v I oI C' oC D m₂ ys news₁ h tk E' hi hv hJ hC hx F N off ne => ?_) fun ys news' hJ => ?_
    · obtain ⟨nw, K, k', rfl, ha7, hts, hk, hlen⟩ := hJ
      obtain ⟨off1, off2, off3⟩ := off
      obtain ⟨t, e1, e2⟩ := hat.2 i v (by simpa using hv)
      have e3 : ts.take (i + 1) = ts.take i ++ [t] := by rw [List.take_add_one, e1]; rfl
      have e4 := szs_take ts (i + 1)
      rw [e3, szs_snoc] at e4
      exact turn gq v t I oI C' oC D m₂ ys nw K k' h tk E' i e1 (hN t (List.mem_of_getElem? e1)) (List.mem_of_getElem? e1) (e2.mono fun _ => mem_apr) hC hx F N ha7 hts hk hlen e4 off1 off2 off3 ne
    · obtain ⟨nw, K, k', rfl, ha7, hts, hk, hlen⟩ := hJ
      rw [List.take_length] at hts hlen
      exact fin gq ys nw K k' ha7 hts hk hlen
end
theorem nturn_back {w : World} {c1 : Addr × Obj} {C I C' D ax : Addr} {cs vs : List Value} {k k' k8 n : Nat} {oI oC oI1 oC1 oD1 : Obj} {ts : List Tr} {os l l8 nw nw8 : List (Addr × Obj)} {i : Nat} {ys K K8 : List Value} {v : Value} {t : Tr} {h₀ h : Heap} {L : Addr} {m : Str → Option Value} {s₁ : Shared} {tk : Nat} (uM : NodeCtx w c1 C cs k vs ts os)
    (hi : ts[i]? = some t) (ht : NodeIn w nw8 K8 v t) (hk8 : ∀ c ∈ K8, KnownAt w nw8 c) (hz8 : K8.length ≤ t.sz) (ha8 : Apart l8 nw8) (m8 : (C, listOf (cs ++ K).toArray k') ∈ l8) (mI : (I, oI1) ∈ l8) (mC : (C', oC1) ∈ l8) (mD : (D, oD1) ∈ l8) (hsub8 : ∀ q ∈ os, q ∈ l8)
    (ha : Apart ((C, listOf cs.toArray k) :: os) nw) (hts : NodesIn w nw K ys (ts.take i)) (hk : ∀ c ∈ K, KnownAt w nw c) (hlen : K.length ≤ szs (ts.take i))
    (F : Fr h₀ L h m) (N : News h₀ L h l) (sub : ∀ p ∈ (I, oI) :: (C', oC) :: (D, LCg.lst ys) :: c1 :: (C, listOf ((cs ++ K) ++ K8).toArray k8) :: (nw8 ++ (nw ++ os)), p ∈ l)
    (ml : (ax, listOf vs.toArray n) ∈ os)
    (off1 : c1.1 ≠ I ∧ c1.1 ≠ C' ∧ c1.1 ≠ D) (off2 : C ≠ I ∧ C ≠ C' ∧ C ≠ D) (off4 : LCg.Off3 I C' D (nw ++ os)) :
    LCg.CompEnd h₀ L m s₁ I oI C' oC D (LCg.lst ys) (LCg.SrcAt h₀ ax vs.toArray) (fun y news' => NodeJ w c1 C cs k ts os (i + 1) (ys ++ [y]) news') v { s₁ with heap := h, toks := tk } := by
  have e3 : ts.take (i + 1) = ts.take i ++ [t] := by rw [List.take_add_one, hi]; rfl
  refine LCg.CompEnd.intro F N (c1 :: (C, listOf (cs ++ (K ++ K8)).toArray k8) :: ((nw8 ++ nw) ++ os)) (by rw [List.append_assoc, ← List.append_assoc cs]; exact sub) ⟨off1, off2, off3_tail (ha8.off mI) (ha8.off mC) (ha8.off mD) off4⟩ (.inr ⟨_, mem_tl (mem_tl (mem_apr ml)), rfl, _, rfl⟩) ?_
  refine ⟨nw8 ++ nw, K ++ K8, k8, rfl, (Apart.app (fun q hq p hp => ?_) ha), by rw [e3]; exact .snoc (hts.mono (fun _ => mem_apr) fun _ => mem_apl) (ht.mono (fun _ => mem_apl) fun _ => mem_apr), fun c hc => ?_, ?_⟩
  · rcases List.mem_cons.mp hq with rfl | hq
    · exact ha8 _ m8 p hp
    · exact ha8 _ (hsub8 q hq) p hp
  · rcases List.mem_append.mp hc with hc | hc
    · exact (hk c hc).mono fun _ => mem_apr
    · exact (hk8 c hc).mono fun _ => mem_apl
  · rw [e3, szs_snoc, List.length_append]; lia
noncomputable def FnPost (w : World) (nm : Str) (C : Addr) (cs : List Value) (k : Nat) (ts : List Tr) (os : List (Addr × Obj)) (r : Value) (news' : List (Addr × Obj)) : Prop :=
  ∃ nw K k' x dx t1 t2 t3 t4 u l ys, news' = (C, listOf (cs ++ K).toArray k') :: (nw ++ os) ∧ Apart ((C, listOf cs.toArray k) :: os) nw ∧ r = .ref x ∧ (x, instObj 354 dx) ∈ nw ∧ (dx, callD w t1 t2 t3 t4 (.str nm u) l) ∈ nw ∧ (l, LCg.lst ys) ∈ nw ∧ NodesIn w nw K ys ts ∧ (∀ c ∈ K, KnownAt w nw c) ∧ K.length ≤ szs ts
theorem fn_back {w : World} {nm : Str} {C x dx D : Addr} {cs : List Value} {k k' : Nat} {ts : List Tr} {os l nw : List (Addr × Obj)} {ys K : List Value} {t1 t2 t3 t4 u : Tok} {h₀ h : Heap} {L : Addr} {m : Str → Option Value} {gn dr oo} {tk : Nat} {Q : Value → Shared → Prop}
    (hret : ∀ r news' h' tk', Fr h₀ L h' m → News h₀ L h' news' → FnPost w nm C cs k ts os r news' → Q r ⟨h', gn, dr, tk', oo⟩) (F : Fr h₀ L h m)
    (N : News h₀ L h l) (mx : (x, instObj 354 dx) ∈ l) (mdx : (dx, callD w t1 t2 t3 t4 (.str nm u) D) ∈ l) (mD : (D, LCg.lst ys) ∈ l) (ha : Apart ((C, listOf cs.toArray k) :: os) nw) (hts : NodesIn w nw K ys ts) (hk : ∀ c ∈ K, KnownAt w nw c) (hlen : K.length ≤ szs ts) (mC : (C, listOf (cs ++ K).toArray k') ∈ l) (mo : ∀ p ∈ nw ++ os, p ∈ l)
    (hx : ∀ q ∈ (C, listOf cs.toArray k) :: (nw ++ os), q.1 ≠ x) (hdx : ∀ q ∈ (C, listOf cs.toArray k) :: (nw ++ os), q.1 ≠ dx) (hCD : C ≠ D) (hD : LCg.Off1 D (nw ++ os)) : Q (.ref x) ⟨h, gn, dr, tk, oo⟩ := by
  have offD : ∀ p ∈ nw ++ os, p.1 ≠ D := by
    have key : ∀ {x : List (Addr × Obj)}, LCg.Off1 D x → ∀ p ∈ x, p.1 ≠ D := by
      intro x
      induction x with
      | nil => exact fun _ _ h => nomatch h
      | cons a r ih =>
        intro hx p hp
        rcases List.mem_cons.mp hp with rfl | hp
        · exact hx.1
        · exact ih hx.2 p hp
    exact key hD
  have hsub : ∀ p ∈ nw, p ∈ (x, instObj 354 dx) :: (dx, callD w t1 t2 t3 t4 (.str nm u) D) :: (D, LCg.lst ys) :: nw := fun p hp => mem_tl (mem_tl (mem_tl hp))
  have pick : ∀ {a : Addr}, (∀ q ∈ (C, listOf cs.toArray k) :: (nw ++ os), q.1 ≠ a) → ∀ q ∈ (C, listOf cs.toArray k) :: os, q.1 ≠ a := fun h q hq => by
    rcases List.mem_cons.mp hq with rfl | hq
    · exact h _ (.head _)
    · exact h _ (.tail _ (mem_apr hq))
  refine hret _ ((C, listOf (cs ++ K).toArray k') :: ((x, instObj 354 dx) :: (dx, callD w t1 t2 t3 t4 (.str nm u) D) :: (D, LCg.lst ys) :: nw ++ os)) _ _ F (news_sub N fun p hp => ?_)
    ⟨(x, instObj 354 dx) :: (dx, callD w t1 t2 t3 t4 (.str nm u) D) :: (D, LCg.lst ys) :: nw, K, k', x, dx, t1, t2, t3, t4, u, D, ys, rfl, .cons (pick hx) (.cons (pick hdx) (.cons (fun q hq => ?_) ha)), rfl, mem_hd, mem_tl mem_hd, mem_tl (mem_tl mem_hd), hts.mono hsub fun _ h => h, fun c hc => (hk c hc).mono hsub, hlen⟩
  · rcases List.mem_cons.mp hp with rfl | hp
    · exact mC
    · rcases List.mem_cons.mp hp with rfl | hp
      · exact mx
      · rcases List.mem_cons.mp hp with rfl | hp
        · exact mdx
        · rcases List.mem_cons.mp hp with rfl | hp
          · exact mD
          · exact mo p hp
  · rcases List.mem_cons.mp hq with rfl | hq
    · exact hCD
    · exact offD _ (mem_apr hq)
section
theorem lines5 : True := by
  k_with "o4" => skip
  k_with "call ref" => ((fail_if_success k_extra "o5"); (k_here; (with_reducible show wpAny _ _ (call (Value.ref 815) _) _ _ _); k_dflt (refine' usx1 ?z52B ?z52F ?z52X ?z52N ?z52T ?z52hk ?z52P1 (nodeD_use (by with_reducible assumption) _ ?z52hd1 _ _ _ _ ?z52ht ?z52ho ?z52hz) ?_ ?_ (cur_node ?z52ik ?_); (case z52B => k_asm); (case z52F => k_asm); (case z52X => k_asm); (case z52N => k_asm); (case z52T => k_asm); (case z52hk => first | exact rfl | assumption); (case z52P1 => tb_start); (case z52ht => (refine TreeIn.mono ?_ (by with_reducible assumption); lcg_sub)); (case z52hd1 => with_reducible assumption); (case z52ho => k_all); (case z52hz => ((try rw [List.length_append]); lia)); (case z52ik => ktr_rel); (focus k_extra "rmD"); (focus k_extra "rmU"); intro r'ₘ nw8ₘ K8ₘ k8ₘ h'ₘ tk'ₘ F'ₘ en1ₘ lkₘ N'ₘ ha8ₘ ht8ₘ hk8ₘ hz8ₘ; (try dsimp only); (try k_sweep); (try k_fold))))
  k_with "CompSrc" => ((fail_if_success k_extra "o5"); (k_here; k_dflt ( refine' node_src (by with_reducible assumption) rfl (by k_asm) (by k_asm) (by k_mem) (by k_mem) (by lcg_sub) (by with_reducible assumption) (by with_reducible assumption) (by lia) (by with_reducible assumption) ?_ ?_; (intro gq v t I oI C' oC D m₂ ys nw K k9 h tk E' i hi hNt hmt ht hC hx F N ha7 hts hk hlen hz9 off1 off2 off4 ne; (have nq0 := off2.1); (have nq1 := off2.2.1); (have nq2 := off2.2.2); (have nq3 := ne.1); (have nq4 := ne.2.1); (have nq5 := ne.2.2); (have hd9 := hdep t hmt); (try dsimp only); (try k_fold)); rotate_left; (intro gq ys nw K k9 ha7 hts hk hlen; (try dsimp only)); rotate_right)))
  k_with "FinE" => ((fail_if_success k_extra "o5"); ((unfold LCg.FinE); intro Dq hq tkq Fq Nq o1q; (try simp only [List.nil_append, List.cons_append] at Nq); (try dsimp only)))
  k_with "kcf_m" => ((fail_if_success k_extra "o5"); ( (try k_unmd); (try k_unfold); refine' nturn_back (by with_reducible assumption) ?z53hi ?z53t1 ?z53t2 ?z53t2b ?z53t3 ?z53t4 ?z53t5 ?z53t6 ?z53t7 ?z53t8 ?z53u1 ?z53u2 ?z53u3 ?z53u4 ?z53f ?z53n ?z53sb ?z53ml ?z53w1 ?z53w2 ?z53w4; (case z53hi => with_reducible assumption); (case z53t1 => with_reducible assumption); (case z53t2 => with_reducible assumption); (case z53t2b => with_reducible assumption); (case z53t3 => with_reducible assumption); (case z53u2 => with_reducible assumption); (case z53t4 => k_mem); (case z53t5 => k_mem); (case z53t6 => k_mem); (case z53t7 => k_mem); (case z53t8 => lcg_sub); (case z53u1 => with_reducible assumption); (case z53u3 => with_reducible assumption); (case z53u4 => with_reducible assumption); (case z53f => with_reducible assumption); (case z53n => with_reducible assumption); (case z53sb => lcg_sub); (case z53ml => with_reducible assumption); (case z53w1 => with_reducible assumption); (case z53w2 => with_reducible assumption); (case z53w4 => with_reducible assumption)))
  k_with "kcf_all" => ((fail_if_success k_extra "o5"); ( refine' fn_back hret (by with_reducible assumption) (by with_reducible assumption) (by k_mem) (by k_mem) (by k_mem) ha7 hts hk hlen (by k_mem) (by lcg_sub) (by k_all) (by k_all) o1q.2.1 o1q.2.2))
  exact True.intro
set_option maxRecDepth 100000 in
set_option maxHeartbeats 2000000 in
theorem node_fn (w : World) (d : Nat) (C a0 l0 : Addr) (zs vs : List Value) (k k' n : Nat) (t : Tok) (nm : Str) (ts : List Tr) (os : List (Addr × Obj)) (ha : (a0, tupO [.str nm t, .ref l0] k') ∈ os) (hl : (l0, listOf vs.toArray n) ∈ os) (hvs : TreesIn os vs ts)
   (hlv : vs.length ≤ 3) (hN : ∀ t ∈ ts, NodeD w t) (hdep : ∀ t ∈ ts, t.depth ≤ d) (h1 : (nm == Str.ofString "value") = false) (h2 : (nm == Str.ofString "known") = false) (h3 : (nm == Str.ofString "column") = false) (hoff : ∀ p ∈ os, p.1 ≠ C) (hz : zs.length + szs ts ≤ 1000) :
   Does w 815 (d + 7) [.ref a0, .ref C] ((C, listOf zs.toArray k) :: os) (FnPost w nm C zs k ts os) := by
  refine Does.of ?_
  intro dp un gd cn cs a ccd cl outer A₀ base h₀ L m p loose mean mg mb hp0 gn0 dr0 tk0 oo0 Q E B F X N T hk hd hu hret
  revert X; k_fill; intro X
  refine wpAny_call ?_
  k_dflt (refine' code_defC ?k1 ?k2 ?k3 ?k4 ?k5 ?kA ?kF ?kK ?k6 ?k7 ?k8 ?k9 ?kB ?kD ?_ ?c2 ?c3 ?c4; (case kA => exact rfl); (case kF => exact rfl); (case kK => first | exact rfl | assumption); (case k1 => k_asm); (case k2 => k_asm); (case k3 => k_asm); (case k4 => k_asm); (case k5 => k_asm); (case k6 => k_is); (case k7 => k_is); (case k8 => k_room); (case k9 => exact BindsTo.of_eq rfl); (case kB => exact rfl); (case kD => decide +kernel); (case c2 => exact rfl); (case c3 => exact rfl); (case c4 => exact rfl); k_whole; intro g' L' h' tk' cells' FG' F' N' Y' B' X' T' l1; (try k_lt l1); have hY := CellsAre.one Y'; obtain ⟨oc1, hE, dc1⟩ := hY; subst hE; clear Y'; (try simp only [List.cons_append, List.nil_append] at N'); refine letF F' ?_; clear F'; intro mk F'; (first | (refine letN6 N' ?_; clear N'; intro e1 e2 e3 e4 e5 e6 lk N') | (refine letN5 N' ?_; clear N'; intro e1 e2 e3 e4 e5 lk N') | (refine letN4 N' ?_; clear N'; intro e1 e2 e3 e4 lk N') | (refine letN3 N' ?_; clear N'; intro e1 e2 e3 lk N') | (refine letN2 N' ?_; clear N'; intro e1 e2 lk N') | (refine letN1 N' ?_; clear N'; intro e1 lk N') | skip); (try dsimp only); (try k_lift B'); (try k_fold))
  have M9 : NodeCtx w (L' + 1, oc1) C zs k vs ts os := True.intro
  k_steps
  all_goals first | kcf_m | kcf_all | fail
end
end Mine
end
section
open PySem PySem.W PyProof.Rows
namespace Mine
theorem Does.mono {w : World} {f : Addr} {n : Nat} {vs : List Value} {news : List (Addr × Obj)} {P Q : Value → List (Addr × Obj) → Prop} (D : Does w f n vs news P) (h : ∀ r l, P r l → Q r l) : Does w f n vs news Q :=
  fun dp un gd cn cs a ccd cl outer A₀ base h₀ L m p loose mean mg mb s QQ E B F X N T hk hd hu hret =>
    D dp un gd cn cs a ccd cl outer A₀ base h₀ L m p loose mean mg mb s QQ E B F X N T hk hd hu fun r l h' tk' F' N' p' => hret r l h' tk' F' N' (h r l p')
theorem nodes0 {w : World} {os : List (Addr × Obj)} {K ys : List Value} (h : NodesIn w os K ys []) : ys = [] := by
  generalize e : ([] : List Tr) = ts at h
  cases h with
  | nil => rfl
  | snoc => simp at e
theorem nodes_pop {w : World} {os : List (Addr × Obj)} {K ys : List Value} {ts : List Tr} {t : Tr} (h : NodesIn w os K ys (ts ++ [t])) : ∃ ys' v, ys = ys' ++ [v] ∧ NodesIn w os K ys' ts ∧ NodeIn w os K v t := by
  generalize e : ts ++ [t] = ts' at h
  cases h with
  | nil => simp at e
  | @snoc vs ts2 v t2 h1 h2 =>
    have e1 := List.append_inj_left' e (by simp)
    have e2 := List.append_inj_right' e (by simp)
    subst e1
    cases e2
    exact ⟨vs, v, rfl, h1, h2⟩
theorem tr1 {os : List (Addr × Obj)} {v1 : Value} {x1 : Tr} (h : TreeIn os v1 x1) : TreesIn os [v1] [x1] := .snoc (vs := []) (ts := []) .nil h
theorem tr2 {os : List (Addr × Obj)} {v1 v2 : Value} {x1 x2 : Tr} (h : TreeIn os v1 x1) (k : TreeIn os v2 x2) : TreesIn os [v1, v2] [x1, x2] := .snoc (vs := [v1]) (ts := [x1]) (tr1 h) k
theorem tr3 {os : List (Addr × Obj)} {v1 v2 v3 : Value} {x1 x2 x3 : Tr} (h : TreeIn os v1 x1) (k : TreeIn os v2 x2) (l : TreeIn os v3 x3) : TreesIn os [v1, v2, v3] [x1, x2, x3] := .snoc (vs := [v1, v2]) (ts := [x1, x2]) (tr2 h k) l
theorem nm2 (F : F2) : (Str.ofString F.nm == Str.ofString "value") = false ∧ (Str.ofString F.nm == Str.ofString "known") = false ∧ (Str.ofString F.nm == Str.ofString "column") = false := by
  cases F <;> decide +kernel
theorem nm3 (F : F3) : (Str.ofString F.nm == Str.ofString "value") = false ∧ (Str.ofString F.nm == Str.ofString "known") = false ∧ (Str.ofString F.nm == Str.ofString "column") = false := by
  cases F <;> decide +kernel
theorem nmA : (Str.ofString "abs" == Str.ofString "value") = false ∧ (Str.ofString "abs" == Str.ofString "known") = false ∧ (Str.ofString "abs" == Str.ofString "column") = false := by decide +kernel
theorem fn_node {w : World} {nm : Str} {C : Addr} {cs : List Value} {k : Nat} {ts : List Tr} {t : Tr} {os : List (Addr × Obj)} {r : Value} {l : List (Addr × Obj)} (h : FnPost w nm C cs k ts os r l)
    (hN : ∀ nw K x dx t1 t2 t3 t4 u l1 ys, (x, instObj 354 dx) ∈ nw → (dx, callD w t1 t2 t3 t4 (.str nm u) l1) ∈ nw → (l1, LCg.lst ys) ∈ nw → NodesIn w nw K ys ts → NodeIn w nw K (.ref x) t) (hz : szs ts = t.sz) : NodePost w C cs k t os r l := by
  obtain ⟨nw, K, k', x, dx, t1, t2, t3, t4, u, l1, ys, e, ha, rfl, m1, m2, m3, hn, hk, hl⟩ := h
  exact ⟨nw, K, k', e, ha, hN _ _ _ _ _ _ _ _ _ _ _ m1 m2 m3 hn, hk, hz ▸ hl⟩
theorem nodes_1 {w : World} {os : List (Addr × Obj)} {K ys : List Value} {a : Tr} (h : NodesIn w os K ys [a]) : ∃ y1, ys = [y1] ∧ NodeIn w os K y1 a := by
  obtain ⟨ys, y1, rfl, hn, n1⟩ := nodes_pop (ts := []) h
  obtain rfl := nodes0 hn
  exact ⟨y1, rfl, n1⟩
theorem nodes_2 {w : World} {os : List (Addr × Obj)} {K ys : List Value} {a b : Tr} (h : NodesIn w os K ys [a, b]) : ∃ y1 y2, ys = [y1, y2] ∧ NodeIn w os K y1 a ∧ NodeIn w os K y2 b := by
  obtain ⟨ys, y2, rfl, hn, n2⟩ := nodes_pop (ts := [a]) h
  obtain ⟨y1, rfl, n1⟩ := nodes_1 hn
  exact ⟨y1, y2, rfl, n1, n2⟩
theorem nodes_3 {w : World} {os : List (Addr × Obj)} {K ys : List Value} {a b c : Tr} (h : NodesIn w os K ys [a, b, c]) : ∃ y1 y2 y3, ys = [y1, y2, y3] ∧ NodeIn w os K y1 a ∧ NodeIn w os K y2 b ∧ NodeIn w os K y3 c := by
  obtain ⟨ys, y3, rfl, hn, n3⟩ := nodes_pop (ts := [a, b]) h
  obtain ⟨y1, y2, rfl, n1, n2⟩ := nodes_2 hn
  exact ⟨y1, y2, y3, rfl, n1, n2, n3⟩
theorem all_2 {P : Tr → Prop} {a b : Tr} (h1 : P a) (h2 : P b) : ∀ t ∈ [a, b], P t := fun t h => by
  simp only [List.mem_cons, List.not_mem_nil, or_false] at h
  rcases h with rfl | rfl <;> assumption
theorem all_3 {P : Tr → Prop} {a b c : Tr} (h1 : P a) (h2 : P b) (h3 : P c) : ∀ t ∈ [a, b, c], P t := fun t h => by
  simp only [List.mem_cons, List.not_mem_nil, or_false] at h
  rcases h with rfl | rfl | rfl <;> assumption
theorem sz1 (a : Tr) : szs [a] = (Tr.f1 a).sz := rfl
theorem sz2 (F : F2) (a b : Tr) : szs [a, b] = (Tr.f2 F a b).sz := rfl
theorem sz3 (F : F3) (a b c : Tr) : szs [a, b, c] = (Tr.f3 F a b c).sz := by simp [szs, Tr.sz, Nat.add_assoc]
theorem node_does (w : World) (t : Tr) : NodeD w t := by
  induction t with
  | val y =>
    intro d hd v C zs k os ht ho hz
    cases ht with
    | val h1 h2 => exact node_lit w d C _ zs k _ _ _ y os h1 h2 ho
  | col i =>
    intro d hd v C zs k os ht ho hz
    cases ht with
    | col0 h1 => exact node_col0 w d C _ zs k _ _ _ os h1 ho
    | col1 h1 => exact node_col1 w d C _ zs k _ _ _ os h1 ho
  | known =>
    intro d hd v C zs k os ht ho hz
    cases ht with
    | known h1 => exact node_known w d C _ zs k _ _ _ os h1 ho hz
  | f0 =>
    intro d hd v C zs k os ht ho hz
    cases ht with
    | f0 h1 h2 =>
      cases d with
      | zero => exact absurd hd (Nat.not_succ_le_zero _)
      | succ d =>
        refine (node_fn w d C _ _ zs [] k _ _ _ _ [] os h1 h2 .nil (by simp) (fun _ h => nomatch h) (fun _ h => nomatch h) nmA.1 nmA.2.1 nmA.2.2 ho hz).mono fun r l h => fn_node h (fun nw K x dx t1 t2 t3 t4 u l1 ys m1 m2 m3 hn => ?_) rfl
        obtain rfl := nodes0 hn
        exact .f0 m1 m2 m3
  | f1 a ia =>
    intro d hd v C zs k os ht ho hz
    cases ht with
    | f1 h1 h2 h3 =>
      cases d with
      | zero => exact absurd hd (Nat.not_succ_le_zero _)
      | succ d =>
        refine (node_fn w d C _ _ zs _ k _ _ _ _ [a] os h1 h2 (tr1 h3) (Nat.le_of_ble_eq_true rfl) (fun t h => by rw [List.mem_singleton.mp h]; exact ia) (fun t h => by rw [List.mem_singleton.mp h]; exact Nat.le_of_succ_le_succ hd) nmA.1 nmA.2.1 nmA.2.2 ho (sz1 a ▸ hz)).mono fun r l h => fn_node h (fun nw K x dx t1 t2 t3 t4 u l1 ys m1 m2 m3 hn => ?_) (sz1 a)
        obtain ⟨y1, rfl, n1⟩ := nodes_1 hn
        exact .f1 m1 m2 m3 n1
  | f2 F a b ia ib =>
    intro d hd v C zs k os ht ho hz
    cases ht with
    | f2 _ h1 h2 h3 h4 =>
      cases d with
      | zero => exact absurd hd (Nat.not_succ_le_zero _)
      | succ d =>
        have hd' := Nat.max_le.mp (Nat.le_of_succ_le_succ hd)
        refine (node_fn w d C _ _ zs _ k _ _ _ _ [a, b] os h1 h2 (tr2 h3 h4) (Nat.le_of_ble_eq_true rfl) (all_2 ia ib) (all_2 hd'.1 hd'.2) (nm2 F).1 (nm2 F).2.1 (nm2 F).2.2 ho (sz2 F a b ▸ hz)).mono fun r l h => fn_node h (fun nw K x dx t1 t2 t3 t4 u l1 ys m1 m2 m3 hn => ?_) (sz2 F a b)
        obtain ⟨y1, y2, rfl, n1, n2⟩ := nodes_2 hn
        exact .f2 F m1 m2 m3 n1 n2
  | f3 F a b c ia ib ic =>
    intro d hd v C zs k os ht ho hz
    cases ht with
    | f3 _ h1 h2 h3 h4 h5 =>
      cases d with
      | zero => exact absurd hd (Nat.not_succ_le_zero _)
      | succ d =>
        have hd' := Nat.max_le.mp (Nat.le_of_succ_le_succ hd)
        have hd2 := Nat.max_le.mp hd'.2
        refine (node_fn w d C _ _ zs _ k _ _ _ _ [a, b, c] os h1 h2 (tr3 h3 h4 h5) (Nat.le_of_ble_eq_true rfl) (all_3 ia ib ic) (all_3 hd'.1 hd2.1 hd2.2) (nm3 F).1 (nm3 F).2.1 (nm3 F).2.2 ho (sz3 F a b c ▸ hz)).mono fun r l h => fn_node h (fun nw K x dx t1 t2 t3 t4 u l1 ys m1 m2 m3 hn => ?_) (sz3 F a b c)
        obtain ⟨y1, y2, y3, rfl, n1, n2, n3⟩ := nodes_3 hn
        exact .f3 F m1 m2 m3 n1 n2 n3
end Mine
end
section
open PySem PySem.W PyProof.Rows
namespace Mine
structure PK where
  t1 : Tok
  t2 : Tok
  t3 : Tok
  t4 : Tok
  t5 : Tok
  t6 : Tok
  t7 : Tok
  t8 : Tok
  u4 : Tok
  u5 : Tok
  OL : Addr
  CO : Addr
  LD : Addr
noncomputable abbrev progD (w : World) (k : PK) (R : Int) (uR : Tok) (N : Int) (uN : Tok) : Obj :=
  dictOf [ent w "ops" k.t1 (.ref k.OL), ent w "columns" k.t2 (.ref k.CO), ent w "registers" k.t3 (.int R uR), ent w "cursors" k.t4 (.int 0 k.u4), ent w "slots" k.t5 (.int 0 k.u5), ent w "writes" k.t6 (.bool false), ent w "labels" k.t7 (.ref k.LD), ent w "next_label" k.t8 (.int N uN)] 8
noncomputable def RegPost (w : World) (dP : Addr) (k : PK) (R : Int) (many : Int) (N : Int) (uN : Tok) (os : List (Addr × Obj)) (r : Value) (news' : List (Addr × Obj)) : Prop :=
  ∃ u uR, r = .int R u ∧ news' = (dP, progD w k (R + many) uR N uN) :: os
section
theorem lines6 : True := by
  k_with "o5" => skip
  exact True.intro

set_option maxRecDepth 100000 in
set_option maxHeartbeats 2000000 in
theorem reg1_does (w : World) (P dP : Addr) (k : PK) (R N : Int) (uR uN : Tok) (os : List (Addr × Obj)) (hP : (P, instObj 780 dP) ∈ os) (hoff : ∀ p ∈ os, p.1 ≠ dP) :
   Does w 741 2 [.ref P] ((dP, progD w k R uR N uN) :: os) (RegPost w dP k R 1 N uN os) := by
  refine Does.of ?_
  intro dp un gd cn cs a ccd cl outer A₀ base h₀ L m p loose mean mg mb hp0 gn0 dr0 tk0 oo0 Q E B F X N T hk hd hu hret
  revert X; k_fill; intro X
  refine wpAny_call ?_
  k_dflt (refine' code_def ?k1 ?k2 ?k3 ?k4 ?k5 ?kA ?kF ?kK ?k6 ?k7 ?k8 ?k9 ?kB ?_ ?c2 ?c3 ?c4 ?c5; (case kA => exact rfl); (case kF => exact rfl); (case kK => first | exact rfl | assumption); (case k1 => k_asm); (case k2 => k_asm); (case k3 => k_asm); (case k4 => k_asm); (case k5 => k_asm); (case k6 => k_is); (case k7 => k_is); (case k8 => k_room); (case k9 => first | exact BindsTo.of_eq rfl | exact binds_K (by k_in) rfl (by k_is) rfl rfl rfl); (case c5 => decide); (case kB => exact locs rfl); (case c2 => exact rfl); (case c3 => exact rfl); (case c4 => exact rfl); k_whole; intro g' L' h' FG' F' N' B' X' T'; refine letF F' ?_; clear F'; intro mk F'; (first | (refine letN6 N' ?_; clear N'; intro e1 e2 e3 e4 e5 e6 lk N') | (refine letN5 N' ?_; clear N'; intro e1 e2 e3 e4 e5 lk N') | (refine letN4 N' ?_; clear N'; intro e1 e2 e3 e4 lk N') | (refine letN3 N' ?_; clear N'; intro e1 e2 e3 lk N') | (refine letN2 N' ?_; clear N'; intro e1 e2 lk N') | (refine letN1 N' ?_; clear N'; intro e1 lk N') | skip); (try dsimp only); (try k_lift B'); (try k_fold))
  k_steps
  all_goals first | exact hret _ _ _ _ (by with_reducible assumption) (by with_reducible assumption) ⟨_, _, rfl, rfl⟩ | fail
set_option maxRecDepth 100000 in
set_option maxHeartbeats 2000000 in
theorem regn_does (w : World) (P dP : Addr) (k : PK) (R N many : Int) (uR uN um : Tok) (os : List (Addr × Obj)) (hP : (P, instObj 780 dP) ∈ os) (hoff : ∀ p ∈ os, p.1 ≠ dP) :
   Does w 741 2 [.ref P, .int many um] ((dP, progD w k R uR N uN) :: os) (RegPost w dP k R many N uN os) := by
  refine Does.of ?_
  intro dp un gd cn cs a ccd cl outer A₀ base h₀ L m p loose mean mg mb hp0 gn0 dr0 tk0 oo0 Q E B F X N T hk hd hu hret
  revert X; k_fill; intro X
  refine wpAny_call ?_
  k_dflt (refine' code_def ?k1 ?k2 ?k3 ?k4 ?k5 ?kA ?kF ?kK ?k6 ?k7 ?k8 ?k9 ?kB ?_ ?c2 ?c3 ?c4 ?c5; (case kA => exact rfl); (case kF => exact rfl); (case kK => first | exact rfl | assumption); (case k1 => k_asm); (case k2 => k_asm); (case k3 => k_asm); (case k4 => k_asm); (case k5 => k_asm); (case k6 => k_is); (case k7 => k_is); (case k8 => k_room); (case k9 => first | exact BindsTo.of_eq rfl | exact binds_K (by k_in) rfl (by k_is) rfl rfl rfl); (case c5 => decide); (case kB => exact locs rfl); (case c2 => exact rfl); (case c3 => exact rfl); (case c4 => exact rfl); k_whole; intro g' L' h' FG' F' N' B' X' T'; refine letF F' ?_; clear F'; intro mk F'; (first | (refine letN6 N' ?_; clear N'; intro e1 e2 e3 e4 e5 e6 lk N') | (refine letN5 N' ?_; clear N'; intro e1 e2 e3 e4 e5 lk N') | (refine letN4 N' ?_; clear N'; intro e1 e2 e3 e4 lk N') | (refine letN3 N' ?_; clear N'; intro e1 e2 e3 lk N') | (refine letN2 N' ?_; clear N'; intro e1 e2 lk N') | (refine letN1 N' ?_; clear N'; intro e1 lk N') | skip); (try dsimp only); (try k_lift B'); (try k_fold))
  k_steps
  all_goals first | exact hret _ _ _ _ (by with_reducible assumption) (by with_reducible assumption) ⟨_, _, rfl, rfl⟩ | fail
noncomputable def LabPost (w : World) (dP : Addr) (k : PK) (R : Int) (uR : Tok) (N : Int) (os : List (Addr × Obj)) (r : Value) (news' : List (Addr × Obj)) : Prop :=
  ∃ u uN, r = .int N u ∧ news' = (dP, progD w k R uR (N - 1) uN) :: os
set_option maxRecDepth 100000 in
set_option maxHeartbeats 2000000 in
theorem label_does (w : World) (P dP : Addr) (k : PK) (R N : Int) (uR uN : Tok) (os : List (Addr × Obj)) (hP : (P, instObj 780 dP) ∈ os) (hoff : ∀ p ∈ os, p.1 ≠ dP) :
   Does w 726 2 [.ref P] ((dP, progD w k R uR N uN) :: os) (LabPost w dP k R uR N os) := by
  refine Does.of ?_
  intro dp un gd cn cs a ccd cl outer A₀ base h₀ L m p loose mean mg mb hp0 gn0 dr0 tk0 oo0 Q E B F X N T hk hd hu hret
  revert X; k_fill; intro X
  refine wpAny_call ?_
  k_dflt (refine' code_def ?k1 ?k2 ?k3 ?k4 ?k5 ?kA ?kF ?kK ?k6 ?k7 ?k8 ?k9 ?kB ?_ ?c2 ?c3 ?c4 ?c5; (case kA => exact rfl); (case kF => exact rfl); (case kK => first | exact rfl | assumption); (case k1 => k_asm); (case k2 => k_asm); (case k3 => k_asm); (case k4 => k_asm); (case k5 => k_asm); (case k6 => k_is); (case k7 => k_is); (case k8 => k_room); (case k9 => first | exact BindsTo.of_eq rfl | exact binds_K (by k_in) rfl (by k_is) rfl rfl rfl); (case c5 => decide); (case kB => exact locs rfl); (case c2 => exact rfl); (case c3 => exact rfl); (case c4 => exact rfl); k_whole; intro g' L' h' FG' F' N' B' X' T'; refine letF F' ?_; clear F'; intro mk F'; (first | (refine letN6 N' ?_; clear N'; intro e1 e2 e3 e4 e5 e6 lk N') | (refine letN5 N' ?_; clear N'; intro e1 e2 e3 e4 e5 lk N') | (refine letN4 N' ?_; clear N'; intro e1 e2 e3 e4 lk N') | (refine letN3 N' ?_; clear N'; intro e1 e2 e3 lk N') | (refine letN2 N' ?_; clear N'; intro e1 e2 lk N') | (refine letN1 N' ?_; clear N'; intro e1 lk N') | skip); (try dsimp only); (try k_lift B'); (try k_fold))
  k_steps
  all_goals first | exact hret _ _ _ _ (by with_reducible assumption) (by with_reducible assumption) ⟨_, _, rfl, rfl⟩ | fail
section Cur
variable {h₀ : Heap} {L : Addr} {m : Str → Option Value} {gn dr oo} {Q : Value → Shared → Prop}
theorem cur_reg {w : World} {dP : Addr} {k : PK} {R many N : Int} {uN : Tok} {os : List (Addr × Obj)}
    (ret : ∀ (u8 uR8 : Tok) (h' : Heap) (tk' : Nat), Fr h₀ L h' m → let x1 : Addr × Obj := (dP, progD w k (R + many) uR8 N uN); let l := x1 :: os; News h₀ L h' l → Q (.int R u8) ⟨h', gn, dr, tk', oo⟩) :
    ∀ r news' h' tk', Fr h₀ L h' m → News h₀ L h' news' → RegPost w dP k R many N uN os r news' → Q r ⟨h', gn, dr, tk', oo⟩ := by
  rintro _ _ h' tk' F N ⟨u, uR, rfl, rfl⟩; exact ret u uR h' tk' F N
theorem cur_lab {w : World} {dP : Addr} {k : PK} {R N : Int} {uR : Tok} {os : List (Addr × Obj)}
    (ret : ∀ (u8 uN8 : Tok) (h' : Heap) (tk' : Nat), Fr h₀ L h' m → let x1 : Addr × Obj := (dP, progD w k R uR (N - 1) uN8); let l := x1 :: os; News h₀ L h' l → Q (.int N u8) ⟨h', gn, dr, tk', oo⟩) :
    ∀ r news' h' tk', Fr h₀ L h' m → News h₀ L h' news' → LabPost w dP k R uR N os r news' → Q r ⟨h', gn, dr, tk', oo⟩ := by
  rintro _ _ h' tk' F N ⟨u, uN, rfl, rfl⟩; exact ret u uN h' tk' F N
end Cur
inductive OpOf : List Value → List Value → Prop
  | five {a b c d e} : OpOf [a, b, c, d, e] [a, b, c, d, e]
  | four {a b c d} : OpOf [a, b, c, d] [a, b, c, d, .none]
  | three {a b c t} : OpOf [a, b, c] [a, b, c, .int 0 t, .none]
  | one {a t u v} : OpOf [a] [a, .int 0 t, .int 0 u, .int 0 v, .none]
noncomputable def AddPost (OL : Addr) (xs : List Value) (op : List Value) (os : List (Addr × Obj)) (ur : Value) (news' : List (Addr × Obj)) : Prop :=
  ∃ a n n', news' = (OL, listOf (xs ++ [Value.ref a]).toArray n) :: (a, listOf op.toArray n') :: os ∧ (∀ q ∈ os, q.1 ≠ a) ∧ OL ≠ a
theorem add_back {OL a : Addr} {xs op vs : List Value} {n n' : Nat} {os : List (Addr × Obj)} {h₀ h : Heap} {L : Addr} {m : Str → Option Value} {gn dr oo} {tk : Nat} {Q : Value → Shared → Prop} {r : Value}
    (hret : ∀ r news' h' tk', Fr h₀ L h' m → News h₀ L h' news' → (∃ op, OpOf vs op ∧ AddPost OL xs op os r news') → Q r ⟨h', gn, dr, tk', oo⟩) (F : Fr h₀ L h m)
    (N : News h₀ L h ((a, listOf op.toArray n') :: (OL, listOf (xs ++ [Value.ref a]).toArray n) :: os)) (hx : ∀ q ∈ os, q.1 ≠ a) (hO : @Ne Nat OL a) (ho : OpOf vs op) : Q r ⟨h, gn, dr, tk, oo⟩ :=
  hret _ _ _ _ F (news_sub (l' := (OL, listOf (xs ++ [Value.ref a]).toArray n) :: (a, listOf op.toArray n') :: os) N fun p hp => by
    rcases List.mem_cons.mp hp with rfl | hp
    · exact mem_tl mem_hd
    · rcases List.mem_cons.mp hp with rfl | hp
      · exact mem_hd
      · exact mem_tl (mem_tl hp)) ⟨op, ho, a, n, n', rfl, hx, hO⟩
theorem lines7 : True := by
  k_with "kcf_m" => ((fail_if_success k_extra "o6"); ( refine' add_back ?z54h ?z54f ?z54n ?z54hx ?z54hO ?z54ho; (case z54h => with_reducible assumption); (case z54f => with_reducible assumption); (case z54n => with_reducible assumption); (case z54hx => k_all); (case z54hO => k_ne); (case z54ho => constructor)))
  exact True.intro
set_option maxRecDepth 100000 in
set_option maxHeartbeats 2000000 in
theorem add2_does (w : World) (P dP : Addr) (k : PK) (R N : Int) (uR uN : Tok) (xs : List Value) (n : Nat) (v1 : Value) (os : List (Addr × Obj)) (hP : (P, instObj 780 dP) ∈ os) (hdP : (dP, progD w k R uR N uN) ∈ os) (hoff : ∀ p ∈ os, p.1 ≠ k.OL) (hx : xs.length ≤ 1000) :
   Does w 712 2 [.ref P, v1] ((k.OL, listOf xs.toArray n) :: os) (fun r l => ∃ op, OpOf [v1] op ∧ AddPost k.OL xs op os r l) := by
  refine Does.of ?_
  intro dp un gd cn cs a ccd cl outer A₀ base h₀ L m p loose mean mg mb hp0 gn0 dr0 tk0 oo0 Q E B F X N T hk hd hu hret
  revert X; k_fill; intro X
  refine wpAny_call ?_
  k_dflt (refine' code_def ?k1 ?k2 ?k3 ?k4 ?k5 ?kA ?kF ?kK ?k6 ?k7 ?k8 ?k9 ?kB ?_ ?c2 ?c3 ?c4 ?c5; (case kA => exact rfl); (case kF => exact rfl); (case kK => first | exact rfl | assumption); (case k1 => k_asm); (case k2 => k_asm); (case k3 => k_asm); (case k4 => k_asm); (case k5 => k_asm); (case k6 => k_is); (case k7 => k_is); (case k8 => k_room); (case k9 => first | exact BindsTo.of_eq rfl | exact binds_K (by k_in) rfl (by k_is) rfl rfl rfl); (case c5 => decide); (case kB => exact locs rfl); (case c2 => exact rfl); (case c3 => exact rfl); (case c4 => exact rfl); k_whole; intro g' L' h' FG' F' N' B' X' T'; refine letF F' ?_; clear F'; intro mk F'; (first | (refine letN6 N' ?_; clear N'; intro e1 e2 e3 e4 e5 e6 lk N') | (refine letN5 N' ?_; clear N'; intro e1 e2 e3 e4 e5 lk N') | (refine letN4 N' ?_; clear N'; intro e1 e2 e3 e4 lk N') | (refine letN3 N' ?_; clear N'; intro e1 e2 e3 lk N') | (refine letN2 N' ?_; clear N'; intro e1 e2 lk N') | (refine letN1 N' ?_; clear N'; intro e1 lk N') | skip); (try dsimp only); (try k_lift B'); (try k_fold))
  k_steps
  all_goals first | kcf_m | fail
set_option maxRecDepth 100000 in
set_option maxHeartbeats 2000000 in
theorem add4_does (w : World) (P dP : Addr) (k : PK) (R N : Int) (uR uN : Tok) (xs : List Value) (n : Nat) (v1 v2 v3 : Value) (os : List (Addr × Obj)) (hP : (P, instObj 780 dP) ∈ os) (hdP : (dP, progD w k R uR N uN) ∈ os) (hoff : ∀ p ∈ os, p.1 ≠ k.OL) (hx : xs.length ≤ 1000) :
   Does w 712 2 [.ref P, v1, v2, v3] ((k.OL, listOf xs.toArray n) :: os) (fun r l => ∃ op, OpOf [v1, v2, v3] op ∧ AddPost k.OL xs op os r l) := by
  refine Does.of ?_
  intro dp un gd cn cs a ccd cl outer A₀ base h₀ L m p loose mean mg mb hp0 gn0 dr0 tk0 oo0 Q E B F X N T hk hd hu hret
  revert X; k_fill; intro X
  refine wpAny_call ?_
  k_dflt (refine' code_def ?k1 ?k2 ?k3 ?k4 ?k5 ?kA ?kF ?kK ?k6 ?k7 ?k8 ?k9 ?kB ?_ ?c2 ?c3 ?c4 ?c5; (case kA => exact rfl); (case kF => exact rfl); (case kK => first | exact rfl | assumption); (case k1 => k_asm); (case k2 => k_asm); (case k3 => k_asm); (case k4 => k_asm); (case k5 => k_asm); (case k6 => k_is); (case k7 => k_is); (case k8 => k_room); (case k9 => first | exact BindsTo.of_eq rfl | exact binds_K (by k_in) rfl (by k_is) rfl rfl rfl); (case c5 => decide); (case kB => exact locs rfl); (case c2 => exact rfl); (case c3 => exact rfl); (case c4 => exact rfl); k_whole; intro g' L' h' FG' F' N' B' X' T'; refine letF F' ?_; clear F'; intro mk F'; (first | (refine letN6 N' ?_; clear N'; intro e1 e2 e3 e4 e5 e6 lk N') | (refine letN5 N' ?_; clear N'; intro e1 e2 e3 e4 e5 lk N') | (refine letN4 N' ?_; clear N'; intro e1 e2 e3 e4 lk N') | (refine letN3 N' ?_; clear N'; intro e1 e2 e3 lk N') | (refine letN2 N' ?_; clear N'; intro e1 e2 lk N') | (refine letN1 N' ?_; clear N'; intro e1 lk N') | skip); (try dsimp only); (try k_lift B'); (try k_fold))
  k_steps
  all_goals first | kcf_m | fail
set_option maxRecDepth 100000 in
set_option maxHeartbeats 2000000 in
theorem add5_does (w : World) (P dP : Addr) (k : PK) (R N : Int) (uR uN : Tok) (xs : List Value) (n : Nat) (v1 v2 v3 v4 : Value) (os : List (Addr × Obj)) (hP : (P, instObj 780 dP) ∈ os) (hdP : (dP, progD w k R uR N uN) ∈ os) (hoff : ∀ p ∈ os, p.1 ≠ k.OL) (hx : xs.length ≤ 1000) :
   Does w 712 2 [.ref P, v1, v2, v3, v4] ((k.OL, listOf xs.toArray n) :: os) (fun r l => ∃ op, OpOf [v1, v2, v3, v4] op ∧ AddPost k.OL xs op os r l) := by
  refine Does.of ?_
  intro dp un gd cn cs a ccd cl outer A₀ base h₀ L m p loose mean mg mb hp0 gn0 dr0 tk0 oo0 Q E B F X N T hk hd hu hret
  revert X; k_fill; intro X
  refine wpAny_call ?_
  k_dflt (refine' code_def ?k1 ?k2 ?k3 ?k4 ?k5 ?kA ?kF ?kK ?k6 ?k7 ?k8 ?k9 ?kB ?_ ?c2 ?c3 ?c4 ?c5; (case kA => exact rfl); (case kF => exact rfl); (case kK => first | exact rfl | assumption); (case k1 => k_asm); (case k2 => k_asm); (case k3 => k_asm); (case k4 => k_asm); (case k5 => k_asm); (case k6 => k_is); (case k7 => k_is); (case k8 => k_room); (case k9 => first | exact BindsTo.of_eq rfl | exact binds_K (by k_in) rfl (by k_is) rfl rfl rfl); (case c5 => decide); (case kB => exact locs rfl); (case c2 => exact rfl); (case c3 => exact rfl); (case c4 => exact rfl); k_whole; intro g' L' h' FG' F' N' B' X' T'; refine letF F' ?_; clear F'; intro mk F'; (first | (refine letN6 N' ?_; clear N'; intro e1 e2 e3 e4 e5 e6 lk N') | (refine letN5 N' ?_; clear N'; intro e1 e2 e3 e4 e5 lk N') | (refine letN4 N' ?_; clear N'; intro e1 e2 e3 e4 lk N') | (refine letN3 N' ?_; clear N'; intro e1 e2 e3 lk N') | (refine letN2 N' ?_; clear N'; intro e1 e2 lk N') | (refine letN1 N' ?_; clear N'; intro e1 lk N') | skip); (try dsimp only); (try k_lift B'); (try k_fold))
  k_steps
  all_goals first | kcf_m | fail
set_option maxRecDepth 100000 in
set_option maxHeartbeats 2000000 in
theorem add6_does (w : World) (P dP : Addr) (k : PK) (R N : Int) (uR uN : Tok) (xs : List Value) (n : Nat) (v1 v2 v3 v4 v5 : Value) (os : List (Addr × Obj)) (hP : (P, instObj 780 dP) ∈ os) (hdP : (dP, progD w k R uR N uN) ∈ os) (hoff : ∀ p ∈ os, p.1 ≠ k.OL) (hx : xs.length ≤ 1000) :
   Does w 712 2 [.ref P, v1, v2, v3, v4, v5] ((k.OL, listOf xs.toArray n) :: os) (fun r l => ∃ op, OpOf [v1, v2, v3, v4, v5] op ∧ AddPost k.OL xs op os r l) := by
  refine Does.of ?_
  intro dp un gd cn cs a ccd cl outer A₀ base h₀ L m p loose mean mg mb hp0 gn0 dr0 tk0 oo0 Q E B F X N T hk hd hu hret
  revert X; k_fill; intro X
  refine wpAny_call ?_
  k_dflt (refine' code_def ?k1 ?k2 ?k3 ?k4 ?k5 ?kA ?kF ?kK ?k6 ?k7 ?k8 ?k9 ?kB ?_ ?c2 ?c3 ?c4 ?c5; (case kA => exact rfl); (case kF => exact rfl); (case kK => first | exact rfl | assumption); (case k1 => k_asm); (case k2 => k_asm); (case k3 => k_asm); (case k4 => k_asm); (case k5 => k_asm); (case k6 => k_is); (case k7 => k_is); (case k8 => k_room); (case k9 => first | exact BindsTo.of_eq rfl | exact binds_K (by k_in) rfl (by k_is) rfl rfl rfl); (case c5 => decide); (case kB => exact locs rfl); (case c2 => exact rfl); (case c3 => exact rfl); (case c4 => exact rfl); k_whole; intro g' L' h' FG' F' N' B' X' T'; refine letF F' ?_; clear F'; intro mk F'; (first | (refine letN6 N' ?_; clear N'; intro e1 e2 e3 e4 e5 e6 lk N') | (refine letN5 N' ?_; clear N'; intro e1 e2 e3 e4 e5 lk N') | (refine letN4 N' ?_; clear N'; intro e1 e2 e3 e4 lk N') | (refine letN3 N' ?_; clear N'; intro e1 e2 e3 lk N') | (refine letN2 N' ?_; clear N'; intro e1 e2 lk N') | (refine letN1 N' ?_; clear N'; intro e1 lk N') | skip); (try dsimp only); (try k_lift B'); (try k_fold))
  k_steps
  all_goals first | kcf_m | fail
end
end Mine
end
section
open PySem PySem.W PyProof.Rows PySem.Spec PyProof.V
namespace Mine
noncomputable abbrev PGm : PySem.Program := PySem.Challenge.rw_nt0122_01.row.prog
noncomputable def IntD (w : World) (o : Obj) (D : List (PyData × PyData)) : Prop := ∃ kvs, o.IsDictOf (intKind PySem.Challenge.rw_nt0122_01.row.prog w) kvs ∧ FlatPairs PyData.int kvs D
noncomputable def PlacePost (w : World) (LD : Addr) (lab n : Int) (D : List (PyData × PyData)) (os : List (Addr × Obj)) (ur : Value) (news' : List (Addr × Obj)) : Prop :=
  ∃ o', news' = (LD, o') :: os ∧ IntD w o' (putD (.int lab) (.int n) D)
section
theorem lines8 : True := by
  k_with "o6" => skip
  exact True.intro

set_option maxRecDepth 100000 in
set_option maxHeartbeats 2000000 in
theorem place_does (w : World) (P dP : Addr) (k : PK) (R N lab : Int) (uR uN ul : Tok) (xs : List Value) (n : Nat) (oL : Obj) (D : List (PyData × PyData)) (os : List (Addr × Obj)) (hP : (P, instObj 780 dP) ∈ os) (hdP : (dP, progD w k R uR N uN) ∈ os) (hOL : (k.OL, listOf xs.toArray n) ∈ os)
   (hoff : ∀ p ∈ os, p.1 ≠ k.LD) (hx : xs.length ≤ 1000) (hD : IntD w oL D) (hlow : (k.LD == sysModules) = false) (h1 : lab < 0) (h2 : N < lab) (h3 : (lookup (.int lab) D).isSome = false) (h4 : D.length ≤ 1000) :
   Does w 733 2 [.ref P, .int lab ul] ((k.LD, oL) :: os) (PlacePost w k.LD lab xs.length D os) := by
  obtain ⟨kvs, hd1, hf1⟩ := hD
  refine Does.of ?_
  intro dp un gd cn cs a ccd cl outer A₀ base h₀ L m p loose mean mg mb hp0 gn0 dr0 tk0 oo0 Q E B F X N T hk hd hu hret
  revert X; k_fill; intro X
  refine wpAny_call ?_
  k_dflt (refine' code_def ?k1 ?k2 ?k3 ?k4 ?k5 ?kA ?kF ?kK ?k6 ?k7 ?k8 ?k9 ?kB ?_ ?c2 ?c3 ?c4 ?c5; (case kA => exact rfl); (case kF => exact rfl); (case kK => first | exact rfl | assumption); (case k1 => k_asm); (case k2 => k_asm); (case k3 => k_asm); (case k4 => k_asm); (case k5 => k_asm); (case k6 => k_is); (case k7 => k_is); (case k8 => k_room); (case k9 => first | exact BindsTo.of_eq rfl | exact binds_K (by k_in) rfl (by k_is) rfl rfl rfl); (case c5 => decide); (case kB => exact locs rfl); (case c2 => exact rfl); (case c3 => exact rfl); (case c4 => exact rfl); k_whole; intro g' L' h' FG' F' N' B' X' T'; refine letF F' ?_; clear F'; intro mk F'; (first | (refine letN6 N' ?_; clear N'; intro e1 e2 e3 e4 e5 e6 lk N') | (refine letN5 N' ?_; clear N'; intro e1 e2 e3 e4 e5 lk N') | (refine letN4 N' ?_; clear N'; intro e1 e2 e3 e4 lk N') | (refine letN3 N' ?_; clear N'; intro e1 e2 e3 lk N') | (refine letN2 N' ?_; clear N'; intro e1 e2 lk N') | (refine letN1 N' ?_; clear N'; intro e1 lk N') | skip); (try dsimp only); (try k_lift B'); (try k_fold))
  k_steps
  all_goals first | exact hret _ _ _ _ (by with_reducible assumption) (by with_reducible assumption) ⟨_, rfl, _, by assumption, by assumption⟩ | fail
end
end Mine
end
section
open PySem PySem.W PyProof.Rows PySem.Spec PyProof.V
namespace Mine
inductive P4 where
  | val (v : Option Int)
  | told (nm co : String)
structure Op where
  nm : String
  p1 : Int
  p2 : Int
  p3 : Int
  p4 : P4
structure St where
  R : Int
  N : Int
  ops : List Op
  labs : List (Int × Int)
noncomputable abbrev St.add (s : St) (nm : String) (p1 p2 p3 : Int) (p4 : P4) : St := { s with ops := s.ops ++ [⟨nm, p1, p2, p3, p4⟩] }
noncomputable abbrev St.lab (s : St) : St := { s with N := s.N - 1 }
noncomputable abbrev St.reg (s : St) (n : Int) : St := { s with R := s.R + n }
noncomputable abbrev St.place (s : St) (l : Int) : St := { s with labs := s.labs ++ [(l, (s.ops.length : Int))] }
noncomputable def colOf : List Tr → String
  | [] => "binary"
  | .col false :: _ => "nocase"
  | .col true :: _ => "binary"
  | _ :: r => colOf r
noncomputable abbrev known1 (f : Int → St → St) (t lab : Int) (s : St) : St := (f t s).add "NotNull" t lab 0 (.val none)
noncomputable def comp : Tr → Int → St → St
  | .val v, t, s => s.add "Value" 0 t 0 (.val v)
  | .col i, t, s => s.add "Copy" (2 + if i then 1 else 0) t 1 (.val none)
  | .known, t, s => s.add "Copy" 4 t 1 (.val none)
  | .f0, t, s => (s.reg 1).add "Function" s.R 0 t (.told "abs" "binary")
  | .f1 a, t, s => (comp a s.R (s.reg 1)).add "Function" s.R 1 t (.told "abs" (colOf [a]))
  | .f2 .max a b, t, s => (comp b (s.R + 1) (comp a s.R (s.reg 2))).add "Function" s.R 2 t (.told "max" (colOf [a, b]))
  | .f2 .coalesce a b, t, s => (known1 (comp b) t s.N (known1 (comp a) t s.N s.lab)).place s.N
  | .f2 .ifnull a b, t, s => (known1 (comp b) t s.N (known1 (comp a) t s.N s.lab)).place s.N
  | .f3 .coalesce a b c, t, s => (known1 (comp c) t s.N (known1 (comp b) t s.N (known1 (comp a) t s.N s.lab))).place s.N
  | .f3 .iif c a b, t, s =>
    let s1 := (comp c s.R ((s.lab.lab).reg 1)).add "IfNot" s.R (s.N - 1) 1 (.val none)
    let s2 := ((comp a t s1).add "Goto" 0 s.N 0 (.val none)).place (s.N - 1)
    (comp b t s2).place s.N
  | .f3 .iif2 c a b, t, s =>
    let s1 := (comp c s.R ((s.lab.lab).reg 1)).add "IfNot" s.R (s.N - 1) 1 (.val none)
    let s2 := ((comp a t s1).add "Goto" 0 s.N 0 (.val none)).place (s.N - 1)
    (comp b t s2).place s.N
noncomputable def F2.own : F2 → Nat
  | .max => 1
  | .coalesce => 2
  | .ifnull => 2
noncomputable def F3.own : F3 → Nat
  | .coalesce => 3
  | .iif => 2
  | .iif2 => 2
noncomputable def Tr.nops : Tr → Nat
  | .val _ => 1
  | .col _ => 1
  | .known => 1
  | .f0 => 1
  | .f1 a => a.nops + 1
  | .f2 F a b => a.nops + b.nops + F.own
  | .f3 F a b c => a.nops + b.nops + c.nops + F.own
theorem comp_len (t : Tr) : ∀ (x : Int) (s : St), (comp t x s).ops.length = s.ops.length + t.nops := by
  induction t with
  | val v => intro x s; simp [comp, St.add, Tr.nops, F2.own, F3.own]
  | col i => intro x s; simp [comp, St.add, Tr.nops, F2.own, F3.own]
  | known => intro x s; simp [comp, St.add, Tr.nops, F2.own, F3.own]
  | f0 => intro x s; simp [comp, St.add, St.reg, Tr.nops, F2.own, F3.own]
  | f1 a ia => intro x s; simp only [comp, St.add, St.reg, Tr.nops, F2.own, F3.own, List.length_append, List.length_cons, List.length_nil, ia]; lia
  | f2 F a b ia ib => intro x s; cases F <;> simp only [comp, known1, St.add, St.reg, St.lab, St.place, Tr.nops, F2.own, F3.own, List.length_append, List.length_cons, List.length_nil, ia, ib] <;> lia
  | f3 F a b c ia ib ic => intro x s; cases F <;> simp only [comp, known1, St.add, St.reg, St.lab, St.place, Tr.nops, F2.own, F3.own, List.length_append, List.length_cons, List.length_nil, ia, ib, ic] <;> lia
structure Labs (s s' : St) : Prop where
  n : s'.N ≤ s.N
  l : ∃ nl, s'.labs = s.labs ++ nl ∧ ∀ p ∈ nl, s'.N < p.1 ∧ p.1 ≤ s.N
theorem Labs.refl (s : St) : Labs s s := ⟨Int.le_refl _, [], (List.append_nil _).symm, fun _ h => nomatch h⟩
theorem Labs.trans {a b c : St} (h : Labs a b) (k : Labs b c) : Labs a c := by
  obtain ⟨n1, l1, e1, h1⟩ := h
  obtain ⟨n2, l2, e2, h2⟩ := k
  refine ⟨by lia, l1 ++ l2, by rw [e2, e1, List.append_assoc], fun p hp => ?_⟩
  rcases List.mem_append.mp hp with hp | hp
  · have := h1 p hp; lia
  · have := h2 p hp; lia
theorem Labs.add {a b : St} (h : Labs a b) (nm : String) (p1 p2 p3 : Int) (p4 : P4) : Labs a (b.add nm p1 p2 p3 p4) := ⟨h.n, h.l⟩
theorem Labs.reg {a b : St} (h : Labs a b) (n : Int) : Labs a (b.reg n) := ⟨h.n, h.l⟩
theorem Labs.lab {a b : St} (h : Labs a b) : Labs a b.lab := by
  obtain ⟨n1, l1, e1, h1⟩ := h
  exact ⟨by simp only [St.lab]; lia, l1, e1, fun p hp => by have := h1 p hp; simp only [St.lab]; lia⟩
theorem Labs.place {a b : St} (h : Labs a b) (l : Int) (h1 : b.N < l) (h2 : l ≤ a.N) : Labs a (b.place l) := by
  obtain ⟨n1, l1, e1, k1⟩ := h
  refine ⟨n1, l1 ++ [(l, (b.ops.length : Int))], by simp only [St.place, e1, List.append_assoc], fun p hp => ?_⟩
  rcases List.mem_append.mp hp with hp | hp
  · exact k1 p hp
  · rw [List.mem_singleton.mp hp]; exact ⟨h1, h2⟩
theorem comp_labs (t : Tr) : ∀ (x : Int) (s : St), Labs s (comp t x s) := by
  induction t with
  | val v => intro x s; exact (Labs.refl s).add ..
  | col i => intro x s; exact (Labs.refl s).add ..
  | known => intro x s; exact (Labs.refl s).add ..
  | f0 => intro x s; exact ((Labs.refl s).reg 1).add ..
  | f1 a ia => intro x s; exact (((Labs.refl s).reg 1).trans (ia _ _)).add ..
  | f2 F a b ia ib =>
    intro x s
    have kn : Labs s.lab (known1 (comp b) x s.N (known1 (comp a) x s.N s.lab)) := ((((Labs.refl _).trans (ia _ _)).add ..).trans (ib _ _)).add ..
    cases F with
    | max => exact ((((Labs.refl s).reg 2).trans (ia _ _)).trans (ib _ _)).add ..
    | coalesce => exact (((Labs.refl s).lab).trans kn).place _ (by have := kn.n; simp only [St.lab] at this ⊢; lia) (Int.le_refl _)
    | ifnull => exact (((Labs.refl s).lab).trans kn).place _ (by have := kn.n; simp only [St.lab] at this ⊢; lia) (Int.le_refl _)
  | f3 F a b c ia ib ic =>
    intro x s
    have kn : Labs s.lab (known1 (comp c) x s.N (known1 (comp b) x s.N (known1 (comp a) x s.N s.lab))) := ((((((Labs.refl _).trans (ia _ _)).add ..).trans (ib _ _)).add ..).trans (ic _ _)).add ..
    have k0 : Labs s ((s.lab.lab).reg 1) := (((Labs.refl s).lab).lab).reg 1
    have k1 := (k0.trans (ia s.R _)).add "IfNot" s.R (s.N - 1) 1 (.val none)
    have m1 := (ia s.R ((s.lab.lab).reg 1)).n
    have k2 := (k1.trans (ib x _)).add "Goto" 0 s.N 0 (.val none)
    have m2 := (ib x ((comp a s.R ((s.lab.lab).reg 1)).add "IfNot" s.R (s.N - 1) 1 (.val none))).n
    have e1 : ((s.lab.lab).reg 1).N = s.N - 1 - 1 := rfl
    have e2 : ((comp a s.R ((s.lab.lab).reg 1)).add "IfNot" s.R (s.N - 1) 1 (.val none)).N = (comp a s.R ((s.lab.lab).reg 1)).N := rfl
    have k3 := k2.place (s.N - 1) (by show (comp b x _).N < _; lia) (by lia)
    have k4 := k3.trans (ic x _)
    have m3 := (ic x ((((comp b x ((comp a s.R ((s.lab.lab).reg 1)).add "IfNot" s.R (s.N - 1) 1 (.val none))).add "Goto" 0 s.N 0 (.val none)).place (s.N - 1)))).n
    have e3 : ((((comp b x ((comp a s.R ((s.lab.lab).reg 1)).add "IfNot" s.R (s.N - 1) 1 (.val none))).add "Goto" 0 s.N 0 (.val none)).place (s.N - 1))).N = (comp b x ((comp a s.R ((s.lab.lab).reg 1)).add "IfNot" s.R (s.N - 1) 1 (.val none))).N := rfl
    have k5 := k4.place s.N (by lia) (Int.le_refl _)
    cases F with
    | coalesce => exact (((Labs.refl s).lab).trans kn).place _ (by have := kn.n; simp only [St.lab] at this ⊢; lia) (Int.le_refl _)
    | iif => exact k5
    | iif2 => exact k5
end Mine
end
section
open PySem PySem.W PyProof.Rows PySem.Spec PyProof.V
namespace Mine
noncomputable def labD (ls : List (Int × Int)) : List (PyData × PyData) := ls.map fun p => (.int p.1, .int p.2)
inductive P4In (os : List (Addr × Obj)) : Value → P4 → Prop
  | val {v x} : IsVal v x → P4In os v (.val x)
  | told {b t u k nm co} : (b, tupO [.str (Str.ofString nm) t, .str (Str.ofString co) u] k) ∈ os → P4In os (.ref b) (.told nm co)
theorem P4In.mono {os os' : List (Addr × Obj)} (hs : ∀ p ∈ os, p ∈ os') {v : Value} {p : P4} (h : P4In os v p) : P4In os' v p := by
  cases h with
  | val h => exact .val h
  | told h => exact .told (hs _ h)
inductive OpIn (os : List (Addr × Obj)) : Value → Op → Prop
  | mk {a nm p1 p2 p3 p4 t0 t1 t2 t3 v4 n} : (a, listOf #[.str (Str.ofString nm) t0, .int p1 t1, .int p2 t2, .int p3 t3, v4] n) ∈ os → P4In os v4 p4 → OpIn os (.ref a) ⟨nm, p1, p2, p3, p4⟩
theorem OpIn.mono {os os' : List (Addr × Obj)} (hs : ∀ p ∈ os, p ∈ os') {v : Value} {p : Op} (h : OpIn os v p) : OpIn os' v p := by
  cases h with
  | mk h1 h2 => exact .mk (hs _ h1) (h2.mono hs)
inductive OpsIn (os : List (Addr × Obj)) : List Value → List Op → Prop
  | nil : OpsIn os [] []
  | snoc {vs ts v t} : OpsIn os vs ts → OpIn os v t → ¬ v ∈ vs → OpsIn os (vs ++ [v]) (ts ++ [t])
theorem OpsIn.mono {os os' : List (Addr × Obj)} (hs : ∀ p ∈ os, p ∈ os') {vs : List Value} {ts : List Op} (h : OpsIn os vs ts) : OpsIn os' vs ts := by
  induction h with
  | nil => exact .nil
  | snoc _ h2 h3 ih => exact .snoc ih (h2.mono hs) h3
theorem OpsIn.len {os : List (Addr × Obj)} {vs : List Value} {ts : List Op} (h : OpsIn os vs ts) : vs.length = ts.length := by
  induction h with
  | nil => rfl
  | snoc _ _ _ ih => simp [ih]
theorem OpsIn.refs {os : List (Addr × Obj)} {vs : List Value} {ts : List Op} (h : OpsIn os vs ts) : ∀ v ∈ vs, ∃ a o, v = .ref a ∧ (a, o) ∈ os := by
  induction h with
  | nil => exact fun v hv => nomatch hv
  | snoc _ h2 _ ih =>
    intro v hv
    rcases List.mem_append.mp hv with hv | hv
    · exact ih v hv
    · rw [List.mem_singleton.mp hv]
      cases h2 with
      | mk h1 _ => exact ⟨_, _, rfl, h1⟩
theorem lookup_labD {l : Int} : ∀ {ls : List (Int × Int)}, (∀ p ∈ ls, p.1 ≠ l) → lookup (.int l) (labD ls) = none
  | [], _ => rfl
  | p :: r, h => by
    have h1 := h p (.head _)
    have ih := lookup_labD (ls := r) fun q hq => h q (.tail _ hq)
    show lookup (.int l) ((.int p.1, .int p.2) :: labD r) = none
    unfold PySem.Spec.lookup
    rw [PyProof.V.same_int, decide_eq_false h1]
    exact ih
theorem putD_labD {l n : Int} {ls : List (Int × Int)} (h : ∀ p ∈ ls, p.1 ≠ l) : putD (.int l) (.int n) (labD ls) = labD (ls ++ [(l, n)]) := by
  rw [putD_absent (lookup_labD h)]
  simp [labD]
section
variable {prog : Program} {w : World} {A : Around} {E : Value → Shared → Prop} {s : Shared} {env : Env} {h₀ : Heap} {x : Str} {body : List Stmt} {Q : Flow → Shared → Prop}
theorem for_rest {I : Addr} {lp : Addr × Obj} {vs : List Value} {m₀ : Str → Option Value} {news : List (Addr × Obj)} (J : Nat → List (Addr × Obj) → Prop) (hlp : ∀ i nw, J i nw → lp ∈ nw) (j0 : J 0 news)
    (turn : ∀ i v u it nw h tk, vs[i]? = some v → J i nw → it.cls = .type "list_iterator" → Fr h₀ env.locals h (fun y => if y = x then some v else if y = x then u else m₀ y) → News h₀ env.locals h ((I, it) :: nw) →
      wpAny (model prog w) A (execs body env) (UnrPost h₀ env.locals { s with heap := h, toks := tk } I it (fun m' n' => (∃ u', m' = fun y => if y = x then u' else m₀ y) ∧ J (i + 1) n') Q) E { s with heap := h, toks := tk })
    (done : ∀ u nw h tk, J vs.length nw → Fr h₀ env.locals h (fun y => if y = x then u else m₀ y) → News h₀ env.locals h nw → Q .next { s with heap := h, toks := tk }) :
    ListRest prog w A E h₀ env x body Q s I lp vs m₀ news := by
  have key : ∀ (r : List Value) (i : Nat) (u : Option Value) (nw : List (Addr × Obj)), vs.drop i = r → i + r.length = vs.length → J i nw → ListRest prog w A E h₀ env x body Q s I lp r (fun y => if y = x then u else m₀ y) nw := by
    intro r
    induction r with
    | nil =>
      intro i u nw hr hi hJ
      have e : i = vs.length := by simpa using hi
      subst e
      exact ListRest.zero fun h tk F N => done u nw h tk hJ F N
    | cons v r ih =>
      intro i u nw hr hi hJ
      have hv : vs[i]? = some v := by
        have := congrArg (fun l => l[0]?) hr
        simpa using this
      have hr' : vs.drop (i + 1) = r := by
        have := congrArg List.tail hr
        simpa using this
      refine ListRest.succ fun it h tk hit F N => ?_
      refine wpAny_mono (turn i v u it nw h tk hv hJ hit F N) (fun f s₂ hp => ?_) fun _ _ e => e
      have fin : UnrEnd h₀ env.locals { s with heap := h, toks := tk } I it (fun m' n' => (∃ u', m' = fun y => if y = x then u' else m₀ y) ∧ J (i + 1) n') s₂ → UnrEnd h₀ env.locals { s with heap := h, toks := tk } I it (fun m' n' => lp ∈ n' ∧ ListRest prog w A E h₀ env x body Q s I lp r m' n') s₂ := by
        rintro ⟨h', tk', m', nw', e, F', N', off, ⟨u', rfl⟩, hJ'⟩
        exact ⟨h', tk', _, nw', e, F', N', off, hlp _ _ hJ', ih (i + 1) u' nw' hr' (by simp only [List.length_cons] at hi; lia) hJ'⟩
      cases f with
      | ret v => exact hp
      | brk => exact hp
      | next => exact fin hp
      | cont => exact fin hp
  have h0 := key vs 0 (m₀ x) news rfl (by simp) j0
  have e : (fun y => if y = x then m₀ x else m₀ y) = m₀ := by
    funext y
    by_cases hy : y = x
    · simp [hy]
    · simp [hy]
  rw [e] at h0
  exact h0
end
end Mine
end
section
open PySem PySem.W PyProof.Rows PySem.Spec PyProof.V PySem.Calls
namespace Mine
section
variable {prog : Program} {w : World} {A : Around} {E : Value → Shared → Prop} {s : Shared} {h₀ : Heap} {L : Addr} {m : Str → Option Value} {env : Env}
noncomputable def SrcS (prog : Program) (w : World) (A : Around) (h₀ : Heap) (L : Addr) (m : Str → Option Value) (env : Env) (elt : PySem.Expr) (x : Str) (scope : Scope) (cl : List (Str × Addr)) (Fin : Shared → List Value → List (Addr × Obj) → Prop) (xv : Value) (s₁ : Shared) : Prop :=
  ∃ z t news, xv = .str z t ∧ A.handled = none ∧ Fr h₀ L s₁.heap m ∧ News h₀ L s₁.heap news ∧ z.cps.size ≤ sizeLine ∧
    ∀ s₂ : Shared, (∃ h, s₂ = { s₁ with heap := h }) → LCg.CompRest prog w A h₀ L m env elt x scope cl s₂ (fun _ => True) (SignAt z) (Fin s₂) z.cps.size 0 [] news
theorem strIter_st {I : Addr} {ty : String} {z : Str} {t : Tok} : ∀ i (h h' : Heap) (o : Obj) (nw : List (Addr × Obj)), h.IsStrIter I ty z t i → h.get? I = some o → h'.get? I = some o → (∀ b o, h₀.get? b = some o → h'.get? b = some o) → News h₀ L h' nw → True → h'.IsStrIter I ty z t i :=
  fun i h h' o nw st e e' _ _ _ => by
    obtain ⟨o', q, r⟩ := st
    rw [e] at q
    cases q
    exact ⟨o, e', r⟩
theorem ListComp_S {elt iter : PySem.Expr} {x : Str} {px : Pos} {scope : Scope} {cl : List (Str × Addr)} {pos : Pos} {Q : Value → Shared → Prop} (F₀ : Fr h₀ L s.heap m)
    (hclos : closureFor scope env = pure cl) (hcell : ∀ y ∈ scope.names, y.2 ≠ .cell) (hkind : scope.kind = .function)
    (hnames : ∀ y ∈ scope.names, y.2 = .local → scope.names.lookup y.1 = some .local) (hx : scope.names.lookup x = some .local)
    (h : wpAny (model prog w) A (eval iter env) (SrcS prog w A h₀ L m env elt x scope cl (fun s₂ => LCg.FinE h₀ L m s₂ Q)) E s)
    (hs : ∀ x, foldedSetIterable iter env x = pure x := by intro _; rfl) :
    wpAny (model prog w) A (eval (.ListComp elt [⟨.Name x px, iter, [], 0⟩] scope pos) env) Q E s := by
  rw [eval_ListComp]
  refine wpAny_comprehension_free (use := none) rfl hs hclos hkind hnames (wpAny_mono h (fun xv s₁ h₁ => ?_) fun _ _ e => e)
  obtain ⟨z, t, news, rfl, hh, F, N, hsz, R⟩ := h₁
  cases ha : z.cps.all (· < 128)
  · refine wpAny_pyIter_wide ha ?_
    refine LCg.block_U (Walks.strWide hh s₁.heap.objs.size z t) hsz (fun i h st => by obtain ⟨o, e, _⟩ := st; exact ⟨o, e⟩) strIter_st hcell hkind hx ⟨_, Heap.get?_push_size _ rfl, rfl, rfl⟩ (fun b hb => ?_)
      (F.keeps fun _ _ e => Heap.get?_push_of_some _ e) (N.grown fun _ _ e => Heap.get?_push_of_some _ e) (Nat.ne_of_lt F.ns.lt) (next_is_new F) (fun p hp => Nat.ne_of_lt (Heap.lt_size (N p hp).1)) trivial (R _ ⟨_, rfl⟩) ?_
    · rw [List.mem_singleton.mp hb]
      show s₁.heap.objs.size < (s₁.heap.push _).objs.size
      rw [Heap.size_push]; exact Nat.lt_succ_self _
    · intro D C h tk m' ys news' F' N' o1 hn hC₀ hD₀ hCL hDL hCD offC fin
      refine ⟨m', hn, fun h'' hs'' => fin D h'' tk (F'.change hs'' hCL hC₀) (fun p hp => ?_) o1⟩
      refine ⟨hs''.extBut _ _ ?_ (N' p hp).1, (N' p hp).2⟩
      rcases List.mem_cons.mp hp with rfl | hp
      · exact Ne.symm hCD
      · exact offC p hp
  · refine wpAny_pyIter_ascii ha ?_
    refine LCg.block_U (Walks.strAscii hh s₁.heap.objs.size z t) hsz (fun i h st => by obtain ⟨o, e, _⟩ := st; exact ⟨o, e⟩) strIter_st hcell hkind hx ⟨_, Heap.get?_push_size _ rfl, rfl, rfl⟩ (fun b hb => ?_)
      (F.keeps fun _ _ e => Heap.get?_push_of_some _ e) (N.grown fun _ _ e => Heap.get?_push_of_some _ e) (Nat.ne_of_lt F.ns.lt) (next_is_new F) (fun p hp => Nat.ne_of_lt (Heap.lt_size (N p hp).1)) trivial (R _ ⟨_, rfl⟩) ?_
    · rw [List.mem_singleton.mp hb]
      show s₁.heap.objs.size < (s₁.heap.push _).objs.size
      rw [Heap.size_push]; exact Nat.lt_succ_self _
    · intro D C h tk m' ys news' F' N' o1 hn hC₀ hD₀ hCL hDL hCD offC fin
      refine ⟨m', hn, fun h'' hs'' => fin D h'' tk (F'.change hs'' hCL hC₀) (fun p hp => ?_) o1⟩
      refine ⟨hs''.extBut _ _ ?_ (N' p hp).1, (N' p hp).2⟩
      rcases List.mem_cons.mp hp with rfl | hp
      · exact Ne.symm hCD
      · exact offC p hp
end
end Mine
end
section
open PySem PySem.W PyProof.Rows PySem.Spec PyProof.V
namespace Mine
noncomputable def fc (c : Nat) : Nat := if 65 ≤ c ∧ c ≤ 90 then c + 32 else c
noncomputable def foldL (l : List Nat) : List Str := l.map fun c => ⟨#[fc c]⟩
noncomputable def FoldJ (z : Str) (os : List (Addr × Obj)) (i : Nat) (ys : List Value) (news : List (Addr × Obj)) : Prop := news = os ∧ StrsAre ys (foldL (z.cps.toList.take i))
noncomputable def FoldCtx (z : Str) (os : List (Addr × Obj)) : Prop := True
section
variable {prog : Program} {w : World} {A : Around} {h₀ : Heap} {L : Addr} {m : Str → Option Value} {env : Env} {elt : PySem.Expr} {x : Str} {scope : Scope} {cl : List (Str × Addr)} {s₁ : Shared} {Fin : Shared → List Value → List (Addr × Obj) → Prop}
theorem fold_src {z : Str} {t : Tok} {os : List (Addr × Obj)} (uM : FoldCtx z os) (hh : A.handled = none) (F : Fr h₀ L s₁.heap m) (N : News h₀ L s₁.heap os) (hz : z.cps.size ≤ 10) (ha : ∀ c ∈ z.cps.toList, c < 128)
    (turn : ∀ gq c u I oI C oC D m₂ ys i h tk (E' : Value → Shared → Prop), c < 128 → z.cps.toList[i]? = some c → LCg.NsObj oC m₂ → m₂ x = some (.str ⟨#[c]⟩ u) → Fr h₀ L h m → News h₀ L h ((I, oI) :: (C, oC) :: (D, LCg.lst ys) :: os) → StrsAre ys (foldL (z.cps.toList.take i)) → LCg.Off3 I C D os → ((@Ne Nat I C) ∧ (@Ne Nat I D) ∧ (@Ne Nat C D)) →
      wpAny (model prog w) A (eval elt (compEnvC scope cl C env)) (LCg.CompEnd h₀ L m { s₁ with heap := h, toks := tk } I oI C oC D (LCg.lst ys) (fun _ => True) (fun y news' => FoldJ z os (i + 1) (ys ++ [y]) news')) E' { ({ s₁ with heap := gq } : Shared) with heap := h, toks := tk })
    (fin : ∀ gq ys, StrsAre ys (foldL z.cps.toList) → Fin { s₁ with heap := gq } ys os) : SrcS prog w A h₀ L m env elt x scope cl Fin (.str z t) s₁ := by
  refine ⟨z, t, os, rfl, hh, F, N, by rw [PySem.sizeLine_eq]; lia, fun s₂ ⟨gq, e⟩ => ?_⟩
  subst e
  refine comp_rest (FoldJ z os) ⟨rfl, by simp only [List.take_zero, foldL, List.map_nil]; exact .nil⟩ (fun i v I oI C oC D m₂ ys news₁ h tk E' hi hv hJ hC hx F2 N2 off ne => ?_) fun ys news' hJ => ?_
  · obtain ⟨rfl, hs⟩ := hJ
    obtain ⟨c, u, e1, rfl⟩ := hv
    have e2 : z.cps.toList[i]? = some c := by simpa using e1
    exact turn gq c u I oI C oC D m₂ ys i h tk E' (ha c (List.mem_of_getElem? e2)) e2 hC hx F2 N2 hs off ne
  · obtain ⟨rfl, hs⟩ := hJ
    have e : z.cps.toList.take z.cps.size = z.cps.toList := List.take_of_length_le (by simp)
    rw [e] at hs
    exact fin gq ys hs
end
noncomputable def FoldPost (z : Str) (os : List (Addr × Obj)) (r : Value) (news' : List (Addr × Obj)) : Prop := ∃ t, r = .str (Txt.join (Str.ofString "") (foldL z.cps.toList)) t ∧ news' = os
theorem one_lt {a b : Nat} : ([a] : List Nat) < [b] ↔ a < b := by
  rw [List.cons_lt_cons_iff]
  constructor
  · rintro (h | ⟨_, h⟩)
    · exact h
    · exact absurd h (List.not_lt_nil _)
  · exact .inl
theorem strA : (Str.ofString "A").cps.toList = [65] := by decide +kernel
theorem strZ : (Str.ofString "Z").cps.toList = [90] := by decide +kernel
theorem fc_lo {c : Nat} (h : ({ cps := #[c] } : Str).cps.toList < (Str.ofString "A").cps.toList) : c = fc c := by
  rw [strA] at h
  have := one_lt.mp h
  unfold fc; rw [if_neg (by lia)]
theorem fc_hi {c : Nat} (h : (Str.ofString "Z").cps.toList < ({ cps := #[c] } : Str).cps.toList) : c = fc c := by
  rw [strZ] at h
  have := one_lt.mp h
  unfold fc; rw [if_neg (by lia)]
theorem fc_in {c : Nat} (h : ¬ ({ cps := #[c] } : Str).cps.toList < (Str.ofString "A").cps.toList) (k : ¬ (Str.ofString "Z").cps.toList < ({ cps := #[c] } : Str).cps.toList) : ((c : Int) + 32).toNat = fc c := by
  rw [strA] at h
  rw [strZ] at k
  have h1 : ¬ c < 65 := fun q => h (one_lt.mpr q)
  have h2 : ¬ 90 < c := fun q => k (one_lt.mpr q)
  unfold fc; rw [if_pos (by lia)]; lia
theorem fold_turn {z : Str} {I C D : Addr} {oI oC : Obj} {os l : List (Addr × Obj)} {i b c : Nat} {u : Tok} {ys : List Value} {h₀ h : Heap} {L : Addr} {m : Str → Option Value} {s₁ : Shared} {tk : Nat} (uM : FoldCtx z os) (hys : StrsAre ys (foldL (z.cps.toList.take i))) (hci : z.cps.toList[i]? = some c) (hb : b = fc c)
    (F : Fr h₀ L h m) (N : News h₀ L h l) (sub : ∀ p ∈ (I, oI) :: (C, oC) :: (D, LCg.lst ys) :: os, p ∈ l) (off : LCg.Off3 I C D os) :
    LCg.CompEnd h₀ L m s₁ I oI C oC D (LCg.lst ys) (fun _ => True) (fun y news' => FoldJ z os (i + 1) (ys ++ [y]) news') (.str ⟨#[b]⟩ u) { s₁ with heap := h, toks := tk } := by
  refine LCg.CompEnd.intro F N os sub off trivial ⟨rfl, ?_⟩
  have e : z.cps.toList.take (i + 1) = z.cps.toList.take i ++ [c] := by rw [List.take_add_one, hci]; rfl
  rw [e]
  unfold foldL
  rw [List.map_append]
  subst hb
  exact StrsAre.append' hys (.cons _ u .nil)
theorem foldL_w (l : List Nat) : ((foldL l).map (·.length)).sum + (foldL l).length = 2 * l.length := by
  induction l with
  | nil => rfl
  | cons c r ih =>
    have e : foldL (c :: r) = ⟨#[fc c]⟩ :: foldL r := rfl
    rw [e, List.map_cons, List.sum_cons, List.length_cons, List.length_cons]
    have : (⟨#[fc c]⟩ : Str).length = 1 := rfl
    lia
theorem join_open {prog : Program} {w : World} {A : Around} {E : Value → Shared → Prop} {s : Shared} {h₀ : Heap} {L D : Addr} {news : List (Addr × Obj)} {ys : List Value} {l : List Nat} {t : Tok} {Q : Value → Shared → Prop} (N : News h₀ L s.heap news) (hm : (D, LCg.lst ys) ∈ news) (hi : StrsAre ys (foldL l)) (hl : l.length ≤ 1000)
    (h : ∀ t' k, Q (.str (Txt.join (Str.ofString "") (foldL l)) t') { s with toks := k }) : wpAny (model prog w) A (call (.builtin "str.join") [.str (Str.ofString "") t, .ref D]) Q E s :=
  join_listW (News.isList N hm) (by simpa using hi) (by decide +kernel) (by rw [foldL_w]; lia) (fun t' k => h t' k)
section
theorem lines9 : True := by
  k_with "o7" => skip
  k_with "eval ListComp" => ((fail_if_success k_extra "o8"); (k_here; k_dflt (refine ListComp_S (F₀ := by k_asm) (by with_unfolding_all rfl) (by decide) (by rfl) (by decide) (by rfl) ?_)))
  k_with "SrcS" => ((fail_if_success k_extra "o8"); (k_here; k_dflt ( refine' fold_src (by with_reducible assumption) rfl (by k_asm) (by k_asm) (by with_reducible assumption) (by with_reducible assumption) ?_ ?_; (intro gq c u I oI C oC D m₂ ys i h tk E' hc hci hC hx F N hys off4 ne; (try dsimp only); (try k_fold)); rotate_left; (intro gq ys hys; (try dsimp only)); rotate_right)))
  k_with "FinE" => ((fail_if_success k_extra "o8"); ((unfold LCg.FinE); intro Dq hq tkq Fq Nq o1q; (try simp only [List.nil_append, List.cons_append] at Nq); (try dsimp only)))
  k_with "call builtin:str.join" => ((fail_if_success k_extra "o8"); (k_here; k_dflt (refine' join_open ?z55N ?z55m ?z55i ?z55l ?_; (case z55N => k_asm); (case z55m => k_mem); (case z55i => with_reducible assumption); (case z55l => (simp only [Array.length_toList]; lia)); k_whole); intro t9ₘ k9ₘ))
  k_with "kcf_m" => ((fail_if_success k_extra "o8"); ( (try k_unmd); (try k_unfold); refine' fold_turn (by with_reducible assumption) ?z56t1 ?z56t2 ?z56t3 ?z56f ?z56n ?z56sb ?z56o; (case z56t1 => with_reducible assumption); (case z56t2 => with_reducible assumption); (case z56t3 => first | exact fc_lo (by with_reducible assumption) | exact fc_hi (by with_reducible assumption) | exact fc_in (by with_reducible assumption) (by with_reducible assumption)); (case z56f => with_reducible assumption); (case z56n => with_reducible assumption); (case z56sb => lcg_sub); (case z56o => with_reducible assumption)))
  exact True.intro
set_option maxRecDepth 100000 in
set_option maxHeartbeats 1000000 in
theorem fold_does (w : World) (z : Str) (t : Tok) (os : List (Addr × Obj)) (hz : z.cps.size ≤ 10) (ha : ∀ c ∈ z.cps.toList, c < 128) :
   Does w 461 2 [.str z t] os (FoldPost z os) := by
  refine Does.of ?_
  intro dp un gd cn cs a ccd cl outer A₀ base h₀ L m p loose mean mg mb hp0 gn0 dr0 tk0 oo0 Q E B F X N T hk hd hu hret
  revert X; k_fill; intro X
  refine wpAny_call ?_
  k_dflt ktr_enter
  have M9 : FoldCtx z os := True.intro
  k_steps
  all_goals first | kcf_m | exact hret _ _ _ _ (by with_reducible assumption) (news_sub (by with_reducible assumption) (by lcg_sub)) ⟨_, rfl, rfl⟩ | fail
end
theorem fold_nm (w : World) (a b : String) (t : Tok) (os : List (Addr × Obj)) (h1 : (Str.ofString a).cps.size ≤ 10) (h2 : ∀ c ∈ (Str.ofString a).cps.toList, c < 128) (h3 : Txt.join (Str.ofString "") (foldL (Str.ofString a).cps.toList) = Str.ofString b) :
    Does w 461 2 [.str (Str.ofString a) t] os (fun r l => ∃ t', r = .str (Str.ofString b) t' ∧ l = os) :=
  (fold_does w _ t os h1 h2).mono fun r l ⟨t', e1, e2⟩ => ⟨t', by rw [e1, h3], e2⟩
example (w : World) (t : Tok) (os : List (Addr × Obj)) := fold_nm w "Coalesce" "coalesce" t os (by decide +kernel) (by decide +kernel) (by decide +kernel)
end Mine
end
section
open PySem PySem.W PyProof.Rows PySem.Spec PyProof.V
namespace Mine
section
variable {prog : Program} {w : World} {A : Around} {E : Value → Shared → Prop} {s : Shared}
theorem adjust_to (n : Nat) : Builtin.Slice.sliceAdjust none (some (n : Int)) 1 (n : Int) = (0, (n : Int)) := by
  unfold Builtin.Slice.sliceAdjust
  have h1 : ¬ ((1 : Int) < 0) := by lia
  have h2 : ¬ ((n : Int) < 0) := by lia
  simp only [h1, h2, if_false]
  congr 1
  lia
theorem places_to (n : Nat) : Builtin.Slice.slicePlaces 0 (n : Int) 1 = n := by
  unfold Builtin.Slice.slicePlaces
  have h1 : (1 : Int) > 0 := by lia
  simp only [h1, if_true, Int.ediv_one]
  split <;> lia
theorem sliceApplied_to {sl : Addr} {n : Nat} {u : Tok} {Q : Int × Int × Nat → Shared → Prop} (hs : s.heap.IsSliceOf sl .none (.int n u) .none) (h : Q (0, 1, n) s) :
    wpAny (model prog w) A (Builtin.Slice.sliceApplied (.ref sl) (pure (n : Int))) Q E s := by
  obtain ⟨os, hos, hcs, hds⟩ := id hs
  unfold Builtin.Slice.sliceApplied Builtin.Slice.sliceFields
  refine wpAny_bind (wpAny_bind (wpAny_field hos hds (x := .none) rfl (wpAny_bind (wpAny_field hos hds (x := .int n u) rfl (wpAny_bind (wpAny_field hos hds (x := .none) rfl (wpAny_pure ?_)))))))
  refine wpAny_bind (slicePart_none ?_)
  show wpAny _ _ (if ((1 : Int) == 0) = true then _ else _) _ _ s
  rw [if_neg (by decide)]
  refine wpAny_bind (slicePart_none (wpAny_bind (slicePart_int (wpAny_bind (wpAny_pure ?_)))))
  show wpAny _ _ (match Builtin.Slice.sliceAdjust none (some (n : Int)) 1 (n : Int) with | (lo, hi) => pure (lo, (1 : Int), Builtin.Slice.slicePlaces lo hi 1)) _ _ s
  rw [adjust_to n]
  show wpAny _ _ (pure ((0 : Int), (1 : Int), Builtin.Slice.slicePlaces 0 (n : Int) 1)) _ _ s
  rw [places_to n]
  exact wpAny_pure h

theorem getItem_tuple_to {t sl : Addr} {items : Array Value} {n : Nat} {u : Tok} {Q : Value → Shared → Prop} (ht : IsTup s.heap t items) (hs : s.heap.IsSliceOf sl .none (.int n u) .none) (hn : n = items.size)
    (h : Q (.ref t) s) : wpAny (model prog w) A (getItem (.ref t) (.ref sl)) Q E s := by
  subst hn
  obtain ⟨os, hos, hcs, hds⟩ := id hs
  have hTs : s.TypeIs (.ref sl) "slice" := ⟨os, hos, hcs⟩
  unfold getItem
  try with_reducible refine wpAny_holding ?_
  first | refine wpAny_bind (wpAny_pure ?_) | skip
  refine wpAny_bind (wpAny_sequenceKey ht.typeIs (by decide) ?_)
  refine wpAny_bind (wpAny_callSpecial?_slot (name := Str.ofString "__getitem__") ht.typeIs slot_tuple_getitem
    (wpAny_call_entry slot_tuple_getitem ht.typeIs entry_tuple_getitem ?_ (args_tuple_getitem _ _)))
  show wpAny _ _ (Builtin.Tuple.tupleItemsOf (.ref t) >>= _) _ _ s
  refine wpAny_bind (tupleItemsOf_ ht ?_)
  refine wpAny_bind (wpAny_typeOf hTs ?_)
  rw [if_pos (by decide)]
  refine wpAny_bind (sliceApplied_to hs ?_)
  show wpAny _ _ (if ((0 : Int) == 0 && (1 : Int) == 1 && (items.size) == items.size) = true then _ else _) _ _ s
  rw [if_pos (by simp)]
  unfold Builtin.Tuple.tupleIsExact
  refine wpAny_bind (wpAny_bind (wpAny_typeOf ht.typeIs (wpAny_pure ?_)))
  rw [if_pos (by decide)]
  exact wpAny_bind (wpAny_rule (wpAny_pure ⟨_, rfl, wpAny_pure h⟩))
end
section
variable {prog : Program} {w : World} {A : Around} {E : Value → Shared → Prop} {s : Shared} {h₀ : Heap} {L : Addr} {m : Str → Option Value} {news : List (Addr × Obj)}
theorem slice_tuple_to {value slice : Expr} {t : Addr} {items : Array Value} {n : Nat} {u : Tok} {Q : Value → Shared → Prop}
    (F : Fr h₀ L s.heap m) (N : News h₀ L s.heap news) (ht : IsTup s.heap t items) (hn : n = items.size)
    (h : ∀ h', Fr h₀ L h' m → News h₀ L h' news → Q (.ref t) { s with heap := h' })
    (hs : subscripted slice false (.ref t) (.ref s.heap.objs.size) = operate [.ref s.heap.objs.size, .ref t] (getItem (.ref t) (.ref s.heap.objs.size)) := by with_unfolding_all rfl)
    (hg : ∀ r, letTemporaryGo value (.ref t) r = pure () := by intro _; with_unfolding_all rfl) :
    wpAny (model prog w) A (subscriptTail value slice (.ref t) (.ref s.heap.objs.size)) Q E { s with heap := s.heap.push { cls := .type "slice", data := .fields #[.none, .int n u, .none] } } := by
  have ht' : IsTup (s.heap.push { cls := .type "slice", data := .fields #[.none, .int n u, .none] }) t items := ht.keeps fun _ _ e => Heap.get?_push_of_some _ e
  exact subscriptTail_ops (s := { s with heap := s.heap.push { cls := .type "slice", data := .fields #[.none, .int n u, .none] } }) ht'.typeIs slot_tuple_getitem.lookup
    (getItem_tuple_to ht' (Heap.IsSliceOf.new ..) hn (h _ (F.push _) (N.grown fun _ _ e => Heap.get?_push_of_some _ e))) hs hg
end
end Mine
end
section
open PySem PySem.W PyProof.Rows PySem.Spec PyProof.V
namespace Mine
structure CK where
  Kc : Addr
  dK : Addr
  P : Addr
  dP : Addr
  BD : Addr
  BT : Addr
  AG : Addr
  a1 : Tok
  a2 : Tok
  a3 : Tok
  b1 : Tok
  b2 : Tok
  b3 : Tok
  bn : Nat
  oB : Obj
structure CoderIn (w : World) (c : CK) (os : List (Addr × Obj)) : Prop where
  h1 : (c.Kc, instObj 686 c.dK) ∈ os
  h2 : (c.dK, dictOf [ent w "program" c.a1 (.ref c.P), ent w "bindings" c.a2 (.ref c.BD), ent w "aggregates" c.a3 (.ref c.AG)] 3) ∈ os
  h3 : (c.P, instObj 780 c.dP) ∈ os
  h4 : (c.BD, c.oB) ∈ os
  h5 : c.oB.IsDictOf (intKind PGm w) [(4, .ref c.BT)]
  h6 : (c.BT, tupO [.str (Str.ofString "registers") c.b1, .int 2 c.b2] c.bn) ∈ os
  h7 : (c.BD == sysModules) = false
theorem CoderIn.mono {w : World} {c : CK} {os os' : List (Addr × Obj)} (hs : ∀ p ∈ os, p ∈ os') (h : CoderIn w c os) : CoderIn w c os' := ⟨hs _ h.h1, hs _ h.h2, hs _ h.h3, hs _ h.h4, h.h5, hs _ h.h6, h.h7⟩
end Mine
end
section
open PySem PySem.W PyProof.Rows PySem.Spec PyProof.V
namespace Mine
noncomputable def RetIs (v : Value) (os : List (Addr × Obj)) (r : Value) (news' : List (Addr × Obj)) : Prop := r = v ∧ news' = os
section Cur
variable {h₀ : Heap} {L : Addr} {m : Str → Option Value} {gn dr oo} {Q : Value → Shared → Prop}
theorem cur_ret {v : Value} {os : List (Addr × Obj)}
    (ret : ∀  (h' : Heap) (tk' : Nat), Fr h₀ L h' m → News h₀ L h' (os) → Q v ⟨h', gn, dr, tk', oo⟩) :
    ∀ r news' h' tk', Fr h₀ L h' m → News h₀ L h' news' → RetIs v os r news' → Q r ⟨h', gn, dr, tk', oo⟩ := by
  rintro _ _ h' tk' F N ⟨rfl, rfl⟩; exact ret h' tk' F N
end Cur
section
theorem lines10 : True := by
  k_with "o8" => skip
  exact True.intro

set_option maxRecDepth 100000 in
set_option maxHeartbeats 1000000 in
theorem expl_122 (w : World) (x dx : Addr) (dob : Obj) (os : List (Addr × Obj)) (hx : (x, instObj 122 dx) ∈ os) (hd0 : (dx, dob) ∈ os) :
   Does w 476 3 [.ref x] os (RetIs .none os) := by
  refine Does.of ?_
  intro dp un gd cn cs a ccd cl outer A₀ base h₀ L m p loose mean mg mb hp0 gn0 dr0 tk0 oo0 Q E B F X N T hk hd hu hret
  revert X; k_fill; intro X
  refine wpAny_call ?_
  k_dflt ktr_enter
  k_steps
  all_goals first | exact hret _ _ _ _ (by with_reducible assumption) (by with_reducible assumption) ⟨rfl, rfl⟩ | fail
set_option maxRecDepth 100000 in
set_option maxHeartbeats 1000000 in
theorem expl_148 (w : World) (x dx : Addr) (dob : Obj) (os : List (Addr × Obj)) (hx : (x, instObj 148 dx) ∈ os) (hd0 : (dx, dob) ∈ os) :
   Does w 476 3 [.ref x] os (RetIs .none os) := by
  refine Does.of ?_
  intro dp un gd cn cs a ccd cl outer A₀ base h₀ L m p loose mean mg mb hp0 gn0 dr0 tk0 oo0 Q E B F X N T hk hd hu hret
  revert X; k_fill; intro X
  refine wpAny_call ?_
  k_dflt ktr_enter
  k_steps
  all_goals first | exact hret _ _ _ _ (by with_reducible assumption) (by with_reducible assumption) ⟨rfl, rfl⟩ | fail
set_option maxRecDepth 100000 in
set_option maxHeartbeats 1000000 in
theorem expl_354 (w : World) (x dx : Addr) (dob : Obj) (os : List (Addr × Obj)) (hx : (x, instObj 354 dx) ∈ os) (hd0 : (dx, dob) ∈ os) :
   Does w 476 3 [.ref x] os (RetIs .none os) := by
  refine Does.of ?_
  intro dp un gd cn cs a ccd cl outer A₀ base h₀ L m p loose mean mg mb hp0 gn0 dr0 tk0 oo0 Q E B F X N T hk hd hu hret
  revert X; k_fill; intro X
  refine wpAny_call ?_
  k_dflt ktr_enter
  k_steps
  all_goals first | exact hret _ _ _ _ (by with_reducible assumption) (by with_reducible assumption) ⟨rfl, rfl⟩ | fail
set_option maxRecDepth 100000 in
set_option maxHeartbeats 1000000 in
theorem coll_122 (w : World) (x dx : Addr) (dob : Obj) (os : List (Addr × Obj)) (hx : (x, instObj 122 dx) ∈ os) (hd0 : (dx, dob) ∈ os) :
   Does w 483 3 [.ref x] os (RetIs .none os) := by
  refine Does.of ?_
  intro dp un gd cn cs a ccd cl outer A₀ base h₀ L m p loose mean mg mb hp0 gn0 dr0 tk0 oo0 Q E B F X N T hk hd hu hret
  revert X; k_fill; intro X
  refine wpAny_call ?_
  k_dflt ktr_enter
  k_steps
  all_goals first | exact hret _ _ _ _ (by with_reducible assumption) (by with_reducible assumption) ⟨rfl, rfl⟩ | fail
set_option maxRecDepth 100000 in
set_option maxHeartbeats 1000000 in
theorem coll_354 (w : World) (x dx : Addr) (dob : Obj) (os : List (Addr × Obj)) (hx : (x, instObj 354 dx) ∈ os) (hd0 : (dx, dob) ∈ os) :
   Does w 483 3 [.ref x] os (RetIs .none os) := by
  refine Does.of ?_
  intro dp un gd cn cs a ccd cl outer A₀ base h₀ L m p loose mean mg mb hp0 gn0 dr0 tk0 oo0 Q E B F X N T hk hd hu hret
  revert X; k_fill; intro X
  refine wpAny_call ?_
  k_dflt ktr_enter
  k_steps
  all_goals first | exact hret _ _ _ _ (by with_reducible assumption) (by with_reducible assumption) ⟨rfl, rfl⟩ | fail
set_option maxRecDepth 100000 in
set_option maxHeartbeats 1000000 in
theorem coll_148 (w : World) (x dx : Addr) (t1 t2 t3 t4 t5 t6 t7 u2 u3 u4 u5 u6 u7 : Tok) (i : Int) (co : String) (os : List (Addr × Obj)) (hx : (x, instObj 148 dx) ∈ os) (hdx : (dx, nameD w t1 t2 t3 t4 t5 t6 t7 u2 u3 u4 u5 u6 u7 i co) ∈ os) :
   Does w 483 3 [.ref x] os (RetIs (.str (Str.ofString co) u7) os) := by
  refine Does.of ?_
  intro dp un gd cn cs a ccd cl outer A₀ base h₀ L m p loose mean mg mb hp0 gn0 dr0 tk0 oo0 Q E B F X N T hk hd hu hret
  revert X; k_fill; intro X
  refine wpAny_call ?_
  k_dflt ktr_enter
  k_steps
  all_goals first | exact hret _ _ _ _ (by with_reducible assumption) (by with_reducible assumption) ⟨rfl, rfl⟩ | fail
end
end Mine
end
section
open PySem PySem.W PyProof.Rows PySem.Spec PyProof.V
namespace Mine
noncomputable def colOpt : Tr → Option String
  | .col false => some "nocase"
  | .col true => some "binary"
  | _ => none
inductive CollV : Tr → Value → Prop
  | none {t} : colOpt t = Option.none → CollV t .none
  | some {t c u} : colOpt t = Option.some c → CollV t (.str (Str.ofString c) u)
noncomputable def CollIs (t : Tr) (os : List (Addr × Obj)) (r : Value) (news' : List (Addr × Obj)) : Prop := CollV t r ∧ news' = os
section Cur
variable {h₀ : Heap} {L : Addr} {m : Str → Option Value} {gn dr oo} {Q : Value → Shared → Prop}
theorem cur_coll {t : Tr} {os : List (Addr × Obj)}
    (ret : ∀  (h' : Heap) (tk' : Nat), Fr h₀ L h' m → News h₀ L h' (os) → colOpt t = none → Q .none ⟨h', gn, dr, tk', oo⟩)
    (ret1 : ∀ (c : String) (u : Tok) (h' : Heap) (tk' : Nat), Fr h₀ L h' m → News h₀ L h' (os) → colOpt t = some c → Q (.str (Str.ofString c) u) ⟨h', gn, dr, tk', oo⟩) :
    ∀ r news' h' tk', Fr h₀ L h' m → News h₀ L h' news' → CollIs t os r news' → Q r ⟨h', gn, dr, tk', oo⟩ := by
  rintro _ _ h' tk' F N ⟨hc, rfl⟩
  cases hc with
  | none e => exact ret h' tk' F N e
  | some e => exact ret1 _ _ h' tk' F N e
end Cur
theorem expl_node {w : World} {os : List (Addr × Obj)} {K : List Value} {v : Value} {t : Tr} (h : NodeIn w os K v t) : Does w 476 3 [v] os (RetIs .none os) := by
  cases h with
  | val h1 h2 h3 => exact expl_122 w _ _ _ os h1 h2
  | col0 h1 h2 => exact expl_148 w _ _ _ os h1 h2
  | col1 h1 h2 => exact expl_148 w _ _ _ os h1 h2
  | known h1 h2 h3 => exact expl_354 w _ _ _ os h1 h2
  | f0 h1 h2 h3 => exact expl_354 w _ _ _ os h1 h2
  | f1 h1 h2 h3 => exact expl_354 w _ _ _ os h1 h2
  | f2 F h1 h2 h3 => exact expl_354 w _ _ _ os h1 h2
  | f3 F h1 h2 h3 => exact expl_354 w _ _ _ os h1 h2
theorem coll_node {w : World} {os : List (Addr × Obj)} {K : List Value} {v : Value} {t : Tr} (h : NodeIn w os K v t) : Does w 483 3 [v] os (CollIs t os) := by
  have no : ∀ {t r l}, colOpt t = none → RetIs .none os r l → CollIs t os r l := fun e ⟨e1, e2⟩ => ⟨by rw [e1]; exact .none e, e2⟩
  have yes : ∀ {t c u r l}, colOpt t = some c → RetIs (.str (Str.ofString c) u) os r l → CollIs t os r l := fun e ⟨e1, e2⟩ => ⟨by rw [e1]; exact .some e, e2⟩
  cases h with
  | val h1 h2 h3 => exact (coll_122 w _ _ _ os h1 h2).mono fun r l => no rfl
  | col0 h1 h2 => exact (coll_148 (hx := h1) (hdx := h2)).mono fun r l => yes rfl
  | col1 h1 h2 => exact (coll_148 (hx := h1) (hdx := h2)).mono fun r l => yes rfl
  | known h1 h2 h3 => exact (coll_354 w _ _ _ os h1 h2).mono fun r l => no rfl
  | f0 h1 h2 h3 => exact (coll_354 w _ _ _ os h1 h2).mono fun r l => no rfl
  | f1 h1 h2 h3 => exact (coll_354 w _ _ _ os h1 h2).mono fun r l => no rfl
  | f2 F h1 h2 h3 => exact (coll_354 w _ _ _ os h1 h2).mono fun r l => no rfl
  | f3 F h1 h2 h3 => exact (coll_354 w _ _ _ os h1 h2).mono fun r l => no rfl
theorem UnrEnd.introP {h₀ : Heap} {L I : Addr} {it : Obj} {rest : (Str → Option Value) → List (Addr × Obj) → Prop} {s₁ : Shared} {h' : Heap} {tk : Nat} {m' : Str → Option Value} {all news' : List (Addr × Obj)} (F : Fr h₀ L h' m') (N : News h₀ L h' all)
    (P : Pick (I, it) all news') (off : ∀ p ∈ news', p.1 ≠ I) (r : rest m' news') : UnrEnd h₀ L s₁ I it rest { s₁ with heap := h', toks := tk } := UnrEnd.intro F N news' P.sub off r
noncomputable def CcolPost (ts : List Tr) (os : List (Addr × Obj)) (r : Value) (news' : List (Addr × Obj)) : Prop := ∃ t, r = .str (Str.ofString (colOf ts)) t ∧ news' = os
theorem colOf_none {t : Tr} {r : List Tr} (h : colOpt t = none) : colOf (t :: r) = colOf r := by
  cases t with
  | col i => cases i <;> simp [colOpt] at h
  | _ => rfl
theorem colOf_some {t : Tr} {r : List Tr} {c : String} (h : colOpt t = some c) : colOf (t :: r) = c := by
  cases t with
  | col i => cases i <;> (cases h; rfl)
  | _ => simp [colOpt] at h
theorem ccol0 {os l : List (Addr × Obj)} {t : Tok} (e : l = os) : CcolPost [] os (.str (Str.ofString "binary") t) l := ⟨t, rfl, e⟩
theorem ccol1 {x : Tr} {r : List Tr} {os l : List (Addr × Obj)} {v : Value} (h : colOpt x = none) (k : CcolPost r os v l) : CcolPost (x :: r) os v l := by
  obtain ⟨t, e1, e2⟩ := k
  exact ⟨t, by rw [e1, colOf_none h], e2⟩
theorem ccol2 {x : Tr} {c : String} {r : List Tr} {os l : List (Addr × Obj)} {u : Tok} (h : colOpt x = some c) (e : l = os) : CcolPost (x :: r) os (.str (Str.ofString c) u) l := ⟨u, by rw [colOf_some h], e⟩
section
theorem lines11 : True := by
  k_with "o9" => skip
  k_with "exec For Name Name cons nil" => ((fail_if_success k_extra "o10"); (k_here; (rename Fr _ _ _ _ => lF'ₘ); (with_unfolding_all refine' For_invVF lF'ₘ ?z57k1 ?z57k2 ?_; (case z57k1 => exact rfl); (case z57k2 => exact rfl); k_whole)))
  k_with "pyIterM ref" => ((fail_if_success k_extra "o10"); ((with_reducible show wpAny _ _ (pyIter (Value.ref _)) (fun it s₂ => LoopAtV _ _ _ _ _ _ _ _ _ it s₂) _ _); k_dflt (refine' iter_listUnr (by rfl) ?z58F ?z58N ?z58m ?z58c ?z58d ?_; (case z58F => k_asm); (case z58N => k_asm); (case z58m => k_mem); (case z58c => rfl); (case z58d => rfl); k_whole); intro i'ₘ l1ₘ; (try k_lt l1ₘ)))
  k_with "UnrEnd" => ((fail_if_success k_extra "o10"); (refine' UnrEnd.introP ?z59F ?z59N ?z59P ?z59off ⟨?z59m, ?_⟩; (case z59F => k_asm); (case z59N => k_asm); (case z59P => tb_start); (case z59off => k_all); (case z59m => k_mem)))
  k_with "call ref" => ((fail_if_success k_extra "o10"); (k_here; (with_reducible show wpAny _ _ (call (Value.ref 476) _) _ _ _); k_dflt (refine' usx0 ?z60B ?z60F ?z60X ?z60N ?z60T ?z60hk  (expl_node ?z60hn) ?_ ?_ (cur_ret ?_); (case z60B => k_asm); (case z60F => k_asm); (case z60X => k_asm); (case z60N => k_asm); (case z60T => k_asm); (case z60hk => first | exact rfl | assumption); (case z60hn => (refine NodeIn.mono ?_ (fun _ h => h) (by with_reducible assumption); lcg_sub)); (focus k_extra "rmD"); (focus k_extra "rmU"); intro h'ₘ tk'ₘ F'ₘ N'ₘ; (try dsimp only); (try k_sweep); (try k_fold))))
  k_with "call ref" => ((fail_if_success k_extra "o10"); (k_here; (with_reducible show wpAny _ _ (call (Value.ref 483) _) _ _ _); k_dflt (refine' usx0 ?z61B ?z61F ?z61X ?z61N ?z61T ?z61hk  (coll_node ?z61hn) ?_ ?_ (cur_coll ?_ ?_); (case z61B => k_asm); (case z61F => k_asm); (case z61X => k_asm); (case z61N => k_asm); (case z61T => k_asm); (case z61hk => first | exact rfl | assumption); (case z61hn => (refine NodeIn.mono ?_ (fun _ h => h) (by with_reducible assumption); lcg_sub)); (focus k_extra "rmD"); (focus k_extra "rmU"); intro h'ₘ tk'ₘ F'ₘ N'ₘ hc8ₘ; rotate_left; intro c8ₘ u8ₘ h'ₘ tk'ₘ F'ₘ N'ₘ hc8ₘ; rotate_left; all_goals ((try dsimp only); (try k_sweep); (try k_fold)))))
  k_with "kcf_m" => ((fail_if_success k_extra "o10"); first | exact ccol0 rfl | exact ccol2 (by with_reducible assumption) rfl | (refine ccol1 (by with_reducible assumption) ?_; kcf_m))
  exact True.intro
set_option maxRecDepth 100000 in
set_option maxHeartbeats 1000000 in
theorem ccol_0 {w : World} {l : Addr} {n : Nat} {os : List (Addr × Obj)} (hl : (l, listOf #[] n) ∈ os) :
   Does w 498 4 [.ref l] os (CcolPost [] os) := by
  refine Does.of ?_
  intro dp un gd cn cs a ccd cl outer A₀ base h₀ L m p loose mean mg mb hp0 gn0 dr0 tk0 oo0 Q E B F X N T hk hd hu hret
  revert X; k_fill; intro X
  refine wpAny_call ?_
  k_dflt ktr_enter
  k_steps
  all_goals first | exact hret _ os _ _ (by with_reducible assumption) (news_sub (by with_reducible assumption) (by lcg_sub)) (by kcf_m) | fail
set_option maxRecDepth 100000 in
set_option maxHeartbeats 1000000 in
theorem ccol_1 {w : World} {l : Addr} {n : Nat} {K : List Value} {v1 : Value} {t1 : Tr} {os : List (Addr × Obj)} (hl : (l, listOf #[v1] n) ∈ os) (h1 : NodeIn w os K v1 t1) :
   Does w 498 4 [.ref l] os (CcolPost [t1] os) := by
  refine Does.of ?_
  intro dp un gd cn cs a ccd cl outer A₀ base h₀ L m p loose mean mg mb hp0 gn0 dr0 tk0 oo0 Q E B F X N T hk hd hu hret
  revert X; k_fill; intro X
  refine wpAny_call ?_
  k_dflt ktr_enter
  k_steps
  all_goals first | exact hret _ os _ _ (by with_reducible assumption) (news_sub (by with_reducible assumption) (by lcg_sub)) (by kcf_m) | fail
set_option maxRecDepth 100000 in
set_option maxHeartbeats 1000000 in
theorem ccol_2 {w : World} {l : Addr} {n : Nat} {K : List Value} {v1 v2 : Value} {t1 t2 : Tr} {os : List (Addr × Obj)} (hl : (l, listOf #[v1, v2] n) ∈ os) (h1 : NodeIn w os K v1 t1) (h2 : NodeIn w os K v2 t2) :
   Does w 498 4 [.ref l] os (CcolPost [t1, t2] os) := by
  refine Does.of ?_
  intro dp un gd cn cs a ccd cl outer A₀ base h₀ L m p loose mean mg mb hp0 gn0 dr0 tk0 oo0 Q E B F X N T hk hd hu hret
  revert X; k_fill; intro X
  refine wpAny_call ?_
  k_dflt ktr_enter
  k_steps
  all_goals first | exact hret _ os _ _ (by with_reducible assumption) (news_sub (by with_reducible assumption) (by lcg_sub)) (by kcf_m) | fail
end
end Mine
end
section
open PySem PySem.W PyProof.Rows PySem.Spec PyProof.V
namespace Mine
structure Td where
  nm : String
  vals : List (Option Int)
  co : String
structure Rw where
  r0 : Option Int
  r1 : Option Int
  r2 : Option Int
noncomputable def wstep (t : Int) (v : Option Int) : Int := t * 5 + (match v with | none => 2 | some x => x.fmod 4)
noncomputable def wtot (vs : List (Option Int)) : Int := vs.foldl wstep 3
noncomputable def worth (vs : List (Option Int)) : Option Int := if (wtot vs).fmod 3 = 0 then none else some ((wtot vs).fmod 7)
noncomputable def tru : Option Int → Bool
  | none => false
  | some x => !(x == 0)
noncomputable def fnd (w : Rw) : Tr → Option Int
  | .val v => v
  | .col false => w.r0
  | .col true => w.r1
  | .known => w.r2
  | .f0 => worth []
  | .f1 a => worth [fnd w a]
  | .f2 .max a b => worth [fnd w a, fnd w b]
  | .f2 .coalesce a b => (fnd w a).or (fnd w b)
  | .f2 .ifnull a b => (fnd w a).or (fnd w b)
  | .f3 .coalesce a b c => ((fnd w a).or (fnd w b)).or (fnd w c)
  | .f3 .iif c a b => if tru (fnd w c) then fnd w a else fnd w b
  | .f3 .iif2 c a b => if tru (fnd w c) then fnd w a else fnd w b
noncomputable def tld (w : Rw) : Tr → List Td
  | .f0 => [⟨"abs", [], "binary"⟩]
  | .f1 a => tld w a ++ [⟨"abs", [fnd w a], colOf [a]⟩]
  | .f2 .max a b => (tld w a ++ tld w b) ++ [⟨"max", [fnd w a, fnd w b], colOf [a, b]⟩]
  | .f2 .coalesce a b => tld w a ++ (if fnd w a = none then tld w b else [])
  | .f2 .ifnull a b => tld w a ++ (if fnd w a = none then tld w b else [])
  | .f3 .coalesce a b c => (tld w a ++ (if fnd w a = none then tld w b else [])) ++ (if (fnd w a).or (fnd w b) = none then tld w c else [])
  | .f3 .iif c a b => tld w c ++ (if tru (fnd w c) then tld w a else tld w b)
  | .f3 .iif2 c a b => tld w c ++ (if tru (fnd w c) then tld w a else tld w b)
  | .val _ => []
  | .col _ => []
  | .known => []
structure RS where
  pc : Int
  H : Int → Option Int
  T : List Td
noncomputable def upd (H : Int → Option Int) (t : Int) (v : Option Int) : Int → Option Int := fun r => if r = t then v else H r
noncomputable def vsAt (H : Int → Option Int) (p : Int) (n : Nat) : List (Option Int) := (List.range n).map fun (i : Nat) => H (p + (i : Int))
inductive Stp (F : List Op) : RS → RS → Prop
  | value {a H T p1 t p3 v} : 0 ≤ a → F[a.toNat]? = some ⟨"Value", p1, t, p3, .val v⟩ → Stp F ⟨a, H, T⟩ ⟨a + 1, upd H t v, T⟩
  | copy {a H T p t p3 x} : 0 ≤ a → F[a.toNat]? = some ⟨"Copy", p, t, p3, x⟩ → Stp F ⟨a, H, T⟩ ⟨a + 1, upd H t (H p), T⟩
  | func {a H T p t nm co} (n : Nat) : 0 ≤ a → n ≤ 2 → F[a.toNat]? = some ⟨"Function", p, (n : Int), t, .told nm co⟩ → Stp F ⟨a, H, T⟩ ⟨a + 1, upd H t (worth (vsAt H p n)), T ++ [⟨nm, vsAt H p n, co⟩]⟩
  | goto {a H T p1 t p3 x} : 0 ≤ a → F[a.toNat]? = some ⟨"Goto", p1, t, p3, x⟩ → Stp F ⟨a, H, T⟩ ⟨t, H, T⟩
  | nn0 {a H T p t p3 x} : 0 ≤ a → F[a.toNat]? = some ⟨"NotNull", p, t, p3, x⟩ → H p = none → Stp F ⟨a, H, T⟩ ⟨a + 1, H, T⟩
  | nn1 {a H T p t p3 x y} : 0 ≤ a → F[a.toNat]? = some ⟨"NotNull", p, t, p3, x⟩ → H p = some y → Stp F ⟨a, H, T⟩ ⟨t, H, T⟩
  | if0 {a H T p t x y} : 0 ≤ a → F[a.toNat]? = some ⟨"IfNot", p, t, 1, x⟩ → H p = some y → ¬ y = 0 → Stp F ⟨a, H, T⟩ ⟨a + 1, H, T⟩
  | ifn {a H T p t x} : 0 ≤ a → F[a.toNat]? = some ⟨"IfNot", p, t, 1, x⟩ → H p = none → Stp F ⟨a, H, T⟩ ⟨t, H, T⟩
  | ifz {a H T p t x} : 0 ≤ a → F[a.toNat]? = some ⟨"IfNot", p, t, 1, x⟩ → H p = some 0 → Stp F ⟨a, H, T⟩ ⟨t, H, T⟩
inductive Run (F : List Op) : Nat → RS → RS → Prop
  | zero {s} : Run F 0 s s
  | succ {n a b c} : Stp F a b → Run F n b c → Run F (n + 1) a c
theorem Run.trans {F : List Op} {n m : Nat} {a b c : RS} (h : Run F n a b) (k : Run F m b c) : Run F (n + m) a c := by
  induction h with
  | zero => rw [Nat.zero_add]; exact k
  | @succ n a b c h1 _ ih => have := Run.succ h1 (ih k); rwa [show n + 1 + m = n + m + 1 by lia]
theorem Run.one {F : List Op} {a b : RS} (h : Stp F a b) : Run F 1 a b := .succ h .zero
noncomputable def isJ (nm : String) : Bool := nm == "Goto" || nm == "NotNull" || nm == "IfNot"
noncomputable def labAt (ls : List (Int × Int)) (l : Int) : Int := (ls.lookup l).getD 0
noncomputable def pat (ls : List (Int × Int)) (o : Op) : Op := if isJ o.nm = true ∧ o.p2 < 0 then { o with p2 := labAt ls o.p2 } else o
noncomputable def Ext (s s' : St) : Prop := (∃ no, s'.ops = s.ops ++ no) ∧ (∃ nl, s'.labs = s.labs ++ nl) ∧ s.R ≤ s'.R ∧ s'.N ≤ s.N
theorem Ext.refl (s : St) : Ext s s := ⟨⟨[], by simp⟩, ⟨[], by simp⟩, Int.le_refl _, Int.le_refl _⟩
theorem Ext.trans {a b c : St} (h : Ext a b) (k : Ext b c) : Ext a c := by
  obtain ⟨⟨n1, e1⟩, ⟨l1, f1⟩, g1, j1⟩ := h
  obtain ⟨⟨n2, e2⟩, ⟨l2, f2⟩, g2, j2⟩ := k
  exact ⟨⟨n1 ++ n2, by rw [e2, e1, List.append_assoc]⟩, ⟨l1 ++ l2, by rw [f2, f1, List.append_assoc]⟩, by lia, by lia⟩
theorem Ext.add {a b : St} (h : Ext a b) (nm : String) (p1 p2 p3 : Int) (p4 : P4) : Ext a (b.add nm p1 p2 p3 p4) := h.trans ⟨⟨[_], rfl⟩, ⟨[], by simp⟩, Int.le_refl _, Int.le_refl _⟩
theorem Ext.reg {a b : St} (h : Ext a b) (n : Int) (hn : 0 ≤ n) : Ext a (b.reg n) := h.trans ⟨⟨[], by simp⟩, ⟨[], by simp⟩, by simp only [St.reg]; lia, Int.le_refl _⟩
theorem Ext.lab {a b : St} (h : Ext a b) : Ext a b.lab := h.trans ⟨⟨[], by simp⟩, ⟨[], by simp⟩, Int.le_refl _, by simp only [St.lab]; lia⟩
theorem Ext.place {a b : St} (h : Ext a b) (l : Int) : Ext a (b.place l) := h.trans ⟨⟨[], by simp⟩, ⟨[_], rfl⟩, Int.le_refl _, Int.le_refl _⟩
theorem comp_ext (t : Tr) : ∀ (x : Int) (s : St), Ext s (comp t x s) := by
  induction t with
  | val v => intro x s; exact (Ext.refl s).add ..
  | col i => intro x s; exact (Ext.refl s).add ..
  | known => intro x s; exact (Ext.refl s).add ..
  | f0 => intro x s; exact ((Ext.refl s).reg 1 (by decide)).add ..
  | f1 a ia => intro x s; exact (((Ext.refl s).reg 1 (by decide)).trans (ia _ _)).add ..
  | f2 F a b ia ib =>
    intro x s
    cases F with
    | max => exact ((((Ext.refl s).reg 2 (by decide)).trans (ia _ _)).trans (ib _ _)).add ..
    | coalesce => exact ((((((Ext.refl s).lab).trans (ia _ _)).add ..).trans (ib _ _)).add ..).place _
    | ifnull => exact ((((((Ext.refl s).lab).trans (ia _ _)).add ..).trans (ib _ _)).add ..).place _
  | f3 F a b c ia ib ic =>
    intro x s
    cases F with
    | coalesce => exact ((((((((Ext.refl s).lab).trans (ia _ _)).add ..).trans (ib _ _)).add ..).trans (ic _ _)).add ..).place _
    | iif => exact ((((((((((Ext.refl s).lab).lab).reg 1 (by decide)).trans (ia _ _)).add ..).trans (ib _ _)).add ..).place _).trans (ic _ _)).place _
    | iif2 => exact ((((((((((Ext.refl s).lab).lab).reg 1 (by decide)).trans (ia _ _)).add ..).trans (ib _ _)).add ..).place _).trans (ic _ _)).place _
noncomputable def Fits (F : List Op) (ls : List (Int × Int)) (s : St) : Prop := (∀ (i : Nat) (o : Op), s.ops[i]? = some o → F[i]? = some (pat ls o)) ∧ ∀ p ∈ s.labs, labAt ls p.1 = p.2
theorem Fits.ext {F : List Op} {ls : List (Int × Int)} {s s' : St} (h : Fits F ls s') (e : Ext s s') : Fits F ls s := by
  obtain ⟨⟨no, e1⟩, ⟨nl, e2⟩, _⟩ := e
  refine ⟨fun i o ho => h.1 i o ?_, fun p hp => h.2 p (by rw [e2]; exact List.mem_append_left _ hp)⟩
  have hi : i < s.ops.length := by
    rcases Nat.lt_or_ge i s.ops.length with q | q
    · exact q
    · rw [List.getElem?_eq_none q] at ho; cases ho
  rw [e1, List.getElem?_append_left hi]; exact ho
theorem Fits.op {F : List Op} {ls : List (Int × Int)} {s : St} {nm : String} {p1 p2 p3 : Int} {p4 : P4} (h : Fits F ls (s.add nm p1 p2 p3 p4)) : F[((s.ops.length : Nat) : Int).toNat]? = some (pat ls ⟨nm, p1, p2, p3, p4⟩) := by
  refine h.1 _ _ ?_
  rw [Int.toNat_natCast]
  show (s.ops ++ [_])[s.ops.length]? = _
  simp
theorem pat_no {ls : List (Int × Int)} {nm : String} {p1 p2 p3 : Int} {p4 : P4} (h : isJ nm = false) : pat ls ⟨nm, p1, p2, p3, p4⟩ = ⟨nm, p1, p2, p3, p4⟩ := by
  unfold pat; rw [if_neg (by simp [h])]
theorem pat_j {ls : List (Int × Int)} {nm : String} {p1 p2 p3 : Int} {p4 : P4} (h : isJ nm = true) (k : p2 < 0) : pat ls ⟨nm, p1, p2, p3, p4⟩ = ⟨nm, p1, labAt ls p2, p3, p4⟩ := by
  unfold pat; rw [if_pos ⟨h, k⟩]
noncomputable def Cols (w : Rw) (H : Int → Option Int) : Prop := H 2 = w.r0 ∧ H 3 = w.r1 ∧ H 4 = w.r2
noncomputable def Pc (w : Rw) (s : St) (s' : St) (x : Int) (v : Option Int) (tl : List Td) (z : Nat) : Prop :=
  ∀ (F : List Op) (ls : List (Int × Int)) (H : Int → Option Int) (T : List Td), Fits F ls s' → Cols w H →
    ∃ k H', k ≤ z ∧ Run F k ⟨(s.ops.length : Int), H, T⟩ ⟨(s'.ops.length : Int), H', T ++ tl⟩ ∧ H' x = v ∧ ∀ r, r < s.R → r ≠ x → H' r = H r
theorem Cols.keep {w : Rw} {H H' : Int → Option Int} {R x : Int} (h : Cols w H) (hR : 5 ≤ R) (hx : 5 ≤ x) (k : ∀ r, r < R → r ≠ x → H' r = H r) : Cols w H' := by
  obtain ⟨a, b, c⟩ := h
  exact ⟨by rw [k 2 (by lia) (by lia)]; exact a, by rw [k 3 (by lia) (by lia)]; exact b, by rw [k 4 (by lia) (by lia)]; exact c⟩
theorem add_len (s : St) (nm : String) (p1 p2 p3 : Int) (p4 : P4) : (((s.add nm p1 p2 p3 p4).ops.length : Nat) : Int) = (s.ops.length : Int) + 1 := by
  show (((s.ops ++ [_]).length : Nat) : Int) = _
  rw [List.length_append]; simp
theorem upd_at (H : Int → Option Int) (t : Int) (v : Option Int) : upd H t v t = v := if_pos rfl
theorem upd_off (H : Int → Option Int) {t r : Int} (v : Option Int) (h : r ≠ t) : upd H t v r = H r := if_neg h
section
variable {a b x N : Int}
theorem li1 : a < a + 1 := Int.lt_succ a
theorem li2 : a < a + 2 := by lia
theorem ln1 (h : N < 0) : N - 1 < 0 := by lia
theorem ln2 (h : N < 0) : N - 1 - 1 < 0 := by lia
theorem la1 (k : a ≤ N - 1) (h : N < 0) : a < 0 := by lia
theorem la2 (k : a ≤ N - 1 - 1) (h : N < 0) : a < 0 := by lia
theorem lt2 (h : x < a) (k : a + 1 ≤ b) : x < b := by lia
theorem l5 (h : 5 ≤ x) (k : x < a) : 5 ≤ a := by lia
end
theorem known_pc {w : Rw} {s s1 : St} {x l : Int} {v : Option Int} {tl : List Td} {z : Nat} (h : Pc w s s1 x v tl z) (hl : l < 0) :
    ∀ (F : List Op) (ls : List (Int × Int)) (H : Int → Option Int) (T : List Td), Fits F ls (s1.add "NotNull" x l 0 (.val none)) → Cols w H →
    ∃ k H', k ≤ z + 1 ∧ Run F k ⟨(s.ops.length : Int), H, T⟩ ⟨(if v = none then (s1.ops.length : Int) + 1 else labAt ls l), H', T ++ tl⟩ ∧ H' x = v ∧ ∀ r, r < s.R → r ≠ x → H' r = H r := by
  intro F ls H T hF hC
  obtain ⟨k, H', hk, hr, hx, hp⟩ := h F ls H T (hF.ext ((Ext.refl _).add ..)) hC
  have ho := hF.op
  rw [pat_j (by decide) hl] at ho
  refine ⟨k + 1, H', by lia, hr.trans (.one ?_), hx, hp⟩
  cases v with
  | none => exact .nn0 (Int.natCast_nonneg _) ho hx
  | some y => exact .nn1 (Int.natCast_nonneg _) ho hx
theorem iif_pc {w : Rw} {s : St} {x : Int} {vc va vb : Option Int} {tc ta tb : List Td} {zc za zb : Nat} {s1 s2 s3 : St} (hx5 : 5 ≤ x) (hxR : x < s.R) (hN : s.N < 0)
    (hc : Pc w ((s.lab.lab).reg 1) s1 s.R vc tc zc) (ha : Pc w (s1.add "IfNot" s.R (s.N - 1) 1 (.val none)) s2 x va ta za) (hb : Pc w ((s2.add "Goto" 0 s.N 0 (.val none)).place (s.N - 1)) s3 x vb tb zb)
    (e1 : Ext ((s.lab.lab).reg 1) s1) (e2 : Ext (s1.add "IfNot" s.R (s.N - 1) 1 (.val none)) s2) (e3 : Ext ((s2.add "Goto" 0 s.N 0 (.val none)).place (s.N - 1)) s3) :
    Pc w s (s3.place s.N) x (if tru vc then va else vb) (tc ++ if tru vc then ta else tb) (zc + za + zb + 2) := by
  intro F ls H T hF hC
  have x3 : Ext s3 (s3.place s.N) := (Ext.refl _).place _
  have x2 := e3.trans x3
  have x2g : Ext (s2.add "Goto" 0 s.N 0 (.val none)) (s3.place s.N) := ((Ext.refl _).place _).trans x2
  have x2' : Ext s2 (s3.place s.N) := ((Ext.refl _).add ..).trans x2g
  have x1 := e2.trans x2'
  have x1' : Ext s1 (s3.place s.N) := ((Ext.refl _).add ..).trans x1
  have R1 : s.R + 1 ≤ s1.R := e1.2.2.1
  have R2 : s1.R ≤ s2.R := e2.2.2.1
  obtain ⟨k1, H1, hk1, hr1, hx1, hp1⟩ := hc F ls H T (hF.ext x1') hC
  have C1 := hC.keep (R := s.R + 1) (by lia) (by lia) hp1
  have o1 := (hF.ext x1).op
  rw [pat_j (by decide) (by lia)] at o1
  have l1 : labAt ls (s.N - 1) = (((s2.add "Goto" 0 s.N 0 (.val none)).ops.length : Nat) : Int) := (hF.ext x2).2 (s.N - 1, _) (List.mem_append_right _ (.head _))
  have l0 : labAt ls s.N = ((s3.ops.length : Nat) : Int) := hF.2 (s.N, _) (List.mem_append_right _ (.head _))
  have o2 := (hF.ext x2g).op
  rw [pat_j (by decide) hN] at o2
  cases ht : tru vc with
  | true =>
    obtain ⟨y, rfl⟩ : ∃ y, vc = some y := by cases vc with | none => simp [tru] at ht | some y => exact ⟨y, rfl⟩
    have hy : ¬ y = 0 := by simpa [tru] using ht
    have st1 := Stp.if0 (T := T ++ tc) (Int.natCast_nonneg _) o1 hx1 hy
    obtain ⟨k2, H2, hk2, hr2, hx2, hp2⟩ := ha F ls H1 (T ++ tc) (hF.ext x2') C1
    rw [add_len] at hr2
    have st2 := Stp.goto (H := H2) (T := T ++ tc ++ ta) (Int.natCast_nonneg _) o2
    rw [l0] at st2
    refine ⟨k1 + 1 + k2 + 1, H2, by lia, ?_, hx2, fun r h1 h2 => ?_⟩
    · rw [if_pos rfl, ← List.append_assoc]
      exact ((hr1.trans (.one st1)).trans hr2).trans (.one st2)
    · rw [hp2 r (lt2 h1 R1) h2, hp1 r (by show r < s.R + 1; lia) (by lia)]
  | false =>
    have st1 : Stp F ⟨((s1.ops.length : Nat) : Int), H1, T ++ tc⟩ ⟨labAt ls (s.N - 1), H1, T ++ tc⟩ := by
      cases vc with
      | none => exact .ifn (Int.natCast_nonneg _) o1 hx1
      | some y =>
        have hy : y = 0 := by simpa [tru] using ht
        subst hy
        exact .ifz (Int.natCast_nonneg _) o1 hx1
    rw [l1] at st1
    obtain ⟨k2, H2, hk2, hr2, hx2, hp2⟩ := hb F ls H1 (T ++ tc) (hF.ext x3) C1
    refine ⟨k1 + 1 + k2, H2, by lia, ?_, hx2, fun r h1 h2 => ?_⟩
    · rw [← List.append_assoc]
      exact (hr1.trans (.one st1)).trans hr2
    · rw [hp2 r (by show r < s2.R; lia) h2, hp1 r (by show r < s.R + 1; lia) (by lia)]
theorem none_or {a b : Option Int} (h : a = none) : a.or b = b := by subst h; rfl
theorem some_or {a b : Option Int} (h : ¬ a = none) : a.or b = a := by cases a with | none => exact absurd rfl h | some x => rfl
theorem co2_pc {w : Rw} {s : St} {x : Int} {va vb : Option Int} {ta tb : List Td} {za zb : Nat} {s1 s2 : St} (hx5 : 5 ≤ x) (hxR : x < s.R) (hN : s.N < 0)
    (ha : Pc w s.lab s1 x va ta za) (hb : Pc w (s1.add "NotNull" x s.N 0 (.val none)) s2 x vb tb zb) (e1 : Ext s.lab s1) (e2 : Ext (s1.add "NotNull" x s.N 0 (.val none)) s2) :
    Pc w s ((s2.add "NotNull" x s.N 0 (.val none)).place s.N) x (va.or vb) (ta ++ if va = none then tb else []) (za + zb + 2) := by
  intro F ls H T hF hC
  have x2 : Ext (s2.add "NotNull" x s.N 0 (.val none)) ((s2.add "NotNull" x s.N 0 (.val none)).place s.N) := (Ext.refl _).place _
  have x1 := e2.trans (((Ext.refl _).add ..).trans x2)
  have R1 : s.R ≤ s1.R := e1.2.2.1
  have l0 : labAt ls s.N = (((s2.add "NotNull" x s.N 0 (.val none)).ops.length : Nat) : Int) := hF.2 (s.N, _) (List.mem_append_right _ (.head _))
  obtain ⟨k1, H1, hk1, hr1, hx1, hp1⟩ := known_pc ha hN F ls H T (hF.ext x1) hC
  have C1 := hC.keep (R := s.R) (l5 hx5 hxR) hx5 hp1
  by_cases hv : va = none
  · rw [if_pos hv] at hr1
    obtain ⟨k2, H2, hk2, hr2, hx2, hp2⟩ := known_pc hb hN F ls H1 (T ++ ta) (hF.ext x2) C1
    rw [add_len] at hr2
    refine ⟨k1 + k2, H2, by lia, ?_, by rw [none_or hv]; exact hx2, fun r h1 h2 => by rw [hp2 r (Int.lt_of_lt_of_le h1 R1) h2, hp1 r h1 h2]⟩
    rw [if_pos hv, ← List.append_assoc]
    have e : (if vb = none then (s2.ops.length : Int) + 1 else labAt ls s.N) = (((s2.add "NotNull" x s.N 0 (.val none)).ops.length : Nat) : Int) := by rw [l0, add_len]; split <;> rfl
    rw [e] at hr2
    exact hr1.trans hr2
  · rw [if_neg hv, l0] at hr1
    refine ⟨k1, H1, by lia, ?_, by rw [some_or hv]; exact hx1, hp1⟩
    rw [if_neg hv, List.append_nil]
    exact hr1
theorem co3_pc {w : Rw} {s : St} {x : Int} {va vb vc : Option Int} {ta tb tc : List Td} {za zb zc : Nat} {s1 s2 s3 : St} (hx5 : 5 ≤ x) (hxR : x < s.R) (hN : s.N < 0)
    (ha : Pc w s.lab s1 x va ta za) (hb : Pc w (s1.add "NotNull" x s.N 0 (.val none)) s2 x vb tb zb) (hc : Pc w (s2.add "NotNull" x s.N 0 (.val none)) s3 x vc tc zc)
    (e1 : Ext s.lab s1) (e2 : Ext (s1.add "NotNull" x s.N 0 (.val none)) s2) (e3 : Ext (s2.add "NotNull" x s.N 0 (.val none)) s3) :
    Pc w s ((s3.add "NotNull" x s.N 0 (.val none)).place s.N) x ((va.or vb).or vc) ((ta ++ if va = none then tb else []) ++ if va.or vb = none then tc else []) (za + zb + zc + 3) := by
  intro F ls H T hF hC
  have x3 : Ext (s3.add "NotNull" x s.N 0 (.val none)) ((s3.add "NotNull" x s.N 0 (.val none)).place s.N) := (Ext.refl _).place _
  have x2 := e3.trans (((Ext.refl _).add ..).trans x3)
  have x1 := e2.trans (((Ext.refl _).add ..).trans x2)
  have R1 : s.R ≤ s1.R := e1.2.2.1
  have R2 : s1.R ≤ s2.R := e2.2.2.1
  have l0 : labAt ls s.N = (((s3.add "NotNull" x s.N 0 (.val none)).ops.length : Nat) : Int) := hF.2 (s.N, _) (List.mem_append_right _ (.head _))
  obtain ⟨k1, H1, hk1, hr1, hx1, hp1⟩ := known_pc ha hN F ls H T (hF.ext x1) hC
  have C1 := hC.keep (R := s.R) (l5 hx5 hxR) hx5 hp1
  by_cases hv : va = none
  · rw [if_pos hv] at hr1
    obtain ⟨k2, H2, hk2, hr2, hx2, hp2⟩ := known_pc hb hN F ls H1 (T ++ ta) (hF.ext x2) C1
    have C2 := C1.keep (R := s.R) (l5 hx5 hxR) hx5 fun r h1 h2 => hp2 r (Int.lt_of_lt_of_le h1 R1) h2
    rw [add_len] at hr2
    rw [none_or hv, if_pos hv]
    by_cases hu : vb = none
    · rw [if_pos hu] at hr2
      obtain ⟨k3, H3, hk3, hr3, hx3, hp3⟩ := known_pc hc hN F ls H2 (T ++ ta ++ tb) (hF.ext x3) C2
      rw [add_len] at hr3
      refine ⟨k1 + k2 + k3, H3, by lia, ?_, by rw [none_or hu]; exact hx3, fun r h1 h2 => by rw [hp3 r (by show r < s2.R; lia) h2, hp2 r (Int.lt_of_lt_of_le h1 R1) h2, hp1 r h1 h2]⟩
      rw [if_pos hu, ← List.append_assoc, ← List.append_assoc]
      have e : (if vc = none then (s3.ops.length : Int) + 1 else labAt ls s.N) = (((s3.add "NotNull" x s.N 0 (.val none)).ops.length : Nat) : Int) := by rw [l0, add_len]; split <;> rfl
      rw [e] at hr3
      exact (hr1.trans hr2).trans hr3
    · rw [if_neg hu, l0] at hr2
      refine ⟨k1 + k2, H2, by lia, ?_, by rw [some_or hu]; exact hx2, fun r h1 h2 => by rw [hp2 r (Int.lt_of_lt_of_le h1 R1) h2, hp1 r h1 h2]⟩
      rw [if_neg hu, List.append_nil, ← List.append_assoc]
      exact hr1.trans hr2
  · rw [if_neg hv, l0] at hr1
    have hw : ¬ va.or vb = none := by rw [some_or hv]; exact hv
    refine ⟨k1, H1, by lia, ?_, by rw [some_or hw, some_or hv]; exact hx1, hp1⟩
    rw [if_neg hv, if_neg hw, List.append_nil, List.append_nil]
    exact hr1
theorem vsAt_one (H : Int → Option Int) (p : Int) : vsAt H p 1 = [H p] := by simp [vsAt]
theorem vsAt_two (H : Int → Option Int) (p : Int) : vsAt H p 2 = [H p, H (p + 1)] := by simp [vsAt, List.range_succ]
theorem comp_run (w : Rw) (t : Tr) : ∀ (x : Int) (s : St), 5 ≤ x → x < s.R → s.N < 0 → Pc w s (comp t x s) x (fnd w t) (tld w t) t.nops := by
  induction t with
  | val v =>
    intro x s h5 hR hN F ls H T hF hC
    have ho := hF.op
    rw [pat_no (by decide)] at ho
    exact ⟨1, _, Nat.le_refl _, by rw [comp, add_len]; simpa [tld, fnd] using Run.one (.value (H := H) (T := T) (Int.natCast_nonneg _) ho), upd_at .., fun r _ h => upd_off _ _ h⟩
  | col i =>
    intro x s h5 hR hN F ls H T hF hC
    have ho := hF.op
    rw [pat_no (by decide)] at ho
    refine ⟨1, _, Nat.le_refl _, by rw [comp, add_len]; simpa [tld] using Run.one (.copy (H := H) (T := T) (Int.natCast_nonneg _) ho), ?_, fun r _ h => upd_off _ _ h⟩
    rw [upd_at]
    cases i
    · exact hC.1
    · exact hC.2.1
  | known =>
    intro x s h5 hR hN F ls H T hF hC
    have ho := hF.op
    rw [pat_no (by decide)] at ho
    exact ⟨1, _, Nat.le_refl _, by rw [comp, add_len]; simpa [tld] using Run.one (.copy (H := H) (T := T) (Int.natCast_nonneg _) ho), by rw [upd_at]; exact hC.2.2, fun r _ h => upd_off _ _ h⟩
  | f0 =>
    intro x s h5 hR hN F ls H T hF hC
    have ho := hF.op
    rw [pat_no (by decide)] at ho
    exact ⟨1, _, Nat.le_refl _, by rw [comp, add_len]; exact Run.one (.func (H := H) (T := T) 0 (Int.natCast_nonneg _) (by decide) ho), upd_at .., fun r _ h => upd_off _ _ h⟩
  | f1 a ia =>
    intro x s h5 hR hN F ls H T hF hC
    obtain ⟨k, H1, hk, hr, hx, hp⟩ := ia s.R (s.reg 1) (l5 h5 hR) li1 hN F ls H T (hF.ext ((Ext.refl _).add ..)) hC
    have ho := hF.op
    rw [pat_no (by decide)] at ho
    refine ⟨k + 1, upd H1 x (worth [fnd w a]), by simp only [Tr.nops, F2.own, F3.own]; lia, ?_, upd_at .., fun r h1 h2 => ?_⟩
    · have st := Stp.func (H := H1) (T := T ++ tld w a) 1 (Int.natCast_nonneg _) (by decide) ho
      rw [vsAt_one, hx] at st
      rw [comp, add_len]
      simpa [tld, fnd, List.append_assoc] using hr.trans (.one st)
    · rw [upd_off _ _ h2, hp r (by show r < s.R + 1; lia) (by lia)]
  | f2 K a b ia ib =>
    intro x s h5 hR hN
    have co : Pc w s (comp (.f2 .coalesce a b) x s) x (fnd w (.f2 .coalesce a b)) (tld w (.f2 .coalesce a b)) (Tr.f2 .coalesce a b).nops := by
      have eA := comp_ext a x s.lab
      have RA : s.R ≤ (comp a x s.lab).R := eA.2.2.1
      have NA : (comp a x s.lab).N ≤ s.N - 1 := eA.2.2.2
      exact co2_pc h5 hR hN (ia x s.lab h5 hR (ln1 hN)) (ib x _ h5 (Int.lt_of_lt_of_le hR RA) (la1 NA hN)) eA (comp_ext b x _)
    cases K with
    | max =>
      intro F ls H T hF hC
      have x2 := (Ext.refl (comp b (s.R + 1) (comp a s.R (s.reg 2)))).add "Function" s.R 2 x (.told "max" (colOf [a, b]))
      have eA := comp_ext a s.R (s.reg 2)
      have eB := comp_ext b (s.R + 1) (comp a s.R (s.reg 2))
      have RA : s.R + 2 ≤ (comp a s.R (s.reg 2)).R := eA.2.2.1
      have NA : (comp a s.R (s.reg 2)).N ≤ s.N := eA.2.2.2
      obtain ⟨k, H1, hk, hr, hx, hp⟩ := ia s.R (s.reg 2) (l5 h5 hR) li2 hN F ls H T (hF.ext (eB.trans x2)) hC
      have C1 := hC.keep (R := s.R + 2) (by lia) (by lia) hp
      obtain ⟨k2, H2, hk2, hr2, hx2, hp2⟩ := ib (s.R + 1) (comp a s.R (s.reg 2)) (by lia) (by lia) (by lia) F ls H1 (T ++ tld w a) (hF.ext x2) C1
      have ho := hF.op
      rw [pat_no (by decide)] at ho
      refine ⟨k + k2 + 1, upd H2 x (worth [fnd w a, fnd w b]), by simp only [Tr.nops, F2.own, F3.own]; lia, ?_, upd_at .., fun r h1 h2 => ?_⟩
      · have st := Stp.func (H := H2) (T := T ++ tld w a ++ tld w b) 2 (Int.natCast_nonneg _) (by decide) ho
        rw [vsAt_two, hx2, hp2 s.R (by lia) (by lia), hx] at st
        rw [comp, add_len]
        have := (hr.trans hr2).trans (.one st)
        simpa [tld, fnd, List.append_assoc] using this
      · rw [upd_off _ _ h2, hp2 r (by lia) (by lia), hp r (by show r < s.R + 2; lia) (by lia)]
    | coalesce => exact co
    | ifnull => exact co
  | f3 K a b c ia ib ic =>
    intro x s h5 hR hN
    have co : Pc w s (comp (.f3 .iif a b c) x s) x (fnd w (.f3 .iif a b c)) (tld w (.f3 .iif a b c)) (Tr.f3 .iif a b c).nops := by
      have eA := comp_ext a s.R ((s.lab.lab).reg 1)
      have RA : s.R + 1 ≤ (comp a s.R ((s.lab.lab).reg 1)).R := eA.2.2.1
      have NA : (comp a s.R ((s.lab.lab).reg 1)).N ≤ s.N - 1 - 1 := eA.2.2.2
      have eB := comp_ext b x ((comp a s.R ((s.lab.lab).reg 1)).add "IfNot" s.R (s.N - 1) 1 (.val none))
      have RB : (comp a s.R ((s.lab.lab).reg 1)).R ≤ (comp b x ((comp a s.R ((s.lab.lab).reg 1)).add "IfNot" s.R (s.N - 1) 1 (.val none))).R := eB.2.2.1
      have NB : (comp b x ((comp a s.R ((s.lab.lab).reg 1)).add "IfNot" s.R (s.N - 1) 1 (.val none))).N ≤ (comp a s.R ((s.lab.lab).reg 1)).N := eB.2.2.2
      exact iif_pc h5 hR hN (ia s.R ((s.lab.lab).reg 1) (l5 h5 hR) li1 (ln2 hN)) (ib x _ h5 (lt2 hR RA) (la2 NA hN))
        (ic x _ h5 (lt2 hR (Int.le_trans RA RB)) (Int.lt_of_le_of_lt NB (la2 NA hN))) eA eB (comp_ext c x _)
    cases K with
    | coalesce =>
      have eA := comp_ext a x s.lab
      have RA : s.R ≤ (comp a x s.lab).R := eA.2.2.1
      have NA : (comp a x s.lab).N ≤ s.N - 1 := eA.2.2.2
      have eB := comp_ext b x ((comp a x s.lab).add "NotNull" x s.N 0 (.val none))
      have RB : (comp a x s.lab).R ≤ (comp b x ((comp a x s.lab).add "NotNull" x s.N 0 (.val none))).R := eB.2.2.1
      have NB : (comp b x ((comp a x s.lab).add "NotNull" x s.N 0 (.val none))).N ≤ (comp a x s.lab).N := eB.2.2.2
      exact co3_pc h5 hR hN (ia x s.lab h5 hR (ln1 hN)) (ib x _ h5 (Int.lt_of_lt_of_le hR RA) (la1 NA hN)) (ic x _ h5 (Int.lt_of_lt_of_le hR (Int.le_trans RA RB)) (Int.lt_of_le_of_lt NB (la1 NA hN))) eA eB (comp_ext c x _)
    | iif => exact co
    | iif2 => exact co
inductive OpOk (ls : List (Int × Int)) : Op → Prop
  | value {p1 p2 p3 p4} : OpOk ls ⟨"Value", p1, p2, p3, p4⟩
  | copy {p1 p2 p3 p4} : OpOk ls ⟨"Copy", p1, p2, p3, p4⟩
  | func {p1 p2 p3 p4} : OpOk ls ⟨"Function", p1, p2, p3, p4⟩
  | goto {p1 p2 p3 p4 n} : p2 < 0 → (p2, n) ∈ ls → OpOk ls ⟨"Goto", p1, p2, p3, p4⟩
  | nn {p1 p2 p3 p4 n} : p2 < 0 → (p2, n) ∈ ls → OpOk ls ⟨"NotNull", p1, p2, p3, p4⟩
  | ifn {p1 p2 p3 p4 n} : p2 < 0 → (p2, n) ∈ ls → OpOk ls ⟨"IfNot", p1, p2, p3, p4⟩
theorem OpOk.mono {ls ls' : List (Int × Int)} (hs : ∀ p ∈ ls, p ∈ ls') {o : Op} (h : OpOk ls o) : OpOk ls' o := by
  cases h with
  | value => exact .value
  | copy => exact .copy
  | func => exact .func
  | goto h k => exact .goto h (hs _ k)
  | nn h k => exact .nn h (hs _ k)
  | ifn h k => exact .ifn h (hs _ k)
noncomputable def Oks (ls : List (Int × Int)) (s s' : St) : Prop := ∀ o ∈ s'.ops, o ∈ s.ops ∨ OpOk ls o
theorem Oks.refl (ls : List (Int × Int)) (s : St) : Oks ls s s := fun _ h => .inl h
theorem Oks.trans {ls : List (Int × Int)} {a b c : St} (h : Oks ls a b) (k : Oks ls b c) : Oks ls a c := fun o ho => by
  rcases k o ho with q | q
  · exact h o q
  · exact .inr q
theorem Oks.mono {ls ls' : List (Int × Int)} (hs : ∀ p ∈ ls, p ∈ ls') {a b : St} (h : Oks ls a b) : Oks ls' a b := fun o ho => (h o ho).imp_right fun q => q.mono hs
theorem Oks.add {ls : List (Int × Int)} {a b : St} (h : Oks ls a b) {nm : String} {p1 p2 p3 : Int} {p4 : P4} (k : OpOk ls ⟨nm, p1, p2, p3, p4⟩) : Oks ls a (b.add nm p1 p2 p3 p4) := fun o ho => by
  rcases List.mem_append.mp ho with q | q
  · exact h o q
  · rw [List.mem_singleton.mp q]; exact .inr k
theorem ext_labs {a b : St} (h : Ext a b) : ∀ p ∈ a.labs, p ∈ b.labs := fun p hp => by
  obtain ⟨_, ⟨nl, e⟩, _⟩ := h
  rw [e]; exact List.mem_append_left _ hp
theorem comp_ok (t : Tr) : ∀ (x : Int) (s : St), s.N < 0 → Oks (comp t x s).labs s (comp t x s) := by
  induction t with
  | val v => intro x s _; exact (Oks.refl _ s).add .value
  | col i => intro x s _; exact (Oks.refl _ s).add .copy
  | known => intro x s _; exact (Oks.refl _ s).add .copy
  | f0 => intro x s _; exact (Oks.refl _ (s.reg 1)).add .func
  | f1 a ia => intro x s h; exact (ia s.R (s.reg 1) h).add .func
  | f2 K a b ia ib =>
    intro x s h
    cases K with
    | max =>
      have eA := comp_ext a s.R (s.reg 2)
      have NA : (comp a s.R (s.reg 2)).N ≤ s.N := eA.2.2.2
      have eB := comp_ext b (s.R + 1) (comp a s.R (s.reg 2))
      exact (((ia s.R (s.reg 2) h).mono (ext_labs eB)).trans (ib (s.R + 1) _ (by lia))).add .func
    | coalesce =>
      have eA := comp_ext a x s.lab
      have NA : (comp a x s.lab).N ≤ s.N - 1 := eA.2.2.2
      have eB := comp_ext b x ((comp a x s.lab).add "NotNull" x s.N 0 (.val none))
      exact ((((ia x s.lab (by show s.N - 1 < 0; lia)).mono fun p hp => List.mem_append_left _ (ext_labs eB p hp)).add (.nn h (List.mem_append_right _ (.head _)))).trans ((ib x _ (by show (comp a x s.lab).N < 0; lia)).mono fun p hp => List.mem_append_left _ hp)).add (.nn h (List.mem_append_right _ (.head _)))
    | ifnull =>
      have eA := comp_ext a x s.lab
      have NA : (comp a x s.lab).N ≤ s.N - 1 := eA.2.2.2
      have eB := comp_ext b x ((comp a x s.lab).add "NotNull" x s.N 0 (.val none))
      exact ((((ia x s.lab (by show s.N - 1 < 0; lia)).mono fun p hp => List.mem_append_left _ (ext_labs eB p hp)).add (.nn h (List.mem_append_right _ (.head _)))).trans ((ib x _ (by show (comp a x s.lab).N < 0; lia)).mono fun p hp => List.mem_append_left _ hp)).add (.nn h (List.mem_append_right _ (.head _)))
  | f3 K a b c ia ib ic =>
    intro x s h
    have iif : Oks ((comp c x ((((comp b x ((comp a s.R ((s.lab.lab).reg 1)).add "IfNot" s.R (s.N - 1) 1 (.val none))).add "Goto" 0 s.N 0 (.val none)).place (s.N - 1)))).place s.N).labs s ((comp c x ((((comp b x ((comp a s.R ((s.lab.lab).reg 1)).add "IfNot" s.R (s.N - 1) 1 (.val none))).add "Goto" 0 s.N 0 (.val none)).place (s.N - 1)))).place s.N) := by
      have eA := comp_ext a s.R ((s.lab.lab).reg 1)
      have NA : (comp a s.R ((s.lab.lab).reg 1)).N ≤ s.N - 1 - 1 := eA.2.2.2
      have eB := comp_ext b x ((comp a s.R ((s.lab.lab).reg 1)).add "IfNot" s.R (s.N - 1) 1 (.val none))
      have NB : (comp b x ((comp a s.R ((s.lab.lab).reg 1)).add "IfNot" s.R (s.N - 1) 1 (.val none))).N ≤ (comp a s.R ((s.lab.lab).reg 1)).N := eB.2.2.2
      have eC := comp_ext c x ((((comp b x ((comp a s.R ((s.lab.lab).reg 1)).add "IfNot" s.R (s.N - 1) 1 (.val none))).add "Goto" 0 s.N 0 (.val none)).place (s.N - 1)))
      have mB : ∀ p ∈ (comp b x ((comp a s.R ((s.lab.lab).reg 1)).add "IfNot" s.R (s.N - 1) 1 (.val none))).labs, p ∈ ((comp c x ((((comp b x ((comp a s.R ((s.lab.lab).reg 1)).add "IfNot" s.R (s.N - 1) 1 (.val none))).add "Goto" 0 s.N 0 (.val none)).place (s.N - 1)))).place s.N).labs :=
        fun p hp => List.mem_append_left _ (ext_labs eC p (List.mem_append_left _ hp))
      have q1 := ((ia s.R ((s.lab.lab).reg 1) (by show s.N - 1 - 1 < 0; lia)).mono fun p hp => mB p (ext_labs eB p hp)).add (nm := "IfNot") (p1 := s.R) (p2 := s.N - 1) (p3 := 1) (p4 := .val none) (.ifn (by lia) (List.mem_append_left _ (ext_labs eC _ (List.mem_append_right _ (.head _)))))
      have q2 := (q1.trans ((ib x _ (by show (comp a s.R ((s.lab.lab).reg 1)).N < 0; lia)).mono mB)).add (nm := "Goto") (p1 := 0) (p2 := s.N) (p3 := 0) (p4 := .val none) (.goto h (List.mem_append_right _ (.head _)))
      exact q2.trans ((ic x _ (by show (comp b x _).N < 0; lia)).mono fun p hp => List.mem_append_left _ hp)
    cases K with
    | coalesce =>
      have eA := comp_ext a x s.lab
      have NA : (comp a x s.lab).N ≤ s.N - 1 := eA.2.2.2
      have eB := comp_ext b x ((comp a x s.lab).add "NotNull" x s.N 0 (.val none))
      have NB : (comp b x ((comp a x s.lab).add "NotNull" x s.N 0 (.val none))).N ≤ (comp a x s.lab).N := eB.2.2.2
      have eC := comp_ext c x ((comp b x ((comp a x s.lab).add "NotNull" x s.N 0 (.val none))).add "NotNull" x s.N 0 (.val none))
      have mB : ∀ p ∈ (comp b x ((comp a x s.lab).add "NotNull" x s.N 0 (.val none))).labs, p ∈ (comp c x ((comp b x ((comp a x s.lab).add "NotNull" x s.N 0 (.val none))).add "NotNull" x s.N 0 (.val none))).labs ++ [(s.N, (((comp c x ((comp b x ((comp a x s.lab).add "NotNull" x s.N 0 (.val none))).add "NotNull" x s.N 0 (.val none))).add "NotNull" x s.N 0 (.val none)).ops.length : Int))] :=
        fun p hp => List.mem_append_left _ (ext_labs eC p hp)
      have q1 := ((ia x s.lab (by show s.N - 1 < 0; lia)).mono fun p hp => mB p (ext_labs eB p hp)).add (nm := "NotNull") (p1 := x) (p2 := s.N) (p3 := 0) (p4 := .val none) (.nn h (List.mem_append_right _ (.head _)))
      have q2 := (q1.trans ((ib x _ (by show (comp a x s.lab).N < 0; lia)).mono mB)).add (nm := "NotNull") (p1 := x) (p2 := s.N) (p3 := 0) (p4 := .val none) (.nn h (List.mem_append_right _ (.head _)))
      exact (q2.trans ((ic x _ (by show (comp b x _).N < 0; lia)).mono fun p hp => List.mem_append_left _ hp)).add (.nn h (List.mem_append_right _ (.head _)))
    | iif => exact iif
    | iif2 => exact iif
structure Nd (s : St) : Prop where
  l : ∀ p ∈ s.labs, s.N < p.1
  d : s.labs.Pairwise fun p q => p.1 ≠ q.1
  o : ∀ p ∈ s.labs, 0 ≤ p.2 ∧ p.2 ≤ (s.ops.length : Int)
theorem Nd.add {s : St} (h : Nd s) (nm : String) (p1 p2 p3 : Int) (p4 : P4) : Nd (s.add nm p1 p2 p3 p4) := ⟨h.l, h.d, fun p hp => by rw [add_len]; have := h.o p hp; lia⟩
theorem Nd.reg {s : St} (h : Nd s) (n : Int) : Nd (s.reg n) := ⟨h.l, h.d, h.o⟩
theorem Nd.lab {s : St} (h : Nd s) : Nd s.lab := ⟨fun p hp => by have := h.l p hp; show s.N - 1 < _; lia, h.d, h.o⟩
theorem Nd.place {s : St} (h : Nd s) {l : Int} (hl : s.N < l) (hf : ∀ p ∈ s.labs, p.1 ≠ l) : Nd (s.place l) := by
  refine ⟨fun p hp => ?_, ?_, fun p hp => ?_⟩
  · rcases List.mem_append.mp hp with q | q
    · exact h.l p q
    · rw [List.mem_singleton.mp q]; exact hl
  · refine List.pairwise_append.mpr ⟨h.d, List.pairwise_singleton _ _, fun p hp q hq => ?_⟩
    rw [List.mem_singleton.mp hq]; exact hf p hp
  · rcases List.mem_append.mp hp with q | q
    · exact h.o p q
    · rw [List.mem_singleton.mp q]
      exact ⟨Int.natCast_nonneg _, Int.le_refl _⟩
noncomputable def Free (l : Int) (s : St) : Prop := ∀ p ∈ s.labs, p.1 ≠ l
theorem comp_free (t : Tr) : ∀ (x : Int) (s : St) (l : Int), Free l s → s.N < l → Free l (comp t x s) := by
  induction t with
  | val v => intro x s l h _; exact h
  | col i => intro x s l h _; exact h
  | known => intro x s l h _; exact h
  | f0 => intro x s l h _; exact h
  | f1 a ia => intro x s l h k; exact ia s.R (s.reg 1) l h k
  | f2 K a b ia ib =>
    intro x s l h k
    have pl : ∀ {s' : St} {l' : Int}, Free l s' → l' < l → Free l (s'.place l') := fun f g p hp => by
      rcases List.mem_append.mp hp with q | q
      · exact f p q
      · rw [List.mem_singleton.mp q]; exact Int.ne_of_lt g
    cases K with
    | max =>
      have NA : (comp a s.R (s.reg 2)).N ≤ s.N := (comp_ext a s.R (s.reg 2)).2.2.2
      exact ib (s.R + 1) _ l (ia s.R (s.reg 2) l h k) (by lia)
    | coalesce =>
      have NA : (comp a x s.lab).N ≤ s.N - 1 := (comp_ext a x s.lab).2.2.2
      exact pl (s' := (comp b x _).add _ _ _ _ _) (ib x _ l (ia x s.lab l h (by show s.N - 1 < l; lia)) (by show (comp a x s.lab).N < l; lia)) k
    | ifnull =>
      have NA : (comp a x s.lab).N ≤ s.N - 1 := (comp_ext a x s.lab).2.2.2
      exact pl (s' := (comp b x _).add _ _ _ _ _) (ib x _ l (ia x s.lab l h (by show s.N - 1 < l; lia)) (by show (comp a x s.lab).N < l; lia)) k
  | f3 K a b c ia ib ic =>
    intro x s l h k
    have pl : ∀ {s' : St} {l' : Int}, Free l s' → l' < l → Free l (s'.place l') := fun f g p hp => by
      rcases List.mem_append.mp hp with q | q
      · exact f p q
      · rw [List.mem_singleton.mp q]; exact Int.ne_of_lt g
    have NA : (comp a x s.lab).N ≤ s.N - 1 := (comp_ext a x s.lab).2.2.2
    have NA' : (comp a s.R ((s.lab.lab).reg 1)).N ≤ s.N - 1 - 1 := (comp_ext a s.R ((s.lab.lab).reg 1)).2.2.2
    have NB' : (comp b x ((comp a s.R ((s.lab.lab).reg 1)).add "IfNot" s.R (s.N - 1) 1 (.val none))).N ≤ (comp a s.R ((s.lab.lab).reg 1)).N := (comp_ext b x _).2.2.2
    have iif := pl (s' := comp c x ((((comp b x ((comp a s.R ((s.lab.lab).reg 1)).add "IfNot" s.R (s.N - 1) 1 (.val none))).add "Goto" 0 s.N 0 (.val none)).place (s.N - 1)))) (l' := s.N)
      (ic x _ l (pl (s' := (comp b x _).add _ _ _ _ _) (l' := s.N - 1) (ib x _ l (ia s.R ((s.lab.lab).reg 1) l h (by show s.N - 1 - 1 < l; lia)) (by show (comp a s.R ((s.lab.lab).reg 1)).N < l; lia)) (by lia)) (by show (comp b x _).N < l; lia)) k
    cases K with
    | coalesce =>
      have NB : (comp b x ((comp a x s.lab).add "NotNull" x s.N 0 (.val none))).N ≤ (comp a x s.lab).N := (comp_ext b x _).2.2.2
      exact pl (s' := (comp c x _).add _ _ _ _ _) (ic x ((comp b x ((comp a x s.lab).add "NotNull" x s.N 0 (.val none))).add "NotNull" x s.N 0 (.val none)) l (ib x ((comp a x s.lab).add "NotNull" x s.N 0 (.val none)) l (ia x s.lab l h (by show s.N - 1 < l; lia)) (by show (comp a x s.lab).N < l; lia)) (by show (comp b x ((comp a x s.lab).add "NotNull" x s.N 0 (.val none))).N < l; lia)) k
    | iif => exact iif
    | iif2 => exact iif
theorem Nd.free {s : St} (h : Nd s) : Free s.N s := fun p hp => by have := h.l p hp; lia
theorem comp_nd (t : Tr) : ∀ (x : Int) (s : St), Nd s → Nd (comp t x s) := by
  induction t with
  | val v => intro x s h; exact h.add ..
  | col i => intro x s h; exact h.add ..
  | known => intro x s h; exact h.add ..
  | f0 => intro x s h; exact (h.reg 1).add ..
  | f1 a ia => intro x s h; exact (ia _ _ (h.reg 1)).add ..
  | f2 K a b ia ib =>
    intro x s h
    cases K with
    | max => exact (ib _ _ (ia _ _ (h.reg 2))).add ..
    | coalesce =>
      have NA : (comp a x s.lab).N ≤ s.N - 1 := (comp_ext a x s.lab).2.2.2
      have NB : (comp b x ((comp a x s.lab).add "NotNull" x s.N 0 (.val none))).N ≤ (comp a x s.lab).N := (comp_ext b x _).2.2.2
      exact ((ib x _ ((ia x s.lab h.lab).add ..)).add ..).place (by show (comp b x _).N < s.N; lia) (comp_free b x ((comp a x s.lab).add "NotNull" x s.N 0 (.val none)) _ (comp_free a x s.lab _ h.free (by show s.N - 1 < s.N; lia)) (by show (comp a x s.lab).N < s.N; lia))
    | ifnull =>
      have NA : (comp a x s.lab).N ≤ s.N - 1 := (comp_ext a x s.lab).2.2.2
      have NB : (comp b x ((comp a x s.lab).add "NotNull" x s.N 0 (.val none))).N ≤ (comp a x s.lab).N := (comp_ext b x _).2.2.2
      exact ((ib x _ ((ia x s.lab h.lab).add ..)).add ..).place (by show (comp b x _).N < s.N; lia) (comp_free b x ((comp a x s.lab).add "NotNull" x s.N 0 (.val none)) _ (comp_free a x s.lab _ h.free (by show s.N - 1 < s.N; lia)) (by show (comp a x s.lab).N < s.N; lia))
  | f3 K a b c ia ib ic =>
    intro x s h
    have iif : Nd ((comp c x ((((comp b x ((comp a s.R ((s.lab.lab).reg 1)).add "IfNot" s.R (s.N - 1) 1 (.val none))).add "Goto" 0 s.N 0 (.val none)).place (s.N - 1)))).place s.N) := by
      have NA : (comp a s.R ((s.lab.lab).reg 1)).N ≤ s.N - 1 - 1 := (comp_ext a s.R ((s.lab.lab).reg 1)).2.2.2
      have NB : (comp b x ((comp a s.R ((s.lab.lab).reg 1)).add "IfNot" s.R (s.N - 1) 1 (.val none))).N ≤ (comp a s.R ((s.lab.lab).reg 1)).N := (comp_ext b x _).2.2.2
      have NC : (comp c x ((((comp b x ((comp a s.R ((s.lab.lab).reg 1)).add "IfNot" s.R (s.N - 1) 1 (.val none))).add "Goto" 0 s.N 0 (.val none)).place (s.N - 1)))).N ≤ (comp b x ((comp a s.R ((s.lab.lab).reg 1)).add "IfNot" s.R (s.N - 1) 1 (.val none))).N := (comp_ext c x ((((comp b x ((comp a s.R ((s.lab.lab).reg 1)).add "IfNot" s.R (s.N - 1) 1 (.val none))).add "Goto" 0 s.N 0 (.val none)).place (s.N - 1)))).2.2.2
      have f1 : ∀ l, s.N - 1 ≤ l → Free l s → Free l (comp b x ((comp a s.R ((s.lab.lab).reg 1)).add "IfNot" s.R (s.N - 1) 1 (.val none))) := fun l hl hf =>
        comp_free b x ((comp a s.R ((s.lab.lab).reg 1)).add "IfNot" s.R (s.N - 1) 1 (.val none)) l (comp_free a s.R ((s.lab.lab).reg 1) l hf (by show s.N - 1 - 1 < l; lia)) (by show (comp a s.R ((s.lab.lab).reg 1)).N < l; lia)
      have g1 : Free (s.N - 1) s := fun p hp => by have := h.l p hp; lia
      have n1 := ((ib x _ ((ia s.R ((s.lab.lab).reg 1) ((h.lab.lab).reg 1)).add "IfNot" s.R (s.N - 1) 1 (.val none))).add "Goto" 0 s.N 0 (.val none)).place (l := s.N - 1) (by show (comp b x _).N < s.N - 1; lia) (f1 _ (by lia) g1)
      refine (ic x _ n1).place (by lia) (comp_free c x _ _ (fun p hp => ?_) (by show (comp b x _).N < s.N; lia))
      rcases List.mem_append.mp hp with q | q
      · exact f1 _ (by lia) h.free p q
      · rw [List.mem_singleton.mp q]; show s.N - 1 ≠ s.N; lia
    cases K with
    | coalesce =>
      have NA : (comp a x s.lab).N ≤ s.N - 1 := (comp_ext a x s.lab).2.2.2
      have NB : (comp b x ((comp a x s.lab).add "NotNull" x s.N 0 (.val none))).N ≤ (comp a x s.lab).N := (comp_ext b x _).2.2.2
      have NC : (comp c x ((comp b x ((comp a x s.lab).add "NotNull" x s.N 0 (.val none))).add "NotNull" x s.N 0 (.val none))).N ≤ (comp b x ((comp a x s.lab).add "NotNull" x s.N 0 (.val none))).N := (comp_ext c x _).2.2.2
      exact ((ic x _ ((ib x _ ((ia x s.lab h.lab).add ..)).add ..)).add ..).place (by show (comp c x _).N < s.N; lia)
        (comp_free c x ((comp b x ((comp a x s.lab).add "NotNull" x s.N 0 (.val none))).add "NotNull" x s.N 0 (.val none)) _ (comp_free b x ((comp a x s.lab).add "NotNull" x s.N 0 (.val none)) _ (comp_free a x s.lab _ h.free (by show s.N - 1 < s.N; lia)) (by show (comp a x s.lab).N < s.N; lia)) (by show (comp b x _).N < s.N; lia))
    | iif => exact iif
    | iif2 => exact iif
theorem labAt_mem : ∀ {ls : List (Int × Int)}, (ls.Pairwise fun p q => p.1 ≠ q.1) → ∀ p ∈ ls, labAt ls p.1 = p.2
  | [], _, _, h => nomatch h
  | a :: r, hd, p, hp => by
    obtain ⟨h1, h2⟩ := List.pairwise_cons.mp hd
    unfold labAt
    rw [List.lookup_cons]
    rcases List.mem_cons.mp hp with rfl | hp
    · simp
    · have hne : p.1 ≠ a.1 := fun e => h1 p hp e.symm
      rw [beq_false_of_ne hne]
      exact labAt_mem h2 p hp
noncomputable def St0 : St := ⟨6, -1, [], []⟩
noncomputable def haltOp : Op := ⟨"Halt", 0, 0, 0, .val none⟩
noncomputable def finOps (s : St) : List Op := (s.ops ++ [haltOp]).map (pat s.labs)
theorem nops_le (t : Tr) : 2 * t.nops + 3 ≤ 5 * 3 ^ t.depth := by
  have pm : ∀ {a b : Nat}, a ≤ b → 3 ^ a ≤ 3 ^ b := fun h => Nat.pow_le_pow_right (by decide) h
  induction t with
  | val v => simp [Tr.nops, F2.own, F3.own, Tr.depth]
  | col i => simp [Tr.nops, F2.own, F3.own, Tr.depth]
  | known => simp [Tr.nops, F2.own, F3.own, Tr.depth]
  | f0 => simp [Tr.nops, F2.own, F3.own, Tr.depth]
  | f1 a ia => simp only [Tr.nops, F2.own, F3.own, Tr.depth, Nat.pow_succ]; lia
  | f2 K a b ia ib =>
    have ma := pm (Nat.le_max_left a.depth b.depth)
    have mb := pm (Nat.le_max_right a.depth b.depth)
    have hk : K.own ≤ 2 := by cases K <;> decide
    simp only [Tr.nops, Tr.depth, Nat.pow_succ]; lia
  | f3 K a b c ia ib ic =>
    have ma := pm (Nat.le_max_left a.depth (max b.depth c.depth))
    have mb := pm (Nat.le_trans (Nat.le_max_left b.depth c.depth) (Nat.le_max_right a.depth (max b.depth c.depth)))
    have mc := pm (Nat.le_trans (Nat.le_max_right b.depth c.depth) (Nat.le_max_right a.depth (max b.depth c.depth)))
    have hk : K.own ≤ 3 := by cases K <;> decide
    simp only [Tr.nops, Tr.depth, Nat.pow_succ]; lia
theorem nops_21 {t : Tr} (h : t.depth ≤ 2) : t.nops ≤ 21 := by
  have h1 := nops_le t
  have h2 : 3 ^ t.depth ≤ 3 ^ 2 := Nat.pow_le_pow_right (by decide) h
  lia
theorem nd0 : Nd St0 := ⟨(fun _ h => nomatch h), List.Pairwise.nil, (fun _ h => nomatch h)⟩
theorem plain_law (w : Rw) (t : Tr) (hd : t.depth ≤ 2) (H : Int → Option Int) (hC : Cols w H) :
    ∃ k H', k ≤ 21 ∧ Run (finOps (comp t 5 St0)) k ⟨0, H, []⟩ ⟨((comp t 5 St0).ops.length : Int), H', tld w t⟩ ∧ H' 5 = fnd w t ∧ (finOps (comp t 5 St0))[(comp t 5 St0).ops.length]? = some haltOp := by
  have hN := comp_nd t 5 St0 nd0
  have hF : Fits (finOps (comp t 5 St0)) (comp t 5 St0).labs (comp t 5 St0) := by
    refine ⟨fun i o ho => ?_, labAt_mem hN.d⟩
    have hi : i < (comp t 5 St0).ops.length := by
      rcases Nat.lt_or_ge i (comp t 5 St0).ops.length with q | q
      · exact q
      · rw [List.getElem?_eq_none q] at ho; cases ho
    unfold finOps
    rw [List.getElem?_map, List.getElem?_append_left hi, ho]; rfl
  obtain ⟨k, H', hk, hr, hx, _⟩ := comp_run w t 5 St0 (by decide) (by decide) (by decide) _ _ H [] hF hC
  refine ⟨k, H', Nat.le_trans hk (nops_21 hd), hr, hx, ?_⟩
  unfold finOps
  rw [List.getElem?_map, List.getElem?_append_right (Nat.le_refl _), Nat.sub_self]
  show some (pat _ haltOp) = _
  rw [haltOp, pat_no (by decide)]
end Mine
end
section
open PySem PySem.W PyProof.Rows PySem.Spec PyProof.V
namespace Mine
noncomputable def AggIn (c : CK) (K : List Value) (os : List (Addr × Obj)) : Prop :=
  ∃ (ags : List Value) (n : Nat), (c.AG, listOf ags.toArray n) ∈ os ∧ ags.length = K.length ∧ ags.length ≤ 1000 ∧ ∀ (i : Nat) (x : Value), ags[i]? = some x → ∃ a u j y, x = .ref a ∧ K[i]? = some y ∧ (a, tupO [y, .int 4 u] j) ∈ os
theorem AggIn.mono {c : CK} {K : List Value} {os os' : List (Addr × Obj)} (h : AggIn c K os) (hs : ∀ p ∈ os, p ∈ os') : AggIn c K os' := by
  obtain ⟨ags, n, h1, h2, h3, h4⟩ := h
  refine ⟨ags, n, hs _ h1, h2, h3, fun i x e => ?_⟩
  obtain ⟨a, u, j, y, e1, e2, e3⟩ := h4 i x e
  exact ⟨a, u, j, y, e1, e2, hs _ e3⟩
structure Sta (w : World) (c : CK) (k : PK) (K : List Value) (os : List (Addr × Obj)) : Prop where
  cod : CoderIn w c os
  agg : AggIn c K os
  kn : ∀ x ∈ K, KnownAt w os x
  o1 : ∀ p ∈ os, p.1 ≠ k.OL
  o2 : ∀ p ∈ os, p.1 ≠ c.dP
  o3 : ∀ p ∈ os, p.1 ≠ k.LD
  d1 : @Ne Nat k.OL c.dP
  d2 : @Ne Nat k.OL k.LD
  d3 : @Ne Nat c.dP k.LD
  sm : (k.LD == sysModules) = false
theorem Sta.mono {w : World} {c : CK} {k : PK} {K : List Value} {os os' : List (Addr × Obj)} (h : Sta w c k K os) (hs : ∀ p ∈ os, p ∈ os') (o1 : ∀ p ∈ os', p.1 ≠ k.OL) (o2 : ∀ p ∈ os', p.1 ≠ c.dP) (o3 : ∀ p ∈ os', p.1 ≠ k.LD) : Sta w c k K os' :=
  ⟨h.cod.mono hs, h.agg.mono hs, fun x hx => (h.kn x hx).mono hs, o1, o2, o3, h.d1, h.d2, h.d3, h.sm⟩
noncomputable def CompP (w : World) (c : CK) (k : PK) (os osm : List (Addr × Obj)) (R N : Int) (ops : List Op) (labs : List (Int × Int)) (P : Value → Prop) (r : Value) (news' : List (Addr × Obj)) : Prop :=
  ∃ xs n oL nw uR uN, P r ∧ news' = (k.OL, listOf xs.toArray n) :: (c.dP, progD w k R uR N uN) :: (k.LD, oL) :: (nw ++ os) ∧ Apart os nw ∧ (∀ p ∈ nw, p.1 ≠ k.OL) ∧ (∀ p ∈ nw, p.1 ≠ c.dP) ∧ (∀ p ∈ nw, p.1 ≠ k.LD) ∧ OpsIn (nw ++ osm) xs ops ∧ IntD w oL (labD labs)
noncomputable abbrev CompS (w : World) (c : CK) (k : PK) (os osm : List (Addr × Obj)) (s : St) (P : Value → Prop) : Value → List (Addr × Obj) → Prop := CompP w c k os osm s.R s.N s.ops s.labs P
structure Fx (N : Int) (labs : List (Int × Int)) (N' : Int) (labs' : List (Int × Int)) : Prop where
  le : N' ≤ N
  ex : ∃ nl, labs' = labs ++ nl ∧ ∀ p ∈ nl, N' < p.1 ∧ p.1 ≤ N
theorem Fx.gt {N N' : Int} {labs labs' : List (Int × Int)} (h : Fx N labs N' labs') (hl : ∀ p ∈ labs, N < p.1) : ∀ p ∈ labs', N' < p.1 := by
  obtain ⟨h1, nl, e, h2⟩ := h
  intro p hp
  rw [e] at hp
  rcases List.mem_append.mp hp with hp | hp
  · have := hl p hp; lia
  · exact (h2 p hp).1
theorem Fx.fresh {N N' l : Int} {labs labs' : List (Int × Int)} (h : Fx N labs N' labs') (hl : N < l) (hp : ∀ p ∈ labs, p.1 ≠ l) : ∀ p ∈ labs', p.1 ≠ l := by
  obtain ⟨h1, nl, e, h2⟩ := h
  intro p hq
  rw [e] at hq
  rcases List.mem_append.mp hq with hq | hq
  · exact hp p hq
  · have := (h2 p hq).2; lia
theorem labs_ne {N : Int} {labs : List (Int × Int)} (h : ∀ p ∈ labs, N < p.1) : ∀ p ∈ labs, p.1 ≠ N := fun p hp => by have := h p hp; lia
theorem labs_dec {N N' : Int} {labs : List (Int × Int)} (h : ∀ p ∈ labs, N < p.1) (k : N' ≤ N) : ∀ p ∈ labs, N' < p.1 := fun p hp => by have := h p hp; lia
theorem labs_app {N l n : Int} {labs : List (Int × Int)} (h : ∀ p ∈ labs, N < p.1) (k : N < l) : ∀ p ∈ labs ++ [(l, n)], N < p.1 := fun p hp => by
  rcases List.mem_append.mp hp with hp | hp
  · exact h p hp
  · rw [List.mem_singleton.mp hp]; exact k
theorem labs_app_ne {l' l n : Int} {labs : List (Int × Int)} (h : ∀ p ∈ labs, p.1 ≠ l) (k : l' ≠ l) : ∀ p ∈ labs ++ [(l', n)], p.1 ≠ l := fun p hp => by
  rcases List.mem_append.mp hp with hp | hp
  · exact h p hp
  · rw [List.mem_singleton.mp hp]; exact k
theorem comp_labs_len (t : Tr) : ∀ (x : Int) (s : St), (comp t x s).labs.length ≤ s.labs.length + t.nops := by
  induction t with
  | val v => intro x s; simp [comp, St.add, Tr.nops, F2.own, F3.own]
  | col i => intro x s; simp [comp, St.add, Tr.nops, F2.own, F3.own]
  | known => intro x s; simp [comp, St.add, Tr.nops, F2.own, F3.own]
  | f0 => intro x s; simp [comp, St.add, St.reg, Tr.nops, F2.own, F3.own]
  | f1 a ia => intro x s; have := ia s.R (s.reg 1); simp only [comp, St.add, St.reg, Tr.nops, F2.own, F3.own] at this ⊢; lia
  | f2 F a b ia ib =>
    intro x s
    cases F with
    | max => have h1 := ia s.R (s.reg 2); have h2 := ib (s.R + 1) (comp a s.R (s.reg 2)); simp only [comp, St.add, St.reg, Tr.nops, F2.own, F3.own] at h1 h2 ⊢; lia
    | coalesce => have h1 := ia x s.lab; have h2 := ib x (known1 (comp a) x s.N s.lab); simp only [comp, known1, St.add, St.lab, St.place, Tr.nops, F2.own, F3.own, List.length_append, List.length_cons, List.length_nil] at h1 h2 ⊢; lia
    | ifnull => have h1 := ia x s.lab; have h2 := ib x (known1 (comp a) x s.N s.lab); simp only [comp, known1, St.add, St.lab, St.place, Tr.nops, F2.own, F3.own, List.length_append, List.length_cons, List.length_nil] at h1 h2 ⊢; lia
  | f3 F a b c ia ib ic =>
    intro x s
    have h1 := ia s.R ((s.lab.lab).reg 1)
    have h2 := ib x ((comp a s.R ((s.lab.lab).reg 1)).add "IfNot" s.R (s.N - 1) 1 (.val none))
    have h3 := ic x (((comp b x ((comp a s.R ((s.lab.lab).reg 1)).add "IfNot" s.R (s.N - 1) 1 (.val none))).add "Goto" 0 s.N 0 (.val none)).place (s.N - 1))
    cases F with
    | coalesce => have h1 := ia x s.lab; have h2 := ib x (known1 (comp a) x s.N s.lab); have h3 := ic x (known1 (comp b) x s.N (known1 (comp a) x s.N s.lab)); simp only [comp, known1, St.add, St.lab, St.place, Tr.nops, F2.own, F3.own, List.length_append, List.length_cons, List.length_nil] at h1 h2 h3 ⊢; lia
    | iif => simp only [comp, St.add, St.lab, St.reg, St.place, Tr.nops, F2.own, F3.own, List.length_append, List.length_cons, List.length_nil] at h1 h2 h3 ⊢; lia
    | iif2 => simp only [comp, St.add, St.lab, St.reg, St.place, Tr.nops, F2.own, F3.own, List.length_append, List.length_cons, List.length_nil] at h1 h2 h3 ⊢; lia
theorem comp_fx (t : Tr) (x R N : Int) (ops : List Op) (labs : List (Int × Int)) : Fx N labs (comp t x ⟨R, N, ops, labs⟩).N (comp t x ⟨R, N, ops, labs⟩).labs := ⟨(comp_labs t x ⟨R, N, ops, labs⟩).n, (comp_labs t x ⟨R, N, ops, labs⟩).l⟩
structure Nums (N : Int) (ops : List Op) (labs : List (Int × Int)) (z : Nat) : Prop where
  n : N < 0
  l : ∀ p ∈ labs, N < p.1
  o : ops.length + z ≤ 900
  b : labs.length + z ≤ 900
noncomputable def ExprD (w : World) (t : Tr) : Prop := ∀ (d : Nat), t.depth ≤ d → ∀ (c : CK) (k : PK) (K : List Value) (v : Value) (R N : Int) (ops : List Op) (labs : List (Int × Int)) (xs : List Value) (n : Nat) (uR uN : Tok) (oL : Obj) (os osm : List (Addr × Obj)),
  Sta w c k K os → NodeIn w os K v t → OpsIn osm xs ops → (∀ p ∈ osm, p ∈ os) → IntD w oL (labD labs) → Nums N ops labs t.nops →
  (∀ (tg : Int) (ut : Tok), Does w 541 (8 * d + 8) [.ref c.Kc, v, .int tg ut] ((k.OL, listOf xs.toArray n) :: (c.dP, progD w k R uR N uN) :: (k.LD, oL) :: os) (CompS w c k os osm (comp t tg ⟨R, N, ops, labs⟩) fun _ => True)) ∧
  Does w 541 (8 * d + 8) [.ref c.Kc, v] ((k.OL, listOf xs.toArray n) :: (c.dP, progD w k R uR N uN) :: (k.LD, oL) :: os) (CompS w c k os osm (comp t R ⟨R + 1, N, ops, labs⟩) fun r => ∃ u, r = .int R u)
noncomputable def CompQ (w : World) (c : CK) (k : PK) (os osm : List (Addr × Obj)) (N : Int) (ops : List Op) (labs : List (Int × Int)) (z : Nat) (s : St) (P : Value → Prop) (r : Value) (l : List (Addr × Obj)) : Prop :=
  ∃ R' N' ops' labs', s = ⟨R', N', ops', labs'⟩ ∧ CompP w c k os osm R' N' ops' labs' P r l ∧ Fx N labs N' labs' ∧ (∀ p ∈ labs', N' < p.1) ∧ ops'.length = ops.length + z ∧ labs'.length ≤ labs.length + z
section
variable {w : World} {t : Tr} {d : Nat} {c : CK} {k : PK} {K : List Value} {v : Value} {R N : Int} {ops : List Op} {labs : List (Int × Int)} {xs : List Value} {n : Nat} {uR uN : Tok} {oL : Obj} {os osm os0 : List (Addr × Obj)}
theorem expr3_use {tg : Int} {ut : Tok} (hs : Sta w c k K os) (hn : NodeIn w os K v t) (hE : ExprD w t) (hd : t.depth ≤ d) (ho : OpsIn osm xs ops) (hm : ∀ p ∈ osm, p ∈ os) (hl : IntD w oL (labD labs)) (hz : Nums N ops labs t.nops) :
    Does w 541 (8 * d + 8) [.ref c.Kc, v, .int tg ut] ((k.OL, listOf xs.toArray n) :: (c.dP, progD w k R uR N uN) :: (k.LD, oL) :: os) (CompQ w c k os osm N ops labs t.nops (comp t tg ⟨R, N, ops, labs⟩) fun _ => True) :=
  ((hE d hd c k K v R N ops labs xs n uR uN oL os osm hs hn ho hm hl hz).1 tg ut).mono fun r l h => ⟨_, _, _, _, rfl, h, comp_fx t tg R N ops labs, (comp_fx t tg R N ops labs).gt hz.l, comp_len t tg _, comp_labs_len t tg _⟩
theorem expr2_use (hs : Sta w c k K os) (hn : NodeIn w os K v t) (hE : ExprD w t) (hd : t.depth ≤ d) (ho : OpsIn osm xs ops) (hm : ∀ p ∈ osm, p ∈ os) (hl : IntD w oL (labD labs)) (hz : Nums N ops labs t.nops) :
    Does w 541 (8 * d + 8) [.ref c.Kc, v] ((k.OL, listOf xs.toArray n) :: (c.dP, progD w k R uR N uN) :: (k.LD, oL) :: os) (CompQ w c k os osm N ops labs t.nops (comp t R ⟨R + 1, N, ops, labs⟩) fun r => ∃ u, r = .int R u) :=
  (hE d hd c k K v R N ops labs xs n uR uN oL os osm hs hn ho hm hl hz).2.mono fun r l h => ⟨_, _, _, _, rfl, h, comp_fx t R (R + 1) N ops labs, (comp_fx t R (R + 1) N ops labs).gt hz.l, comp_len t R _, comp_labs_len t R _⟩
theorem reg1_use (_ : Sta w c k K os0) (hP : (c.P, instObj 780 c.dP) ∈ os) (hoff : ∀ p ∈ os, p.1 ≠ c.dP) : Does w 741 2 [.ref c.P] ((c.dP, progD w k R uR N uN) :: os) (RegPost w c.dP k R 1 N uN os) := reg1_does w c.P c.dP k R N uR uN os hP hoff
theorem regn_use {many : Int} {um : Tok} (_ : Sta w c k K os0) (hP : (c.P, instObj 780 c.dP) ∈ os) (hoff : ∀ p ∈ os, p.1 ≠ c.dP) : Does w 741 2 [.ref c.P, .int many um] ((c.dP, progD w k R uR N uN) :: os) (RegPost w c.dP k R many N uN os) := regn_does w c.P c.dP k R N many uR uN um os hP hoff
theorem label_use (_ : Sta w c k K os0) (hP : (c.P, instObj 780 c.dP) ∈ os) (hoff : ∀ p ∈ os, p.1 ≠ c.dP) : Does w 726 2 [.ref c.P] ((c.dP, progD w k R uR N uN) :: os) (LabPost w c.dP k R uR N os) := label_does w c.P c.dP k R N uR uN os hP hoff
end
inductive TailT (a b e : Addr) (os : List (Addr × Obj)) : List (Addr × Obj) → List (Addr × Obj) → Prop
  | here : TailT a b e os os []
  | app {r m nw} : TailT a b e os r nw → TailT a b e os (m ++ r) (m ++ nw)
  | d1 {o r nw} : TailT a b e os r nw → TailT a b e os ((a, o) :: r) nw
  | d2 {o r nw} : TailT a b e os r nw → TailT a b e os ((b, o) :: r) nw
  | d3 {o r nw} : TailT a b e os r nw → TailT a b e os ((e, o) :: r) nw
  | cons {p r nw} : TailT a b e os r nw → TailT a b e os (p :: r) (p :: nw)
theorem TailT.sub {a b e : Addr} {os l nw : List (Addr × Obj)} (h : TailT a b e os l nw) : ∀ p ∈ nw ++ os, p ∈ l := by
  induction h with
  | here => exact fun p hp => hp
  | app _ ih =>
    intro p hp
    rw [List.append_assoc] at hp
    rcases List.mem_append.mp hp with hp | hp
    · exact List.mem_append_left _ hp
    · exact List.mem_append_right _ (ih p hp)
  | d1 _ ih => exact fun p hp => .tail _ (ih p hp)
  | d2 _ ih => exact fun p hp => .tail _ (ih p hp)
  | d3 _ ih => exact fun p hp => .tail _ (ih p hp)
  | cons _ ih =>
    intro p hp
    rcases List.mem_cons.mp hp with rfl | hp
    · exact .head _
    · exact .tail _ (ih p hp)
theorem Apart.subL {l l' nw : List (Addr × Obj)} (h : Apart l nw) (hs : ∀ p ∈ l', p ∈ l) : Apart l' nw := fun q hq => h q (hs q hq)
theorem comp_end {w : World} {c : CK} {k : PK} {os osm l nw : List (Addr × Obj)} {R N : Int} {ops : List Op} {labs : List (Int × Int)} {P : Value → Prop} {r : Value} {xs : List Value} {n : Nat} {oL : Obj} {uR uN : Tok}
    {h₀ h : Heap} {L : Addr} {m : Str → Option Value} {gn dr oo} {tk : Nat} {Q : Value → Shared → Prop}
    (hret : ∀ r news' h' tk', Fr h₀ L h' m → News h₀ L h' news' → CompP w c k os osm R N ops labs P r news' → Q r ⟨h', gn, dr, tk', oo⟩) (F : Fr h₀ L h m) (N' : News h₀ L h l)
    (T : TailT k.OL c.dP k.LD os l nw) (hP : P r) (ho : OpsIn (nw ++ osm) xs ops) (hl : IntD w oL (labD labs)) (m1 : (k.OL, listOf xs.toArray n) ∈ l) (m2 : (c.dP, progD w k R uR N uN) ∈ l) (m3 : (k.LD, oL) ∈ l)
    (a0 : Apart os nw) (a1 : ∀ p ∈ nw, p.1 ≠ k.OL) (a2 : ∀ p ∈ nw, p.1 ≠ c.dP) (a3 : ∀ p ∈ nw, p.1 ≠ k.LD) : Q r ⟨h, gn, dr, tk, oo⟩ :=
  hret r _ h tk F (news_sub (l' := (k.OL, listOf xs.toArray n) :: (c.dP, progD w k R uR N uN) :: (k.LD, oL) :: (nw ++ os)) N' fun p hp => by
    rcases List.mem_cons.mp hp with rfl | hp
    · exact m1
    · rcases List.mem_cons.mp hp with rfl | hp
      · exact m2
      · rcases List.mem_cons.mp hp with rfl | hp
        · exact m3
        · exact T.sub p hp) ⟨xs, n, oL, nw, uR, uN, hP, rfl, a0, a1, a2, a3, ho, hl⟩
section
variable {w : World} {c : CK} {k : PK} {os osm l nw : List (Addr × Obj)} {R N : Int} {ops : List Op} {labs : List (Int × Int)} {P : Value → Prop} {r : Value} {xs : List Value} {n : Nat} {oL : Obj} {uR uN : Tok} {S : St}
    {h₀ h : Heap} {L : Addr} {m : Str → Option Value} {gn dr oo} {tk : Nat} {Q : Value → Shared → Prop}
theorem comp_endS (hret : ∀ r news' h' tk', Fr h₀ L h' m → News h₀ L h' news' → CompS w c k os osm S P r news' → Q r ⟨h', gn, dr, tk', oo⟩) (F : Fr h₀ L h m) (N' : News h₀ L h l)
    (T : TailT k.OL c.dP k.LD os l nw) (ho : OpsIn (nw ++ osm) xs ops) (hl : IntD w oL (labD labs)) (m1 : (k.OL, listOf xs.toArray n) ∈ l) (m2 : (c.dP, progD w k R uR N uN) ∈ l) (m3 : (k.LD, oL) ∈ l) (e : S = ⟨R, N, ops, labs⟩) (hP : P r)
    (a0 : Apart os nw) (a1 : ∀ p ∈ nw, p.1 ≠ k.OL) (a2 : ∀ p ∈ nw, p.1 ≠ c.dP) (a3 : ∀ p ∈ nw, p.1 ≠ k.LD) : Q r ⟨h, gn, dr, tk, oo⟩ := by
  subst e
  exact comp_end hret F N' T hP ho hl m1 m2 m3 a0 a1 a2 a3
theorem comp_endQ {N0 : Int} {ops0 : List Op} {labs0 : List (Int × Int)} {z : Nat} (hret : ∀ r news' h' tk', Fr h₀ L h' m → News h₀ L h' news' → CompQ w c k os osm N0 ops0 labs0 z S P r news' → Q r ⟨h', gn, dr, tk', oo⟩) (F : Fr h₀ L h m) (N' : News h₀ L h l)
    (T : TailT k.OL c.dP k.LD os l nw) (ho : OpsIn (nw ++ osm) xs ops) (hl : IntD w oL (labD labs)) (m1 : (k.OL, listOf xs.toArray n) ∈ l) (m2 : (c.dP, progD w k R uR N uN) ∈ l) (m3 : (k.LD, oL) ∈ l) (e : S = ⟨R, N, ops, labs⟩) (hP : P r)
    (a0 : Apart os nw) (a1 : ∀ p ∈ nw, p.1 ≠ k.OL) (a2 : ∀ p ∈ nw, p.1 ≠ c.dP) (a3 : ∀ p ∈ nw, p.1 ≠ k.LD) (fx : Fx N0 labs0 N labs) (gt : ∀ p ∈ labs, N < p.1) (lo : ops.length = ops0.length + z) (ll : labs.length ≤ labs0.length + z) : Q r ⟨h, gn, dr, tk, oo⟩ := by
  subst e
  exact comp_end (P := P) (R := R) (N := N) (ops := ops) (labs := labs) (fun r l h' tk' F' N' q => hret r l h' tk' F' N' ⟨R, N, ops, labs, rfl, q, fx, gt, lo, ll⟩) F N' T hP ho hl m1 m2 m3 a0 a1 a2 a3
end
theorem Fx.refl {N : Int} {labs : List (Int × Int)} : Fx N labs N labs := ⟨Int.le_refl _, [], (List.append_nil _).symm, fun _ h => nomatch h⟩
theorem Fx.trans {N N1 N2 : Int} {l l1 l2 : List (Int × Int)} (h : Fx N l N1 l1) (k : Fx N1 l1 N2 l2) : Fx N l N2 l2 := by
  obtain ⟨h1, n1, e1, f1⟩ := h
  obtain ⟨h2, n2, e2, f2⟩ := k
  refine ⟨by lia, n1 ++ n2, by rw [e2, e1, List.append_assoc], fun p hp => ?_⟩
  rcases List.mem_append.mp hp with hp | hp
  · have := f1 p hp; lia
  · have := f2 p hp; lia
section
variable {w : World} {c : CK} {k : PK} {K : List Value} {R N lab : Int} {uR uN ul : Tok} {xs : List Value} {n : Nat} {oL : Obj} {ops : List Op} {labs : List (Int × Int)} {os osm os0 : List (Addr × Obj)}
theorem place_use (hs : Sta w c k K os0) (hD : IntD w oL (labD labs)) (ho : OpsIn osm xs ops) (hP : (c.P, instObj 780 c.dP) ∈ os) (hdP : (c.dP, progD w k R uR N uN) ∈ os) (hOL : (k.OL, listOf xs.toArray n) ∈ os) (hoff : ∀ p ∈ os, p.1 ≠ k.LD) (hx : xs.length ≤ 1000)
    (h1 : lab < 0) (h2 : N < lab) (h3 : ∀ p ∈ labs, p.1 ≠ lab) (h4 : labs.length ≤ 1000) :
    Does w 733 2 [.ref c.P, .int lab ul] ((k.LD, oL) :: os) (fun _ l => ∃ o', l = (k.LD, o') :: os ∧ IntD w o' (labD (labs ++ [(lab, (ops.length : Int))]))) :=
  (place_does w c.P c.dP k R N lab uR uN ul xs n oL (labD labs) os hP hdP hOL hoff hx hD hs.sm h1 h2 (by rw [lookup_labD h3]; rfl) (by simpa [labD] using h4)).mono fun r l ⟨o', e, h⟩ => ⟨o', e, by rw [putD_labD h3, ho.len] at h; exact h⟩
end
theorem Does.sub {w : World} {f : Addr} {n : Nat} {vs : List Value} {news : List (Addr × Obj)} {P Q : Value → List (Addr × Obj) → Prop} (D : Does w f n vs news P) (h : ∀ r l, P r l → ∃ l', (∀ p ∈ l', p ∈ l) ∧ Q r l') : Does w f n vs news Q :=
  fun dp un gd cn cs a ccd cl outer A₀ base h₀ L m p loose mean mg mb s QQ E B F X N T hk hd hu hret =>
    D dp un gd cn cs a ccd cl outer A₀ base h₀ L m p loose mean mg mb s QQ E B F X N T hk hd hu fun r l h' tk' F' N' p' => by
      obtain ⟨l', hs, q⟩ := h r l p'
      exact hret r l' h' tk' F' (news_sub N' hs) q
noncomputable def AddC (w : World) (c : CK) (k : PK) (R N : Int) (uR uN : Tok) (oL : Obj) (xs : List Value) (n : Nat) (ops : List Op) (op : Op) (os osm : List (Addr × Obj)) (ur : Value) (news' : List (Addr × Obj)) : Prop :=
  ∃ xs' n' nw, news' = (k.OL, listOf xs'.toArray n') :: (c.dP, progD w k R uR N uN) :: (k.LD, oL) :: (nw ++ os) ∧ Apart ((k.OL, listOf xs.toArray n) :: (c.dP, progD w k R uR N uN) :: (k.LD, oL) :: os) nw ∧ OpsIn (nw ++ osm) xs' (ops ++ [op])
section
variable {w : World} {c : CK} {k : PK} {K : List Value} {R N : Int} {uR uN : Tok} {xs : List Value} {n : Nat} {oL : Obj} {ops : List Op} {os osm : List (Addr × Obj)} {nm : String} {p1 p2 p3 : Int} {t0 t1 t2 t3 : Tok} {v4 : Value} {p4 : P4}
theorem addC_of {vs opv : List Value} {r : Value} {news' : List (Addr × Obj)} {op : Op} (h : AddPost k.OL xs opv ((c.dP, progD w k R uR N uN) :: (k.LD, oL) :: os) r news') (ho : OpsIn osm xs ops) (hm : ∀ p ∈ osm, p ∈ os) (hop : ∀ a n' l, (∀ p ∈ osm, p ∈ l) → (a, listOf opv.toArray n') ∈ l → OpIn l (.ref a) op) :
    ∃ l', (∀ p ∈ l', p ∈ news') ∧ AddC w c k R N uR uN oL xs n ops op os osm r l' := by
  obtain ⟨a, n1, n2, e, h1, h2⟩ := h
  subst e
  refine ⟨(k.OL, listOf (xs ++ [Value.ref a]).toArray n1) :: (c.dP, progD w k R uR N uN) :: (k.LD, oL) :: ([(a, listOf opv.toArray n2)] ++ os), fun p hp => ?_, xs ++ [.ref a], n1, [(a, listOf opv.toArray n2)], rfl, .cons (fun q hq => ?_) .nil, .snoc (ho.mono fun _ => mem_apr) (hop a n2 _ (fun _ => mem_apr) mem_hd) fun hv => ?_⟩
  · simp only [List.mem_cons, List.mem_append, List.not_mem_nil, or_false] at hp ⊢
    rcases hp with h | h | h | h | h
    · exact .inl h
    · exact .inr (.inr (.inl h))
    · exact .inr (.inr (.inr (.inl h)))
    · exact .inr (.inl h)
    · exact .inr (.inr (.inr (.inr h)))
  · rcases List.mem_cons.mp hq with rfl | hq
    · exact h2
    · exact h1 q hq
  · obtain ⟨b, o, e, hb⟩ := ho.refs _ hv
    cases e
    exact h1 _ (mem_tl (mem_tl (hm _ hb))) rfl
theorem offC (hs : Sta w c k K os) : ∀ p ∈ (c.dP, progD w k R uR N uN) :: (k.LD, oL) :: os, p.1 ≠ k.OL := off_cons (Ne.symm hs.d1) (off_cons (Ne.symm hs.d2) hs.o1)
theorem add6_use (hs : Sta w c k K os) (ho : OpsIn osm xs ops) (hm : ∀ p ∈ osm, p ∈ os) (hx : xs.length ≤ 1000) (h4 : P4In osm v4 p4) :
    Does w 712 2 [.ref c.P, .str (Str.ofString nm) t0, .int p1 t1, .int p2 t2, .int p3 t3, v4] ((k.OL, listOf xs.toArray n) :: (c.dP, progD w k R uR N uN) :: (k.LD, oL) :: os) (AddC w c k R N uR uN oL xs n ops ⟨nm, p1, p2, p3, p4⟩ os osm) :=
  (add6_does w c.P c.dP k R N uR uN xs n _ _ _ _ _ ((c.dP, progD w k R uR N uN) :: (k.LD, oL) :: os) (mem_tl (mem_tl hs.cod.h3)) mem_hd (offC hs) hx).sub fun r l ⟨op, h1, h2⟩ => by
    cases h1
    exact addC_of (vs := []) h2 ho hm fun a n' l hs hm => .mk hm (h4.mono hs)
theorem add6t_use {b : Addr} {ta tb : Tok} {kt : Nat} {sa sb : String} (hs : Sta w c k K os) (ho : OpsIn osm xs ops) (hm : ∀ p ∈ osm, p ∈ os) (hx : xs.length ≤ 1000) (uhb : (b, tupO [.str (Str.ofString sa) ta, .str (Str.ofString sb) tb] kt) ∈ os) :
    Does w 712 2 [.ref c.P, .str (Str.ofString nm) t0, .int p1 t1, .int p2 t2, .int p3 t3, .ref b] ((k.OL, listOf xs.toArray n) :: (c.dP, progD w k R uR N uN) :: (k.LD, oL) :: os) (AddC w c k R N uR uN oL xs n ops ⟨nm, p1, p2, p3, .told sa sb⟩ os ((b, tupO [.str (Str.ofString sa) ta, .str (Str.ofString sb) tb] kt) :: osm)) :=
  add6_use hs (ho.mono fun _ => mem_tl) (fun p hp => by rcases List.mem_cons.mp hp with rfl | hp; exact uhb; exact hm p hp) hx (.told mem_hd)
theorem add5_use (hs : Sta w c k K os) (ho : OpsIn osm xs ops) (hm : ∀ p ∈ osm, p ∈ os) (hx : xs.length ≤ 1000) :
    Does w 712 2 [.ref c.P, .str (Str.ofString nm) t0, .int p1 t1, .int p2 t2, .int p3 t3] ((k.OL, listOf xs.toArray n) :: (c.dP, progD w k R uR N uN) :: (k.LD, oL) :: os) (AddC w c k R N uR uN oL xs n ops ⟨nm, p1, p2, p3, .val none⟩ os osm) :=
  (add5_does w c.P c.dP k R N uR uN xs n _ _ _ _ ((c.dP, progD w k R uR N uN) :: (k.LD, oL) :: os) (mem_tl (mem_tl hs.cod.h3)) mem_hd (offC hs) hx).sub fun r l ⟨op, h1, h2⟩ => by
    cases h1
    exact addC_of (vs := []) h2 ho hm fun a n' l hs hm => .mk hm (.val .none)
theorem add4_use (hs : Sta w c k K os) (ho : OpsIn osm xs ops) (hm : ∀ p ∈ osm, p ∈ os) (hx : xs.length ≤ 1000) :
    Does w 712 2 [.ref c.P, .str (Str.ofString nm) t0, .int p1 t1, .int p2 t2] ((k.OL, listOf xs.toArray n) :: (c.dP, progD w k R uR N uN) :: (k.LD, oL) :: os) (AddC w c k R N uR uN oL xs n ops ⟨nm, p1, p2, 0, .val none⟩ os osm) :=
  (add4_does w c.P c.dP k R N uR uN xs n _ _ _ ((c.dP, progD w k R uR N uN) :: (k.LD, oL) :: os) (mem_tl (mem_tl hs.cod.h3)) mem_hd (offC hs) hx).sub fun r l ⟨op, h1, h2⟩ => by
    cases h1
    exact addC_of (vs := []) h2 ho hm fun a n' l hs hm => .mk hm (.val .none)
end
theorem UnrEndW.introP {h₀ : Heap} {L I : Addr} {it : Obj} {rest : (Str → Option Value) → List (Addr × Obj) → Prop} {s₁ : Shared} {h' : Heap} {tk : Nat} {m' : Str → Option Value} {all news' : List (Addr × Obj)} (F : Fr h₀ L h' m') (N : News h₀ L h' all)
    (P : Pick (I, it) all news') (off : ∀ p ∈ news', p.1 ≠ I) (r : rest m' news') : UnrEndW h₀ L s₁ [(I, it)] rest { s₁ with heap := h', toks := tk } :=
  ⟨h', tk, m', news', rfl, F, fun p hp => N p (P.sub p hp), fun p hp q hq => by rw [List.mem_singleton.mp hq]; exact off p hp, r⟩
theorem ad0 (R : Int) : R + (0 + ((0 : Nat) : Int)) = R := by lia
theorem ad1 (R : Int) : R + (0 + ((0 + 1 : Nat) : Int)) = R + 1 := by lia
theorem mx0 : (if (0 : Int) > 1 then (0 : Int) else 1) = 1 := rfl
theorem mx1 : (if (1 : Int) > 1 then (1 : Int) else 1) = 1 := rfl
theorem mx2 : (if (2 : Int) > 1 then (2 : Int) else 1) = 2 := rfl
theorem Nums.mk' {N : Int} {ops : List Op} {labs : List (Int × Int)} {z : Nat} (n : N < 0) (l : ∀ p ∈ labs, N < p.1) (o : ops.length + z ≤ 900) (b : labs.length + z ≤ 900) : Nums N ops labs z := ⟨n, l, o, b⟩
structure Num2 (N : Int) (ops : List Op) (labs : List (Int × Int)) (zo zb : Nat) : Prop where
  n : N < 0
  l : ∀ p ∈ labs, N < p.1
  o : ops.length + zo ≤ 900
  b : labs.length + zb ≤ 900
section
variable {w : World} {N N8 lb x : Int} {ops ops8 : List Op} {labs labs8 : List (Int × Int)} {z zo zb ro rb : Nat} {op : Op} {os osm : List (Addr × Obj)} {xs : List Value} {oL : Obj}
theorem Num2.mk' (h : Nums N ops labs z) (a : zo ≤ z) (b : zb ≤ z) : Num2 N ops labs zo zb := ⟨h.n, h.l, Nat.le_trans (Nat.add_le_add_left a _) h.o, Nat.le_trans (Nat.add_le_add_left b _) h.b⟩
theorem Num2.take (h : Num2 N ops labs (z + ro) (z + rb)) : Nums N ops labs z := ⟨h.n, h.l, Nat.le_trans (Nat.add_le_add_left (Nat.le_add_right _ _) _) h.o, Nat.le_trans (Nat.add_le_add_left (Nat.le_add_right _ _) _) h.b⟩
theorem Num2.step (h : Num2 N ops labs (z + ro) (z + rb)) (f : Fx N labs N8 labs8) (g : ∀ p ∈ labs8, N8 < p.1) (a : ops8.length = ops.length + z) (b : labs8.length ≤ labs.length + z) : Num2 N8 ops8 labs8 ro rb := by
  have h1 := h.n; have h2 := h.o; have h3 := h.b; have h4 := f.le
  exact ⟨by lia, g, by lia, by lia⟩
theorem Num2.stepJ (h : Num2 N ops labs (z + ro) (z + rb)) (f : Fx N labs N8 labs8) (g : ∀ p ∈ labs8, N8 < p.1) (a : ops8.length + 1 = ops.length + z) (b : labs8.length ≤ labs.length + z) (uo : OpsIn os xs (ops8 ++ [op])) : Num2 N8 (ops8 ++ [op]) labs8 ro rb := by
  have h1 := h.n; have h2 := h.o; have h3 := h.b; have h4 := f.le
  exact ⟨by lia, g, by rw [List.length_append, List.length_singleton]; lia, by lia⟩
theorem Num2.add (h : Num2 N ops labs (1 + ro) rb) (uo : OpsIn os xs (ops ++ [op])) : Num2 N (ops ++ [op]) labs ro rb := by
  have h2 := h.o
  exact ⟨h.n, h.l, by rw [List.length_append, List.length_singleton]; lia, h.b⟩
theorem Num2.lab (h : Num2 N ops labs ro rb) : Num2 (N - 1) ops labs ro rb := ⟨by have := h.n; lia, labs_dec h.l (by lia), h.o, h.b⟩
theorem Num2.place (h : Num2 N ops labs ro (1 + rb)) (k : N < lb) (uo : IntD w oL (labD (labs ++ [(lb, x)]))) : Num2 N ops (labs ++ [(lb, x)]) ro rb := by
  have h2 := h.b
  exact ⟨h.n, labs_app h.l k, h.o, by rw [List.length_append, List.length_singleton]; lia⟩
theorem Nums.cast {z' : Nat} (h : Nums N ops labs z) (e : z = z') : Nums N ops labs z' := e ▸ h
theorem lenX (ho : OpsIn osm xs ops) (h : Num2 N ops labs ro rb) : xs.length ≤ 1000 := by have := h.o; rw [ho.len]; lia
theorem lenO (ho : OpsIn osm xs ops) (h : ops.length + z ≤ 900) : xs.length ≤ 1000 := by rw [ho.len]; lia
theorem lenL (h : Num2 N ops labs ro rb) : labs.length ≤ 1000 := by have := h.b; lia
end
section Cur
variable {h₀ : Heap} {L : Addr} {m : Str → Option Value} {gn dr oo} {Q : Value → Shared → Prop}
theorem cur_compQ {w : World} {c : CK} {k : PK} {N : Int} {ops : List Op} {labs : List (Int × Int)} {z : Nat} {S : St} {os osm : List (Addr × Obj)} {fI : List (Addr × Obj) → List (Addr × Obj)} (I : InsF os fI)
    (ret : ∀ (R8 N8 : Int) (ops8 : List Op) (labs8 : List (Int × Int)) (xs8 : List Value) (n8 : Nat) (oL8 : Obj) (nw8 : List (Addr × Obj)) (uR8 uN8 : Tok) (r : Value) (h' : Heap) (tk' : Nat), Fr h₀ L h' m → let x1 : Addr × Obj := (k.OL, listOf xs8.toArray n8); let x2 : Addr × Obj := (c.dP, progD w k R8 uR8 N8 uN8); let x3 : Addr × Obj := (k.LD, oL8); let l := x1 :: x2 :: x3 :: fI nw8; News h₀ L h' l → S = ⟨R8, N8, ops8, labs8⟩ → Apart os nw8 → (∀ p ∈ nw8, p.1 ≠ k.OL) → (∀ p ∈ nw8, p.1 ≠ c.dP) → (∀ p ∈ nw8, p.1 ≠ k.LD) → OpsIn (nw8 ++ osm) xs8 ops8 → IntD w oL8 (labD labs8) → Fx N labs N8 labs8 → (∀ p ∈ labs8, N8 < p.1) → ops8.length = ops.length + z → labs8.length ≤ labs.length + z → N8 ≤ N → xs8.length = ops8.length → Q r ⟨h', gn, dr, tk', oo⟩) :
    ∀ r news' h' tk', Fr h₀ L h' m → News h₀ L h' news' → CompQ w c k os osm N ops labs z S (fun _ => True) r news' → Q r ⟨h', gn, dr, tk', oo⟩ := by
  rintro r _ h' tk' F N ⟨R8, N8, ops8, labs8, e, ⟨xs8, n8, oL8, nw8, uR8, uN8, hP, rfl, a0, a1, a2, a3, ho, hl⟩, fx, gt, l1, l2⟩; exact ret R8 N8 ops8 labs8 xs8 n8 oL8 nw8 uR8 uN8 r h' tk' F (news_ins3 N (I.insT nw8)) e a0 a1 a2 a3 ho hl fx gt l1 l2 fx.le ho.len
theorem cur_compQ1 {w : World} {c : CK} {k : PK} {N : Int} {ops : List Op} {labs : List (Int × Int)} {z : Nat} {S : St} {os osm : List (Addr × Obj)} {R : Int} {fI : List (Addr × Obj) → List (Addr × Obj)} (I : InsF os fI)
    (ret : ∀ (R8 N8 : Int) (ops8 : List Op) (labs8 : List (Int × Int)) (xs8 : List Value) (n8 : Nat) (oL8 : Obj) (nw8 : List (Addr × Obj)) (uR8 uN8 : Tok) (u8 : Tok) (h' : Heap) (tk' : Nat), Fr h₀ L h' m → let x1 : Addr × Obj := (k.OL, listOf xs8.toArray n8); let x2 : Addr × Obj := (c.dP, progD w k R8 uR8 N8 uN8); let x3 : Addr × Obj := (k.LD, oL8); let l := x1 :: x2 :: x3 :: fI nw8; News h₀ L h' l → S = ⟨R8, N8, ops8, labs8⟩ → Apart os nw8 → (∀ p ∈ nw8, p.1 ≠ k.OL) → (∀ p ∈ nw8, p.1 ≠ c.dP) → (∀ p ∈ nw8, p.1 ≠ k.LD) → OpsIn (nw8 ++ osm) xs8 ops8 → IntD w oL8 (labD labs8) → Fx N labs N8 labs8 → (∀ p ∈ labs8, N8 < p.1) → ops8.length = ops.length + z → labs8.length ≤ labs.length + z → N8 ≤ N → xs8.length = ops8.length → Q (.int R u8) ⟨h', gn, dr, tk', oo⟩) :
    ∀ r news' h' tk', Fr h₀ L h' m → News h₀ L h' news' → CompQ w c k os osm N ops labs z S (fun r => ∃ u, r = .int R u) r news' → Q r ⟨h', gn, dr, tk', oo⟩ := by
  rintro r _ h' tk' F N ⟨R8, N8, ops8, labs8, e, ⟨xs8, n8, oL8, nw8, uR8, uN8, hP, rfl, a0, a1, a2, a3, ho, hl⟩, fx, gt, l1, l2⟩; obtain ⟨u8, rfl⟩ := hP; exact ret R8 N8 ops8 labs8 xs8 n8 oL8 nw8 uR8 uN8 u8 h' tk' F (news_ins3 N (I.insT nw8)) e a0 a1 a2 a3 ho hl fx gt l1 l2 fx.le ho.len
theorem cur_compS {w : World} {c : CK} {k : PK} {S : St} {os osm : List (Addr × Obj)} {fI : List (Addr × Obj) → List (Addr × Obj)} (I : InsF os fI)
    (ret : ∀ (xs8 : List Value) (n8 : Nat) (oL8 : Obj) (nw8 : List (Addr × Obj)) (uR8 uN8 : Tok) (r : Value) (h' : Heap) (tk' : Nat), Fr h₀ L h' m → let x1 : Addr × Obj := (k.OL, listOf xs8.toArray n8); let x2 : Addr × Obj := (c.dP, progD w k S.R uR8 S.N uN8); let x3 : Addr × Obj := (k.LD, oL8); let l := x1 :: x2 :: x3 :: fI nw8; News h₀ L h' l → Apart os nw8 → (∀ p ∈ nw8, p.1 ≠ k.OL) → (∀ p ∈ nw8, p.1 ≠ c.dP) → (∀ p ∈ nw8, p.1 ≠ k.LD) → OpsIn (nw8 ++ osm) xs8 S.ops → IntD w oL8 (labD S.labs) → Q r ⟨h', gn, dr, tk', oo⟩) :
    ∀ r news' h' tk', Fr h₀ L h' m → News h₀ L h' news' → CompS w c k os osm S (fun _ => True) r news' → Q r ⟨h', gn, dr, tk', oo⟩ := by
  rintro r _ h' tk' F N ⟨xs8, n8, oL8, nw8, uR8, uN8, hP, rfl, a0, a1, a2, a3, ho, hl⟩; exact ret xs8 n8 oL8 nw8 uR8 uN8 r h' tk' F (news_ins3 N (I.insT nw8)) a0 a1 a2 a3 ho hl
end Cur
section Cur
variable {h₀ : Heap} {L : Addr} {m : Str → Option Value} {gn dr oo} {Q : Value → Shared → Prop}
theorem cur_addC {w : World} {c : CK} {k : PK} {R N : Int} {uR uN : Tok} {oL : Obj} {xs : List Value} {n : Nat} {ops : List Op} {op : Op} {os osm : List (Addr × Obj)} {fI : List (Addr × Obj) → List (Addr × Obj)} (I : InsF os fI)
    (ret : ∀ (xs8 : List Value) (n8 : Nat) (nw8 : List (Addr × Obj)) (r : Value) (h' : Heap) (tk' : Nat), Fr h₀ L h' m → let x1 : Addr × Obj := (k.OL, listOf xs8.toArray n8); let x2 : Addr × Obj := (c.dP, progD w k R uR N uN); let x3 : Addr × Obj := (k.LD, oL); let l := x1 :: x2 :: x3 :: fI nw8; News h₀ L h' l → Apart ((k.OL, listOf xs.toArray n) :: (c.dP, progD w k R uR N uN) :: (k.LD, oL) :: os) nw8 → OpsIn (nw8 ++ osm) xs8 (ops ++ [op]) → xs8.length = ops.length + 1 → Q r ⟨h', gn, dr, tk', oo⟩) :
    ∀ r news' h' tk', Fr h₀ L h' m → News h₀ L h' news' → AddC w c k R N uR uN oL xs n ops op os osm r news' → Q r ⟨h', gn, dr, tk', oo⟩ := by
  rintro r _ h' tk' F N ⟨xs8, n8, nw8, rfl, a, b⟩; exact ret xs8 n8 nw8 r h' tk' F (news_ins3 N (I.insT nw8)) a b (by rw [b.len, List.length_append]; rfl)
end Cur
section Cur
variable {h₀ : Heap} {L : Addr} {m : Str → Option Value} {gn dr oo} {Q : Value → Shared → Prop}
theorem cur_place {w : World} {LD : Addr} {D : List (PyData × PyData)} {os : List (Addr × Obj)}
    (ret : ∀ (r : Value) (oL9 : Obj) (h' : Heap) (tk' : Nat), Fr h₀ L h' m → let x1 : Addr × Obj := (LD, oL9); let l := x1 :: os; News h₀ L h' l → IntD w oL9 D → Q r ⟨h', gn, dr, tk', oo⟩) :
    ∀ r news' h' tk', Fr h₀ L h' m → News h₀ L h' news' → (fun _ l => ∃ o', l = (LD, o') :: os ∧ IntD w o' D) r news' → Q r ⟨h', gn, dr, tk', oo⟩ := by
  rintro r _ h' tk' F N ⟨o, rfl, hl⟩; exact ret r o h' tk' F N hl
end Cur
end Mine
end
section
open PySem PySem.W PyProof.Rows PySem.Spec PyProof.V
namespace Mine
noncomputable def NodeObj (l : List (Addr × Obj)) (x : Addr) : Prop := ∃ D dx dob, (x, instObj D dx) ∈ l ∧ (dx, dob) ∈ l ∧ (D = 122 ∨ D = 148 ∨ D = 354)
theorem NodeObj.mono {l l' : List (Addr × Obj)} (hs : ∀ p ∈ l, p ∈ l') {x : Addr} (h : NodeObj l x) : NodeObj l' x := by
  obtain ⟨D, dx, dob, h1, h2, h3⟩ := h
  exact ⟨D, dx, dob, hs _ h1, hs _ h2, h3⟩
theorem NodeIn.obj {w : World} {os : List (Addr × Obj)} {K : List Value} {v : Value} {t : Tr} (h : NodeIn w os K v t) : ∃ x, v = .ref x ∧ NodeObj os x := by
  cases h with
  | val h1 h2 h3 => exact ⟨_, rfl, _, _, _, h1, h2, .inl rfl⟩
  | col0 h1 h2 => exact ⟨_, rfl, _, _, _, h1, h2, .inr (.inl rfl)⟩
  | col1 h1 h2 => exact ⟨_, rfl, _, _, _, h1, h2, .inr (.inl rfl)⟩
  | known h1 h2 h3 => exact ⟨_, rfl, _, _, _, h1, h2, .inr (.inr rfl)⟩
  | f0 h1 h2 h3 => exact ⟨_, rfl, _, _, _, h1, h2, .inr (.inr rfl)⟩
  | f1 h1 h2 h3 => exact ⟨_, rfl, _, _, _, h1, h2, .inr (.inr rfl)⟩
  | f2 F h1 h2 h3 => exact ⟨_, rfl, _, _, _, h1, h2, .inr (.inr rfl)⟩
  | f3 F h1 h2 h3 => exact ⟨_, rfl, _, _, _, h1, h2, .inr (.inr rfl)⟩
section
theorem lines12 : True := by
  k_with "o10" => skip
  exact True.intro

set_option maxRecDepth 100000 in
set_option maxHeartbeats 1000000 in
theorem isi_no {w : World} {A : Around} {E : Value → Shared → Prop} {s : Shared} {h₀ : Heap} {L x dx C D : Addr} {dob : Obj} {news : List (Addr × Obj)} {Q : Value → Shared → Prop} (X : (hd.heap_39 w.params).In s.heap) (N : News h₀ L s.heap news) (hx : (x, instObj D dx) ∈ news) (hdx : (dx, dob) ∈ news)
    (hD : D = 122 ∨ D = 148 ∨ D = 354) (hC : C = 174 ∨ C = 200 ∨ C = 226 ∨ C = 252 ∨ C = 278 ∨ C = 328 ∨ C = 380 ∨ C = 406 ∨ C = 432) (h : Q (.bool false) { s with toks := s.toks + 1 }) : wpAny (model PySem.Challenge.rw_nt0122_01.row.prog w) A (call (.builtin "isinstance") [.ref x, .ref C]) Q E s := by
  revert X; k_fill; intro X
  rcases hD with rfl | rfl | rfl <;> rcases hC with rfl | rfl | rfl | rfl | rfl | rfl | rfl | rfl | rfl <;>
  (refine' kin_callC X ?k2 ?k3 ?k4 ?k5 ?k6 ?k7 ?k8 ?k9 h; (case k2 => k_inst); (case k3 => kin_no); (case k4 => k_is); (case k5 => k_is); (case k6 => k_is); (case k7 => k_is); (case k8 => k_is); (case k9 => k_is))
end
theorem node_isi {w : World} {A : Around} {E : Value → Shared → Prop} {s : Shared} {h₀ : Heap} {L x C : Addr} {news : List (Addr × Obj)} {Q : Value → Shared → Prop} (X : (hd.heap_39 w.params).In s.heap) (N : News h₀ L s.heap news) (hn : NodeObj news x)
    (hC : C = 174 ∨ C = 200 ∨ C = 226 ∨ C = 252 ∨ C = 278 ∨ C = 328 ∨ C = 380 ∨ C = 406 ∨ C = 432) (h : Q (.bool false) { s with toks := s.toks + 1 }) : wpAny (model PySem.Challenge.rw_nt0122_01.row.prog w) A (call (.builtin "isinstance") [.ref x, .ref C]) Q E s := by
  obtain ⟨D, dx, dob, h1, h2, h3⟩ := hn
  exact isi_no X N h1 h2 h3 hC h
end Mine
end
section
open PySem PySem.W PyProof.Rows PySem.Spec PyProof.V
namespace Mine
section
theorem lines13 : True := by
  k_with "o11" => skip
  k_with "call ref" => ((fail_if_success k_extra "o12"); (k_here; (with_reducible show wpAny _ _ (call (Value.ref 712) [_, _, _, _]) _ _ _); k_dflt (refine' usx3 ?z62B ?z62F ?z62X ?z62N ?z62T ?z62hk ?z62P1 ?z62P2 ?z62P3 (add4_use ?z62hs ?z62hop ?z62hm ?z62hx) ?_ ?_ (cur_addC ?z62ik ?_); (case z62B => k_asm); (case z62F => k_asm); (case z62X => k_asm); (case z62N => k_asm); (case z62T => k_asm); (case z62hk => first | exact rfl | assumption); (case z62P1 => tb_start); (case z62P2 => tb_start); (case z62P3 => tb_start); (case z62hs => (refine Sta.mono (by with_reducible assumption) ?_ ?_ ?_ ?_; (focus lcg_sub); (focus k_all); (focus k_all); (focus k_all))); (case z62hop => with_reducible assumption); (case z62hm => z_head); (case z62hx => (first | exact lenX (by with_reducible assumption) (by with_reducible assumption) | exact lenO (by with_reducible assumption) (by with_reducible assumption) | lia | (simp only [List.length_append, List.length_cons, List.length_nil] at *; lia))); (case z62ik => ktr_rel); (focus k_extra "rmD"); (focus k_extra "rmU"); intro xs8ₘ n8ₘ nw8ₘ r'ₘ h'ₘ tk'ₘ F'ₘ en1ₘ en2ₘ en3ₘ lkₘ N'ₘ ha8ₘ hops8ₘ hxl8ₘ; (try (have hzNₘ := Num2.add (by with_reducible assumption) hops8ₘ)); (try dsimp only); (try k_sweep); (try k_fold))))
  k_with "call ref" => ((fail_if_success k_extra "o12"); (k_here; (with_reducible show wpAny _ _ (call (Value.ref 712) [_, _, _, _, _]) _ _ _); k_dflt (refine' usx3 ?z63B ?z63F ?z63X ?z63N ?z63T ?z63hk ?z63P1 ?z63P2 ?z63P3 (add5_use ?z63hs ?z63hop ?z63hm ?z63hx) ?_ ?_ (cur_addC ?z63ik ?_); (case z63B => k_asm); (case z63F => k_asm); (case z63X => k_asm); (case z63N => k_asm); (case z63T => k_asm); (case z63hk => first | exact rfl | assumption); (case z63P1 => tb_start); (case z63P2 => tb_start); (case z63P3 => tb_start); (case z63hs => (refine Sta.mono (by with_reducible assumption) ?_ ?_ ?_ ?_; (focus lcg_sub); (focus k_all); (focus k_all); (focus k_all))); (case z63hop => with_reducible assumption); (case z63hm => z_head); (case z63hx => (first | exact lenX (by with_reducible assumption) (by with_reducible assumption) | exact lenO (by with_reducible assumption) (by with_reducible assumption) | lia | (simp only [List.length_append, List.length_cons, List.length_nil] at *; lia))); (case z63ik => ktr_rel); (focus k_extra "rmD"); (focus k_extra "rmU"); intro xs8ₘ n8ₘ nw8ₘ r'ₘ h'ₘ tk'ₘ F'ₘ en1ₘ en2ₘ en3ₘ lkₘ N'ₘ ha8ₘ hops8ₘ hxl8ₘ; (try (have hzNₘ := Num2.add (by with_reducible assumption) hops8ₘ)); (try dsimp only); (try k_sweep); (try k_fold))))
  k_with "call ref" => ((fail_if_success k_extra "o12"); (k_here; (with_reducible show wpAny _ _ (call (Value.ref 712) [_, _, _, _, _, _]) _ _ _); k_dflt (refine' usx3 ?z64B ?z64F ?z64X ?z64N ?z64T ?z64hk ?z64P1 ?z64P2 ?z64P3 (add6_use ?z64hs ?z64hop ?z64hm ?z64hx ?z64h4) ?_ ?_ (cur_addC ?z64ik ?_); (case z64B => k_asm); (case z64F => k_asm); (case z64X => k_asm); (case z64N => k_asm); (case z64T => k_asm); (case z64hk => first | exact rfl | assumption); (case z64P1 => tb_start); (case z64P2 => tb_start); (case z64P3 => tb_start); (case z64hs => (refine Sta.mono (by with_reducible assumption) ?_ ?_ ?_ ?_; (focus lcg_sub); (focus k_all); (focus k_all); (focus k_all))); (case z64hop => with_reducible assumption); (case z64hm => z_head); (case z64hx => (first | exact lenX (by with_reducible assumption) (by with_reducible assumption) | exact lenO (by with_reducible assumption) (by with_reducible assumption) | lia | (simp only [List.length_append, List.length_cons, List.length_nil] at *; lia))); (case z64h4 => first | assumption | exact .val (by assumption) | exact .val .none | exact .val (.int (by lia) (by lia)) | exact .told (by k_mem)); (case z64ik => ktr_rel); (focus k_extra "rmD"); (focus k_extra "rmU"); intro xs8ₘ n8ₘ nw8ₘ r'ₘ h'ₘ tk'ₘ F'ₘ en1ₘ en2ₘ en3ₘ lkₘ N'ₘ ha8ₘ hops8ₘ hxl8ₘ; (try (have hzNₘ := Num2.add (by with_reducible assumption) hops8ₘ)); (try dsimp only); (try k_sweep); (try k_fold))))
  k_with "k_all" => ((fail_if_success k_extra "o12"); first | ((with_reducible refine' off_sub ?z65h ?z65s); (case z65h => tbn_find); (case z65s => z_head)) | ((with_reducible refine' off_lt2 ?z65a ?z65h ?z65s); (case z65a => first | (with_reducible assumption) | assumption); (case z65h => tbn_find); (case z65s => z_head)))
  k_with "x_run" => ((fail_if_success k_extra "o12"); first | (with_reducible assumption) | (refine labs_app ?_ ?_; (focus x_run); (focus lia)) | (refine labs_dec (by with_reducible assumption) ?_; lia))
  k_with "x_auto" => ((fail_if_success k_extra "o12"); first | (with_reducible assumption) | (refine labs_app_ne ?_ ?_; (focus x_auto); (focus lia)) | (refine labs_ne ?_; with_reducible assumption) | (refine labs_ne (labs_dec (by with_reducible assumption) ?_); lia) | (refine Fx.fresh (by with_reducible assumption) ?_ ?_; (focus lia); x_auto))
  k_with "x_head" => ((fail_if_success k_extra "o12"); first | (with_reducible exact Apart.nil) | (with_reducible refine Apart.app ?_ ?_; (focus x_head); x_head) | (with_reducible refine Apart.cons ?_ ?_; (focus k_all); x_head) | (refine Apart.subL (by with_reducible assumption) ?_; z_head))
  k_with "z_run" => ((fail_if_success k_extra "o12"); first | (with_reducible exact TailT.here) | ((with_reducible refine' TailT.d1 ?z66pk); (case z66pk => z_run)) | ((with_reducible refine' TailT.d2 ?z66pk); (case z66pk => z_run)) | ((with_reducible refine' TailT.d3 ?z66pk); (case z66pk => z_run)) | ((with_reducible refine' TailT.cons ?z66pk); (case z66pk => z_run)) | ((with_reducible refine' TailT.app ?z66pk); (case z66pk => z_run)))
  k_with "call ref" => ((fail_if_success k_extra "o12"); (k_here; (with_reducible show wpAny _ _ (call (Value.ref 541) [_, _]) _ _ _); k_dflt (refine' usx3 ?z67B ?z67F ?z67X ?z67N ?z67T ?z67hk ?z67P1 ?z67P2 ?z67P3 (expr2_use ?z67hs ?z67hn ?z67hE ?z67ht ?z67ho ?z67hm ?z67hl ?z67hz) ?_ ?_ (cur_compQ1 ?z67ik ?_); (case z67B => k_asm); (case z67F => k_asm); (case z67X => k_asm); (case z67N => k_asm); (case z67T => k_asm); (case z67hk => first | exact rfl | assumption); (case z67P1 => tb_start); (case z67P2 => tb_start); (case z67P3 => tb_start); (case z67hs => (refine Sta.mono (by with_reducible assumption) ?_ ?_ ?_ ?_; (focus lcg_sub); (focus k_all); (focus k_all); (focus k_all))); (case z67hn => (refine NodeIn.mono ?_ (fun _ h => h) (by with_reducible assumption); lcg_sub)); (case z67hE => with_reducible assumption); (case z67ht => first | (with_reducible assumption) | lia); (case z67ho => with_reducible assumption); (case z67hm => z_head); (case z67hl => with_reducible assumption); (case z67hz => (first | (with_reducible assumption) | exact Num2.take (by with_reducible assumption) | exact Nums.cast (by with_reducible assumption) (by with_reducible assumption) | (refine Nums.mk' ?_ ?_ ?_ ?_; (focus lia); (focus x_run); (focus (first | exact lenX (by with_reducible assumption) (by with_reducible assumption) | exact lenO (by with_reducible assumption) (by with_reducible assumption) | lia | (simp only [List.length_append, List.length_cons, List.length_nil] at *; lia))); (focus (first | exact lenX (by with_reducible assumption) (by with_reducible assumption) | exact lenO (by with_reducible assumption) (by with_reducible assumption) | lia | (simp only [List.length_append, List.length_cons, List.length_nil] at *; lia)))))); (case z67ik => ktr_rel); (focus k_extra "rmD"); (focus k_extra "rmU"); intro R8ₘ N8ₘ ops8ₘ labs8ₘ xs8ₘ n8ₘ oL8ₘ nw8ₘ uR8ₘ uN8ₘ u8ₘ h'ₘ tk'ₘ F'ₘ en1ₘ en2ₘ en3ₘ lkₘ N'ₘ ec8ₘ ha8ₘ h81ₘ h82ₘ h83ₘ ho8ₘ hl8ₘ hfx8ₘ hgt8ₘ hlen8ₘ hll8ₘ hle8ₘ hxl8ₘ; (try simp only [ad0, ad1, mx0, mx1, mx2] at ec8ₘ); (try (have hzNₘ := Num2.step (by with_reducible assumption) hfx8ₘ hgt8ₘ hlen8ₘ hll8ₘ)); (try dsimp only); (try k_sweep); (try k_fold))))
  k_with "call builtin:isinstance" => ((fail_if_success k_extra "o12"); (k_here; (with_reducible show wpAny _ _ (call _ [Value.ref _, Value.ref _]) _ _ _); k_dflt (refine' node_isi ?z68X ?z68N ?z68n ?z68c ?_; (case z68c => decide); (case z68X => k_in); (case z68N => k_asm); (case z68n => (refine NodeObj.mono ?_ (by with_reducible assumption); z_head)); k_whole)))
  exact True.intro

set_option maxRecDepth 100000 in
set_option maxHeartbeats 1000000 in
theorem jump_does (w : World) (c : CK) (k : PK) (K : List Value) (v : Value) (t : Tr) (d : Nat) (R N lab : Int) (ops : List Op) (labs : List (Int × Int)) (xs : List Value) (n : Nat) (uR uN ul : Tok) (oL : Obj) (os osm : List (Addr × Obj)) (hs : Sta w c k K os) (hn : NodeIn w os K v t) (hE : ExprD w t) (ht : t.depth ≤ d) (ho : OpsIn osm xs ops) (hm : ∀ p ∈ osm, p ∈ os) (hl : IntD w oL (labD labs)) (hz : Nums N ops labs (t.nops + 1)) :
   Does w 627 (8 * d + 9) [.ref c.Kc, v, .int lab ul, .bool true] ((k.OL, listOf xs.toArray n) :: (c.dP, progD w k R uR N uN) :: (k.LD, oL) :: os) (CompQ w c k os osm N ops labs (t.nops + 1) ((comp t R ⟨R + 1, N, ops, labs⟩).add "IfNot" R lab 1 (.val none)) fun _ => True) := by
  obtain ⟨x, rfl, hobj⟩ := hn.obj
  obtain ⟨⟨c1, c2, c3, c4, c5, c6, c7⟩, hagg, hkn, o1, o2, o3, d1, d2, d3, hsm⟩ := id hs
  obtain ⟨hN0, hlb, hol, hbl⟩ := id hz
  have hxl := OpsIn.len ho
  have hz2 : Num2 N ops labs (t.nops + (1 + 0)) (t.nops + 0) := Num2.mk' hz (by lia) (by lia)
  refine Does.of ?_
  intro dp un gd cn cs a ccd cl outer A₀ base h₀ L m p loose mean mg mb hp0 gn0 dr0 tk0 oo0 Q E B F X N T hk hd hu hret
  revert X; k_fill; intro X
  refine wpAny_call ?_
  k_dflt (refine' code_def ?k1 ?k2 ?k3 ?k4 ?k5 ?kA ?kF ?kK ?k6 ?k7 ?k8 ?k9 ?kB ?_ ?c2 ?c3 ?c4 ?c5; (case kA => exact rfl); (case kF => exact rfl); (case kK => first | exact rfl | assumption); (case k1 => k_asm); (case k2 => k_asm); (case k3 => k_asm); (case k4 => k_asm); (case k5 => k_asm); (case k6 => k_is); (case k7 => k_is); (case k8 => k_room); (case k9 => first | exact BindsTo.of_eq rfl | exact binds_K (by k_in) rfl (by k_is) rfl rfl rfl); (case c5 => decide); (case kB => exact locs rfl); (case c2 => exact rfl); (case c3 => exact rfl); (case c4 => exact rfl); k_whole; intro g' L' h' FG' F' N' B' X' T'; refine letF F' ?_; clear F'; intro mk F'; (first | (refine letN6 N' ?_; clear N'; intro e1 e2 e3 e4 e5 e6 lk N') | (refine letN5 N' ?_; clear N'; intro e1 e2 e3 e4 e5 lk N') | (refine letN4 N' ?_; clear N'; intro e1 e2 e3 e4 lk N') | (refine letN3 N' ?_; clear N'; intro e1 e2 e3 lk N') | (refine letN2 N' ?_; clear N'; intro e1 e2 lk N') | (refine letN1 N' ?_; clear N'; intro e1 lk N') | skip); (try dsimp only); (try k_lift B'); (try k_fold))
  k_steps
  all_goals first | ((refine' comp_endQ (by with_reducible assumption) ?F ?N ?T ?ho ?hl ?m1 ?m2 ?m3 ?e ?hP ?a0 ?a1 ?a2 ?a3 ?b0 ?b1 ?b2 ?b3; (case F => with_reducible assumption); (case N => with_reducible assumption); (case T => z_run); (case m1 => k_mem); (case m2 => k_mem); (case m3 => k_mem); (case ho => (refine OpsIn.mono ?_ (by with_reducible assumption); lcg_sub)); (case hl => with_reducible assumption); (case e => first | rfl | (simp only [comp, known1, St.add, St.reg, St.lab, St.place, *]; done) | fail); (case hP => first | exact True.intro | exact ⟨_, rfl⟩); (case a0 => x_head); (case a1 => k_all); (case a2 => k_all); (case a3 => k_all); (case b0 => first | (with_reducible assumption) | exact Fx.refl | (refine Fx.trans ?_ (by with_reducible assumption); with_reducible assumption) | fail); (case b1 => x_run); (case b2 => first | lia | (simp only [List.length_append, List.length_cons, List.length_nil] at *; lia)); (case b3 => first | lia | (simp only [List.length_append, List.length_cons, List.length_nil] at *; lia)))) | fail
end
noncomputable def JumpQ (w : World) (c : CK) (k : PK) (os osm : List (Addr × Obj)) (N : Int) (ops : List Op) (labs : List (Int × Int)) (z : Nat) (op : Op) (s : St) (P : Value → Prop) (r : Value) (l : List (Addr × Obj)) : Prop :=
  ∃ R' N' ops' labs', s = ⟨R', N', ops', labs'⟩ ∧ CompP w c k os osm R' N' (ops' ++ [op]) labs' P r l ∧ Fx N labs N' labs' ∧ (∀ p ∈ labs', N' < p.1) ∧ ops'.length + 1 = ops.length + z ∧ labs'.length ≤ labs.length + z
theorem jump_use {w : World} {c : CK} {k : PK} {K : List Value} {v : Value} {t : Tr} {d : Nat} {R N lab : Int} {ops : List Op} {labs : List (Int × Int)} {xs : List Value} {n : Nat} {uR uN ul : Tok} {oL : Obj} {os osm : List (Addr × Obj)} (hs : Sta w c k K os) (hn : NodeIn w os K v t) (hE : ExprD w t) (ht : t.depth ≤ d) (ho : OpsIn osm xs ops) (hm : ∀ p ∈ osm, p ∈ os) (hl : IntD w oL (labD labs)) (hz : Nums N ops labs (t.nops + 1)) :
   Does w 627 (8 * d + 9) [.ref c.Kc, v, .int lab ul, .bool true] ((k.OL, listOf xs.toArray n) :: (c.dP, progD w k R uR N uN) :: (k.LD, oL) :: os) (JumpQ w c k os osm N ops labs (t.nops + 1) ⟨"IfNot", R, lab, 1, .val none⟩ (comp t R ⟨R + 1, N, ops, labs⟩) fun _ => True) :=
  (jump_does w c k K v t d R N lab ops labs xs n uR uN ul oL os osm hs hn hE ht ho hm hl hz).mono fun r l h => by
    obtain ⟨R', N', o', l', e, h1, h2, h3, h4, h5⟩ := h
    generalize comp t R ⟨R + 1, N, ops, labs⟩ = S at e ⊢
    obtain ⟨R1, N1, o1, l1⟩ := S
    cases e
    exact ⟨R1, N1, o1, l1, rfl, h1, h2, h3, by simpa using h4, h5⟩
section Cur
variable {h₀ : Heap} {L : Addr} {m : Str → Option Value} {gn dr oo} {Q : Value → Shared → Prop}
theorem cur_jump {w : World} {c : CK} {k : PK} {N : Int} {ops : List Op} {labs : List (Int × Int)} {z : Nat} {op : Op} {S : St} {os osm : List (Addr × Obj)} {fI : List (Addr × Obj) → List (Addr × Obj)} (I : InsF os fI)
    (ret : ∀ (R8 N8 : Int) (ops8 : List Op) (labs8 : List (Int × Int)) (xs8 : List Value) (n8 : Nat) (oL8 : Obj) (nw8 : List (Addr × Obj)) (uR8 uN8 : Tok) (r : Value) (h' : Heap) (tk' : Nat), Fr h₀ L h' m → let x1 : Addr × Obj := (k.OL, listOf xs8.toArray n8); let x2 : Addr × Obj := (c.dP, progD w k R8 uR8 N8 uN8); let x3 : Addr × Obj := (k.LD, oL8); let l := x1 :: x2 :: x3 :: fI nw8; News h₀ L h' l → S = ⟨R8, N8, ops8, labs8⟩ → Apart os nw8 → (∀ p ∈ nw8, p.1 ≠ k.OL) → (∀ p ∈ nw8, p.1 ≠ c.dP) → (∀ p ∈ nw8, p.1 ≠ k.LD) → OpsIn (nw8 ++ osm) xs8 (ops8 ++ [op]) → IntD w oL8 (labD labs8) → Fx N labs N8 labs8 → (∀ p ∈ labs8, N8 < p.1) → ops8.length + 1 = ops.length + z → labs8.length ≤ labs.length + z → N8 ≤ N → xs8.length = ops8.length + 1 → Q r ⟨h', gn, dr, tk', oo⟩) :
    ∀ r news' h' tk', Fr h₀ L h' m → News h₀ L h' news' → JumpQ w c k os osm N ops labs z op S (fun _ => True) r news' → Q r ⟨h', gn, dr, tk', oo⟩ := by
  rintro r _ h' tk' F N ⟨R8, N8, ops8, labs8, e, ⟨xs8, n8, oL8, nw8, uR8, uN8, hP, rfl, a0, a1, a2, a3, ho, hl⟩, fx, gt, l1, l2⟩; exact ret R8 N8 ops8 labs8 xs8 n8 oL8 nw8 uR8 uN8 r h' tk' F (news_ins3 N (I.insT nw8)) e a0 a1 a2 a3 ho hl fx gt l1 l2 fx.le (by rw [ho.len, List.length_append]; rfl)
end Cur
end Mine
end
section
open PySem PySem.W PyProof.Rows PySem.Spec PyProof.V
namespace Mine
section
theorem lines14 : True := by
  k_with "o12" => skip
  k_with "call ref" => ((fail_if_success k_extra "o13"); (k_here; (with_reducible show wpAny _ _ (call (Value.ref 712) [_, _, _, _]) _ _ _); k_dflt (refine' usx3 ?z69B ?z69F ?z69X ?z69N ?z69T ?z69hk ?z69P1 ?z69P2 ?z69P3 (add4_use ?z69hs ?z69hop ?z69hm ?z69hx) ?_ ?_ (cur_addC ?z69ik ?_); (case z69B => k_asm); (case z69F => k_asm); (case z69X => k_asm); (case z69N => k_asm); (case z69T => k_asm); (case z69hk => first | exact rfl | assumption); (case z69P1 => tb_start); (case z69P2 => tb_start); (case z69P3 => tb_start); (case z69hs => (refine Sta.mono (by with_reducible assumption) ?_ ?_ ?_ ?_; (focus lcg_sub); (focus k_all); (focus k_all); (focus k_all))); (case z69hop => with_reducible assumption); (case z69hm => z_head); (case z69hx => (first | exact lenX (by with_reducible assumption) (by with_reducible assumption) | exact lenO (by with_reducible assumption) (by with_reducible assumption) | lia | (simp only [List.length_append, List.length_cons, List.length_nil] at *; lia))); (case z69ik => ktr_rel); (focus k_extra "rmD"); (focus k_extra "rmU"); intro xs8ₘ n8ₘ nw8ₘ r'ₘ h'ₘ tk'ₘ F'ₘ en1ₘ en2ₘ en3ₘ lkₘ N'ₘ ha8ₘ hops8ₘ hxl8ₘ; (try (have hzNₘ := Num2.add (by with_reducible assumption) hops8ₘ)); (try dsimp only); (try k_sweep); (try k_fold))))
  k_with "call ref" => ((fail_if_success k_extra "o13"); (k_here; (with_reducible show wpAny _ _ (call (Value.ref 712) [_, _, _, _, _]) _ _ _); k_dflt (refine' usx3 ?z70B ?z70F ?z70X ?z70N ?z70T ?z70hk ?z70P1 ?z70P2 ?z70P3 (add5_use ?z70hs ?z70hop ?z70hm ?z70hx) ?_ ?_ (cur_addC ?z70ik ?_); (case z70B => k_asm); (case z70F => k_asm); (case z70X => k_asm); (case z70N => k_asm); (case z70T => k_asm); (case z70hk => first | exact rfl | assumption); (case z70P1 => tb_start); (case z70P2 => tb_start); (case z70P3 => tb_start); (case z70hs => (refine Sta.mono (by with_reducible assumption) ?_ ?_ ?_ ?_; (focus lcg_sub); (focus k_all); (focus k_all); (focus k_all))); (case z70hop => with_reducible assumption); (case z70hm => z_head); (case z70hx => (first | exact lenX (by with_reducible assumption) (by with_reducible assumption) | exact lenO (by with_reducible assumption) (by with_reducible assumption) | lia | (simp only [List.length_append, List.length_cons, List.length_nil] at *; lia))); (case z70ik => ktr_rel); (focus k_extra "rmD"); (focus k_extra "rmU"); intro xs8ₘ n8ₘ nw8ₘ r'ₘ h'ₘ tk'ₘ F'ₘ en1ₘ en2ₘ en3ₘ lkₘ N'ₘ ha8ₘ hops8ₘ hxl8ₘ; (try (have hzNₘ := Num2.add (by with_reducible assumption) hops8ₘ)); (try dsimp only); (try k_sweep); (try k_fold))))
  k_with "call ref" => ((fail_if_success k_extra "o13"); (k_here; (with_reducible show wpAny _ _ (call (Value.ref 712) [_, _, _, _, _, _]) _ _ _); k_dflt (refine' usx3 ?z71B ?z71F ?z71X ?z71N ?z71T ?z71hk ?z71P1 ?z71P2 ?z71P3 (add6_use ?z71hs ?z71hop ?z71hm ?z71hx ?z71h4) ?_ ?_ (cur_addC ?z71ik ?_); (case z71B => k_asm); (case z71F => k_asm); (case z71X => k_asm); (case z71N => k_asm); (case z71T => k_asm); (case z71hk => first | exact rfl | assumption); (case z71P1 => tb_start); (case z71P2 => tb_start); (case z71P3 => tb_start); (case z71hs => (refine Sta.mono (by with_reducible assumption) ?_ ?_ ?_ ?_; (focus lcg_sub); (focus k_all); (focus k_all); (focus k_all))); (case z71hop => with_reducible assumption); (case z71hm => z_head); (case z71hx => (first | exact lenX (by with_reducible assumption) (by with_reducible assumption) | exact lenO (by with_reducible assumption) (by with_reducible assumption) | lia | (simp only [List.length_append, List.length_cons, List.length_nil] at *; lia))); (case z71h4 => first | assumption | exact .val (by assumption) | exact .val .none | exact .val (.int (by lia) (by lia)) | exact .told (by k_mem)); (case z71ik => ktr_rel); (focus k_extra "rmD"); (focus k_extra "rmU"); intro xs8ₘ n8ₘ nw8ₘ r'ₘ h'ₘ tk'ₘ F'ₘ en1ₘ en2ₘ en3ₘ lkₘ N'ₘ ha8ₘ hops8ₘ hxl8ₘ; (try (have hzNₘ := Num2.add (by with_reducible assumption) hops8ₘ)); (try dsimp only); (try k_sweep); (try k_fold))))
  k_with "k_all" => ((fail_if_success k_extra "o13"); first | ((with_reducible refine' off_sub ?z72h ?z72s); (case z72h => tbn_find); (case z72s => z_head)) | ((with_reducible refine' off_lt2 ?z72a ?z72h ?z72s); (case z72a => first | (with_reducible assumption) | assumption); (case z72h => tbn_find); (case z72s => z_head)))
  k_with "x_run" => ((fail_if_success k_extra "o13"); first | (with_reducible assumption) | (refine labs_app ?_ ?_; (focus x_run); (focus lia)) | (refine labs_dec (by with_reducible assumption) ?_; lia))
  k_with "x_auto" => ((fail_if_success k_extra "o13"); first | (with_reducible assumption) | (refine labs_app_ne ?_ ?_; (focus x_auto); (focus lia)) | (refine labs_ne ?_; with_reducible assumption) | (refine labs_ne (labs_dec (by with_reducible assumption) ?_); lia) | (refine Fx.fresh (by with_reducible assumption) ?_ ?_; (focus lia); x_auto))
  k_with "x_head" => ((fail_if_success k_extra "o13"); first | (with_reducible exact Apart.nil) | (with_reducible refine Apart.app ?_ ?_; (focus x_head); x_head) | (with_reducible refine Apart.cons ?_ ?_; (focus k_all); x_head) | (refine Apart.subL (by with_reducible assumption) ?_; z_head))
  k_with "z_run" => ((fail_if_success k_extra "o13"); first | (with_reducible exact TailT.here) | ((with_reducible refine' TailT.d1 ?z73pk); (case z73pk => z_run)) | ((with_reducible refine' TailT.d2 ?z73pk); (case z73pk => z_run)) | ((with_reducible refine' TailT.d3 ?z73pk); (case z73pk => z_run)) | ((with_reducible refine' TailT.cons ?z73pk); (case z73pk => z_run)) | ((with_reducible refine' TailT.app ?z73pk); (case z73pk => z_run)))
  k_with "call ref" => ((fail_if_success k_extra "o13"); (k_here; (with_reducible show wpAny _ _ (call (Value.ref 726) [_]) _ _ _); k_dflt (refine' usx1 ?z74B ?z74F ?z74X ?z74N ?z74T ?z74hk ?z74P1 (label_use (by with_reducible assumption) ?z74hP ?z74ho) ?_ ?_ (cur_lab ?_); (case z74B => k_asm); (case z74F => k_asm); (case z74X => k_asm); (case z74N => k_asm); (case z74T => k_asm); (case z74hk => first | exact rfl | assumption); (case z74P1 => tb_start); (case z74hP => k_mem); (case z74ho => k_all); (focus k_extra "rmD"); (focus k_extra "rmU"); intro u8ₘ uR8ₘ h'ₘ tk'ₘ F'ₘ en1ₘ lkₘ N'ₘ; (try (rename Num2 _ _ _ _ _ => hzLₘ; have hzNₘ := Num2.lab hzLₘ)); (try dsimp only); (try k_sweep); (try k_fold))))
  k_with "call ref" => ((fail_if_success k_extra "o13"); (k_here; (with_reducible show wpAny _ _ (call (Value.ref 733) [_, _]) _ _ _); k_dflt (refine' usx1 ?z75B ?z75F ?z75X ?z75N ?z75T ?z75hk ?z75P1 (place_use (by with_reducible assumption) ?z75hD ?z75hop ?z75hP ?z75hdP ?z75hOL ?z75ho ?z75hx ?z75h1 ?z75h2 ?z75h3 ?z75h4) ?_ ?_ (cur_place ?_); (case z75B => k_asm); (case z75F => k_asm); (case z75X => k_asm); (case z75N => k_asm); (case z75T => k_asm); (case z75hk => first | exact rfl | assumption); (case z75P1 => tb_start); (case z75hD => with_reducible assumption); (case z75hop => with_reducible assumption); (case z75hP => k_mem); (case z75hdP => k_mem); (case z75hOL => k_mem); (case z75ho => k_all); (case z75hx => (first | exact lenX (by with_reducible assumption) (by with_reducible assumption) | exact lenO (by with_reducible assumption) (by with_reducible assumption) | lia | (simp only [List.length_append, List.length_cons, List.length_nil] at *; lia))); (case z75h1 => first | (with_reducible assumption) | lia); (case z75h2 => lia); (case z75h3 => x_auto); (case z75h4 => (first | exact lenL (by with_reducible assumption) | (first | exact lenX (by with_reducible assumption) (by with_reducible assumption) | exact lenO (by with_reducible assumption) (by with_reducible assumption) | lia | (simp only [List.length_append, List.length_cons, List.length_nil] at *; lia)))); (focus k_extra "rmD"); (focus k_extra "rmU"); intro r'ₘ oL9ₘ h'ₘ tk'ₘ F'ₘ en1ₘ lkₘ N'ₘ hl9ₘ; (try (have hzNₘ := Num2.place (by with_reducible assumption) (by first | with_reducible assumption | lia) hl9ₘ)); (try dsimp only); (try k_sweep); (try k_fold))))
  k_with "call ref" => ((fail_if_success k_extra "o13"); (k_here; (with_reducible show wpAny _ _ (call (Value.ref 541) [_, _, _]) _ _ _); k_dflt (refine' usx3 ?z76B ?z76F ?z76X ?z76N ?z76T ?z76hk ?z76P1 ?z76P2 ?z76P3 (expr3_use ?z76hs ?z76hn ?z76hE ?z76ht ?z76ho ?z76hm ?z76hl ?z76hz) ?_ ?_ (cur_compQ ?z76ik ?_); (case z76B => k_asm); (case z76F => k_asm); (case z76X => k_asm); (case z76N => k_asm); (case z76T => k_asm); (case z76hk => first | exact rfl | assumption); (case z76P1 => tb_start); (case z76P2 => tb_start); (case z76P3 => tb_start); (case z76hs => (refine Sta.mono (by with_reducible assumption) ?_ ?_ ?_ ?_; (focus lcg_sub); (focus k_all); (focus k_all); (focus k_all))); (case z76hn => (refine NodeIn.mono ?_ (fun _ h => h) (by with_reducible assumption); lcg_sub)); (case z76hE => with_reducible assumption); (case z76ht => first | (with_reducible assumption) | lia); (case z76ho => with_reducible assumption); (case z76hm => z_head); (case z76hl => with_reducible assumption); (case z76hz => (first | (with_reducible assumption) | exact Num2.take (by with_reducible assumption) | exact Nums.cast (by with_reducible assumption) (by with_reducible assumption) | (refine Nums.mk' ?_ ?_ ?_ ?_; (focus lia); (focus x_run); (focus (first | exact lenX (by with_reducible assumption) (by with_reducible assumption) | exact lenO (by with_reducible assumption) (by with_reducible assumption) | lia | (simp only [List.length_append, List.length_cons, List.length_nil] at *; lia))); (focus (first | exact lenX (by with_reducible assumption) (by with_reducible assumption) | exact lenO (by with_reducible assumption) (by with_reducible assumption) | lia | (simp only [List.length_append, List.length_cons, List.length_nil] at *; lia)))))); (case z76ik => ktr_rel); (focus k_extra "rmD"); (focus k_extra "rmU"); intro R8ₘ N8ₘ ops8ₘ labs8ₘ xs8ₘ n8ₘ oL8ₘ nw8ₘ uR8ₘ uN8ₘ u8ₘ h'ₘ tk'ₘ F'ₘ en1ₘ en2ₘ en3ₘ lkₘ N'ₘ ec8ₘ ha8ₘ h81ₘ h82ₘ h83ₘ ho8ₘ hl8ₘ hfx8ₘ hgt8ₘ hlen8ₘ hll8ₘ hle8ₘ hxl8ₘ; (try simp only [ad0, ad1, mx0, mx1, mx2] at ec8ₘ); (try (have hzNₘ := Num2.step (by with_reducible assumption) hfx8ₘ hgt8ₘ hlen8ₘ hll8ₘ)); (try dsimp only); (try k_sweep); (try k_fold))))
  k_with "call ref" => ((fail_if_success k_extra "o13"); (k_here; (with_reducible show wpAny _ _ (call (Value.ref 627) [_, _, _, _]) _ _ _); k_dflt (refine' usx3 ?z77B ?z77F ?z77X ?z77N ?z77T ?z77hk ?z77P1 ?z77P2 ?z77P3 (jump_use ?z77hs ?z77hn ?z77hE ?z77ht ?z77ho ?z77hm ?z77hl ?z77hz) ?_ ?_ (cur_jump ?z77ik ?_); (case z77B => k_asm); (case z77F => k_asm); (case z77X => k_asm); (case z77N => k_asm); (case z77T => k_asm); (case z77hk => first | exact rfl | assumption); (case z77P1 => tb_start); (case z77P2 => tb_start); (case z77P3 => tb_start); (case z77hs => (refine Sta.mono (by with_reducible assumption) ?_ ?_ ?_ ?_; (focus lcg_sub); (focus k_all); (focus k_all); (focus k_all))); (case z77hn => (refine NodeIn.mono ?_ (fun _ h => h) (by with_reducible assumption); lcg_sub)); (case z77hE => with_reducible assumption); (case z77ht => first | (with_reducible assumption) | lia); (case z77ho => with_reducible assumption); (case z77hm => z_head); (case z77hl => with_reducible assumption); (case z77hz => (first | (with_reducible assumption) | exact Num2.take (by with_reducible assumption) | exact Nums.cast (by with_reducible assumption) (by with_reducible assumption) | (refine Nums.mk' ?_ ?_ ?_ ?_; (focus lia); (focus x_run); (focus (first | exact lenX (by with_reducible assumption) (by with_reducible assumption) | exact lenO (by with_reducible assumption) (by with_reducible assumption) | lia | (simp only [List.length_append, List.length_cons, List.length_nil] at *; lia))); (focus (first | exact lenX (by with_reducible assumption) (by with_reducible assumption) | exact lenO (by with_reducible assumption) (by with_reducible assumption) | lia | (simp only [List.length_append, List.length_cons, List.length_nil] at *; lia)))))); (case z77ik => ktr_rel); (focus k_extra "rmD"); (focus k_extra "rmU"); intro R8ₘ N8ₘ ops8ₘ labs8ₘ xs8ₘ n8ₘ oL8ₘ nw8ₘ uR8ₘ uN8ₘ u8ₘ h'ₘ tk'ₘ F'ₘ en1ₘ en2ₘ en3ₘ lkₘ N'ₘ ec8ₘ ha8ₘ h81ₘ h82ₘ h83ₘ ho8ₘ hl8ₘ hfx8ₘ hgt8ₘ hlen8ₘ hll8ₘ hle8ₘ hxl8ₘ; (try simp only [ad0, ad1, mx0, mx1, mx2] at ec8ₘ); (try (have hzNₘ := Num2.stepJ (by with_reducible assumption) hfx8ₘ hgt8ₘ hlen8ₘ hll8ₘ ho8ₘ)); (try dsimp only); (try k_sweep); (try k_fold))))
  k_with "exec For Tuple Attribute cons nil" => ((fail_if_success k_extra "o13"); (k_here; (rename Fr _ _ _ _ => lF'ₘ); (with_unfolding_all refine' For_turns lF'ₘ ?_; k_whole)))
  k_with "pyIterM ref" => ((fail_if_success k_extra "o13"); ((with_reducible show wpAny _ _ (pyIter (Value.ref _)) (fun it s₂ => TurnsAt _ _ _ _ _ _ _ _ _ it s₂) _ _); k_dflt (refine' iter_listTurns (by rfl) ?z78F ?z78N ?z78m ?z78c ?z78d ?_; (case z78F => k_asm); (case z78N => k_asm); (case z78m => k_mem); (case z78c => rfl); (case z78d => rfl); k_whole); intro i'ₘ l1ₘ; (try k_lt l1ₘ)))
  k_with "UnrEndW" => ((fail_if_success k_extra "o13"); (refine' UnrEndW.introP ?z79F ?z79N ?z79P ?z79off ⟨⟨?z79m, True.intro⟩, ?_⟩; (case z79F => k_asm); (case z79N => k_asm); (case z79P => tb_start); (case z79off => k_all); (case z79m => k_mem)))
  exact True.intro

set_option maxRecDepth 100000 in
set_option maxHeartbeats 2000000 in
theorem case_does {w : World} {c : CK} {k : PK} {K : List Value} {v1 v2 v3 : Value} {t1 t2 t3 : Tr} {d : Nat} {R N tg : Int} {ops : List Op} {labs : List (Int × Int)} {xs : List Value} {n n1 n2 : Nat} {cx cdx wl wt : Addr} {a1 a2 a3 uR uN ut : Tok} {oL : Obj} {os osm : List (Addr × Obj)} (hs : Sta w c k K os)
   (hcx : (cx, instObj 328 cdx) ∈ os) (hcd : (cdx, dictOf [ent w "base" a1 .none, ent w "whens" a2 (.ref wl), ent w "other" a3 v3] 3) ∈ os) (hwl : (wl, listOf #[.ref wt] n1) ∈ os) (hwt : (wt, tupO [v1, v2] n2) ∈ os)
   (h1 : NodeIn w os K v1 t1) (hE1 : ExprD w t1) (ht1 : t1.depth ≤ d) (h2 : NodeIn w os K v2 t2) (hE2 : ExprD w t2) (ht2 : t2.depth ≤ d) (h3 : NodeIn w os K v3 t3) (hE3 : ExprD w t3) (ht3 : t3.depth ≤ d)
   (ho : OpsIn osm xs ops) (hm : ∀ p ∈ osm, p ∈ os) (hl : IntD w oL (labD labs)) (hz : Nums N ops labs (t1.nops + t2.nops + t3.nops + 2)) :
   Does w 604 (8 * d + 10) [.ref c.Kc, .ref cx, .int tg ut] ((k.OL, listOf xs.toArray n) :: (c.dP, progD w k R uR N uN) :: (k.LD, oL) :: os)
     (CompS w c k os osm ((comp t3 tg ((((comp t2 tg ((comp t1 R ⟨R + 1, N - 1 - 1, ops, labs⟩).add "IfNot" R (N - 1) 1 (.val none))).add "Goto" 0 N 0 (.val none)).place (N - 1)))).place N) fun _ => True) := by
  obtain ⟨x3, rfl, hobj3⟩ := h3.obj
  obtain ⟨⟨c1, c2, c3, c4, c5, c6, c7⟩, hagg, hkn, o1, o2, o3, d1, d2, d3, hsm⟩ := id hs
  obtain ⟨hN0, hlb, hol, hbl⟩ := id hz
  have hxl := OpsIn.len ho
  have hz2 : Num2 N ops labs ((t1.nops + 1) + (t2.nops + (1 + (t3.nops + 0)))) ((t1.nops + 1) + (t2.nops + (1 + (t3.nops + 0)))) := Num2.mk' hz (by lia) (by lia)
  refine Does.of ?_
  intro dp un gd cn cs a ccd cl outer A₀ base h₀ L m p loose mean mg mb hp0 gn0 dr0 tk0 oo0 Q E B F X N T hk hd hu hret
  revert X; k_fill; intro X
  refine wpAny_call ?_
  k_dflt ktr_enter
  k_steps
  all_goals first | ((refine' comp_endS (by with_reducible assumption) ?F ?N ?T ?ho ?hl ?m1 ?m2 ?m3 ?e ?hP ?a0 ?a1 ?a2 ?a3; (case F => with_reducible assumption); (case N => with_reducible assumption); (case T => z_run); (case m1 => k_mem); (case m2 => k_mem); (case m3 => k_mem); (case ho => (refine OpsIn.mono ?_ (by with_reducible assumption); lcg_sub)); (case hl => with_reducible assumption); (case e => first | rfl | (simp only [comp, known1, St.add, St.reg, St.lab, St.place, *]; done) | fail); (case hP => first | exact True.intro | exact ⟨_, rfl⟩); (case a0 => x_head); (case a1 => k_all); (case a2 => k_all); (case a3 => k_all))) | fail
end
end Mine
end
section
open PySem PySem.W PyProof.Rows PySem.Spec PyProof.V
namespace Mine
section
theorem lines15 : True := by
  k_with "o13" => skip
  k_with "call ref" => ((fail_if_success k_extra "o14"); (k_here; (with_reducible show wpAny _ _ (call (Value.ref 712) [_, _, _, _]) _ _ _); k_dflt (refine' usx3 ?z80B ?z80F ?z80X ?z80N ?z80T ?z80hk ?z80P1 ?z80P2 ?z80P3 (add4_use ?z80hs ?z80hop ?z80hm ?z80hx) ?_ ?_ (cur_addC ?z80ik ?_); (case z80B => k_asm); (case z80F => k_asm); (case z80X => k_asm); (case z80N => k_asm); (case z80T => k_asm); (case z80hk => first | exact rfl | assumption); (case z80P1 => tb_start); (case z80P2 => tb_start); (case z80P3 => tb_start); (case z80hs => (refine Sta.mono (by with_reducible assumption) ?_ ?_ ?_ ?_; (focus lcg_sub); (focus k_all); (focus k_all); (focus k_all))); (case z80hop => with_reducible assumption); (case z80hm => z_head); (case z80hx => (first | exact lenX (by with_reducible assumption) (by with_reducible assumption) | exact lenO (by with_reducible assumption) (by with_reducible assumption) | lia | (simp only [List.length_append, List.length_cons, List.length_nil] at *; lia))); (case z80ik => ktr_rel); (focus k_extra "rmD"); (focus k_extra "rmU"); intro xs8ₘ n8ₘ nw8ₘ r'ₘ h'ₘ tk'ₘ F'ₘ en1ₘ en2ₘ en3ₘ lkₘ N'ₘ ha8ₘ hops8ₘ hxl8ₘ; (try (have hzNₘ := Num2.add (by with_reducible assumption) hops8ₘ)); (try dsimp only); (try k_sweep); (try k_fold))))
  k_with "call ref" => ((fail_if_success k_extra "o14"); (k_here; (with_reducible show wpAny _ _ (call (Value.ref 712) [_, _, _, _, _]) _ _ _); k_dflt (refine' usx3 ?z81B ?z81F ?z81X ?z81N ?z81T ?z81hk ?z81P1 ?z81P2 ?z81P3 (add5_use ?z81hs ?z81hop ?z81hm ?z81hx) ?_ ?_ (cur_addC ?z81ik ?_); (case z81B => k_asm); (case z81F => k_asm); (case z81X => k_asm); (case z81N => k_asm); (case z81T => k_asm); (case z81hk => first | exact rfl | assumption); (case z81P1 => tb_start); (case z81P2 => tb_start); (case z81P3 => tb_start); (case z81hs => (refine Sta.mono (by with_reducible assumption) ?_ ?_ ?_ ?_; (focus lcg_sub); (focus k_all); (focus k_all); (focus k_all))); (case z81hop => with_reducible assumption); (case z81hm => z_head); (case z81hx => (first | exact lenX (by with_reducible assumption) (by with_reducible assumption) | exact lenO (by with_reducible assumption) (by with_reducible assumption) | lia | (simp only [List.length_append, List.length_cons, List.length_nil] at *; lia))); (case z81ik => ktr_rel); (focus k_extra "rmD"); (focus k_extra "rmU"); intro xs8ₘ n8ₘ nw8ₘ r'ₘ h'ₘ tk'ₘ F'ₘ en1ₘ en2ₘ en3ₘ lkₘ N'ₘ ha8ₘ hops8ₘ hxl8ₘ; (try (have hzNₘ := Num2.add (by with_reducible assumption) hops8ₘ)); (try dsimp only); (try k_sweep); (try k_fold))))
  k_with "call ref" => ((fail_if_success k_extra "o14"); (k_here; (with_reducible show wpAny _ _ (call (Value.ref 712) [_, _, _, _, _, _]) _ _ _); k_dflt (refine' usx3 ?z82B ?z82F ?z82X ?z82N ?z82T ?z82hk ?z82P1 ?z82P2 ?z82P3 (add6_use ?z82hs ?z82hop ?z82hm ?z82hx ?z82h4) ?_ ?_ (cur_addC ?z82ik ?_); (case z82B => k_asm); (case z82F => k_asm); (case z82X => k_asm); (case z82N => k_asm); (case z82T => k_asm); (case z82hk => first | exact rfl | assumption); (case z82P1 => tb_start); (case z82P2 => tb_start); (case z82P3 => tb_start); (case z82hs => (refine Sta.mono (by with_reducible assumption) ?_ ?_ ?_ ?_; (focus lcg_sub); (focus k_all); (focus k_all); (focus k_all))); (case z82hop => with_reducible assumption); (case z82hm => z_head); (case z82hx => (first | exact lenX (by with_reducible assumption) (by with_reducible assumption) | exact lenO (by with_reducible assumption) (by with_reducible assumption) | lia | (simp only [List.length_append, List.length_cons, List.length_nil] at *; lia))); (case z82h4 => first | assumption | exact .val (by assumption) | exact .val .none | exact .val (.int (by lia) (by lia)) | exact .told (by k_mem)); (case z82ik => ktr_rel); (focus k_extra "rmD"); (focus k_extra "rmU"); intro xs8ₘ n8ₘ nw8ₘ r'ₘ h'ₘ tk'ₘ F'ₘ en1ₘ en2ₘ en3ₘ lkₘ N'ₘ ha8ₘ hops8ₘ hxl8ₘ; (try (have hzNₘ := Num2.add (by with_reducible assumption) hops8ₘ)); (try dsimp only); (try k_sweep); (try k_fold))))
  k_with "k_all" => ((fail_if_success k_extra "o14"); first | ((with_reducible refine' off_sub ?z83h ?z83s); (case z83h => tbn_find); (case z83s => z_head)) | ((with_reducible refine' off_lt2 ?z83a ?z83h ?z83s); (case z83a => first | (with_reducible assumption) | assumption); (case z83h => tbn_find); (case z83s => z_head)))
  k_with "x_run" => ((fail_if_success k_extra "o14"); first | (with_reducible assumption) | (refine labs_app ?_ ?_; (focus x_run); (focus lia)) | (refine labs_dec (by with_reducible assumption) ?_; lia))
  k_with "x_auto" => ((fail_if_success k_extra "o14"); first | (with_reducible assumption) | (refine labs_app_ne ?_ ?_; (focus x_auto); (focus lia)) | (refine labs_ne ?_; with_reducible assumption) | (refine labs_ne (labs_dec (by with_reducible assumption) ?_); lia) | (refine Fx.fresh (by with_reducible assumption) ?_ ?_; (focus lia); x_auto))
  k_with "x_head" => ((fail_if_success k_extra "o14"); first | (with_reducible exact Apart.nil) | (with_reducible refine Apart.app ?_ ?_; (focus x_head); x_head) | (with_reducible refine Apart.cons ?_ ?_; (focus k_all); x_head) | (refine Apart.subL (by with_reducible assumption) ?_; z_head))
  k_with "z_run" => ((fail_if_success k_extra "o14"); first | (with_reducible exact TailT.here) | ((with_reducible refine' TailT.d1 ?z84pk); (case z84pk => z_run)) | ((with_reducible refine' TailT.d2 ?z84pk); (case z84pk => z_run)) | ((with_reducible refine' TailT.d3 ?z84pk); (case z84pk => z_run)) | ((with_reducible refine' TailT.cons ?z84pk); (case z84pk => z_run)) | ((with_reducible refine' TailT.app ?z84pk); (case z84pk => z_run)))
  k_with "call ref" => ((fail_if_success k_extra "o14"); (k_here; (with_reducible show wpAny _ _ (call (Value.ref 726) [_]) _ _ _); k_dflt (refine' usx1 ?z85B ?z85F ?z85X ?z85N ?z85T ?z85hk ?z85P1 (label_use (by with_reducible assumption) ?z85hP ?z85ho) ?_ ?_ (cur_lab ?_); (case z85B => k_asm); (case z85F => k_asm); (case z85X => k_asm); (case z85N => k_asm); (case z85T => k_asm); (case z85hk => first | exact rfl | assumption); (case z85P1 => tb_start); (case z85hP => k_mem); (case z85ho => k_all); (focus k_extra "rmD"); (focus k_extra "rmU"); intro u8ₘ uR8ₘ h'ₘ tk'ₘ F'ₘ en1ₘ lkₘ N'ₘ; (try (rename Num2 _ _ _ _ _ => hzLₘ; have hzNₘ := Num2.lab hzLₘ)); (try dsimp only); (try k_sweep); (try k_fold))))
  k_with "call ref" => ((fail_if_success k_extra "o14"); (k_here; (with_reducible show wpAny _ _ (call (Value.ref 733) [_, _]) _ _ _); k_dflt (refine' usx1 ?z86B ?z86F ?z86X ?z86N ?z86T ?z86hk ?z86P1 (place_use (by with_reducible assumption) ?z86hD ?z86hop ?z86hP ?z86hdP ?z86hOL ?z86ho ?z86hx ?z86h1 ?z86h2 ?z86h3 ?z86h4) ?_ ?_ (cur_place ?_); (case z86B => k_asm); (case z86F => k_asm); (case z86X => k_asm); (case z86N => k_asm); (case z86T => k_asm); (case z86hk => first | exact rfl | assumption); (case z86P1 => tb_start); (case z86hD => with_reducible assumption); (case z86hop => with_reducible assumption); (case z86hP => k_mem); (case z86hdP => k_mem); (case z86hOL => k_mem); (case z86ho => k_all); (case z86hx => (first | exact lenX (by with_reducible assumption) (by with_reducible assumption) | exact lenO (by with_reducible assumption) (by with_reducible assumption) | lia | (simp only [List.length_append, List.length_cons, List.length_nil] at *; lia))); (case z86h1 => first | (with_reducible assumption) | lia); (case z86h2 => lia); (case z86h3 => x_auto); (case z86h4 => (first | exact lenL (by with_reducible assumption) | (first | exact lenX (by with_reducible assumption) (by with_reducible assumption) | exact lenO (by with_reducible assumption) (by with_reducible assumption) | lia | (simp only [List.length_append, List.length_cons, List.length_nil] at *; lia)))); (focus k_extra "rmD"); (focus k_extra "rmU"); intro r'ₘ oL9ₘ h'ₘ tk'ₘ F'ₘ en1ₘ lkₘ N'ₘ hl9ₘ; (try (have hzNₘ := Num2.place (by with_reducible assumption) (by first | with_reducible assumption | lia) hl9ₘ)); (try dsimp only); (try k_sweep); (try k_fold))))
  k_with "call ref" => ((fail_if_success k_extra "o14"); (k_here; (with_reducible show wpAny _ _ (call (Value.ref 541) [_, _, _]) _ _ _); k_dflt (refine' usx3 ?z87B ?z87F ?z87X ?z87N ?z87T ?z87hk ?z87P1 ?z87P2 ?z87P3 (expr3_use ?z87hs ?z87hn ?z87hE ?z87ht ?z87ho ?z87hm ?z87hl ?z87hz) ?_ ?_ (cur_compQ ?z87ik ?_); (case z87B => k_asm); (case z87F => k_asm); (case z87X => k_asm); (case z87N => k_asm); (case z87T => k_asm); (case z87hk => first | exact rfl | assumption); (case z87P1 => tb_start); (case z87P2 => tb_start); (case z87P3 => tb_start); (case z87hs => (refine Sta.mono (by with_reducible assumption) ?_ ?_ ?_ ?_; (focus lcg_sub); (focus k_all); (focus k_all); (focus k_all))); (case z87hn => (refine NodeIn.mono ?_ (fun _ h => h) (by with_reducible assumption); lcg_sub)); (case z87hE => with_reducible assumption); (case z87ht => first | (with_reducible assumption) | lia); (case z87ho => with_reducible assumption); (case z87hm => z_head); (case z87hl => with_reducible assumption); (case z87hz => (first | (with_reducible assumption) | exact Num2.take (by with_reducible assumption) | exact Nums.cast (by with_reducible assumption) (by with_reducible assumption) | (refine Nums.mk' ?_ ?_ ?_ ?_; (focus lia); (focus x_run); (focus (first | exact lenX (by with_reducible assumption) (by with_reducible assumption) | exact lenO (by with_reducible assumption) (by with_reducible assumption) | lia | (simp only [List.length_append, List.length_cons, List.length_nil] at *; lia))); (focus (first | exact lenX (by with_reducible assumption) (by with_reducible assumption) | exact lenO (by with_reducible assumption) (by with_reducible assumption) | lia | (simp only [List.length_append, List.length_cons, List.length_nil] at *; lia)))))); (case z87ik => ktr_rel); (focus k_extra "rmD"); (focus k_extra "rmU"); intro R8ₘ N8ₘ ops8ₘ labs8ₘ xs8ₘ n8ₘ oL8ₘ nw8ₘ uR8ₘ uN8ₘ u8ₘ h'ₘ tk'ₘ F'ₘ en1ₘ en2ₘ en3ₘ lkₘ N'ₘ ec8ₘ ha8ₘ h81ₘ h82ₘ h83ₘ ho8ₘ hl8ₘ hfx8ₘ hgt8ₘ hlen8ₘ hll8ₘ hle8ₘ hxl8ₘ; (try simp only [ad0, ad1, mx0, mx1, mx2] at ec8ₘ); (try (have hzNₘ := Num2.step (by with_reducible assumption) hfx8ₘ hgt8ₘ hlen8ₘ hll8ₘ)); (try dsimp only); (try k_sweep); (try k_fold))))
  k_with "exec For Name Name cons nil" => ((fail_if_success k_extra "o14"); (k_here; (rename Fr _ _ _ _ => lF'ₘ); (with_unfolding_all refine' For_invVF lF'ₘ ?z88k1 ?z88k2 ?_; (case z88k1 => exact rfl); (case z88k2 => exact rfl); k_whole)))
  k_with "pyIterM ref" => ((fail_if_success k_extra "o14"); ((with_reducible show wpAny _ _ (pyIter (Value.ref _)) (fun it s₂ => LoopAtV _ _ _ _ _ _ _ _ _ it s₂) _ _); k_dflt (refine' iter_listUnr (by rfl) ?z89F ?z89N ?z89m ?z89c ?z89d ?_; (case z89F => k_asm); (case z89N => k_asm); (case z89m => k_mem); (case z89c => rfl); (case z89d => rfl); k_whole); intro i'ₘ l1ₘ; (try k_lt l1ₘ)))
  k_with "UnrEnd" => ((fail_if_success k_extra "o14"); (refine' UnrEnd.introP ?z90F ?z90N ?z90P ?z90off ⟨?z90m, ?_⟩; (case z90F => k_asm); (case z90N => k_asm); (case z90P => tb_start); (case z90off => k_all); (case z90m => k_mem)))
  exact True.intro

set_option maxRecDepth 100000 in
set_option maxHeartbeats 2000000 in
theorem first_2 {w : World} {c : CK} {k : PK} {K : List Value} {v1 : Value} {t1 : Tr} {v2 : Value} {t2 : Tr} {d : Nat} {R N tg : Int} {ops : List Op} {labs : List (Int × Int)} {xs : List Value} {n n1 : Nat} {l : Addr} {uR uN ut : Tok} {oL : Obj} {os osm : List (Addr × Obj)} (hs : Sta w c k K os) (hl0 : (l, listOf #[v1, v2] n1) ∈ os) (h1 : NodeIn w os K v1 t1) (hE1 : ExprD w t1) (ht1 : t1.depth ≤ d) (h2 : NodeIn w os K v2 t2) (hE2 : ExprD w t2) (ht2 : t2.depth ≤ d) (ho : OpsIn osm xs ops) (hm : ∀ p ∈ osm, p ∈ os) (hl : IntD w oL (labD labs)) (hz : Nums N ops labs (t1.nops + t2.nops + 2)) :
   Does w 683 (8 * d + 9) [.ref c.Kc, .ref l, .int tg ut] ((k.OL, listOf xs.toArray n) :: (c.dP, progD w k R uR N uN) :: (k.LD, oL) :: os) (CompS w c k os osm ((known1 (comp t2) tg N (known1 (comp t1) tg N ⟨R, N - 1, ops, labs⟩)).place N) fun _ => True) := by
  obtain ⟨⟨c1, c2, c3, c4, c5, c6, c7⟩, hagg, hkn, o1, o2, o3, d1, d2, d3, hsm⟩ := id hs
  obtain ⟨hN0, hlb, hol, hbl⟩ := id hz
  have hxl := OpsIn.len ho
  have hz2 : Num2 N ops labs (t1.nops + (1 + (t2.nops + (1 + 0)))) (t1.nops + (t2.nops + (1 + 0))) := Num2.mk' hz (by lia) (by lia)
  refine Does.of ?_
  intro dp un gd cn cs a ccd cl outer A₀ base h₀ L m p loose mean mg mb hp0 gn0 dr0 tk0 oo0 Q E B F X N T hk hd hu hret
  revert X; k_fill; intro X
  refine wpAny_call ?_
  k_dflt ktr_enter
  k_steps
  all_goals first | ((refine' comp_endS (by with_reducible assumption) ?F ?N ?T ?ho ?hl ?m1 ?m2 ?m3 ?e ?hP ?a0 ?a1 ?a2 ?a3; (case F => with_reducible assumption); (case N => with_reducible assumption); (case T => z_run); (case m1 => k_mem); (case m2 => k_mem); (case m3 => k_mem); (case ho => (refine OpsIn.mono ?_ (by with_reducible assumption); lcg_sub)); (case hl => with_reducible assumption); (case e => first | rfl | (simp only [comp, known1, St.add, St.reg, St.lab, St.place, *]; done) | fail); (case hP => first | exact True.intro | exact ⟨_, rfl⟩); (case a0 => x_head); (case a1 => k_all); (case a2 => k_all); (case a3 => k_all))) | fail
set_option maxRecDepth 100000 in
set_option maxHeartbeats 2000000 in
theorem first_3 {w : World} {c : CK} {k : PK} {K : List Value} {v1 : Value} {t1 : Tr} {v2 : Value} {t2 : Tr} {v3 : Value} {t3 : Tr} {d : Nat} {R N tg : Int} {ops : List Op} {labs : List (Int × Int)} {xs : List Value} {n n1 : Nat} {l : Addr} {uR uN ut : Tok} {oL : Obj} {os osm : List (Addr × Obj)} (hs : Sta w c k K os) (hl0 : (l, listOf #[v1, v2, v3] n1) ∈ os) (h1 : NodeIn w os K v1 t1) (hE1 : ExprD w t1) (ht1 : t1.depth ≤ d) (h2 : NodeIn w os K v2 t2) (hE2 : ExprD w t2) (ht2 : t2.depth ≤ d) (h3 : NodeIn w os K v3 t3) (hE3 : ExprD w t3) (ht3 : t3.depth ≤ d) (ho : OpsIn osm xs ops) (hm : ∀ p ∈ osm, p ∈ os) (hl : IntD w oL (labD labs)) (hz : Nums N ops labs (t1.nops + t2.nops + t3.nops + 3)) :
   Does w 683 (8 * d + 9) [.ref c.Kc, .ref l, .int tg ut] ((k.OL, listOf xs.toArray n) :: (c.dP, progD w k R uR N uN) :: (k.LD, oL) :: os) (CompS w c k os osm ((known1 (comp t3) tg N (known1 (comp t2) tg N (known1 (comp t1) tg N ⟨R, N - 1, ops, labs⟩))).place N) fun _ => True) := by
  obtain ⟨⟨c1, c2, c3, c4, c5, c6, c7⟩, hagg, hkn, o1, o2, o3, d1, d2, d3, hsm⟩ := id hs
  obtain ⟨hN0, hlb, hol, hbl⟩ := id hz
  have hxl := OpsIn.len ho
  have hz2 : Num2 N ops labs (t1.nops + (1 + (t2.nops + (1 + (t3.nops + (1 + 0)))))) (t1.nops + (t2.nops + (t3.nops + (1 + 0)))) := Num2.mk' hz (by lia) (by lia)
  refine Does.of ?_
  intro dp un gd cn cs a ccd cl outer A₀ base h₀ L m p loose mean mg mb hp0 gn0 dr0 tk0 oo0 Q E B F X N T hk hd hu hret
  revert X; k_fill; intro X
  refine wpAny_call ?_
  k_dflt ktr_enter
  k_steps
  all_goals first | ((refine' comp_endS (by with_reducible assumption) ?F ?N ?T ?ho ?hl ?m1 ?m2 ?m3 ?e ?hP ?a0 ?a1 ?a2 ?a3; (case F => with_reducible assumption); (case N => with_reducible assumption); (case T => z_run); (case m1 => k_mem); (case m2 => k_mem); (case m3 => k_mem); (case ho => (refine OpsIn.mono ?_ (by with_reducible assumption); lcg_sub)); (case hl => with_reducible assumption); (case e => first | rfl | (simp only [comp, known1, St.add, St.reg, St.lab, St.place, *]; done) | fail); (case hP => first | exact True.intro | exact ⟨_, rfl⟩); (case a0 => x_head); (case a1 => k_all); (case a2 => k_all); (case a3 => k_all))) | fail
end
end Mine
end
section
open PySem PySem.W PyProof.Rows PySem.Spec PyProof.V
namespace Mine
section
theorem lines16 : True := by
  k_with "o14" => skip
  k_with "call ref" => ((fail_if_success k_extra "o15"); (k_here; (with_reducible show wpAny _ _ (call (Value.ref 712) [_, _, _, _]) _ _ _); k_dflt (refine' usx3 ?z91B ?z91F ?z91X ?z91N ?z91T ?z91hk ?z91P1 ?z91P2 ?z91P3 (add4_use ?z91hs ?z91hop ?z91hm ?z91hx) ?_ ?_ (cur_addC ?z91ik ?_); (case z91B => k_asm); (case z91F => k_asm); (case z91X => k_asm); (case z91N => k_asm); (case z91T => k_asm); (case z91hk => first | exact rfl | assumption); (case z91P1 => tb_start); (case z91P2 => tb_start); (case z91P3 => tb_start); (case z91hs => (refine Sta.mono (by with_reducible assumption) ?_ ?_ ?_ ?_; (focus lcg_sub); (focus k_all); (focus k_all); (focus k_all))); (case z91hop => with_reducible assumption); (case z91hm => z_head); (case z91hx => (first | exact lenX (by with_reducible assumption) (by with_reducible assumption) | exact lenO (by with_reducible assumption) (by with_reducible assumption) | lia | (simp only [List.length_append, List.length_cons, List.length_nil] at *; lia))); (case z91ik => ktr_rel); (focus k_extra "rmD"); (focus k_extra "rmU"); intro xs8ₘ n8ₘ nw8ₘ r'ₘ h'ₘ tk'ₘ F'ₘ en1ₘ en2ₘ en3ₘ lkₘ N'ₘ ha8ₘ hops8ₘ hxl8ₘ; (try (have hzNₘ := Num2.add (by with_reducible assumption) hops8ₘ)); (try dsimp only); (try k_sweep); (try k_fold))))
  k_with "call ref" => ((fail_if_success k_extra "o15"); (k_here; (with_reducible show wpAny _ _ (call (Value.ref 712) [_, _, _, _, _]) _ _ _); k_dflt (refine' usx3 ?z92B ?z92F ?z92X ?z92N ?z92T ?z92hk ?z92P1 ?z92P2 ?z92P3 (add5_use ?z92hs ?z92hop ?z92hm ?z92hx) ?_ ?_ (cur_addC ?z92ik ?_); (case z92B => k_asm); (case z92F => k_asm); (case z92X => k_asm); (case z92N => k_asm); (case z92T => k_asm); (case z92hk => first | exact rfl | assumption); (case z92P1 => tb_start); (case z92P2 => tb_start); (case z92P3 => tb_start); (case z92hs => (refine Sta.mono (by with_reducible assumption) ?_ ?_ ?_ ?_; (focus lcg_sub); (focus k_all); (focus k_all); (focus k_all))); (case z92hop => with_reducible assumption); (case z92hm => z_head); (case z92hx => (first | exact lenX (by with_reducible assumption) (by with_reducible assumption) | exact lenO (by with_reducible assumption) (by with_reducible assumption) | lia | (simp only [List.length_append, List.length_cons, List.length_nil] at *; lia))); (case z92ik => ktr_rel); (focus k_extra "rmD"); (focus k_extra "rmU"); intro xs8ₘ n8ₘ nw8ₘ r'ₘ h'ₘ tk'ₘ F'ₘ en1ₘ en2ₘ en3ₘ lkₘ N'ₘ ha8ₘ hops8ₘ hxl8ₘ; (try (have hzNₘ := Num2.add (by with_reducible assumption) hops8ₘ)); (try dsimp only); (try k_sweep); (try k_fold))))
  k_with "call ref" => ((fail_if_success k_extra "o15"); (k_here; (with_reducible show wpAny _ _ (call (Value.ref 712) [_, _, _, _, _, _]) _ _ _); k_dflt (refine' usx3 ?z93B ?z93F ?z93X ?z93N ?z93T ?z93hk ?z93P1 ?z93P2 ?z93P3 (add6_use ?z93hs ?z93hop ?z93hm ?z93hx ?z93h4) ?_ ?_ (cur_addC ?z93ik ?_); (case z93B => k_asm); (case z93F => k_asm); (case z93X => k_asm); (case z93N => k_asm); (case z93T => k_asm); (case z93hk => first | exact rfl | assumption); (case z93P1 => tb_start); (case z93P2 => tb_start); (case z93P3 => tb_start); (case z93hs => (refine Sta.mono (by with_reducible assumption) ?_ ?_ ?_ ?_; (focus lcg_sub); (focus k_all); (focus k_all); (focus k_all))); (case z93hop => with_reducible assumption); (case z93hm => z_head); (case z93hx => (first | exact lenX (by with_reducible assumption) (by with_reducible assumption) | exact lenO (by with_reducible assumption) (by with_reducible assumption) | lia | (simp only [List.length_append, List.length_cons, List.length_nil] at *; lia))); (case z93h4 => first | assumption | exact .val (by assumption) | exact .val .none | exact .val (.int (by lia) (by lia)) | exact .told (by k_mem)); (case z93ik => ktr_rel); (focus k_extra "rmD"); (focus k_extra "rmU"); intro xs8ₘ n8ₘ nw8ₘ r'ₘ h'ₘ tk'ₘ F'ₘ en1ₘ en2ₘ en3ₘ lkₘ N'ₘ ha8ₘ hops8ₘ hxl8ₘ; (try (have hzNₘ := Num2.add (by with_reducible assumption) hops8ₘ)); (try dsimp only); (try k_sweep); (try k_fold))))
  k_with "k_all" => ((fail_if_success k_extra "o15"); first | ((with_reducible refine' off_sub ?z94h ?z94s); (case z94h => tbn_find); (case z94s => z_head)) | ((with_reducible refine' off_lt2 ?z94a ?z94h ?z94s); (case z94a => first | (with_reducible assumption) | assumption); (case z94h => tbn_find); (case z94s => z_head)))
  k_with "x_run" => ((fail_if_success k_extra "o15"); first | (with_reducible assumption) | (refine labs_app ?_ ?_; (focus x_run); (focus lia)) | (refine labs_dec (by with_reducible assumption) ?_; lia))
  k_with "x_auto" => ((fail_if_success k_extra "o15"); first | (with_reducible assumption) | (refine labs_app_ne ?_ ?_; (focus x_auto); (focus lia)) | (refine labs_ne ?_; with_reducible assumption) | (refine labs_ne (labs_dec (by with_reducible assumption) ?_); lia) | (refine Fx.fresh (by with_reducible assumption) ?_ ?_; (focus lia); x_auto))
  k_with "x_head" => ((fail_if_success k_extra "o15"); first | (with_reducible exact Apart.nil) | (with_reducible refine Apart.app ?_ ?_; (focus x_head); x_head) | (with_reducible refine Apart.cons ?_ ?_; (focus k_all); x_head) | (refine Apart.subL (by with_reducible assumption) ?_; z_head))
  k_with "z_run" => ((fail_if_success k_extra "o15"); first | (with_reducible exact TailT.here) | ((with_reducible refine' TailT.d1 ?z95pk); (case z95pk => z_run)) | ((with_reducible refine' TailT.d2 ?z95pk); (case z95pk => z_run)) | ((with_reducible refine' TailT.d3 ?z95pk); (case z95pk => z_run)) | ((with_reducible refine' TailT.cons ?z95pk); (case z95pk => z_run)) | ((with_reducible refine' TailT.app ?z95pk); (case z95pk => z_run)))
  k_with "call ref" => ((fail_if_success k_extra "o15"); (k_here; (with_reducible show wpAny _ _ (call (Value.ref 741) [_, _]) _ _ _); k_dflt (refine' usx1 ?z96B ?z96F ?z96X ?z96N ?z96T ?z96hk ?z96P1 (regn_use (by with_reducible assumption) ?z96hP ?z96ho) ?_ ?_ (cur_reg ?_); (case z96B => k_asm); (case z96F => k_asm); (case z96X => k_asm); (case z96N => k_asm); (case z96T => k_asm); (case z96hk => first | exact rfl | assumption); (case z96P1 => tb_start); (case z96hP => k_mem); (case z96ho => k_all); (focus k_extra "rmD"); (focus k_extra "rmU"); intro u8ₘ uR8ₘ h'ₘ tk'ₘ F'ₘ en1ₘ lkₘ N'ₘ; (try dsimp only); (try k_sweep); (try k_fold))))
  k_with "call ref" => ((fail_if_success k_extra "o15"); (k_here; (with_reducible show wpAny _ _ (call (Value.ref 541) [_, _, _]) _ _ _); k_dflt (refine' usx3 ?z97B ?z97F ?z97X ?z97N ?z97T ?z97hk ?z97P1 ?z97P2 ?z97P3 (expr3_use ?z97hs ?z97hn ?z97hE ?z97ht ?z97ho ?z97hm ?z97hl ?z97hz) ?_ ?_ (cur_compQ ?z97ik ?_); (case z97B => k_asm); (case z97F => k_asm); (case z97X => k_asm); (case z97N => k_asm); (case z97T => k_asm); (case z97hk => first | exact rfl | assumption); (case z97P1 => tb_start); (case z97P2 => tb_start); (case z97P3 => tb_start); (case z97hs => (refine Sta.mono (by with_reducible assumption) ?_ ?_ ?_ ?_; (focus lcg_sub); (focus k_all); (focus k_all); (focus k_all))); (case z97hn => (refine NodeIn.mono ?_ (fun _ h => h) (by with_reducible assumption); lcg_sub)); (case z97hE => with_reducible assumption); (case z97ht => first | (with_reducible assumption) | lia); (case z97ho => with_reducible assumption); (case z97hm => z_head); (case z97hl => with_reducible assumption); (case z97hz => (first | (with_reducible assumption) | exact Num2.take (by with_reducible assumption) | exact Nums.cast (by with_reducible assumption) (by with_reducible assumption) | (refine Nums.mk' ?_ ?_ ?_ ?_; (focus lia); (focus x_run); (focus (first | exact lenX (by with_reducible assumption) (by with_reducible assumption) | exact lenO (by with_reducible assumption) (by with_reducible assumption) | lia | (simp only [List.length_append, List.length_cons, List.length_nil] at *; lia))); (focus (first | exact lenX (by with_reducible assumption) (by with_reducible assumption) | exact lenO (by with_reducible assumption) (by with_reducible assumption) | lia | (simp only [List.length_append, List.length_cons, List.length_nil] at *; lia)))))); (case z97ik => ktr_rel); (focus k_extra "rmD"); (focus k_extra "rmU"); intro R8ₘ N8ₘ ops8ₘ labs8ₘ xs8ₘ n8ₘ oL8ₘ nw8ₘ uR8ₘ uN8ₘ u8ₘ h'ₘ tk'ₘ F'ₘ en1ₘ en2ₘ en3ₘ lkₘ N'ₘ ec8ₘ ha8ₘ h81ₘ h82ₘ h83ₘ ho8ₘ hl8ₘ hfx8ₘ hgt8ₘ hlen8ₘ hll8ₘ hle8ₘ hxl8ₘ; (try simp only [ad0, ad1, mx0, mx1, mx2] at ec8ₘ); (try (have hzNₘ := Num2.step (by with_reducible assumption) hfx8ₘ hgt8ₘ hlen8ₘ hll8ₘ)); (try dsimp only); (try k_sweep); (try k_fold))))
  k_with "UnrEnd" => ((fail_if_success k_extra "o15"); (refine' UnrEnd.introP ?z98F ?z98N ?z98P ?z98off ?_; (case z98F => k_asm); (case z98N => k_asm); (case z98P => tb_start); (case z98off => k_all)))
  exact True.intro

theorem len_0 {prog : PySem.Program} {w : World} {A : Around} {E : Value → Shared → Prop} {s : Shared} {h₀ : Heap} {L l : Addr} {news : List (Addr × Obj)} {n : Nat} {Q : Value → Shared → Prop} (N : News h₀ L s.heap news) (hm : (l, listOf #[] n) ∈ news) (h : Q (.int 0 (s.toks + 1)) { s with toks := s.toks + 1 + 1 }) :
    wpAny (model prog w) A (call (.builtin "len") [.ref l]) Q E s := len_open (vs := []) N hm (by decide) h
theorem len_1 {prog : PySem.Program} {w : World} {A : Around} {E : Value → Shared → Prop} {s : Shared} {h₀ : Heap} {L l : Addr} {news : List (Addr × Obj)} {n : Nat} {a : Value} {Q : Value → Shared → Prop} (N : News h₀ L s.heap news) (hm : (l, listOf #[a] n) ∈ news) (h : Q (.int 1 (s.toks + 1)) { s with toks := s.toks + 1 + 1 }) :
    wpAny (model prog w) A (call (.builtin "len") [.ref l]) Q E s := len_open (vs := [a]) N hm (by simp) h
theorem len_2 {prog : PySem.Program} {w : World} {A : Around} {E : Value → Shared → Prop} {s : Shared} {h₀ : Heap} {L l : Addr} {news : List (Addr × Obj)} {n : Nat} {a b : Value} {Q : Value → Shared → Prop} (N : News h₀ L s.heap news) (hm : (l, listOf #[a, b] n) ∈ news) (h : Q (.int 2 (s.toks + 1)) { s with toks := s.toks + 1 + 1 }) :
    wpAny (model prog w) A (call (.builtin "len") [.ref l]) Q E s := len_open (vs := [a, b]) N hm (by simp) h
theorem len_3 {prog : PySem.Program} {w : World} {A : Around} {E : Value → Shared → Prop} {s : Shared} {h₀ : Heap} {L l : Addr} {news : List (Addr × Obj)} {n : Nat} {a b c : Value} {Q : Value → Shared → Prop} (N : News h₀ L s.heap news) (hm : (l, listOf #[a, b, c] n) ∈ news) (h : Q (.int 3 (s.toks + 1)) { s with toks := s.toks + 1 + 1 }) :
    wpAny (model prog w) A (call (.builtin "len") [.ref l]) Q E s := len_open (vs := [a, b, c]) N hm (by simp) h
theorem item_w {prog : PySem.Program} {w : World} {A : Around} {E : Value → Shared → Prop} {s : Shared} {h₀ : Heap} {L l : Addr} {news : List (Addr × Obj)} {vs : List Value} {n : Nat} {value slice : PySem.Expr} {k : Int} {u : Tok} {v : Value} {Q : Value → Shared → Prop} (N : News h₀ L s.heap news) (hm : (l, listOf vs.toArray n) ∈ news) (hv : vs[k.toNat]? = some v) (h0 : 0 ≤ k) (hfit : vs.length < 2 ^ 62) (h : Q v s)
    (hs : subscripted slice false (.ref l) (.int k u) = operate [.ref l, .int k u] (getItem (.ref l) (.int k u)) := by with_unfolding_all rfl) :
    wpAny (model prog w) A (subscriptTail value slice (.ref l) (.int k u)) Q E s := by
  have hk : k.toNat < vs.length := by
    rcases Nat.lt_or_ge k.toNat vs.length with q | q
    · exact q
    · rw [List.getElem?_eq_none q] at hv; cases hv
  exact item_open N hm h0 (by lia) hfit (fun v' h' => by rw [hv] at h'; cases h'; exact h) hs
theorem lines17 : True := by
  k_with "subscriptTail Name" => ((fail_if_success k_extra "o15"); k_extra "subscriptTail")
  k_with "subscriptTail Name Constant ref int" => ((fail_if_success k_extra "o15"); k_extra "subscriptTail")
  k_with "subscriptTail Name Name ref int" => ((fail_if_success k_extra "o15"); k_extra "subscriptTail")
  k_with "subscriptTail" => ((fail_if_success k_extra "o15"); (k_here; (with_reducible show wpAny _ _ (subscriptTail _ _ (Value.ref _) (Value.int _ _)) _ _ _); k_dflt (first | (refine' item_w (vs := [_, _]) ?z99N ?z99m ?z99v ?z99a ?z99f ?_ ?z99hs; (case z99N => k_asm); (case z99m => k_mem); (case z99v => exact rfl); (case z99a => decide); (case z99f => (simp only [List.length_cons, List.length_nil]; lia)); (case z99hs => with_unfolding_all rfl); k_whole) | (refine' item_w (vs := [_]) ?z99N ?z99m ?z99v ?z99a ?z99f ?_ ?z99hs; (case z99N => k_asm); (case z99m => k_mem); (case z99v => exact rfl); (case z99a => decide); (case z99f => (simp only [List.length_cons, List.length_nil]; lia)); (case z99hs => with_unfolding_all rfl); k_whole))))
  k_with "call builtin:len" => ((fail_if_success k_extra "o15"); (k_here; k_dflt (first | (refine' len_2 ?z100N ?z100m ?_; (case z100N => k_asm); (case z100m => k_mem); k_whole) | (refine' len_1 ?z100N ?z100m ?_; (case z100N => k_asm); (case z100m => k_mem); k_whole) | (refine' len_0 ?z100N ?z100m ?_; (case z100N => k_asm); (case z100m => k_mem); k_whole))))
  exact True.intro
set_option maxRecDepth 100000 in
set_option maxHeartbeats 2000000 in
theorem row_0 {w : World} {c : CK} {k : PK} {K : List Value} {d : Nat} {R N : Int} {ops : List Op} {labs : List (Int × Int)} {xs : List Value} {n n1 : Nat} {l : Addr} {uR uN : Tok} {oL : Obj} {os osm : List (Addr × Obj)} (hs : Sta w c k K os) (hl0 : (l, listOf #[] n1) ∈ os) (ho : OpsIn osm xs ops) (hm : ∀ p ∈ osm, p ∈ os) (hl : IntD w oL (labD labs)) (hz : Nums N ops labs (0)) :
   Does w 555 (8 * d + 9) [.ref c.Kc, .ref l] ((k.OL, listOf xs.toArray n) :: (c.dP, progD w k R uR N uN) :: (k.LD, oL) :: os) (CompQ w c k os osm N ops labs (0) ⟨R + 1, N, ops, labs⟩ fun r => ∃ u, r = .int R u) := by
  obtain ⟨⟨c1, c2, c3, c4, c5, c6, c7⟩, hagg, hkn, o1, o2, o3, d1, d2, d3, hsm⟩ := id hs
  obtain ⟨hN0, hlb, hol, hbl⟩ := id hz
  have hxl := OpsIn.len ho
  refine Does.of ?_
  intro dp un gd cn cs a ccd cl outer A₀ base h₀ L m p loose mean mg mb hp0 gn0 dr0 tk0 oo0 Q E B F X N T hk hd hu hret
  revert X; k_fill; intro X
  refine wpAny_call ?_
  k_dflt ktr_enter
  k_steps
  all_goals first | ((refine' comp_endQ (by with_reducible assumption) ?F ?N ?T ?ho ?hl ?m1 ?m2 ?m3 ?e ?hP ?a0 ?a1 ?a2 ?a3 ?b0 ?b1 ?b2 ?b3; (case F => with_reducible assumption); (case N => with_reducible assumption); (case T => z_run); (case m1 => k_mem); (case m2 => k_mem); (case m3 => k_mem); (case ho => (refine OpsIn.mono ?_ (by with_reducible assumption); lcg_sub)); (case hl => with_reducible assumption); (case e => first | rfl | (simp only [comp, known1, St.add, St.reg, St.lab, St.place, *]; done) | fail); (case hP => first | exact True.intro | exact ⟨_, rfl⟩); (case a0 => x_head); (case a1 => k_all); (case a2 => k_all); (case a3 => k_all); (case b0 => first | (with_reducible assumption) | exact Fx.refl | (refine Fx.trans ?_ (by with_reducible assumption); with_reducible assumption) | fail); (case b1 => x_run); (case b2 => first | lia | (simp only [List.length_append, List.length_cons, List.length_nil] at *; lia)); (case b3 => first | lia | (simp only [List.length_append, List.length_cons, List.length_nil] at *; lia)))) | fail
set_option maxRecDepth 100000 in
set_option maxHeartbeats 2000000 in
theorem row_1 {w : World} {c : CK} {k : PK} {K : List Value} {v1 : Value} {t1 : Tr} {d : Nat} {R N : Int} {ops : List Op} {labs : List (Int × Int)} {xs : List Value} {n n1 : Nat} {l : Addr} {uR uN : Tok} {oL : Obj} {os osm : List (Addr × Obj)} (hs : Sta w c k K os) (hl0 : (l, listOf #[v1] n1) ∈ os) (h1 : NodeIn w os K v1 t1) (hE1 : ExprD w t1) (ht1 : t1.depth ≤ d) (ho : OpsIn osm xs ops) (hm : ∀ p ∈ osm, p ∈ os) (hl : IntD w oL (labD labs)) (hz : Nums N ops labs (t1.nops)) :
   Does w 555 (8 * d + 9) [.ref c.Kc, .ref l] ((k.OL, listOf xs.toArray n) :: (c.dP, progD w k R uR N uN) :: (k.LD, oL) :: os) (CompQ w c k os osm N ops labs (t1.nops) (comp t1 R ⟨R + 1, N, ops, labs⟩) fun r => ∃ u, r = .int R u) := by
  obtain ⟨⟨c1, c2, c3, c4, c5, c6, c7⟩, hagg, hkn, o1, o2, o3, d1, d2, d3, hsm⟩ := id hs
  obtain ⟨hN0, hlb, hol, hbl⟩ := id hz
  have hxl := OpsIn.len ho
  have hz2 : Num2 N ops labs (t1.nops + 0) (t1.nops + 0) := Num2.mk' hz (by lia) (by lia)
  refine Does.of ?_
  intro dp un gd cn cs a ccd cl outer A₀ base h₀ L m p loose mean mg mb hp0 gn0 dr0 tk0 oo0 Q E B F X N T hk hd hu hret
  revert X; k_fill; intro X
  refine wpAny_call ?_
  k_dflt ktr_enter
  k_steps
  all_goals first | ((refine' comp_endQ (by with_reducible assumption) ?F ?N ?T ?ho ?hl ?m1 ?m2 ?m3 ?e ?hP ?a0 ?a1 ?a2 ?a3 ?b0 ?b1 ?b2 ?b3; (case F => with_reducible assumption); (case N => with_reducible assumption); (case T => z_run); (case m1 => k_mem); (case m2 => k_mem); (case m3 => k_mem); (case ho => (refine OpsIn.mono ?_ (by with_reducible assumption); lcg_sub)); (case hl => with_reducible assumption); (case e => first | rfl | (simp only [comp, known1, St.add, St.reg, St.lab, St.place, *]; done) | fail); (case hP => first | exact True.intro | exact ⟨_, rfl⟩); (case a0 => x_head); (case a1 => k_all); (case a2 => k_all); (case a3 => k_all); (case b0 => first | (with_reducible assumption) | exact Fx.refl | (refine Fx.trans ?_ (by with_reducible assumption); with_reducible assumption) | fail); (case b1 => x_run); (case b2 => first | lia | (simp only [List.length_append, List.length_cons, List.length_nil] at *; lia)); (case b3 => first | lia | (simp only [List.length_append, List.length_cons, List.length_nil] at *; lia)))) | fail
set_option maxRecDepth 100000 in
set_option maxHeartbeats 2000000 in
theorem row_2 {w : World} {c : CK} {k : PK} {K : List Value} {v1 : Value} {t1 : Tr} {v2 : Value} {t2 : Tr} {d : Nat} {R N : Int} {ops : List Op} {labs : List (Int × Int)} {xs : List Value} {n n1 : Nat} {l : Addr} {uR uN : Tok} {oL : Obj} {os osm : List (Addr × Obj)} (hs : Sta w c k K os) (hl0 : (l, listOf #[v1, v2] n1) ∈ os) (h1 : NodeIn w os K v1 t1) (hE1 : ExprD w t1) (ht1 : t1.depth ≤ d) (h2 : NodeIn w os K v2 t2) (hE2 : ExprD w t2) (ht2 : t2.depth ≤ d) (ho : OpsIn osm xs ops) (hm : ∀ p ∈ osm, p ∈ os) (hl : IntD w oL (labD labs)) (hz : Nums N ops labs (t1.nops + t2.nops)) :
   Does w 555 (8 * d + 9) [.ref c.Kc, .ref l] ((k.OL, listOf xs.toArray n) :: (c.dP, progD w k R uR N uN) :: (k.LD, oL) :: os) (CompQ w c k os osm N ops labs (t1.nops + t2.nops) (comp t2 (R + 1) (comp t1 R ⟨R + 2, N, ops, labs⟩)) fun r => ∃ u, r = .int R u) := by
  obtain ⟨⟨c1, c2, c3, c4, c5, c6, c7⟩, hagg, hkn, o1, o2, o3, d1, d2, d3, hsm⟩ := id hs
  obtain ⟨hN0, hlb, hol, hbl⟩ := id hz
  have hxl := OpsIn.len ho
  have hz2 : Num2 N ops labs (t1.nops + (t2.nops + 0)) (t1.nops + (t2.nops + 0)) := Num2.mk' hz (by lia) (by lia)
  refine Does.of ?_
  intro dp un gd cn cs a ccd cl outer A₀ base h₀ L m p loose mean mg mb hp0 gn0 dr0 tk0 oo0 Q E B F X N T hk hd hu hret
  revert X; k_fill; intro X
  refine wpAny_call ?_
  k_dflt ktr_enter
  k_steps
  all_goals first | ((refine' comp_endQ (by with_reducible assumption) ?F ?N ?T ?ho ?hl ?m1 ?m2 ?m3 ?e ?hP ?a0 ?a1 ?a2 ?a3 ?b0 ?b1 ?b2 ?b3; (case F => with_reducible assumption); (case N => with_reducible assumption); (case T => z_run); (case m1 => k_mem); (case m2 => k_mem); (case m3 => k_mem); (case ho => (refine OpsIn.mono ?_ (by with_reducible assumption); lcg_sub)); (case hl => with_reducible assumption); (case e => first | rfl | (simp only [comp, known1, St.add, St.reg, St.lab, St.place, *]; done) | fail); (case hP => first | exact True.intro | exact ⟨_, rfl⟩); (case a0 => x_head); (case a1 => k_all); (case a2 => k_all); (case a3 => k_all); (case b0 => first | (with_reducible assumption) | exact Fx.refl | (refine Fx.trans ?_ (by with_reducible assumption); with_reducible assumption) | fail); (case b1 => x_run); (case b2 => first | lia | (simp only [List.length_append, List.length_cons, List.length_nil] at *; lia)); (case b3 => first | lia | (simp only [List.length_append, List.length_cons, List.length_nil] at *; lia)))) | fail
end
end Mine
end
section
open PySem PySem.W PyProof.Rows PySem.Spec PyProof.V
namespace Mine
section
variable {prog : PySem.Program} {w : World} {A : Around} {E : Value → Shared → Prop} {s : Shared} {env : Env} {h₀ : Heap} {target : PySem.Expr} {body : List Stmt} {Q : Flow → Shared → Prop}
theorem is_ref_self {M : Model} {x : Addr} {R : Value → Shared → Prop} (h : R (.bool true) s) : wpAny M A (compareOp .Is (.ref x) (.ref x)) R E s := by
  show wpAny M A (do return .bool (← isSame (.ref x) (.ref x))) R E s
  exact wpAny_bind (wpAny_isSame_ref_self (wpAny_pure h))
theorem two_rest {I ax : Addr} {lo : Obj} {vs : List Value} {m₀ : Str → Option Value} {news : List (Addr × Obj)} (x1 x2 : Str) (Hit : Nat → Prop) (hm : (ax, lo) ∈ news)
    (turn : ∀ i v u1 u2 it h tk, vs[i]? = some v → it.cls = .type "list_iterator" → Fr h₀ env.locals h (fun y => if y = x2 then u2 else if y = x1 then u1 else m₀ y) → News h₀ env.locals h ((I, it) :: news) →
      wpAny (model prog w) A (assign target env v) (fun _ s₂ => wpAny (model prog w) A (execs body env) (UnrPostW h₀ env.locals { s with heap := h, toks := tk } [(I, it)] (fun m' n' => (∀ y, y ≠ x1 → y ≠ x2 → m' y = m₀ y) ∧ n' = news ∧ ¬ Hit i) Q) E s₂) E { s with heap := h, toks := tk })
    (done : ∀ u1 u2 h tk, (∀ i, i < vs.length → ¬ Hit i) → Fr h₀ env.locals h (fun y => if y = x2 then u2 else if y = x1 then u1 else m₀ y) → News h₀ env.locals h news → Q .next { s with heap := h, toks := tk }) :
    ItemsRest prog w A E h₀ env target body Q s [(I, "list_iterator")] [(ax, lo)] (vs.map .val) m₀ news := by
  have cc : ∀ {mm : Str → Option Value}, (∀ y, y ≠ x1 → y ≠ x2 → mm y = m₀ y) → mm = fun y => if y = x2 then mm x2 else if y = x1 then mm x1 else m₀ y := fun {mm} k => by
    funext y
    by_cases h2 : y = x2
    · rw [if_pos h2, h2]
    · rw [if_neg h2]
      by_cases h1 : y = x1
      · rw [if_pos h1, h1]
      · rw [if_neg h1]; exact k y h1 h2
  have key : ∀ (r : List Value) (i : Nat) (mm : Str → Option Value), vs.drop i = r → i + r.length = vs.length → (∀ y, y ≠ x1 → y ≠ x2 → mm y = m₀ y) → (∀ j, j < i → ¬ Hit j) → ItemsRest prog w A E h₀ env target body Q s [(I, "list_iterator")] [(ax, lo)] (r.map .val) mm news := by
    intro r
    induction r with
    | nil =>
      intro i mm hr hi hk hn
      have e : i = vs.length := by simpa using hi
      subst e
      refine ItemsRest.zero fun h tk F N => ?_
      rw [cc hk] at F
      exact done _ _ h tk hn F N
    | cons v r ih =>
      intro i mm hr hi hk hn
      have hv : vs[i]? = some v := by
        have := congrArg (fun l => l[0]?) hr
        simpa using this
      have hr' : vs.drop (i + 1) = r := by
        have := congrArg List.tail hr
        simpa using this
      refine ItemsRest.val fun h tk F => AllObj.cons fun it hit => AllObj.nil fun N => ?_
      rw [cc hk] at F
      refine wpAny_mono (turn i v _ _ it h tk hv hit F N) (fun _ s₂ hp => wpAny_mono hp (fun f s₃ hq => ?_) fun _ _ e => e) fun _ _ e => e
      have fin : UnrEndW h₀ env.locals { s with heap := h, toks := tk } [(I, it)] (fun m' n' => (∀ y, y ≠ x1 → y ≠ x2 → m' y = m₀ y) ∧ n' = news ∧ ¬ Hit i) s₃ →
          UnrEndW h₀ env.locals { s with heap := h, toks := tk } [(I, it)] (fun m' n' => SubL [(ax, lo)] n' ∧ ItemsRest prog w A E h₀ env target body Q s [(I, "list_iterator")] [(ax, lo)] (r.map .val) m' n') s₃ := by
        rintro ⟨h', tk', m', nw', e, F', N', off, hk', rfl, hno⟩
        refine ⟨h', tk', m', nw', e, F', N', off, ⟨hm, trivial⟩, ih (i + 1) m' hr' (by simp only [List.length_cons] at hi; lia) hk' fun j hj => ?_⟩
        rcases Nat.lt_or_ge j i with q | q
        · exact hn j q
        · have : j = i := by lia
          subst this; exact hno
      cases f with
      | ret v => exact hq
      | brk => exact hq
      | next => exact fin hq
      | cont => exact fin hq
  exact key vs 0 m₀ rfl (by simp) (fun _ _ _ => rfl) fun j hj => absurd hj (Nat.not_lt_zero _)
theorem two_end {L I : Addr} {it : Obj} {m₀ : Str → Option Value} {x1 x2 : Str} {Hit : Prop} {s₁ : Shared} {h' : Heap} {tk : Nat} {c1 c2 u1 u2 : Option Value} {all news : List (Addr × Obj)} (F : Fr h₀ L h' (fun y => if y = x2 then c2 else if y = x1 then c1 else if y = x2 then u2 else if y = x1 then u1 else m₀ y)) (N : News h₀ L h' all)
    (sub : ∀ p ∈ (I, it) :: news, p ∈ all) (off : ∀ p ∈ news, p.1 ≠ I) (no : ¬ Hit) : UnrEndW h₀ L s₁ [(I, it)] (fun m' n' => (∀ y, y ≠ x1 → y ≠ x2 → m' y = m₀ y) ∧ n' = news ∧ ¬ Hit) { s₁ with heap := h', toks := tk } :=
  ⟨h', tk, _, news, rfl, F, fun p hp => N p (sub p hp), fun p hp q hq => by rw [List.mem_singleton.mp hq]; exact off p hp, fun y h1 h2 => by simp only [if_neg h1, if_neg h2], rfl, no⟩
end
theorem ofStr_ne {a b : String} (h : (Str.ofString a == Str.ofString b) = false) : Str.ofString a ≠ Str.ofString b := fun e => by rw [e, beq_self_eq_true] at h; cases h
theorem known_ne {w : World} {h₀ h : Heap} {L x dx x8 dx8 : Addr} {news : List (Addr × Obj)} {t1 t2 t3 t4 s1 s2 s3 s4 u u8 : Tok} {l l8 : Addr} {nm : Str} (N : News h₀ L h news) (h1 : (x, instObj 354 dx) ∈ news) (h2 : (dx, callD w t1 t2 t3 t4 (.str nm u) l) ∈ news)
    (k1 : (x8, instObj 354 dx8) ∈ news) (k2 : (dx8, callD w s1 s2 s3 s4 (.str (Str.ofString "sum") u8) l8) ∈ news) (hn : nm ≠ Str.ofString "sum") : x8 ≠ x := by
  rintro rfl
  have e1 := (N _ h1).1
  have e2 := (N _ k1).1
  rw [e1] at e2
  have e3 : dx = dx8 := by
    have := Option.some.inj e2
    simp only [Obj.mk.injEq, Option.some.injEq] at this
    exact this.2.1
  subst e3
  have e4 := (N _ h2).1
  have e5 := (N _ k2).1
  rw [e4] at e5
  have e6 := Option.some.inj e5
  unfold callD dictOf at e6
  simp only [Obj.mk.injEq, Data.dict.injEq, List.toArray_inj, Array.mk.injEq, List.cons.injEq, DictEntry.mk.injEq, Value.str.injEq] at e6
  exact hn (by simp_all)
end Mine
end
section
open PySem PySem.W PyProof.Rows PySem.Spec PyProof.V
namespace Mine
noncomputable def FoldTo (w : World) (a b : String) : Prop := ∀ (t : Tok) (os : List (Addr × Obj)), Does w 461 2 [.str (Str.ofString a) t] os (fun r l => ∃ t', r = .str (Str.ofString b) t' ∧ l = os)
theorem fold_use {w : World} {a b : String} (h : FoldTo w a b) (t : Tok) (os : List (Addr × Obj)) : Does w 461 2 [.str (Str.ofString a) t] os (fun r l => ∃ t', r = .str (Str.ofString b) t' ∧ l = os) := h t os
inductive CallK (w : World) (os : List (Addr × Obj)) (K : List Value) (d : Nat) (l : Addr) : String → Tr → Prop
  | f0 {n} : (l, listOf #[] n) ∈ os → CallK w os K d l "abs" .f0
  | f1 {n v1 x1} : (l, listOf #[v1] n) ∈ os → NodeIn w os K v1 x1 → ExprD w x1 → x1.depth ≤ d → CallK w os K d l "abs" (.f1 x1)
  | max {n v1 v2 x1 x2} : (l, listOf #[v1, v2] n) ∈ os → NodeIn w os K v1 x1 → ExprD w x1 → x1.depth ≤ d → NodeIn w os K v2 x2 → ExprD w x2 → x2.depth ≤ d → CallK w os K d l "max" (.f2 .max x1 x2)
  | co2 {n v1 v2 x1 x2} : (l, listOf #[v1, v2] n) ∈ os → NodeIn w os K v1 x1 → ExprD w x1 → x1.depth ≤ d → NodeIn w os K v2 x2 → ExprD w x2 → x2.depth ≤ d → CallK w os K d l "coalesce" (.f2 .coalesce x1 x2)
  | if2 {n v1 v2 x1 x2} : (l, listOf #[v1, v2] n) ∈ os → NodeIn w os K v1 x1 → ExprD w x1 → x1.depth ≤ d → NodeIn w os K v2 x2 → ExprD w x2 → x2.depth ≤ d → CallK w os K d l "ifnull" (.f2 .ifnull x1 x2)
  | co3 {n v1 v2 v3 x1 x2 x3} : (l, listOf #[v1, v2, v3] n) ∈ os → NodeIn w os K v1 x1 → ExprD w x1 → x1.depth ≤ d → NodeIn w os K v2 x2 → ExprD w x2 → x2.depth ≤ d → NodeIn w os K v3 x3 → ExprD w x3 → x3.depth ≤ d → CallK w os K d l "coalesce" (.f3 .coalesce x1 x2 x3)
  | iif {n v1 v2 v3 x1 x2 x3 t} : (l, listOf #[v1, v2, v3] n) ∈ os → NodeIn w os K v1 x1 → ExprD w x1 → x1.depth ≤ d → NodeIn w os K v2 x2 → ExprD w x2 → x2.depth ≤ d → NodeIn w os K v3 x3 → ExprD w x3 → x3.depth ≤ d → (∀ tg s, comp t tg s = comp (.f3 .iif x1 x2 x3) tg s) → t.nops = x1.nops + x2.nops + x3.nops + 2 → CallK w os K d l "iif" t
section
theorem lines18 : True := by
  k_with "o15" => skip
  k_with "call ref" => ((fail_if_success k_extra "o16"); (k_here; (with_reducible show wpAny _ _ (call (Value.ref 712) [_, _, _, _]) _ _ _); k_dflt (refine' usx3 ?z101B ?z101F ?z101X ?z101N ?z101T ?z101hk ?z101P1 ?z101P2 ?z101P3 (add4_use ?z101hs ?z101hop ?z101hm ?z101hx) ?_ ?_ (cur_addC ?z101ik ?_); (case z101B => k_asm); (case z101F => k_asm); (case z101X => k_asm); (case z101N => k_asm); (case z101T => k_asm); (case z101hk => first | exact rfl | assumption); (case z101P1 => tb_start); (case z101P2 => tb_start); (case z101P3 => tb_start); (case z101hs => (refine Sta.mono (by with_reducible assumption) ?_ ?_ ?_ ?_; (focus lcg_sub); (focus k_all); (focus k_all); (focus k_all))); (case z101hop => with_reducible assumption); (case z101hm => z_head); (case z101hx => (first | exact lenX (by with_reducible assumption) (by with_reducible assumption) | exact lenO (by with_reducible assumption) (by with_reducible assumption) | lia | (simp only [List.length_append, List.length_cons, List.length_nil] at *; lia))); (case z101ik => ktr_rel); (focus k_extra "rmD"); (focus k_extra "rmU"); intro xs8ₘ n8ₘ nw8ₘ r'ₘ h'ₘ tk'ₘ F'ₘ en1ₘ en2ₘ en3ₘ lkₘ N'ₘ ha8ₘ hops8ₘ hxl8ₘ; (try (have hzNₘ := Num2.add (by with_reducible assumption) hops8ₘ)); (try dsimp only); (try k_sweep); (try k_fold))))
  k_with "call ref" => ((fail_if_success k_extra "o16"); (k_here; (with_reducible show wpAny _ _ (call (Value.ref 712) [_, _, _, _, _]) _ _ _); k_dflt (refine' usx3 ?z102B ?z102F ?z102X ?z102N ?z102T ?z102hk ?z102P1 ?z102P2 ?z102P3 (add5_use ?z102hs ?z102hop ?z102hm ?z102hx) ?_ ?_ (cur_addC ?z102ik ?_); (case z102B => k_asm); (case z102F => k_asm); (case z102X => k_asm); (case z102N => k_asm); (case z102T => k_asm); (case z102hk => first | exact rfl | assumption); (case z102P1 => tb_start); (case z102P2 => tb_start); (case z102P3 => tb_start); (case z102hs => (refine Sta.mono (by with_reducible assumption) ?_ ?_ ?_ ?_; (focus lcg_sub); (focus k_all); (focus k_all); (focus k_all))); (case z102hop => with_reducible assumption); (case z102hm => z_head); (case z102hx => (first | exact lenX (by with_reducible assumption) (by with_reducible assumption) | exact lenO (by with_reducible assumption) (by with_reducible assumption) | lia | (simp only [List.length_append, List.length_cons, List.length_nil] at *; lia))); (case z102ik => ktr_rel); (focus k_extra "rmD"); (focus k_extra "rmU"); intro xs8ₘ n8ₘ nw8ₘ r'ₘ h'ₘ tk'ₘ F'ₘ en1ₘ en2ₘ en3ₘ lkₘ N'ₘ ha8ₘ hops8ₘ hxl8ₘ; (try (have hzNₘ := Num2.add (by with_reducible assumption) hops8ₘ)); (try dsimp only); (try k_sweep); (try k_fold))))
  k_with "call ref" => ((fail_if_success k_extra "o16"); (k_here; (with_reducible show wpAny _ _ (call (Value.ref 712) [_, _, _, _, _, _]) _ _ _); k_dflt (refine' usx3 ?z103B ?z103F ?z103X ?z103N ?z103T ?z103hk ?z103P1 ?z103P2 ?z103P3 (add6_use ?z103hs ?z103hop ?z103hm ?z103hx ?z103h4) ?_ ?_ (cur_addC ?z103ik ?_); (case z103B => k_asm); (case z103F => k_asm); (case z103X => k_asm); (case z103N => k_asm); (case z103T => k_asm); (case z103hk => first | exact rfl | assumption); (case z103P1 => tb_start); (case z103P2 => tb_start); (case z103P3 => tb_start); (case z103hs => (refine Sta.mono (by with_reducible assumption) ?_ ?_ ?_ ?_; (focus lcg_sub); (focus k_all); (focus k_all); (focus k_all))); (case z103hop => with_reducible assumption); (case z103hm => z_head); (case z103hx => (first | exact lenX (by with_reducible assumption) (by with_reducible assumption) | exact lenO (by with_reducible assumption) (by with_reducible assumption) | lia | (simp only [List.length_append, List.length_cons, List.length_nil] at *; lia))); (case z103h4 => first | assumption | exact .val (by assumption) | exact .val .none | exact .val (.int (by lia) (by lia)) | exact .told (by k_mem)); (case z103ik => ktr_rel); (focus k_extra "rmD"); (focus k_extra "rmU"); intro xs8ₘ n8ₘ nw8ₘ r'ₘ h'ₘ tk'ₘ F'ₘ en1ₘ en2ₘ en3ₘ lkₘ N'ₘ ha8ₘ hops8ₘ hxl8ₘ; (try (have hzNₘ := Num2.add (by with_reducible assumption) hops8ₘ)); (try dsimp only); (try k_sweep); (try k_fold))))
  k_with "call ref" => ((fail_if_success k_extra "o16"); (k_here; (with_reducible show wpAny _ _ (call (Value.ref 712) [_, _, _, _, _, _]) _ _ _); k_dflt (refine' usx3 ?z104B ?z104F ?z104X ?z104N ?z104T ?z104hk ?z104P1 ?z104P2 ?z104P3 (add6t_use ?z104hs ?z104hop ?z104hm ?z104hx ?z104h4) ?_ ?_ (cur_addC ?z104ik ?_); (case z104B => k_asm); (case z104F => k_asm); (case z104X => k_asm); (case z104N => k_asm); (case z104T => k_asm); (case z104hk => first | exact rfl | assumption); (case z104P1 => tb_start); (case z104P2 => tb_start); (case z104P3 => tb_start); (case z104hs => (refine Sta.mono (by with_reducible assumption) ?_ ?_ ?_ ?_; (focus lcg_sub); (focus k_all); (focus k_all); (focus k_all))); (case z104hop => with_reducible assumption); (case z104hm => z_head); (case z104hx => (first | exact lenX (by with_reducible assumption) (by with_reducible assumption) | exact lenO (by with_reducible assumption) (by with_reducible assumption) | lia | (simp only [List.length_append, List.length_cons, List.length_nil] at *; lia))); (case z104h4 => k_mem); (case z104ik => ktr_rel); (focus k_extra "rmD"); (focus k_extra "rmU"); intro xs8ₘ n8ₘ nw8ₘ r'ₘ h'ₘ tk'ₘ F'ₘ en1ₘ en2ₘ en3ₘ lkₘ N'ₘ ha8ₘ hops8ₘ hxl8ₘ; (try (have hzNₘ := Num2.add (by with_reducible assumption) hops8ₘ)); (try dsimp only); (try k_sweep); (try k_fold))))
  k_with "k_all" => ((fail_if_success k_extra "o16"); first | ((with_reducible refine' off_sub ?z105h ?z105s); (case z105h => tbn_find); (case z105s => z_head)) | ((with_reducible refine' off_lt2 ?z105a ?z105h ?z105s); (case z105a => first | (with_reducible assumption) | assumption); (case z105h => tbn_find); (case z105s => z_head)))
  k_with "x_run" => ((fail_if_success k_extra "o16"); first | (with_reducible assumption) | (refine labs_app ?_ ?_; (focus x_run); (focus lia)) | (refine labs_dec (by with_reducible assumption) ?_; lia))
  k_with "x_auto" => ((fail_if_success k_extra "o16"); first | (with_reducible assumption) | (refine labs_app_ne ?_ ?_; (focus x_auto); (focus lia)) | (refine labs_ne ?_; with_reducible assumption) | (refine labs_ne (labs_dec (by with_reducible assumption) ?_); lia) | (refine Fx.fresh (by with_reducible assumption) ?_ ?_; (focus lia); x_auto))
  k_with "x_head" => ((fail_if_success k_extra "o16"); first | (with_reducible exact Apart.nil) | (with_reducible refine Apart.app ?_ ?_; (focus x_head); x_head) | (with_reducible refine Apart.cons ?_ ?_; (focus k_all); x_head) | (refine Apart.subL (by with_reducible assumption) ?_; z_head))
  k_with "z_run" => ((fail_if_success k_extra "o16"); first | (with_reducible exact TailT.here) | ((with_reducible refine' TailT.d1 ?z106pk); (case z106pk => z_run)) | ((with_reducible refine' TailT.d2 ?z106pk); (case z106pk => z_run)) | ((with_reducible refine' TailT.d3 ?z106pk); (case z106pk => z_run)) | ((with_reducible refine' TailT.cons ?z106pk); (case z106pk => z_run)) | ((with_reducible refine' TailT.app ?z106pk); (case z106pk => z_run)))
  k_with "call ref" => ((fail_if_success k_extra "o16"); (k_here; (with_reducible show wpAny _ _ (call (Value.ref 555) [_, _]) _ _ _); k_dflt (refine' usx3 ?z107B ?z107F ?z107X ?z107N ?z107T ?z107hk ?z107P1 ?z107P2 ?z107P3 (row_0 (hs := ?z107hs) (hl0 := ?z107hl0)  (ho := ?z107ho) (hm := ?z107hm) (hl := ?z107hl) (hz := ?z107hz)) ?_ ?_ (cur_compQ1 ?z107ik ?_); (case z107B => k_asm); (case z107F => k_asm); (case z107X => k_asm); (case z107N => k_asm); (case z107T => k_asm); (case z107hk => first | exact rfl | assumption); (case z107P1 => tb_start); (case z107P2 => tb_start); (case z107P3 => tb_start); (case z107hl0 => k_mem); (case z107hs => (refine Sta.mono (by with_reducible assumption) ?_ ?_ ?_ ?_; (focus lcg_sub); (focus k_all); (focus k_all); (focus k_all))); (case z107ho => with_reducible assumption); (case z107hm => z_head); (case z107hl => with_reducible assumption); (case z107hz => (first | (with_reducible assumption) | exact Num2.take (by with_reducible assumption) | exact Nums.cast (by with_reducible assumption) (by with_reducible assumption) | (refine Nums.mk' ?_ ?_ ?_ ?_; (focus lia); (focus x_run); (focus (first | exact lenX (by with_reducible assumption) (by with_reducible assumption) | exact lenO (by with_reducible assumption) (by with_reducible assumption) | lia | (simp only [List.length_append, List.length_cons, List.length_nil] at *; lia))); (focus (first | exact lenX (by with_reducible assumption) (by with_reducible assumption) | exact lenO (by with_reducible assumption) (by with_reducible assumption) | lia | (simp only [List.length_append, List.length_cons, List.length_nil] at *; lia)))))); (case z107ik => ktr_rel); (focus k_extra "rmD"); (focus k_extra "rmU"); intro R8ₘ N8ₘ ops8ₘ labs8ₘ xs8ₘ n8ₘ oL8ₘ nw8ₘ uR8ₘ uN8ₘ u8ₘ h'ₘ tk'ₘ F'ₘ en1ₘ en2ₘ en3ₘ lkₘ N'ₘ ec8ₘ ha8ₘ h81ₘ h82ₘ h83ₘ ho8ₘ hl8ₘ hfx8ₘ hgt8ₘ hlen8ₘ hll8ₘ hle8ₘ hxl8ₘ; (try simp only [ad0, ad1, mx0, mx1, mx2] at ec8ₘ); (try (have hzNₘ := Num2.step (by with_reducible assumption) hfx8ₘ hgt8ₘ hlen8ₘ hll8ₘ)); (try dsimp only); (try k_sweep); (try k_fold))))
  k_with "call ref" => ((fail_if_success k_extra "o16"); (k_here; (with_reducible show wpAny _ _ (call (Value.ref 555) [_, _]) _ _ _); k_dflt (refine' usx3 ?z108B ?z108F ?z108X ?z108N ?z108T ?z108hk ?z108P1 ?z108P2 ?z108P3 (row_1 (hs := ?z108hs) (hl0 := ?z108hl0) (h1 := ?z108g1) (hE1 := ?z108e1) (ht1 := ?z108d1) (ho := ?z108ho) (hm := ?z108hm) (hl := ?z108hl) (hz := ?z108hz)) ?_ ?_ (cur_compQ1 ?z108ik ?_); (case z108B => k_asm); (case z108F => k_asm); (case z108X => k_asm); (case z108N => k_asm); (case z108T => k_asm); (case z108hk => first | exact rfl | assumption); (case z108P1 => tb_start); (case z108P2 => tb_start); (case z108P3 => tb_start); (case z108hl0 => k_mem); (case z108hs => (refine Sta.mono (by with_reducible assumption) ?_ ?_ ?_ ?_; (focus lcg_sub); (focus k_all); (focus k_all); (focus k_all))); (case z108g1 => (refine NodeIn.mono ?_ (fun _ h => h) (by with_reducible assumption); lcg_sub)); (case z108e1 => with_reducible assumption); (case z108d1 => with_reducible assumption); (case z108ho => with_reducible assumption); (case z108hm => z_head); (case z108hl => with_reducible assumption); (case z108hz => (first | (with_reducible assumption) | exact Num2.take (by with_reducible assumption) | exact Nums.cast (by with_reducible assumption) (by with_reducible assumption) | (refine Nums.mk' ?_ ?_ ?_ ?_; (focus lia); (focus x_run); (focus (first | exact lenX (by with_reducible assumption) (by with_reducible assumption) | exact lenO (by with_reducible assumption) (by with_reducible assumption) | lia | (simp only [List.length_append, List.length_cons, List.length_nil] at *; lia))); (focus (first | exact lenX (by with_reducible assumption) (by with_reducible assumption) | exact lenO (by with_reducible assumption) (by with_reducible assumption) | lia | (simp only [List.length_append, List.length_cons, List.length_nil] at *; lia)))))); (case z108ik => ktr_rel); (focus k_extra "rmD"); (focus k_extra "rmU"); intro R8ₘ N8ₘ ops8ₘ labs8ₘ xs8ₘ n8ₘ oL8ₘ nw8ₘ uR8ₘ uN8ₘ u8ₘ h'ₘ tk'ₘ F'ₘ en1ₘ en2ₘ en3ₘ lkₘ N'ₘ ec8ₘ ha8ₘ h81ₘ h82ₘ h83ₘ ho8ₘ hl8ₘ hfx8ₘ hgt8ₘ hlen8ₘ hll8ₘ hle8ₘ hxl8ₘ; (try simp only [ad0, ad1, mx0, mx1, mx2] at ec8ₘ); (try (have hzNₘ := Num2.step (by with_reducible assumption) hfx8ₘ hgt8ₘ hlen8ₘ hll8ₘ)); (try dsimp only); (try k_sweep); (try k_fold))))
  k_with "call ref" => ((fail_if_success k_extra "o16"); (k_here; (with_reducible show wpAny _ _ (call (Value.ref 555) [_, _]) _ _ _); k_dflt (refine' usx3 ?z109B ?z109F ?z109X ?z109N ?z109T ?z109hk ?z109P1 ?z109P2 ?z109P3 (row_2 (hs := ?z109hs) (hl0 := ?z109hl0) (h1 := ?z109g1) (hE1 := ?z109e1) (ht1 := ?z109d1) (h2 := ?z109g2) (hE2 := ?z109e2) (ht2 := ?z109d2) (ho := ?z109ho) (hm := ?z109hm) (hl := ?z109hl) (hz := ?z109hz)) ?_ ?_ (cur_compQ1 ?z109ik ?_); (case z109B => k_asm); (case z109F => k_asm); (case z109X => k_asm); (case z109N => k_asm); (case z109T => k_asm); (case z109hk => first | exact rfl | assumption); (case z109P1 => tb_start); (case z109P2 => tb_start); (case z109P3 => tb_start); (case z109hl0 => k_mem); (case z109hs => (refine Sta.mono (by with_reducible assumption) ?_ ?_ ?_ ?_; (focus lcg_sub); (focus k_all); (focus k_all); (focus k_all))); (case z109g1 => (refine NodeIn.mono ?_ (fun _ h => h) (by with_reducible assumption); lcg_sub)); (case z109e1 => with_reducible assumption); (case z109d1 => with_reducible assumption); (case z109g2 => (refine NodeIn.mono ?_ (fun _ h => h) (by with_reducible assumption); lcg_sub)); (case z109e2 => with_reducible assumption); (case z109d2 => with_reducible assumption); (case z109ho => with_reducible assumption); (case z109hm => z_head); (case z109hl => with_reducible assumption); (case z109hz => (first | (with_reducible assumption) | exact Num2.take (by with_reducible assumption) | exact Nums.cast (by with_reducible assumption) (by with_reducible assumption) | (refine Nums.mk' ?_ ?_ ?_ ?_; (focus lia); (focus x_run); (focus (first | exact lenX (by with_reducible assumption) (by with_reducible assumption) | exact lenO (by with_reducible assumption) (by with_reducible assumption) | lia | (simp only [List.length_append, List.length_cons, List.length_nil] at *; lia))); (focus (first | exact lenX (by with_reducible assumption) (by with_reducible assumption) | exact lenO (by with_reducible assumption) (by with_reducible assumption) | lia | (simp only [List.length_append, List.length_cons, List.length_nil] at *; lia)))))); (case z109ik => ktr_rel); (focus k_extra "rmD"); (focus k_extra "rmU"); intro R8ₘ N8ₘ ops8ₘ labs8ₘ xs8ₘ n8ₘ oL8ₘ nw8ₘ uR8ₘ uN8ₘ u8ₘ h'ₘ tk'ₘ F'ₘ en1ₘ en2ₘ en3ₘ lkₘ N'ₘ ec8ₘ ha8ₘ h81ₘ h82ₘ h83ₘ ho8ₘ hl8ₘ hfx8ₘ hgt8ₘ hlen8ₘ hll8ₘ hle8ₘ hxl8ₘ; (try simp only [ad0, ad1, mx0, mx1, mx2] at ec8ₘ); (try (have hzNₘ := Num2.step (by with_reducible assumption) hfx8ₘ hgt8ₘ hlen8ₘ hll8ₘ)); (try dsimp only); (try k_sweep); (try k_fold))))
  k_with "call ref" => ((fail_if_success k_extra "o16"); (k_here; (with_reducible show wpAny _ _ (call (Value.ref 683) [_, _, _]) _ _ _); k_dflt (refine' usx3 ?z110B ?z110F ?z110X ?z110N ?z110T ?z110hk ?z110P1 ?z110P2 ?z110P3 (first_2 (hs := ?z110hs) (hl0 := ?z110hl0) (h1 := ?z110g1) (hE1 := ?z110e1) (ht1 := ?z110d1) (h2 := ?z110g2) (hE2 := ?z110e2) (ht2 := ?z110d2) (ho := ?z110ho) (hm := ?z110hm) (hl := ?z110hl) (hz := ?z110hz)) ?_ ?_ (cur_compS ?z110ik ?_); (case z110B => k_asm); (case z110F => k_asm); (case z110X => k_asm); (case z110N => k_asm); (case z110T => k_asm); (case z110hk => first | exact rfl | assumption); (case z110P1 => tb_start); (case z110P2 => tb_start); (case z110P3 => tb_start); (case z110hl0 => k_mem); (case z110hs => (refine Sta.mono (by with_reducible assumption) ?_ ?_ ?_ ?_; (focus lcg_sub); (focus k_all); (focus k_all); (focus k_all))); (case z110g1 => (refine NodeIn.mono ?_ (fun _ h => h) (by with_reducible assumption); lcg_sub)); (case z110e1 => with_reducible assumption); (case z110d1 => with_reducible assumption); (case z110g2 => (refine NodeIn.mono ?_ (fun _ h => h) (by with_reducible assumption); lcg_sub)); (case z110e2 => with_reducible assumption); (case z110d2 => with_reducible assumption); (case z110ho => with_reducible assumption); (case z110hm => z_head); (case z110hl => with_reducible assumption); (case z110hz => (first | (with_reducible assumption) | exact Num2.take (by with_reducible assumption) | exact Nums.cast (by with_reducible assumption) (by with_reducible assumption) | (refine Nums.mk' ?_ ?_ ?_ ?_; (focus lia); (focus x_run); (focus (first | exact lenX (by with_reducible assumption) (by with_reducible assumption) | exact lenO (by with_reducible assumption) (by with_reducible assumption) | lia | (simp only [List.length_append, List.length_cons, List.length_nil] at *; lia))); (focus (first | exact lenX (by with_reducible assumption) (by with_reducible assumption) | exact lenO (by with_reducible assumption) (by with_reducible assumption) | lia | (simp only [List.length_append, List.length_cons, List.length_nil] at *; lia)))))); (case z110ik => ktr_rel); (focus k_extra "rmD"); (focus k_extra "rmU"); intro xs8ₘ n8ₘ oL8ₘ nw8ₘ uR8ₘ uN8ₘ r'ₘ h'ₘ tk'ₘ F'ₘ en1ₘ en2ₘ en3ₘ lkₘ N'ₘ ha8ₘ h81ₘ h82ₘ h83ₘ ho8ₘ hl8ₘ; (try dsimp only); (try k_sweep); (try k_fold))))
  k_with "call ref" => ((fail_if_success k_extra "o16"); (k_here; (with_reducible show wpAny _ _ (call (Value.ref 683) [_, _, _]) _ _ _); k_dflt (refine' usx3 ?z111B ?z111F ?z111X ?z111N ?z111T ?z111hk ?z111P1 ?z111P2 ?z111P3 (first_3 (hs := ?z111hs) (hl0 := ?z111hl0) (h1 := ?z111g1) (hE1 := ?z111e1) (ht1 := ?z111d1) (h2 := ?z111g2) (hE2 := ?z111e2) (ht2 := ?z111d2) (h3 := ?z111g3) (hE3 := ?z111e3) (ht3 := ?z111d3) (ho := ?z111ho) (hm := ?z111hm) (hl := ?z111hl) (hz := ?z111hz)) ?_ ?_ (cur_compS ?z111ik ?_); (case z111B => k_asm); (case z111F => k_asm); (case z111X => k_asm); (case z111N => k_asm); (case z111T => k_asm); (case z111hk => first | exact rfl | assumption); (case z111P1 => tb_start); (case z111P2 => tb_start); (case z111P3 => tb_start); (case z111hl0 => k_mem); (case z111hs => (refine Sta.mono (by with_reducible assumption) ?_ ?_ ?_ ?_; (focus lcg_sub); (focus k_all); (focus k_all); (focus k_all))); (case z111g1 => (refine NodeIn.mono ?_ (fun _ h => h) (by with_reducible assumption); lcg_sub)); (case z111e1 => with_reducible assumption); (case z111d1 => with_reducible assumption); (case z111g2 => (refine NodeIn.mono ?_ (fun _ h => h) (by with_reducible assumption); lcg_sub)); (case z111e2 => with_reducible assumption); (case z111d2 => with_reducible assumption); (case z111g3 => (refine NodeIn.mono ?_ (fun _ h => h) (by with_reducible assumption); lcg_sub)); (case z111e3 => with_reducible assumption); (case z111d3 => with_reducible assumption); (case z111ho => with_reducible assumption); (case z111hm => z_head); (case z111hl => with_reducible assumption); (case z111hz => (first | (with_reducible assumption) | exact Num2.take (by with_reducible assumption) | exact Nums.cast (by with_reducible assumption) (by with_reducible assumption) | (refine Nums.mk' ?_ ?_ ?_ ?_; (focus lia); (focus x_run); (focus (first | exact lenX (by with_reducible assumption) (by with_reducible assumption) | exact lenO (by with_reducible assumption) (by with_reducible assumption) | lia | (simp only [List.length_append, List.length_cons, List.length_nil] at *; lia))); (focus (first | exact lenX (by with_reducible assumption) (by with_reducible assumption) | exact lenO (by with_reducible assumption) (by with_reducible assumption) | lia | (simp only [List.length_append, List.length_cons, List.length_nil] at *; lia)))))); (case z111ik => ktr_rel); (focus k_extra "rmD"); (focus k_extra "rmU"); intro xs8ₘ n8ₘ oL8ₘ nw8ₘ uR8ₘ uN8ₘ r'ₘ h'ₘ tk'ₘ F'ₘ en1ₘ en2ₘ en3ₘ lkₘ N'ₘ ha8ₘ h81ₘ h82ₘ h83ₘ ho8ₘ hl8ₘ; (try dsimp only); (try k_sweep); (try k_fold))))
  k_with "call ref" => ((fail_if_success k_extra "o16"); (k_here; (with_reducible show wpAny _ _ (call (Value.ref 604) [_, _, _]) _ _ _); k_dflt (refine' usx3 ?z112B ?z112F ?z112X ?z112N ?z112T ?z112hk ?z112P1 ?z112P2 ?z112P3 (case_does (hs := ?z112hs) (hcx := ?z112hc1) (hcd := ?z112hc2) (hwl := ?z112hc3) (hwt := ?z112hc4) (h1 := ?z112g1) (hE1 := ?z112e1) (ht1 := ?z112d1) (h2 := ?z112g2) (hE2 := ?z112e2) (ht2 := ?z112d2) (h3 := ?z112g3) (hE3 := ?z112e3) (ht3 := ?z112d3) (ho := ?z112ho) (hm := ?z112hm) (hl := ?z112hl) (hz := ?z112hz)) ?_ ?_ (cur_compS ?z112ik ?_); (case z112B => k_asm); (case z112F => k_asm); (case z112X => k_asm); (case z112N => k_asm); (case z112T => k_asm); (case z112hk => first | exact rfl | assumption); (case z112P1 => tb_start); (case z112P2 => tb_start); (case z112P3 => tb_start); (case z112hc1 => k_mem); (case z112hc2 => k_mem); (case z112hc3 => k_mem); (case z112hc4 => k_mem); (case z112hs => (refine Sta.mono (by with_reducible assumption) ?_ ?_ ?_ ?_; (focus lcg_sub); (focus k_all); (focus k_all); (focus k_all))); (case z112g1 => (refine NodeIn.mono ?_ (fun _ h => h) (by with_reducible assumption); lcg_sub)); (case z112e1 => with_reducible assumption); (case z112d1 => with_reducible assumption); (case z112g2 => (refine NodeIn.mono ?_ (fun _ h => h) (by with_reducible assumption); lcg_sub)); (case z112e2 => with_reducible assumption); (case z112d2 => with_reducible assumption); (case z112g3 => (refine NodeIn.mono ?_ (fun _ h => h) (by with_reducible assumption); lcg_sub)); (case z112e3 => with_reducible assumption); (case z112d3 => with_reducible assumption); (case z112ho => with_reducible assumption); (case z112hm => z_head); (case z112hl => with_reducible assumption); (case z112hz => (first | (with_reducible assumption) | exact Num2.take (by with_reducible assumption) | exact Nums.cast (by with_reducible assumption) (by with_reducible assumption) | (refine Nums.mk' ?_ ?_ ?_ ?_; (focus lia); (focus x_run); (focus (first | exact lenX (by with_reducible assumption) (by with_reducible assumption) | exact lenO (by with_reducible assumption) (by with_reducible assumption) | lia | (simp only [List.length_append, List.length_cons, List.length_nil] at *; lia))); (focus (first | exact lenX (by with_reducible assumption) (by with_reducible assumption) | exact lenO (by with_reducible assumption) (by with_reducible assumption) | lia | (simp only [List.length_append, List.length_cons, List.length_nil] at *; lia)))))); (case z112ik => ktr_rel); (focus k_extra "rmD"); (focus k_extra "rmU"); intro xs8ₘ n8ₘ oL8ₘ nw8ₘ uR8ₘ uN8ₘ r'ₘ h'ₘ tk'ₘ F'ₘ en1ₘ en2ₘ en3ₘ lkₘ N'ₘ ha8ₘ h81ₘ h82ₘ h83ₘ ho8ₘ hl8ₘ; (try dsimp only); (try k_sweep); (try k_fold))))
  k_with "call ref" => ((fail_if_success k_extra "o16"); (k_here; (with_reducible show wpAny _ _ (call (Value.ref 498) [_]) _ _ _); k_dflt (refine' usx0 ?z113B ?z113F ?z113X ?z113N ?z113T ?z113hk  (ccol_0 (hl := ?z113hl0) ) ?_ ?_ (cur_str ?_); (case z113B => k_asm); (case z113F => k_asm); (case z113X => k_asm); (case z113N => k_asm); (case z113T => k_asm); (case z113hk => first | exact rfl | assumption); (case z113hl0 => k_mem); (focus k_extra "rmD"); (focus k_extra "rmU"); intro t8ₘ h'ₘ tk'ₘ F'ₘ N'ₘ; (try dsimp only); (try k_sweep); (try k_fold))))
  k_with "call ref" => ((fail_if_success k_extra "o16"); (k_here; (with_reducible show wpAny _ _ (call (Value.ref 498) [_]) _ _ _); k_dflt (refine' usx0 ?z114B ?z114F ?z114X ?z114N ?z114T ?z114hk  (ccol_1 (hl := ?z114hl0) (h1 := ?z114h1)) ?_ ?_ (cur_str ?_); (case z114B => k_asm); (case z114F => k_asm); (case z114X => k_asm); (case z114N => k_asm); (case z114T => k_asm); (case z114hk => first | exact rfl | assumption); (case z114hl0 => k_mem); (case z114h1 => (refine NodeIn.mono ?_ (fun _ h => h) (by with_reducible assumption); lcg_sub)); (focus k_extra "rmD"); (focus k_extra "rmU"); intro t8ₘ h'ₘ tk'ₘ F'ₘ N'ₘ; (try dsimp only); (try k_sweep); (try k_fold))))
  k_with "call ref" => ((fail_if_success k_extra "o16"); (k_here; (with_reducible show wpAny _ _ (call (Value.ref 498) [_]) _ _ _); k_dflt (refine' usx0 ?z115B ?z115F ?z115X ?z115N ?z115T ?z115hk  (ccol_2 (hl := ?z115hl0) (h1 := ?z115h1) (h2 := ?z115h2)) ?_ ?_ (cur_str ?_); (case z115B => k_asm); (case z115F => k_asm); (case z115X => k_asm); (case z115N => k_asm); (case z115T => k_asm); (case z115hk => first | exact rfl | assumption); (case z115hl0 => k_mem); (case z115h1 => (refine NodeIn.mono ?_ (fun _ h => h) (by with_reducible assumption); lcg_sub)); (case z115h2 => (refine NodeIn.mono ?_ (fun _ h => h) (by with_reducible assumption); lcg_sub)); (focus k_extra "rmD"); (focus k_extra "rmU"); intro t8ₘ h'ₘ tk'ₘ F'ₘ N'ₘ; (try dsimp only); (try k_sweep); (try k_fold))))
  k_with "call ref" => ((fail_if_success k_extra "o16"); (k_here; (with_reducible show wpAny _ _ (call (Value.ref 461) [_]) _ _ _); k_dflt (refine' usx0 ?z116B ?z116F ?z116X ?z116N ?z116T ?z116hk  (fold_use (by with_reducible assumption) _ _) ?_ ?_ (cur_str ?_); (case z116B => k_asm); (case z116F => k_asm); (case z116X => k_asm); (case z116N => k_asm); (case z116T => k_asm); (case z116hk => first | exact rfl | assumption); (focus k_extra "rmD"); (focus k_extra "rmU"); intro t8ₘ h'ₘ tk'ₘ F'ₘ N'ₘ; (rename CallK _ _ _ _ _ _ _ => hk8ₘ); cases hk8ₘ; all_goals ((rename Nums _ _ _ _ => hz8ₘ); (try simp only [Tr.nops, F2.own, F3.own] at hz8ₘ); (have hN8ₘ := Nums.n hz8ₘ); (have hlb8ₘ := Nums.l hz8ₘ); (have hol8ₘ := Nums.o hz8ₘ); (have hbl8ₘ := Nums.b hz8ₘ)); all_goals ((try dsimp only); (try k_sweep); (try k_fold)))))
  k_with "exec For Tuple Attribute cons nil" => ((fail_if_success k_extra "o16"); (k_here; (rename Fr _ _ _ _ => lF'ₘ); (with_unfolding_all refine' For_turns lF'ₘ ?_; k_whole)))
  k_with "pyIterM ref" => ((fail_if_success k_extra "o16"); ((with_reducible show wpAny _ _ (pyIter (Value.ref _)) (fun it s₂ => TurnsAt _ _ _ _ _ _ _ _ _ it s₂) _ _); k_dflt (refine' iter_listTurns (by rfl) ?z117F ?z117N ?z117m ?z117c ?z117d ?_; (case z117F => k_asm); (case z117N => k_asm); (case z117m => k_mem); (case z117c => rfl); (case z117d => rfl); k_whole); intro i'ₘ l1ₘ; (try k_lt l1ₘ)))
  k_with "UnrEndW" => ((fail_if_success k_extra "o16"); (refine' UnrEndW.introP ?z118F ?z118N ?z118P ?z118off ⟨⟨?z118m, True.intro⟩, ?_⟩; (case z118F => k_asm); (case z118N => k_asm); (case z118P => tb_start); (case z118off => k_all); (case z118m => k_mem)))
  k_with "call builtin:len" => ((fail_if_success k_extra "o16"); (k_here; k_dflt (first | (refine' len_3 ?z119N ?z119m ?_; (case z119N => k_asm); (case z119m => k_mem); k_whole) | (refine' len_2 ?z119N ?z119m ?_; (case z119N => k_asm); (case z119m => k_mem); k_whole) | (refine' len_1 ?z119N ?z119m ?_; (case z119N => k_asm); (case z119m => k_mem); k_whole) | (refine' len_0 ?z119N ?z119m ?_; (case z119N => k_asm); (case z119m => k_mem); k_whole))))
  k_with "UnrEndW" => ((fail_if_success k_extra "o16"); (refine' two_end ?z120F ?z120N ?z120sub ?z120off ?z120no; (case z120F => k_asm); (case z120N => k_asm); (case z120sub => z_head); (case z120off => k_all); (case z120no => first | exact id | (with_reducible assumption))))
  k_with "ItemsRest" => ((fail_if_success k_extra "o16"); (k_dflt (refine' two_rest (Str.ofString "call") (Str.ofString "register") (fun _ => False) ?z121m ?_ ?_; (case z121m => k_mem); (intro i8 v8 u81 u82 it8 h8 tk8 hv8 hit8 F8 N8; obtain ⟨a8, u8, j8, y8, e8, hK8, ha8⟩ := hag4 i8 v8 hv8; subst e8; obtain ⟨x8, dx8, s81, s82, s83, s84, s85, l8, e9, m8, m9⟩ := hkn y8 (List.mem_of_getElem? hK8); subst e9; (have hne8 : x8 ≠ x := known_ne (dx := dx) (dx8 := dx8) N8 (by k_mem) (by k_mem) (by k_mem) (by k_mem) hnm); (try dsimp only)); rotate_left; (intro u81 u82 h8 tk8 hno8 F8 N8; (try dsimp only)); rotate_right)))
  k_with "compareOp Is ref ref" => ((fail_if_success k_extra "o16"); (k_here; k_dflt (refine' kto_is ?z122a ?z122b ?z122n ?z122c ?_; (case z122a => (refine' kto_N ?z122N ?z122m; (case z122N => k_asm); (case z122m => k_mem))); (case z122b => (refine' kto_N ?z122N ?z122m; (case z122N => k_asm); (case z122m => k_mem))); (case z122n => with_reducible assumption); (case z122c => kto_not); k_whole)))
  exact True.intro
set_option maxRecDepth 100000 in
set_option maxHeartbeats 4000000 in
theorem call_fn {w : World} {c : CK} {k : PK} {K : List Value} {t : Tr} {nm nm' : String} {d : Nat} {R N tg : Int} {ops : List Op} {labs : List (Int × Int)} {xs : List Value} {n : Nat} {x dx l : Addr} {t1 t2 t3 t4 u uR uN ut : Tok} {oL : Obj} {os osm : List (Addr × Obj)} (hs : Sta w c k K os)
   (hx : (x, instObj 354 dx) ∈ os) (hdx : (dx, callD w t1 t2 t3 t4 (.str (Str.ofString nm) u) l) ∈ os) (hf : FoldTo w nm nm') (hnm : Str.ofString nm ≠ Str.ofString "sum") (hk : CallK w os K d l nm' t) (ho : OpsIn osm xs ops) (hm : ∀ p ∈ osm, p ∈ os) (hl : IntD w oL (labD labs)) (hz : Nums N ops labs t.nops) :
   Does w 676 (8 * d + 12) [.ref c.Kc, .ref x, .int tg ut] ((k.OL, listOf xs.toArray n) :: (c.dP, progD w k R uR N uN) :: (k.LD, oL) :: os) (CompS w c k os osm (comp t tg ⟨R, N, ops, labs⟩) fun _ => True) := by
  obtain ⟨⟨c1, c2, c3, c4, c5, c6, c7⟩, hagg, hkn, o1, o2, o3, d1, d2, d3, hsm⟩ := id hs
  obtain ⟨hN0, hlb, hol, hbl⟩ := id hz
  have hxl := OpsIn.len ho
  obtain ⟨ags, nag, hag1, hag2, hag3, hag4⟩ := hagg
  refine Does.of ?_
  intro dp un gd cn cs a ccd cl outer A₀ base h₀ L m p loose mean mg mb hp0 gn0 dr0 tk0 oo0 Q E B F X N T hk hd hu hret
  revert X; k_fill; intro X
  refine wpAny_call ?_
  k_dflt ktr_enter
  k_steps
  all_goals first | ((refine' comp_endS (by with_reducible assumption) ?F ?N ?T ?ho ?hl ?m1 ?m2 ?m3 ?e ?hP ?a0 ?a1 ?a2 ?a3; (case F => with_reducible assumption); (case N => with_reducible assumption); (case T => z_run); (case m1 => k_mem); (case m2 => k_mem); (case m3 => k_mem); (case ho => (refine OpsIn.mono ?_ (by with_reducible assumption); lcg_sub)); (case hl => with_reducible assumption); (case e => first | rfl | (simp only [comp, known1, St.add, St.reg, St.lab, St.place, *]; done) | fail); (case hP => first | exact True.intro | exact ⟨_, rfl⟩); (case a0 => x_head); (case a1 => k_all); (case a2 => k_all); (case a3 => k_all))) | fail
end
end Mine
end
section
open PySem PySem.W PyProof.Rows PySem.Spec PyProof.V
namespace Mine
theorem no_hit {K : List Value} {n : Nat} {x : Value} (hl : n = K.length) (h : ∀ i, i < n → ¬ K[i]? = some x) : ¬ x ∈ K := fun hx => by
  obtain ⟨i, hi, e⟩ := List.getElem_of_mem hx
  exact h i (by lia) (by rw [List.getElem?_eq_getElem hi, e])
section
theorem lines19 : True := by
  k_with "o16" => skip
  k_with "call ref" => ((fail_if_success k_extra "o17"); (k_here; (with_reducible show wpAny _ _ (call (Value.ref 712) [_, _, _, _]) _ _ _); k_dflt (refine' usx3 ?z123B ?z123F ?z123X ?z123N ?z123T ?z123hk ?z123P1 ?z123P2 ?z123P3 (add4_use ?z123hs ?z123hop ?z123hm ?z123hx) ?_ ?_ (cur_addC ?z123ik ?_); (case z123B => k_asm); (case z123F => k_asm); (case z123X => k_asm); (case z123N => k_asm); (case z123T => k_asm); (case z123hk => first | exact rfl | assumption); (case z123P1 => tb_start); (case z123P2 => tb_start); (case z123P3 => tb_start); (case z123hs => (refine Sta.mono (by with_reducible assumption) ?_ ?_ ?_ ?_; (focus lcg_sub); (focus k_all); (focus k_all); (focus k_all))); (case z123hop => with_reducible assumption); (case z123hm => z_head); (case z123hx => (first | exact lenX (by with_reducible assumption) (by with_reducible assumption) | exact lenO (by with_reducible assumption) (by with_reducible assumption) | lia | (simp only [List.length_append, List.length_cons, List.length_nil] at *; lia))); (case z123ik => ktr_rel); (focus k_extra "rmD"); (focus k_extra "rmU"); intro xs8ₘ n8ₘ nw8ₘ r'ₘ h'ₘ tk'ₘ F'ₘ en1ₘ en2ₘ en3ₘ lkₘ N'ₘ ha8ₘ hops8ₘ hxl8ₘ; (try (have hzNₘ := Num2.add (by with_reducible assumption) hops8ₘ)); (try dsimp only); (try k_sweep); (try k_fold))))
  k_with "call ref" => ((fail_if_success k_extra "o17"); (k_here; (with_reducible show wpAny _ _ (call (Value.ref 712) [_, _, _, _, _]) _ _ _); k_dflt (refine' usx3 ?z124B ?z124F ?z124X ?z124N ?z124T ?z124hk ?z124P1 ?z124P2 ?z124P3 (add5_use ?z124hs ?z124hop ?z124hm ?z124hx) ?_ ?_ (cur_addC ?z124ik ?_); (case z124B => k_asm); (case z124F => k_asm); (case z124X => k_asm); (case z124N => k_asm); (case z124T => k_asm); (case z124hk => first | exact rfl | assumption); (case z124P1 => tb_start); (case z124P2 => tb_start); (case z124P3 => tb_start); (case z124hs => (refine Sta.mono (by with_reducible assumption) ?_ ?_ ?_ ?_; (focus lcg_sub); (focus k_all); (focus k_all); (focus k_all))); (case z124hop => with_reducible assumption); (case z124hm => z_head); (case z124hx => (first | exact lenX (by with_reducible assumption) (by with_reducible assumption) | exact lenO (by with_reducible assumption) (by with_reducible assumption) | lia | (simp only [List.length_append, List.length_cons, List.length_nil] at *; lia))); (case z124ik => ktr_rel); (focus k_extra "rmD"); (focus k_extra "rmU"); intro xs8ₘ n8ₘ nw8ₘ r'ₘ h'ₘ tk'ₘ F'ₘ en1ₘ en2ₘ en3ₘ lkₘ N'ₘ ha8ₘ hops8ₘ hxl8ₘ; (try (have hzNₘ := Num2.add (by with_reducible assumption) hops8ₘ)); (try dsimp only); (try k_sweep); (try k_fold))))
  k_with "call ref" => ((fail_if_success k_extra "o17"); (k_here; (with_reducible show wpAny _ _ (call (Value.ref 712) [_, _, _, _, _, _]) _ _ _); k_dflt (refine' usx3 ?z125B ?z125F ?z125X ?z125N ?z125T ?z125hk ?z125P1 ?z125P2 ?z125P3 (add6_use ?z125hs ?z125hop ?z125hm ?z125hx ?z125h4) ?_ ?_ (cur_addC ?z125ik ?_); (case z125B => k_asm); (case z125F => k_asm); (case z125X => k_asm); (case z125N => k_asm); (case z125T => k_asm); (case z125hk => first | exact rfl | assumption); (case z125P1 => tb_start); (case z125P2 => tb_start); (case z125P3 => tb_start); (case z125hs => (refine Sta.mono (by with_reducible assumption) ?_ ?_ ?_ ?_; (focus lcg_sub); (focus k_all); (focus k_all); (focus k_all))); (case z125hop => with_reducible assumption); (case z125hm => z_head); (case z125hx => (first | exact lenX (by with_reducible assumption) (by with_reducible assumption) | exact lenO (by with_reducible assumption) (by with_reducible assumption) | lia | (simp only [List.length_append, List.length_cons, List.length_nil] at *; lia))); (case z125h4 => first | assumption | exact .val (by assumption) | exact .val .none | exact .val (.int (by lia) (by lia)) | exact .told (by k_mem)); (case z125ik => ktr_rel); (focus k_extra "rmD"); (focus k_extra "rmU"); intro xs8ₘ n8ₘ nw8ₘ r'ₘ h'ₘ tk'ₘ F'ₘ en1ₘ en2ₘ en3ₘ lkₘ N'ₘ ha8ₘ hops8ₘ hxl8ₘ; (try (have hzNₘ := Num2.add (by with_reducible assumption) hops8ₘ)); (try dsimp only); (try k_sweep); (try k_fold))))
  k_with "k_all" => ((fail_if_success k_extra "o17"); first | ((with_reducible refine' off_sub ?z126h ?z126s); (case z126h => tbn_find); (case z126s => z_head)) | ((with_reducible refine' off_lt2 ?z126a ?z126h ?z126s); (case z126a => first | (with_reducible assumption) | assumption); (case z126h => tbn_find); (case z126s => z_head)))
  k_with "x_run" => ((fail_if_success k_extra "o17"); first | (with_reducible assumption) | (refine labs_app ?_ ?_; (focus x_run); (focus lia)) | (refine labs_dec (by with_reducible assumption) ?_; lia))
  k_with "x_auto" => ((fail_if_success k_extra "o17"); first | (with_reducible assumption) | (refine labs_app_ne ?_ ?_; (focus x_auto); (focus lia)) | (refine labs_ne ?_; with_reducible assumption) | (refine labs_ne (labs_dec (by with_reducible assumption) ?_); lia) | (refine Fx.fresh (by with_reducible assumption) ?_ ?_; (focus lia); x_auto))
  k_with "x_head" => ((fail_if_success k_extra "o17"); first | (with_reducible exact Apart.nil) | (with_reducible refine Apart.app ?_ ?_; (focus x_head); x_head) | (with_reducible refine Apart.cons ?_ ?_; (focus k_all); x_head) | (refine Apart.subL (by with_reducible assumption) ?_; z_head))
  k_with "z_run" => ((fail_if_success k_extra "o17"); first | (with_reducible exact TailT.here) | ((with_reducible refine' TailT.d1 ?z127pk); (case z127pk => z_run)) | ((with_reducible refine' TailT.d2 ?z127pk); (case z127pk => z_run)) | ((with_reducible refine' TailT.d3 ?z127pk); (case z127pk => z_run)) | ((with_reducible refine' TailT.cons ?z127pk); (case z127pk => z_run)) | ((with_reducible refine' TailT.app ?z127pk); (case z127pk => z_run)))
  k_with "exec For Tuple Attribute cons nil" => ((fail_if_success k_extra "o17"); (k_here; (rename Fr _ _ _ _ => lF'ₘ); (with_unfolding_all refine' For_turns lF'ₘ ?_; k_whole)))
  k_with "pyIterM ref" => ((fail_if_success k_extra "o17"); ((with_reducible show wpAny _ _ (pyIter (Value.ref _)) (fun it s₂ => TurnsAt _ _ _ _ _ _ _ _ _ it s₂) _ _); k_dflt (refine' iter_listTurns (by rfl) ?z128F ?z128N ?z128m ?z128c ?z128d ?_; (case z128F => k_asm); (case z128N => k_asm); (case z128m => k_mem); (case z128c => rfl); (case z128d => rfl); k_whole); intro i'ₘ l1ₘ; (try k_lt l1ₘ)))
  k_with "UnrEndW" => ((fail_if_success k_extra "o17"); (refine' UnrEndW.introP ?z129F ?z129N ?z129P ?z129off ⟨⟨?z129m, True.intro⟩, ?_⟩; (case z129F => k_asm); (case z129N => k_asm); (case z129P => tb_start); (case z129off => k_all); (case z129m => k_mem)))
  k_with "UnrEndW" => ((fail_if_success k_extra "o17"); (refine' two_end ?z130F ?z130N ?z130sub ?z130off ?z130no; (case z130F => k_asm); (case z130N => k_asm); (case z130sub => z_head); (case z130off => k_all); (case z130no => first | exact id | (with_reducible assumption))))
  k_with "ItemsRest" => ((fail_if_success k_extra "o17"); (k_dflt (refine' two_rest (Str.ofString "call") (Str.ofString "register") (fun i => K[i]? = some (Value.ref x)) ?z131m ?_ ?_; (case z131m => k_mem); (intro i8 v8 u81 u82 it8 h8 tk8 hv8 hit8 F8 N8; obtain ⟨a8, u8, j8, y8, e8, hK8, ha8⟩ := hag4 i8 v8 hv8; subst e8; obtain ⟨x8, dx8, s81, s82, s83, s84, s85, l8, e9, m8, m9⟩ := hkn y8 (List.mem_of_getElem? hK8); subst e9; rcases Classical.em (x8 = x) with hne8 | hne8; (subst hne8; (try dsimp only)); rotate_left; ((have hno9 : ¬ K[i8]? = some (Value.ref x) := fun e => hne8 (by rw [hK8] at e; cases e; rfl)); (try dsimp only))); rotate_left; (intro u81 u82 h8 tk8 hno8 F8 N8; exact absurd hxK (no_hit hag2 hno8)))))
  k_with "compareOp Is ref ref" => ((fail_if_success k_extra "o17"); (k_here; k_dflt (first | (refine' is_ref_self ?_; k_whole) | (refine' kto_is ?z132a ?z132b ?z132n ?z132c ?_; (case z132a => (refine' kto_N ?z132N ?z132m; (case z132N => k_asm); (case z132m => k_mem))); (case z132b => (refine' kto_N ?z132N ?z132m; (case z132N => k_asm); (case z132m => k_mem))); (case z132n => with_reducible assumption); (case z132c => kto_not); k_whole))))
  exact True.intro
set_option maxRecDepth 100000 in
set_option maxHeartbeats 4000000 in
theorem call_known {w : World} {c : CK} {k : PK} {K : List Value} {R N tg : Int} {ops : List Op} {labs : List (Int × Int)} {xs : List Value} {n : Nat} {x dx : Addr} {dob : Obj} {uR uN ut : Tok} {oL : Obj} {os osm : List (Addr × Obj)} (hs : Sta w c k K os)
   (hx : (x, instObj 354 dx) ∈ os) (hdx : (dx, dob) ∈ os) (hxK : Value.ref x ∈ K) (ho : OpsIn osm xs ops) (hm : ∀ p ∈ osm, p ∈ os) (hl : IntD w oL (labD labs)) (hz : Nums N ops labs 1) :
   Does w 676 6 [.ref c.Kc, .ref x, .int tg ut] ((k.OL, listOf xs.toArray n) :: (c.dP, progD w k R uR N uN) :: (k.LD, oL) :: os) (CompS w c k os osm (comp .known tg ⟨R, N, ops, labs⟩) fun _ => True) := by
  obtain ⟨⟨c1, c2, c3, c4, c5, c6, c7⟩, hagg, hkn, o1, o2, o3, d1, d2, d3, hsm⟩ := id hs
  obtain ⟨hN0, hlb, hol, hbl⟩ := id hz
  have hxl := OpsIn.len ho
  obtain ⟨ags, nag, hag1, hag2, hag3, hag4⟩ := hagg
  refine Does.of ?_
  intro dp un gd cn cs a ccd cl outer A₀ base h₀ L m p loose mean mg mb hp0 gn0 dr0 tk0 oo0 Q E B F X N T hk hd hu hret
  revert X; k_fill; intro X
  refine wpAny_call ?_
  k_dflt ktr_enter
  k_steps
  all_goals first | ((refine' comp_endS (by with_reducible assumption) ?F ?N ?T ?ho ?hl ?m1 ?m2 ?m3 ?e ?hP ?a0 ?a1 ?a2 ?a3; (case F => with_reducible assumption); (case N => with_reducible assumption); (case T => z_run); (case m1 => k_mem); (case m2 => k_mem); (case m3 => k_mem); (case ho => (refine OpsIn.mono ?_ (by with_reducible assumption); lcg_sub)); (case hl => with_reducible assumption); (case e => first | rfl | (simp only [comp, known1, St.add, St.reg, St.lab, St.place, *]; done) | fail); (case hP => first | exact True.intro | exact ⟨_, rfl⟩); (case a0 => x_head); (case a1 => k_all); (case a2 => k_all); (case a3 => k_all))) | fail
end
end Mine
end
section
open PySem PySem.W PyProof.Rows PySem.Spec PyProof.V
namespace Mine
section
theorem lines20 : True := by
  k_with "o17" => skip
  k_with "subscriptTail Name" => ((fail_if_success k_extra "o18"); k_extra "subscriptTail")
  k_with "subscriptTail Name Constant ref int" => ((fail_if_success k_extra "o18"); k_extra "subscriptTail")
  k_with "subscriptTail Name Name ref int" => ((fail_if_success k_extra "o18"); k_extra "subscriptTail")
  k_with "call ref" => ((fail_if_success k_extra "o18"); (k_here; (with_reducible show wpAny _ _ (call (Value.ref 712) [_, _, _, _]) _ _ _); k_dflt (refine' usx3 ?z133B ?z133F ?z133X ?z133N ?z133T ?z133hk ?z133P1 ?z133P2 ?z133P3 (add4_use ?z133hs ?z133hop ?z133hm ?z133hx) ?_ ?_ (cur_addC ?z133ik ?_); (case z133B => k_asm); (case z133F => k_asm); (case z133X => k_asm); (case z133N => k_asm); (case z133T => k_asm); (case z133hk => first | exact rfl | assumption); (case z133P1 => tb_start); (case z133P2 => tb_start); (case z133P3 => tb_start); (case z133hs => (refine Sta.mono (by with_reducible assumption) ?_ ?_ ?_ ?_; (focus lcg_sub); (focus k_all); (focus k_all); (focus k_all))); (case z133hop => with_reducible assumption); (case z133hm => z_head); (case z133hx => (first | exact lenX (by with_reducible assumption) (by with_reducible assumption) | exact lenO (by with_reducible assumption) (by with_reducible assumption) | lia | (simp only [List.length_append, List.length_cons, List.length_nil] at *; lia))); (case z133ik => ktr_rel); (focus k_extra "rmD"); (focus k_extra "rmU"); intro xs8ₘ n8ₘ nw8ₘ r'ₘ h'ₘ tk'ₘ F'ₘ en1ₘ en2ₘ en3ₘ lkₘ N'ₘ ha8ₘ hops8ₘ hxl8ₘ; (try (have hzNₘ := Num2.add (by with_reducible assumption) hops8ₘ)); (try dsimp only); (try k_sweep); (try k_fold))))
  k_with "call ref" => ((fail_if_success k_extra "o18"); (k_here; (with_reducible show wpAny _ _ (call (Value.ref 712) [_, _, _, _, _]) _ _ _); k_dflt (refine' usx3 ?z134B ?z134F ?z134X ?z134N ?z134T ?z134hk ?z134P1 ?z134P2 ?z134P3 (add5_use ?z134hs ?z134hop ?z134hm ?z134hx) ?_ ?_ (cur_addC ?z134ik ?_); (case z134B => k_asm); (case z134F => k_asm); (case z134X => k_asm); (case z134N => k_asm); (case z134T => k_asm); (case z134hk => first | exact rfl | assumption); (case z134P1 => tb_start); (case z134P2 => tb_start); (case z134P3 => tb_start); (case z134hs => (refine Sta.mono (by with_reducible assumption) ?_ ?_ ?_ ?_; (focus lcg_sub); (focus k_all); (focus k_all); (focus k_all))); (case z134hop => with_reducible assumption); (case z134hm => z_head); (case z134hx => (first | exact lenX (by with_reducible assumption) (by with_reducible assumption) | exact lenO (by with_reducible assumption) (by with_reducible assumption) | lia | (simp only [List.length_append, List.length_cons, List.length_nil] at *; lia))); (case z134ik => ktr_rel); (focus k_extra "rmD"); (focus k_extra "rmU"); intro xs8ₘ n8ₘ nw8ₘ r'ₘ h'ₘ tk'ₘ F'ₘ en1ₘ en2ₘ en3ₘ lkₘ N'ₘ ha8ₘ hops8ₘ hxl8ₘ; (try (have hzNₘ := Num2.add (by with_reducible assumption) hops8ₘ)); (try dsimp only); (try k_sweep); (try k_fold))))
  k_with "call ref" => ((fail_if_success k_extra "o18"); (k_here; (with_reducible show wpAny _ _ (call (Value.ref 712) [_, _, _, _, _, _]) _ _ _); k_dflt (refine' usx3 ?z135B ?z135F ?z135X ?z135N ?z135T ?z135hk ?z135P1 ?z135P2 ?z135P3 (add6_use ?z135hs ?z135hop ?z135hm ?z135hx ?z135h4) ?_ ?_ (cur_addC ?z135ik ?_); (case z135B => k_asm); (case z135F => k_asm); (case z135X => k_asm); (case z135N => k_asm); (case z135T => k_asm); (case z135hk => first | exact rfl | assumption); (case z135P1 => tb_start); (case z135P2 => tb_start); (case z135P3 => tb_start); (case z135hs => (refine Sta.mono (by with_reducible assumption) ?_ ?_ ?_ ?_; (focus lcg_sub); (focus k_all); (focus k_all); (focus k_all))); (case z135hop => with_reducible assumption); (case z135hm => z_head); (case z135hx => (first | exact lenX (by with_reducible assumption) (by with_reducible assumption) | exact lenO (by with_reducible assumption) (by with_reducible assumption) | lia | (simp only [List.length_append, List.length_cons, List.length_nil] at *; lia))); (case z135h4 => first | assumption | exact .val (by assumption) | exact .val .none | exact .val (.int (by lia) (by lia)) | exact .told (by k_mem)); (case z135ik => ktr_rel); (focus k_extra "rmD"); (focus k_extra "rmU"); intro xs8ₘ n8ₘ nw8ₘ r'ₘ h'ₘ tk'ₘ F'ₘ en1ₘ en2ₘ en3ₘ lkₘ N'ₘ ha8ₘ hops8ₘ hxl8ₘ; (try (have hzNₘ := Num2.add (by with_reducible assumption) hops8ₘ)); (try dsimp only); (try k_sweep); (try k_fold))))
  k_with "k_all" => ((fail_if_success k_extra "o18"); first | ((with_reducible refine' off_sub ?z136h ?z136s); (case z136h => tbn_find); (case z136s => z_head)) | ((with_reducible refine' off_lt2 ?z136a ?z136h ?z136s); (case z136a => first | (with_reducible assumption) | assumption); (case z136h => tbn_find); (case z136s => z_head)))
  k_with "x_run" => ((fail_if_success k_extra "o18"); first | (with_reducible assumption) | (refine labs_app ?_ ?_; (focus x_run); (focus lia)) | (refine labs_dec (by with_reducible assumption) ?_; lia))
  k_with "x_auto" => ((fail_if_success k_extra "o18"); first | (with_reducible assumption) | (refine labs_app_ne ?_ ?_; (focus x_auto); (focus lia)) | (refine labs_ne ?_; with_reducible assumption) | (refine labs_ne (labs_dec (by with_reducible assumption) ?_); lia) | (refine Fx.fresh (by with_reducible assumption) ?_ ?_; (focus lia); x_auto))
  k_with "x_head" => ((fail_if_success k_extra "o18"); first | (with_reducible exact Apart.nil) | (with_reducible refine Apart.app ?_ ?_; (focus x_head); x_head) | (with_reducible refine Apart.cons ?_ ?_; (focus k_all); x_head) | (refine Apart.subL (by with_reducible assumption) ?_; z_head))
  k_with "z_run" => ((fail_if_success k_extra "o18"); first | (with_reducible exact TailT.here) | ((with_reducible refine' TailT.d1 ?z137pk); (case z137pk => z_run)) | ((with_reducible refine' TailT.d2 ?z137pk); (case z137pk => z_run)) | ((with_reducible refine' TailT.d3 ?z137pk); (case z137pk => z_run)) | ((with_reducible refine' TailT.cons ?z137pk); (case z137pk => z_run)) | ((with_reducible refine' TailT.app ?z137pk); (case z137pk => z_run)))
  k_with "subscriptTail" => ((fail_if_success k_extra "o18"); (k_here; (with_reducible show wpAny _ _ (subscriptTail _ (PySem.Expr.Slice _ _ _ _) (Value.ref _) (Value.ref _)) _ _ _); k_dflt (refine' slice_tuple_to ?z138n ?z138k ?z138t ?z138b ?_ ?z138hs ?z138hg; (case z138n => k_asm); (case z138k => k_asm); (case z138t => (refine' News.isTup ?z138nn ?z138mm; (case z138nn => k_asm); (case z138mm => k_mem))); (case z138b => rfl); (case z138hs => with_unfolding_all rfl); (case z138hg => intro _; with_unfolding_all rfl); intro _ _ _; k_whole)))
  exact True.intro
set_option maxRecDepth 100000 in
set_option maxHeartbeats 1000000 in
theorem column_does {w : World} {c : CK} {k : PK} {K : List Value} {R N i tg : Int} {uR uN ui ut u4 : Tok} {oL : Obj} {ops : List Op} {labs : List (Int × Int)} {xs : List Value} {n : Nat} {os osm : List (Addr × Obj)} (hs : Sta w c k K os) (ho : OpsIn osm xs ops) (hm : ∀ p ∈ osm, p ∈ os) (hl : IntD w oL (labD labs)) (hx : xs.length ≤ 1000) :
   Does w 562 4 [.ref c.Kc, .int 4 u4, .int i ui, .int tg ut] ((k.OL, listOf xs.toArray n) :: (c.dP, progD w k R uR N uN) :: (k.LD, oL) :: os) (CompS w c k os osm ((⟨R, N, ops, labs⟩ : St).add "Copy" (2 + i) tg 1 (.val none)) fun _ => True) := by
  obtain ⟨⟨c1, c2, c3, c4, c5, c6, c7⟩, hagg, hkn, o1, o2, o3, d1, d2, d3, hsm⟩ := id hs
  refine Does.of ?_
  intro dp un gd cn cs a ccd cl outer A₀ base h₀ L m p loose mean mg mb hp0 gn0 dr0 tk0 oo0 Q E B F X N T hk hd hu hret
  revert X; k_fill; intro X
  refine wpAny_call ?_
  k_dflt ktr_enter
  k_steps
  all_goals first | ((refine' comp_endS (by with_reducible assumption) ?F ?N ?T ?ho ?hl ?m1 ?m2 ?m3 ?e ?hP ?a0 ?a1 ?a2 ?a3; (case F => with_reducible assumption); (case N => with_reducible assumption); (case T => z_run); (case m1 => k_mem); (case m2 => k_mem); (case m3 => k_mem); (case ho => (refine OpsIn.mono ?_ (by with_reducible assumption); lcg_sub)); (case hl => with_reducible assumption); (case e => first | rfl | (simp only [comp, known1, St.add, St.reg, St.lab, St.place, *]; done) | fail); (case hP => first | exact True.intro | exact ⟨_, rfl⟩); (case a0 => x_head); (case a1 => k_all); (case a2 => k_all); (case a3 => k_all))) | fail
end
end Mine
end
section
open PySem PySem.W PyProof.Rows PySem.Spec PyProof.V
namespace Mine
noncomputable def CallD (w : World) (c : CK) (k : PK) (os : List (Addr × Obj)) (x : Addr) (t : Tr) (nn : Nat) : Prop :=
  ∀ (R N tg : Int) (ops : List Op) (labs : List (Int × Int)) (xs : List Value) (n : Nat) (uR uN ut : Tok) (oL : Obj) (osm : List (Addr × Obj)), OpsIn osm xs ops → (∀ p ∈ osm, p ∈ os) → IntD w oL (labD labs) → Nums N ops labs t.nops →
    Does w 676 (nn) [.ref c.Kc, .ref x, .int tg ut] ((k.OL, listOf xs.toArray n) :: (c.dP, progD w k R uR N uN) :: (k.LD, oL) :: os) (CompS w c k os osm (comp t tg ⟨R, N, ops, labs⟩) fun _ => True)
theorem callD_use {w : World} {c : CK} {k : PK} {os : List (Addr × Obj)} {x : Addr} {t : Tr} {nn : Nat} {R N tg : Int} {ops : List Op} {labs : List (Int × Int)} {xs : List Value} {n : Nat} {uR uN ut : Tok} {oL : Obj} {osm : List (Addr × Obj)} (h : CallD w c k os x t nn) (ho : OpsIn osm xs ops) (hm : ∀ p ∈ osm, p ∈ os) (hl : IntD w oL (labD labs)) (hz : Nums N ops labs t.nops) :
    Does w 676 (nn) [.ref c.Kc, .ref x, .int tg ut] ((k.OL, listOf xs.toArray n) :: (c.dP, progD w k R uR N uN) :: (k.LD, oL) :: os) (CompS w c k os osm (comp t tg ⟨R, N, ops, labs⟩) fun _ => True) := h R N tg ops labs xs n uR uN ut oL osm ho hm hl hz
theorem kda_notin {prog : PySem.Program} {w : World} {A : Around} {E : Value → Shared → Prop} {s : Shared} {h₀ : Heap} {L d : Addr} {news : List (Addr × Obj)} {o : Obj} {kvs : List (Int × Value)} {i : Int} {t : Tok} {Q : Value → Shared → Prop} (N : News h₀ L s.heap news) (hp : (d, o) ∈ news) (hd : o.IsDictOf (intKind prog w) kvs) (lo : (d == sysModules) = false) (b : Bool) (hb : (valueAt kvs i).isSome = b) (h : Q (.bool (!b)) { s with toks := s.toks + 1 }) :
    wpAny (model prog w) A (compareOp .NotIn (.int i t) (.ref d)) Q E s := wpAny_notIn_of (knd := intKind prog w) (intKind_is _ _ _ _) lo (kda_dict N hp hd).mapOf (by rw [hb]; exact h)
theorem handed_val {v : Value} {y : Option Int} (h : IsVal v y) : handedIn v = true := by cases h <;> simp only [handedIn]
section
theorem lines21 : True := by
  k_with "o18" => skip
  k_with "eval Name" => ((fail_if_success k_extra "o19"); (k_here; (first | (with_reducible show wpAny _ _ (PySem.eval (PySem.Expr.Name (Str.ofString "Literal") _) _) _ _ _) | (with_reducible show wpAny _ _ (PySem.eval (PySem.Expr.Name (Str.ofString "Variable") _) _) _ _ _) | (with_reducible show wpAny _ _ (PySem.eval (PySem.Expr.Name (Str.ofString "Name") _) _) _ _ _) | (with_reducible show wpAny _ _ (PySem.eval (PySem.Expr.Name (Str.ofString "Unary") _) _) _ _ _) | (with_reducible show wpAny _ _ (PySem.eval (PySem.Expr.Name (Str.ofString "Binary") _) _) _ _ _) | (with_reducible show wpAny _ _ (PySem.eval (PySem.Expr.Name (Str.ofString "Between") _) _) _ _ _) | (with_reducible show wpAny _ _ (PySem.eval (PySem.Expr.Name (Str.ofString "IsNull") _) _) _ _ _) | (with_reducible show wpAny _ _ (PySem.eval (PySem.Expr.Name (Str.ofString "InList") _) _) _ _ _) | (with_reducible show wpAny _ _ (PySem.eval (PySem.Expr.Name (Str.ofString "Case") _) _) _ _ _) | (with_reducible show wpAny _ _ (PySem.eval (PySem.Expr.Name (Str.ofString "Call") _) _) _ _ _) | (with_reducible show wpAny _ _ (PySem.eval (PySem.Expr.Name (Str.ofString "Cast") _) _) _ _ _) | (with_reducible show wpAny _ _ (PySem.eval (PySem.Expr.Name (Str.ofString "Collate") _) _) _ _ _) | (with_reducible show wpAny _ _ (PySem.eval (PySem.Expr.Name (Str.ofString "MisuseError") _) _) _ _ _) | (with_reducible show wpAny _ _ (PySem.eval (PySem.Expr.Name (Str.ofString "fold") _) _) _ _ _) | (with_reducible show wpAny _ _ (PySem.eval (PySem.Expr.Name (Str.ofString "_law_found") _) _) _ _ _) | (with_reducible show wpAny _ _ (PySem.eval (PySem.Expr.Name (Str.ofString "_law_worth") _) _) _ _ _) | (with_reducible show wpAny _ _ (PySem.eval (PySem.Expr.Name (Str.ofString "_law_node") _) _) _ _ _) | (with_reducible show wpAny _ _ (PySem.eval (PySem.Expr.Name (Str.ofString "_law_tree") _) _) _ _ _) | (with_reducible show wpAny _ _ (PySem.eval (PySem.Expr.Name (Str.ofString "_law_take") _) _) _ _ _) | (with_reducible show wpAny _ _ (PySem.eval (PySem.Expr.Name (Str.ofString "_law_one") _) _) _ _ _)); k_dflt (refine' nmK ?z139b ?z139F ?z139X ?z139T ?z139e ?_; (case z139b => kernel_rfl!); (case z139F => k_asm); (case z139X => k_asm); (case z139T => k_asm); (case z139e => k_is); k_whole)))
  k_with "call ref" => ((fail_if_success k_extra "o19"); (k_here; (with_reducible show wpAny _ _ (call (Value.ref 712) [_, _, _, _]) _ _ _); k_dflt (refine' usx3 ?z140B ?z140F ?z140X ?z140N ?z140T ?z140hk ?z140P1 ?z140P2 ?z140P3 (add4_use ?z140hs ?z140hop ?z140hm ?z140hx) ?_ ?_ (cur_addC ?z140ik ?_); (case z140B => k_asm); (case z140F => k_asm); (case z140X => k_asm); (case z140N => k_asm); (case z140T => k_asm); (case z140hk => first | exact rfl | assumption); (case z140P1 => tb_start); (case z140P2 => tb_start); (case z140P3 => tb_start); (case z140hs => (refine Sta.mono (by with_reducible assumption) ?_ ?_ ?_ ?_; (focus lcg_sub); (focus k_all); (focus k_all); (focus k_all))); (case z140hop => with_reducible assumption); (case z140hm => z_head); (case z140hx => (first | exact lenX (by with_reducible assumption) (by with_reducible assumption) | exact lenO (by with_reducible assumption) (by with_reducible assumption) | lia | (simp only [List.length_append, List.length_cons, List.length_nil] at *; lia))); (case z140ik => ktr_rel); (focus k_extra "rmD"); (focus k_extra "rmU"); intro xs8ₘ n8ₘ nw8ₘ r'ₘ h'ₘ tk'ₘ F'ₘ en1ₘ en2ₘ en3ₘ lkₘ N'ₘ ha8ₘ hops8ₘ hxl8ₘ; (try (have hzNₘ := Num2.add (by with_reducible assumption) hops8ₘ)); (try dsimp only); (try k_sweep); (try k_fold))))
  k_with "call ref" => ((fail_if_success k_extra "o19"); (k_here; (with_reducible show wpAny _ _ (call (Value.ref 712) [_, _, _, _, _]) _ _ _); k_dflt (refine' usx3 ?z141B ?z141F ?z141X ?z141N ?z141T ?z141hk ?z141P1 ?z141P2 ?z141P3 (add5_use ?z141hs ?z141hop ?z141hm ?z141hx) ?_ ?_ (cur_addC ?z141ik ?_); (case z141B => k_asm); (case z141F => k_asm); (case z141X => k_asm); (case z141N => k_asm); (case z141T => k_asm); (case z141hk => first | exact rfl | assumption); (case z141P1 => tb_start); (case z141P2 => tb_start); (case z141P3 => tb_start); (case z141hs => (refine Sta.mono (by with_reducible assumption) ?_ ?_ ?_ ?_; (focus lcg_sub); (focus k_all); (focus k_all); (focus k_all))); (case z141hop => with_reducible assumption); (case z141hm => z_head); (case z141hx => (first | exact lenX (by with_reducible assumption) (by with_reducible assumption) | exact lenO (by with_reducible assumption) (by with_reducible assumption) | lia | (simp only [List.length_append, List.length_cons, List.length_nil] at *; lia))); (case z141ik => ktr_rel); (focus k_extra "rmD"); (focus k_extra "rmU"); intro xs8ₘ n8ₘ nw8ₘ r'ₘ h'ₘ tk'ₘ F'ₘ en1ₘ en2ₘ en3ₘ lkₘ N'ₘ ha8ₘ hops8ₘ hxl8ₘ; (try (have hzNₘ := Num2.add (by with_reducible assumption) hops8ₘ)); (try dsimp only); (try k_sweep); (try k_fold))))
  k_with "call ref" => ((fail_if_success k_extra "o19"); (k_here; (with_reducible show wpAny _ _ (call (Value.ref 712) [_, _, _, _, _, _]) _ _ _); k_dflt (refine' usx3 ?z142B ?z142F ?z142X ?z142N ?z142T ?z142hk ?z142P1 ?z142P2 ?z142P3 (add6_use ?z142hs ?z142hop ?z142hm ?z142hx ?z142h4) ?_ ?_ (cur_addC ?z142ik ?_); (case z142B => k_asm); (case z142F => k_asm); (case z142X => k_asm); (case z142N => k_asm); (case z142T => k_asm); (case z142hk => first | exact rfl | assumption); (case z142P1 => tb_start); (case z142P2 => tb_start); (case z142P3 => tb_start); (case z142hs => (refine Sta.mono (by with_reducible assumption) ?_ ?_ ?_ ?_; (focus lcg_sub); (focus k_all); (focus k_all); (focus k_all))); (case z142hop => with_reducible assumption); (case z142hm => z_head); (case z142hx => (first | exact lenX (by with_reducible assumption) (by with_reducible assumption) | exact lenO (by with_reducible assumption) (by with_reducible assumption) | lia | (simp only [List.length_append, List.length_cons, List.length_nil] at *; lia))); (case z142h4 => first | assumption | exact .val (by assumption) | exact .val .none | exact .val (.int (by lia) (by lia)) | exact .told (by k_mem)); (case z142ik => ktr_rel); (focus k_extra "rmD"); (focus k_extra "rmU"); intro xs8ₘ n8ₘ nw8ₘ r'ₘ h'ₘ tk'ₘ F'ₘ en1ₘ en2ₘ en3ₘ lkₘ N'ₘ ha8ₘ hops8ₘ hxl8ₘ; (try (have hzNₘ := Num2.add (by with_reducible assumption) hops8ₘ)); (try dsimp only); (try k_sweep); (try k_fold))))
  k_with "k_all" => ((fail_if_success k_extra "o19"); first | ((with_reducible refine' off_sub ?z143h ?z143s); (case z143h => tbn_find); (case z143s => z_head)) | ((with_reducible refine' off_lt2 ?z143a ?z143h ?z143s); (case z143a => first | (with_reducible assumption) | assumption); (case z143h => tbn_find); (case z143s => z_head)))
  k_with "x_run" => ((fail_if_success k_extra "o19"); first | (with_reducible assumption) | (refine labs_app ?_ ?_; (focus x_run); (focus lia)) | (refine labs_dec (by with_reducible assumption) ?_; lia))
  k_with "x_auto" => ((fail_if_success k_extra "o19"); first | (with_reducible assumption) | (refine labs_app_ne ?_ ?_; (focus x_auto); (focus lia)) | (refine labs_ne ?_; with_reducible assumption) | (refine labs_ne (labs_dec (by with_reducible assumption) ?_); lia) | (refine Fx.fresh (by with_reducible assumption) ?_ ?_; (focus lia); x_auto))
  k_with "x_head" => ((fail_if_success k_extra "o19"); first | (with_reducible exact Apart.nil) | (with_reducible refine Apart.app ?_ ?_; (focus x_head); x_head) | (with_reducible refine Apart.cons ?_ ?_; (focus k_all); x_head) | (refine Apart.subL (by with_reducible assumption) ?_; z_head))
  k_with "z_run" => ((fail_if_success k_extra "o19"); first | (with_reducible exact TailT.here) | ((with_reducible refine' TailT.d1 ?z144pk); (case z144pk => z_run)) | ((with_reducible refine' TailT.d2 ?z144pk); (case z144pk => z_run)) | ((with_reducible refine' TailT.d3 ?z144pk); (case z144pk => z_run)) | ((with_reducible refine' TailT.cons ?z144pk); (case z144pk => z_run)) | ((with_reducible refine' TailT.app ?z144pk); (case z144pk => z_run)))
  k_with "call ref" => ((fail_if_success k_extra "o19"); (k_here; (with_reducible show wpAny _ _ (call (Value.ref 741) [_]) _ _ _); k_dflt (refine' usx1 ?z145B ?z145F ?z145X ?z145N ?z145T ?z145hk ?z145P1 (reg1_use (by with_reducible assumption) ?z145hP ?z145ho) ?_ ?_ (cur_reg ?_); (case z145B => k_asm); (case z145F => k_asm); (case z145X => k_asm); (case z145N => k_asm); (case z145T => k_asm); (case z145hk => first | exact rfl | assumption); (case z145P1 => tb_start); (case z145hP => k_mem); (case z145ho => k_all); (focus k_extra "rmD"); (focus k_extra "rmU"); intro u8ₘ uR8ₘ h'ₘ tk'ₘ F'ₘ en1ₘ lkₘ N'ₘ; (try dsimp only); (try k_sweep); (try k_fold))))
  k_with "call builtin:isinstance" => ((fail_if_success k_extra "o19"); (k_here; (with_reducible show wpAny _ _ (call _ [Value.ref _, Value.ref _]) _ _ _); k_dflt (refine' node_isi ?z146X ?z146N ?z146n ?z146c ?_; (case z146c => decide); (case z146X => k_in); (case z146N => k_asm); (case z146n => (refine NodeObj.mono ?_ (by with_reducible assumption); z_head)); k_whole)))
  k_with "call ref" => ((fail_if_success k_extra "o19"); (k_here; (with_reducible show wpAny _ _ (call (Value.ref 676) [_, _, _]) _ _ _); k_dflt (refine' usx3 ?z147B ?z147F ?z147X ?z147N ?z147T ?z147hk ?z147P1 ?z147P2 ?z147P3 (callD_use (by with_reducible assumption) ?z147ho ?z147hm ?z147hl ?z147hz) ?_ ?_ (cur_compS ?z147ik ?_); (case z147B => k_asm); (case z147F => k_asm); (case z147X => k_asm); (case z147N => k_asm); (case z147T => k_asm); (case z147hk => first | exact rfl | assumption); (case z147P1 => tb_start); (case z147P2 => tb_start); (case z147P3 => tb_start); (case z147ho => with_reducible assumption); (case z147hm => z_head); (case z147hl => with_reducible assumption); (case z147hz => (first | (with_reducible assumption) | exact Num2.take (by with_reducible assumption) | exact Nums.cast (by with_reducible assumption) (by with_reducible assumption) | (refine Nums.mk' ?_ ?_ ?_ ?_; (focus lia); (focus x_run); (focus (first | exact lenX (by with_reducible assumption) (by with_reducible assumption) | exact lenO (by with_reducible assumption) (by with_reducible assumption) | lia | (simp only [List.length_append, List.length_cons, List.length_nil] at *; lia))); (focus (first | exact lenX (by with_reducible assumption) (by with_reducible assumption) | exact lenO (by with_reducible assumption) (by with_reducible assumption) | lia | (simp only [List.length_append, List.length_cons, List.length_nil] at *; lia)))))); (case z147ik => ktr_rel); (focus k_extra "rmD"); (focus k_extra "rmU"); intro xs8ₘ n8ₘ oL8ₘ nw8ₘ uR8ₘ uN8ₘ r'ₘ h'ₘ tk'ₘ F'ₘ en1ₘ en2ₘ en3ₘ lkₘ N'ₘ ha8ₘ h81ₘ h82ₘ h83ₘ ho8ₘ hl8ₘ; (try dsimp only); (try k_sweep); (try k_fold))))
  k_with "call ref" => ((fail_if_success k_extra "o19"); (k_here; (with_reducible show wpAny _ _ (call (Value.ref 562) [_, _, _, _]) _ _ _); k_dflt (refine' usx3 ?z148B ?z148F ?z148X ?z148N ?z148T ?z148hk ?z148P1 ?z148P2 ?z148P3 (column_does (hs := ?z148hs) (ho := ?z148ho) (hm := ?z148hm) (hl := ?z148hl) (hx := ?z148hx)) ?_ ?_ (cur_compS ?z148ik ?_); (case z148B => k_asm); (case z148F => k_asm); (case z148X => k_asm); (case z148N => k_asm); (case z148T => k_asm); (case z148hk => first | exact rfl | assumption); (case z148P1 => tb_start); (case z148P2 => tb_start); (case z148P3 => tb_start); (case z148hs => (refine Sta.mono (by with_reducible assumption) ?_ ?_ ?_ ?_; (focus lcg_sub); (focus k_all); (focus k_all); (focus k_all))); (case z148ho => with_reducible assumption); (case z148hm => z_head); (case z148hl => with_reducible assumption); (case z148hx => (first | exact lenX (by with_reducible assumption) (by with_reducible assumption) | exact lenO (by with_reducible assumption) (by with_reducible assumption) | lia | (simp only [List.length_append, List.length_cons, List.length_nil] at *; lia))); (case z148ik => ktr_rel); (focus k_extra "rmD"); (focus k_extra "rmU"); intro xs8ₘ n8ₘ oL8ₘ nw8ₘ uR8ₘ uN8ₘ r'ₘ h'ₘ tk'ₘ F'ₘ en1ₘ en2ₘ en3ₘ lkₘ N'ₘ ha8ₘ h81ₘ h82ₘ h83ₘ ho8ₘ hl8ₘ; (try dsimp only); (try k_sweep); (try k_fold))))
  k_with "compareOp NotIn int ref" => ((fail_if_success k_extra "o19"); (k_here; k_dflt (refine' kda_notin ?z149N ?z149m ?z149d ?z149lo true ?z149hb ?_; (case z149N => k_asm); (case z149m => k_mem); (case z149d => with_reducible assumption); (case z149lo => with_reducible assumption); (case z149hb => rfl); k_whole)))
  k_with "k_handed" => ((fail_if_success k_extra "o19"); exact handed_val (by with_reducible assumption))
  exact True.intro
set_option maxRecDepth 100000 in
set_option maxHeartbeats 1000000 in
theorem expr_val3 {w : World} {c : CK} {k : PK} {K : List Value} {x dx : Addr} {R N tg : Int} {ops : List Op} {labs : List (Int × Int)} {xs : List Value} {n : Nat} {uR uN ut : Tok} {oL : Obj} {os osm : List (Addr × Obj)} (hs : Sta w c k K os) (hx : (x, instObj 122 dx) ∈ os) {tv : Tok} {v : Value} {y : Option Int} (hdx : (dx, litD w tv v) ∈ os) (hv : IsVal v y) (ho : OpsIn osm xs ops) (hm : ∀ p ∈ osm, p ∈ os) (hl : IntD w oL (labD labs)) (hz : Nums N ops labs (1)) :
   Does w 541 (8) [.ref c.Kc, .ref x, .int tg ut] ((k.OL, listOf xs.toArray n) :: (c.dP, progD w k R uR N uN) :: (k.LD, oL) :: os) (CompS w c k os osm (comp (.val y) tg ⟨R, N, ops, labs⟩) fun _ => True) := by
  obtain ⟨⟨c1, c2, c3, c4, c5, c6, c7⟩, hagg, hkn, o1, o2, o3, d1, d2, d3, hsm⟩ := id hs
  obtain ⟨hN0, hlb, hol, hbl⟩ := id hz
  have hxl := OpsIn.len ho
  have hobj : NodeObj os x := ⟨_, _, _, hx, hdx, by decide⟩
  refine Does.of ?_
  intro dp un gd cn cs a ccd cl outer A₀ base h₀ L m p loose mean mg mb hp0 gn0 dr0 tk0 oo0 Q E B F X N T hk hd hu hret
  revert X; k_fill; intro X
  refine wpAny_call ?_
  k_dflt (refine' code_def ?k1 ?k2 ?k3 ?k4 ?k5 ?kA ?kF ?kK ?k6 ?k7 ?k8 ?k9 ?kB ?_ ?c2 ?c3 ?c4 ?c5; (case kA => exact rfl); (case kF => exact rfl); (case kK => first | exact rfl | assumption); (case k1 => k_asm); (case k2 => k_asm); (case k3 => k_asm); (case k4 => k_asm); (case k5 => k_asm); (case k6 => k_is); (case k7 => k_is); (case k8 => k_room); (case k9 => first | exact BindsTo.of_eq rfl | exact binds_K (by k_in) rfl (by k_is) rfl rfl rfl); (case c5 => decide); (case kB => exact locs rfl); (case c2 => exact rfl); (case c3 => exact rfl); (case c4 => exact rfl); k_whole; intro g' L' h' FG' F' N' B' X' T'; refine letF F' ?_; clear F'; intro mk F'; (first | (refine letN6 N' ?_; clear N'; intro e1 e2 e3 e4 e5 e6 lk N') | (refine letN5 N' ?_; clear N'; intro e1 e2 e3 e4 e5 lk N') | (refine letN4 N' ?_; clear N'; intro e1 e2 e3 e4 lk N') | (refine letN3 N' ?_; clear N'; intro e1 e2 e3 lk N') | (refine letN2 N' ?_; clear N'; intro e1 e2 lk N') | (refine letN1 N' ?_; clear N'; intro e1 lk N') | skip); (try dsimp only); (try k_lift B'); (try k_fold))
  k_steps
  all_goals first | ((refine' comp_endS (by with_reducible assumption) ?F ?N ?T ?ho ?hl ?m1 ?m2 ?m3 ?e ?hP ?a0 ?a1 ?a2 ?a3; (case F => with_reducible assumption); (case N => with_reducible assumption); (case T => z_run); (case m1 => k_mem); (case m2 => k_mem); (case m3 => k_mem); (case ho => (refine OpsIn.mono ?_ (by with_reducible assumption); lcg_sub)); (case hl => with_reducible assumption); (case e => first | rfl | (simp only [comp, known1, St.add, St.reg, St.lab, St.place, *]; done) | fail); (case hP => first | exact True.intro | exact ⟨_, rfl⟩); (case a0 => x_head); (case a1 => k_all); (case a2 => k_all); (case a3 => k_all))) | fail
set_option maxRecDepth 100000 in
set_option maxHeartbeats 1000000 in
theorem expr_val2 {w : World} {c : CK} {k : PK} {K : List Value} {x dx : Addr} {R N : Int} {ops : List Op} {labs : List (Int × Int)} {xs : List Value} {n : Nat} {uR uN : Tok} {oL : Obj} {os osm : List (Addr × Obj)} (hs : Sta w c k K os) (hx : (x, instObj 122 dx) ∈ os) {tv : Tok} {v : Value} {y : Option Int} (hdx : (dx, litD w tv v) ∈ os) (hv : IsVal v y) (ho : OpsIn osm xs ops) (hm : ∀ p ∈ osm, p ∈ os) (hl : IntD w oL (labD labs)) (hz : Nums N ops labs (1)) :
   Does w 541 (8) [.ref c.Kc, .ref x] ((k.OL, listOf xs.toArray n) :: (c.dP, progD w k R uR N uN) :: (k.LD, oL) :: os) (CompS w c k os osm (comp (.val y) R ⟨R + 1, N, ops, labs⟩) fun r => ∃ u, r = .int R u) := by
  obtain ⟨⟨c1, c2, c3, c4, c5, c6, c7⟩, hagg, hkn, o1, o2, o3, d1, d2, d3, hsm⟩ := id hs
  obtain ⟨hN0, hlb, hol, hbl⟩ := id hz
  have hxl := OpsIn.len ho
  have hobj : NodeObj os x := ⟨_, _, _, hx, hdx, by decide⟩
  refine Does.of ?_
  intro dp un gd cn cs a ccd cl outer A₀ base h₀ L m p loose mean mg mb hp0 gn0 dr0 tk0 oo0 Q E B F X N T hk hd hu hret
  revert X; k_fill; intro X
  refine wpAny_call ?_
  k_dflt (refine' code_def ?k1 ?k2 ?k3 ?k4 ?k5 ?kA ?kF ?kK ?k6 ?k7 ?k8 ?k9 ?kB ?_ ?c2 ?c3 ?c4 ?c5; (case kA => exact rfl); (case kF => exact rfl); (case kK => first | exact rfl | assumption); (case k1 => k_asm); (case k2 => k_asm); (case k3 => k_asm); (case k4 => k_asm); (case k5 => k_asm); (case k6 => k_is); (case k7 => k_is); (case k8 => k_room); (case k9 => first | exact BindsTo.of_eq rfl | exact binds_K (by k_in) rfl (by k_is) rfl rfl rfl); (case c5 => decide); (case kB => exact locs rfl); (case c2 => exact rfl); (case c3 => exact rfl); (case c4 => exact rfl); k_whole; intro g' L' h' FG' F' N' B' X' T'; refine letF F' ?_; clear F'; intro mk F'; (first | (refine letN6 N' ?_; clear N'; intro e1 e2 e3 e4 e5 e6 lk N') | (refine letN5 N' ?_; clear N'; intro e1 e2 e3 e4 e5 lk N') | (refine letN4 N' ?_; clear N'; intro e1 e2 e3 e4 lk N') | (refine letN3 N' ?_; clear N'; intro e1 e2 e3 lk N') | (refine letN2 N' ?_; clear N'; intro e1 e2 lk N') | (refine letN1 N' ?_; clear N'; intro e1 lk N') | skip); (try dsimp only); (try k_lift B'); (try k_fold))
  k_steps
  all_goals first | ((refine' comp_endS (by with_reducible assumption) ?F ?N ?T ?ho ?hl ?m1 ?m2 ?m3 ?e ?hP ?a0 ?a1 ?a2 ?a3; (case F => with_reducible assumption); (case N => with_reducible assumption); (case T => z_run); (case m1 => k_mem); (case m2 => k_mem); (case m3 => k_mem); (case ho => (refine OpsIn.mono ?_ (by with_reducible assumption); lcg_sub)); (case hl => with_reducible assumption); (case e => first | rfl | (simp only [comp, known1, St.add, St.reg, St.lab, St.place, *]; done) | fail); (case hP => first | exact True.intro | exact ⟨_, rfl⟩); (case a0 => x_head); (case a1 => k_all); (case a2 => k_all); (case a3 => k_all))) | fail
set_option maxRecDepth 100000 in
set_option maxHeartbeats 1000000 in
theorem expr_col3 {w : World} {c : CK} {k : PK} {K : List Value} {x dx : Addr} {R N tg : Int} {ops : List Op} {labs : List (Int × Int)} {xs : List Value} {n : Nat} {uR uN ut : Tok} {oL : Obj} {os osm : List (Addr × Obj)} (hs : Sta w c k K os) (hx : (x, instObj 148 dx) ∈ os) {t1 t2 t3 t4 t5 t6 t7 u2 u3 u4 u5 u6 u7 : Tok} {i : Int} {co : String} (hdx : (dx, nameD w t1 t2 t3 t4 t5 t6 t7 u2 u3 u4 u5 u6 u7 i co) ∈ os) (ho : OpsIn osm xs ops) (hm : ∀ p ∈ osm, p ∈ os) (hl : IntD w oL (labD labs)) (hz : Nums N ops labs (1)) :
   Does w 541 (8) [.ref c.Kc, .ref x, .int tg ut] ((k.OL, listOf xs.toArray n) :: (c.dP, progD w k R uR N uN) :: (k.LD, oL) :: os) (CompS w c k os osm ((⟨R, N, ops, labs⟩ : St).add "Copy" (2 + i) tg 1 (.val none)) fun _ => True) := by
  obtain ⟨⟨c1, c2, c3, c4, c5, c6, c7⟩, hagg, hkn, o1, o2, o3, d1, d2, d3, hsm⟩ := id hs
  obtain ⟨hN0, hlb, hol, hbl⟩ := id hz
  have hxl := OpsIn.len ho
  have hobj : NodeObj os x := ⟨_, _, _, hx, hdx, by decide⟩
  refine Does.of ?_
  intro dp un gd cn cs a ccd cl outer A₀ base h₀ L m p loose mean mg mb hp0 gn0 dr0 tk0 oo0 Q E B F X N T hk hd hu hret
  revert X; k_fill; intro X
  refine wpAny_call ?_
  k_dflt (refine' code_def ?k1 ?k2 ?k3 ?k4 ?k5 ?kA ?kF ?kK ?k6 ?k7 ?k8 ?k9 ?kB ?_ ?c2 ?c3 ?c4 ?c5; (case kA => exact rfl); (case kF => exact rfl); (case kK => first | exact rfl | assumption); (case k1 => k_asm); (case k2 => k_asm); (case k3 => k_asm); (case k4 => k_asm); (case k5 => k_asm); (case k6 => k_is); (case k7 => k_is); (case k8 => k_room); (case k9 => first | exact BindsTo.of_eq rfl | exact binds_K (by k_in) rfl (by k_is) rfl rfl rfl); (case c5 => decide); (case kB => exact locs rfl); (case c2 => exact rfl); (case c3 => exact rfl); (case c4 => exact rfl); k_whole; intro g' L' h' FG' F' N' B' X' T'; refine letF F' ?_; clear F'; intro mk F'; (first | (refine letN6 N' ?_; clear N'; intro e1 e2 e3 e4 e5 e6 lk N') | (refine letN5 N' ?_; clear N'; intro e1 e2 e3 e4 e5 lk N') | (refine letN4 N' ?_; clear N'; intro e1 e2 e3 e4 lk N') | (refine letN3 N' ?_; clear N'; intro e1 e2 e3 lk N') | (refine letN2 N' ?_; clear N'; intro e1 e2 lk N') | (refine letN1 N' ?_; clear N'; intro e1 lk N') | skip); (try dsimp only); (try k_lift B'); (try k_fold))
  k_steps
  all_goals first | ((refine' comp_endS (by with_reducible assumption) ?F ?N ?T ?ho ?hl ?m1 ?m2 ?m3 ?e ?hP ?a0 ?a1 ?a2 ?a3; (case F => with_reducible assumption); (case N => with_reducible assumption); (case T => z_run); (case m1 => k_mem); (case m2 => k_mem); (case m3 => k_mem); (case ho => (refine OpsIn.mono ?_ (by with_reducible assumption); lcg_sub)); (case hl => with_reducible assumption); (case e => first | rfl | (simp only [comp, known1, St.add, St.reg, St.lab, St.place, *]; done) | fail); (case hP => first | exact True.intro | exact ⟨_, rfl⟩); (case a0 => x_head); (case a1 => k_all); (case a2 => k_all); (case a3 => k_all))) | fail
set_option maxRecDepth 100000 in
set_option maxHeartbeats 1000000 in
theorem expr_col2 {w : World} {c : CK} {k : PK} {K : List Value} {x dx : Addr} {R N : Int} {ops : List Op} {labs : List (Int × Int)} {xs : List Value} {n : Nat} {uR uN : Tok} {oL : Obj} {os osm : List (Addr × Obj)} (hs : Sta w c k K os) (hx : (x, instObj 148 dx) ∈ os) {t1 t2 t3 t4 t5 t6 t7 u2 u3 u4 u5 u6 u7 : Tok} {i : Int} {co : String} (hdx : (dx, nameD w t1 t2 t3 t4 t5 t6 t7 u2 u3 u4 u5 u6 u7 i co) ∈ os) (ho : OpsIn osm xs ops) (hm : ∀ p ∈ osm, p ∈ os) (hl : IntD w oL (labD labs)) (hz : Nums N ops labs (1)) :
   Does w 541 (8) [.ref c.Kc, .ref x] ((k.OL, listOf xs.toArray n) :: (c.dP, progD w k R uR N uN) :: (k.LD, oL) :: os) (CompS w c k os osm ((⟨R + 1, N, ops, labs⟩ : St).add "Copy" (2 + i) R 1 (.val none)) fun r => ∃ u, r = .int R u) := by
  obtain ⟨⟨c1, c2, c3, c4, c5, c6, c7⟩, hagg, hkn, o1, o2, o3, d1, d2, d3, hsm⟩ := id hs
  obtain ⟨hN0, hlb, hol, hbl⟩ := id hz
  have hxl := OpsIn.len ho
  have hobj : NodeObj os x := ⟨_, _, _, hx, hdx, by decide⟩
  refine Does.of ?_
  intro dp un gd cn cs a ccd cl outer A₀ base h₀ L m p loose mean mg mb hp0 gn0 dr0 tk0 oo0 Q E B F X N T hk hd hu hret
  revert X; k_fill; intro X
  refine wpAny_call ?_
  k_dflt (refine' code_def ?k1 ?k2 ?k3 ?k4 ?k5 ?kA ?kF ?kK ?k6 ?k7 ?k8 ?k9 ?kB ?_ ?c2 ?c3 ?c4 ?c5; (case kA => exact rfl); (case kF => exact rfl); (case kK => first | exact rfl | assumption); (case k1 => k_asm); (case k2 => k_asm); (case k3 => k_asm); (case k4 => k_asm); (case k5 => k_asm); (case k6 => k_is); (case k7 => k_is); (case k8 => k_room); (case k9 => first | exact BindsTo.of_eq rfl | exact binds_K (by k_in) rfl (by k_is) rfl rfl rfl); (case c5 => decide); (case kB => exact locs rfl); (case c2 => exact rfl); (case c3 => exact rfl); (case c4 => exact rfl); k_whole; intro g' L' h' FG' F' N' B' X' T'; refine letF F' ?_; clear F'; intro mk F'; (first | (refine letN6 N' ?_; clear N'; intro e1 e2 e3 e4 e5 e6 lk N') | (refine letN5 N' ?_; clear N'; intro e1 e2 e3 e4 e5 lk N') | (refine letN4 N' ?_; clear N'; intro e1 e2 e3 e4 lk N') | (refine letN3 N' ?_; clear N'; intro e1 e2 e3 lk N') | (refine letN2 N' ?_; clear N'; intro e1 e2 lk N') | (refine letN1 N' ?_; clear N'; intro e1 lk N') | skip); (try dsimp only); (try k_lift B'); (try k_fold))
  k_steps
  all_goals first | ((refine' comp_endS (by with_reducible assumption) ?F ?N ?T ?ho ?hl ?m1 ?m2 ?m3 ?e ?hP ?a0 ?a1 ?a2 ?a3; (case F => with_reducible assumption); (case N => with_reducible assumption); (case T => z_run); (case m1 => k_mem); (case m2 => k_mem); (case m3 => k_mem); (case ho => (refine OpsIn.mono ?_ (by with_reducible assumption); lcg_sub)); (case hl => with_reducible assumption); (case e => first | rfl | (simp only [comp, known1, St.add, St.reg, St.lab, St.place, *]; done) | fail); (case hP => first | exact True.intro | exact ⟨_, rfl⟩); (case a0 => x_head); (case a1 => k_all); (case a2 => k_all); (case a3 => k_all))) | fail
set_option maxRecDepth 100000 in
set_option maxHeartbeats 1000000 in
theorem expr_call3 {w : World} {c : CK} {k : PK} {K : List Value} {x dx : Addr} {R N tg : Int} {ops : List Op} {labs : List (Int × Int)} {xs : List Value} {n : Nat} {uR uN ut : Tok} {oL : Obj} {os osm : List (Addr × Obj)} (hs : Sta w c k K os) (hx : (x, instObj 354 dx) ∈ os) {dob : Obj} {t : Tr} (hdx : (dx, dob) ∈ os) {nn : Nat} (hcall : CallD w c k os x t nn) (ho : OpsIn osm xs ops) (hm : ∀ p ∈ osm, p ∈ os) (hl : IntD w oL (labD labs)) (hz : Nums N ops labs (t.nops)) :
   Does w 541 (nn + 2) [.ref c.Kc, .ref x, .int tg ut] ((k.OL, listOf xs.toArray n) :: (c.dP, progD w k R uR N uN) :: (k.LD, oL) :: os) (CompS w c k os osm (comp (t) tg ⟨R, N, ops, labs⟩) fun _ => True) := by
  obtain ⟨⟨c1, c2, c3, c4, c5, c6, c7⟩, hagg, hkn, o1, o2, o3, d1, d2, d3, hsm⟩ := id hs
  obtain ⟨hN0, hlb, hol, hbl⟩ := id hz
  have hxl := OpsIn.len ho
  have hobj : NodeObj os x := ⟨_, _, _, hx, hdx, by decide⟩
  refine Does.of ?_
  intro dp un gd cn cs a ccd cl outer A₀ base h₀ L m p loose mean mg mb hp0 gn0 dr0 tk0 oo0 Q E B F X N T hk hd hu hret
  revert X; k_fill; intro X
  refine wpAny_call ?_
  k_dflt (refine' code_def ?k1 ?k2 ?k3 ?k4 ?k5 ?kA ?kF ?kK ?k6 ?k7 ?k8 ?k9 ?kB ?_ ?c2 ?c3 ?c4 ?c5; (case kA => exact rfl); (case kF => exact rfl); (case kK => first | exact rfl | assumption); (case k1 => k_asm); (case k2 => k_asm); (case k3 => k_asm); (case k4 => k_asm); (case k5 => k_asm); (case k6 => k_is); (case k7 => k_is); (case k8 => k_room); (case k9 => first | exact BindsTo.of_eq rfl | exact binds_K (by k_in) rfl (by k_is) rfl rfl rfl); (case c5 => decide); (case kB => exact locs rfl); (case c2 => exact rfl); (case c3 => exact rfl); (case c4 => exact rfl); k_whole; intro g' L' h' FG' F' N' B' X' T'; refine letF F' ?_; clear F'; intro mk F'; (first | (refine letN6 N' ?_; clear N'; intro e1 e2 e3 e4 e5 e6 lk N') | (refine letN5 N' ?_; clear N'; intro e1 e2 e3 e4 e5 lk N') | (refine letN4 N' ?_; clear N'; intro e1 e2 e3 e4 lk N') | (refine letN3 N' ?_; clear N'; intro e1 e2 e3 lk N') | (refine letN2 N' ?_; clear N'; intro e1 e2 lk N') | (refine letN1 N' ?_; clear N'; intro e1 lk N') | skip); (try dsimp only); (try k_lift B'); (try k_fold))
  k_steps
  all_goals first | ((refine' comp_endS (by with_reducible assumption) ?F ?N ?T ?ho ?hl ?m1 ?m2 ?m3 ?e ?hP ?a0 ?a1 ?a2 ?a3; (case F => with_reducible assumption); (case N => with_reducible assumption); (case T => z_run); (case m1 => k_mem); (case m2 => k_mem); (case m3 => k_mem); (case ho => (refine OpsIn.mono ?_ (by with_reducible assumption); lcg_sub)); (case hl => with_reducible assumption); (case e => first | rfl | (simp only [comp, known1, St.add, St.reg, St.lab, St.place, *]; done) | fail); (case hP => first | exact True.intro | exact ⟨_, rfl⟩); (case a0 => x_head); (case a1 => k_all); (case a2 => k_all); (case a3 => k_all))) | fail
set_option maxRecDepth 100000 in
set_option maxHeartbeats 1000000 in
theorem expr_call2 {w : World} {c : CK} {k : PK} {K : List Value} {x dx : Addr} {R N : Int} {ops : List Op} {labs : List (Int × Int)} {xs : List Value} {n : Nat} {uR uN : Tok} {oL : Obj} {os osm : List (Addr × Obj)} (hs : Sta w c k K os) (hx : (x, instObj 354 dx) ∈ os) {dob : Obj} {t : Tr} (hdx : (dx, dob) ∈ os) {nn : Nat} (hcall : CallD w c k os x t nn) (ho : OpsIn osm xs ops) (hm : ∀ p ∈ osm, p ∈ os) (hl : IntD w oL (labD labs)) (hz : Nums N ops labs (t.nops)) :
   Does w 541 (nn + 2) [.ref c.Kc, .ref x] ((k.OL, listOf xs.toArray n) :: (c.dP, progD w k R uR N uN) :: (k.LD, oL) :: os) (CompS w c k os osm (comp (t) R ⟨R + 1, N, ops, labs⟩) fun r => ∃ u, r = .int R u) := by
  obtain ⟨⟨c1, c2, c3, c4, c5, c6, c7⟩, hagg, hkn, o1, o2, o3, d1, d2, d3, hsm⟩ := id hs
  obtain ⟨hN0, hlb, hol, hbl⟩ := id hz
  have hxl := OpsIn.len ho
  have hobj : NodeObj os x := ⟨_, _, _, hx, hdx, by decide⟩
  refine Does.of ?_
  intro dp un gd cn cs a ccd cl outer A₀ base h₀ L m p loose mean mg mb hp0 gn0 dr0 tk0 oo0 Q E B F X N T hk hd hu hret
  revert X; k_fill; intro X
  refine wpAny_call ?_
  k_dflt (refine' code_def ?k1 ?k2 ?k3 ?k4 ?k5 ?kA ?kF ?kK ?k6 ?k7 ?k8 ?k9 ?kB ?_ ?c2 ?c3 ?c4 ?c5; (case kA => exact rfl); (case kF => exact rfl); (case kK => first | exact rfl | assumption); (case k1 => k_asm); (case k2 => k_asm); (case k3 => k_asm); (case k4 => k_asm); (case k5 => k_asm); (case k6 => k_is); (case k7 => k_is); (case k8 => k_room); (case k9 => first | exact BindsTo.of_eq rfl | exact binds_K (by k_in) rfl (by k_is) rfl rfl rfl); (case c5 => decide); (case kB => exact locs rfl); (case c2 => exact rfl); (case c3 => exact rfl); (case c4 => exact rfl); k_whole; intro g' L' h' FG' F' N' B' X' T'; refine letF F' ?_; clear F'; intro mk F'; (first | (refine letN6 N' ?_; clear N'; intro e1 e2 e3 e4 e5 e6 lk N') | (refine letN5 N' ?_; clear N'; intro e1 e2 e3 e4 e5 lk N') | (refine letN4 N' ?_; clear N'; intro e1 e2 e3 e4 lk N') | (refine letN3 N' ?_; clear N'; intro e1 e2 e3 lk N') | (refine letN2 N' ?_; clear N'; intro e1 e2 lk N') | (refine letN1 N' ?_; clear N'; intro e1 lk N') | skip); (try dsimp only); (try k_lift B'); (try k_fold))
  k_steps
  all_goals first | ((refine' comp_endS (by with_reducible assumption) ?F ?N ?T ?ho ?hl ?m1 ?m2 ?m3 ?e ?hP ?a0 ?a1 ?a2 ?a3; (case F => with_reducible assumption); (case N => with_reducible assumption); (case T => z_run); (case m1 => k_mem); (case m2 => k_mem); (case m3 => k_mem); (case ho => (refine OpsIn.mono ?_ (by with_reducible assumption); lcg_sub)); (case hl => with_reducible assumption); (case e => first | rfl | (simp only [comp, known1, St.add, St.reg, St.lab, St.place, *]; done) | fail); (case hP => first | exact True.intro | exact ⟨_, rfl⟩); (case a0 => x_head); (case a1 => k_all); (case a2 => k_all); (case a3 => k_all))) | fail
end
end Mine
end
section
open PySem PySem.W PyProof.Rows PySem.Spec PyProof.V
namespace Mine
theorem Does.le {w : World} {f : Addr} {n n' : Nat} {vs : List Value} {news : List (Addr × Obj)} {P : Value → List (Addr × Obj) → Prop} (D : Does w f n vs news P) (h : n ≤ n') : Does w f n' vs news P :=
  fun dp un gd cn cs a ccd cl outer A₀ base h₀ L m p loose mean mg mb s QQ E B F X N T hk hd hu hret =>
    D dp un gd cn cs a ccd cl outer A₀ base h₀ L m p loose mean mg mb s QQ E B F X N T hk (by lia) (by lia) hret
theorem fold_abs (w : World) : FoldTo w "abs" "abs" := fun t os => fold_nm w _ _ t os (by decide +kernel) (by decide +kernel) (by decide +kernel)
theorem fold_co (w : World) : FoldTo w "coalesce" "coalesce" := fun t os => fold_nm w _ _ t os (by decide +kernel) (by decide +kernel) (by decide +kernel)
theorem fold_Co (w : World) : FoldTo w "Coalesce" "coalesce" := fun t os => fold_nm w _ _ t os (by decide +kernel) (by decide +kernel) (by decide +kernel)
theorem fold_ifn (w : World) : FoldTo w "ifnull" "ifnull" := fun t os => fold_nm w _ _ t os (by decide +kernel) (by decide +kernel) (by decide +kernel)
theorem fold_iif (w : World) : FoldTo w "iif" "iif" := fun t os => fold_nm w _ _ t os (by decide +kernel) (by decide +kernel) (by decide +kernel)
theorem fold_IIF (w : World) : FoldTo w "IIF" "iif" := fun t os => fold_nm w _ _ t os (by decide +kernel) (by decide +kernel) (by decide +kernel)
theorem fold_Max (w : World) : FoldTo w "Max" "max" := fun t os => fold_nm w _ _ t os (by decide +kernel) (by decide +kernel) (by decide +kernel)
theorem sum_ne : Str.ofString "abs" ≠ Str.ofString "sum" ∧ Str.ofString "coalesce" ≠ Str.ofString "sum" ∧ Str.ofString "Coalesce" ≠ Str.ofString "sum" ∧ Str.ofString "ifnull" ≠ Str.ofString "sum" ∧ Str.ofString "iif" ≠ Str.ofString "sum" ∧ Str.ofString "IIF" ≠ Str.ofString "sum" ∧ Str.ofString "Max" ≠ Str.ofString "sum" :=
  ⟨ofStr_ne (by decide +kernel), ofStr_ne (by decide +kernel), ofStr_ne (by decide +kernel), ofStr_ne (by decide +kernel), ofStr_ne (by decide +kernel), ofStr_ne (by decide +kernel), ofStr_ne (by decide +kernel)⟩
noncomputable def leafy : Tr → Bool
  | .val _ => true
  | .col _ => true
  | .known => true
  | .f0 => false
  | .f1 _ => false
  | .f2 _ _ _ => false
  | .f3 _ _ _ _ => false
theorem no_tf {P : Prop} (h : true = false) : P := Bool.noConfusion h
theorem no_ft {P : Prop} (h : false = true) : P := Bool.noConfusion h
theorem leafy_of {t : Tr} (h : t.depth ≤ 0) : leafy t = true := by cases t <;> first | rfl | exact absurd h (Nat.not_succ_le_zero _)
theorem deep_of {t : Tr} (h : leafy t = false) : 1 ≤ t.depth := by cases t <;> first | exact no_tf h | exact Nat.succ_le_succ (Nat.zero_le _)
theorem call_node {w : World} {c : CK} {k : PK} {K : List Value} {v : Value} {t : Tr} {os : List (Addr × Obj)} (hs : Sta w c k K os) (hn : NodeIn w os K v t) (d : Nat) (hd : t.depth ≤ d + 1) (hE : ∀ t', t'.depth ≤ d → ExprD w t') (hc : leafy t = false) :
    ∃ x dx dob, v = .ref x ∧ (x, instObj 354 dx) ∈ os ∧ (dx, dob) ∈ os ∧ CallD w c k os x t (8 * d + 12) := by
  obtain ⟨s1, s2, s3, s4, s5, s6, s7⟩ := sum_ne
  have ab : ∀ {a b n : Nat}, max a b + 1 ≤ n + 1 → a ≤ n ∧ b ≤ n := fun h => by lia
  cases hn with
  | val => exact no_tf hc
  | col0 => exact no_tf hc
  | col1 => exact no_tf hc
  | known => exact no_tf hc
  | f0 h1 h2 h3 => exact ⟨_, _, _, rfl, h1, h2, fun R N tg ops labs xs n uR uN ut oL osm ho hm hl hz => call_fn hs h1 h2 (fold_abs w) s1 (.f0 h3) ho hm hl hz⟩
  | f1 h1 h2 h3 h4 =>
    have d1 := Nat.le_of_succ_le_succ hd
    exact ⟨_, _, _, rfl, h1, h2, fun R N tg ops labs xs n uR uN ut oL osm ho hm hl hz => call_fn hs h1 h2 (fold_abs w) s1 (.f1 h3 h4 (hE _ d1) d1) ho hm hl hz⟩
  | f2 F h1 h2 h3 h4 h5 =>
    obtain ⟨d1, d2⟩ := ab hd
    cases F with
    | coalesce => exact ⟨_, _, _, rfl, h1, h2, fun R N tg ops labs xs n uR uN ut oL osm ho hm hl hz => call_fn hs h1 h2 (fold_co w) s2 (.co2 h3 h4 (hE _ d1) d1 h5 (hE _ d2) d2) ho hm hl hz⟩
    | ifnull => exact ⟨_, _, _, rfl, h1, h2, fun R N tg ops labs xs n uR uN ut oL osm ho hm hl hz => call_fn hs h1 h2 (fold_ifn w) s4 (.if2 h3 h4 (hE _ d1) d1 h5 (hE _ d2) d2) ho hm hl hz⟩
    | max => exact ⟨_, _, _, rfl, h1, h2, fun R N tg ops labs xs n uR uN ut oL osm ho hm hl hz => call_fn hs h1 h2 (fold_Max w) s7 (.max h3 h4 (hE _ d1) d1 h5 (hE _ d2) d2) ho hm hl hz⟩
  | f3 F h1 h2 h3 h4 h5 h6 =>
    obtain ⟨d1, d23⟩ := ab hd
    obtain ⟨d2, d3⟩ : _ ∧ _ := ⟨Nat.le_trans (Nat.le_max_left _ _) d23, Nat.le_trans (Nat.le_max_right _ _) d23⟩
    cases F with
    | coalesce => exact ⟨_, _, _, rfl, h1, h2, fun R N tg ops labs xs n uR uN ut oL osm ho hm hl hz => call_fn hs h1 h2 (fold_Co w) s3 (.co3 h3 h4 (hE _ d1) d1 h5 (hE _ d2) d2 h6 (hE _ d3) d3) ho hm hl hz⟩
    | iif => exact ⟨_, _, _, rfl, h1, h2, fun R N tg ops labs xs n uR uN ut oL osm ho hm hl hz => call_fn hs h1 h2 (fold_iif w) s5 (.iif h3 h4 (hE _ d1) d1 h5 (hE _ d2) d2 h6 (hE _ d3) d3 (fun _ _ => rfl) rfl) ho hm hl hz⟩
    | iif2 => exact ⟨_, _, _, rfl, h1, h2, fun R N tg ops labs xs n uR uN ut oL osm ho hm hl hz => call_fn hs h1 h2 (fold_IIF w) s6 (.iif h3 h4 (hE _ d1) d1 h5 (hE _ d2) d2 h6 (hE _ d3) d3 (fun _ _ => rfl) rfl) ho hm hl hz⟩
theorem nums1 {N : Int} {ops : List Op} {labs : List (Int × Int)} {t : Tr} (h : t.nops = 1) (k : Nums N ops labs t.nops) : Nums N ops labs 1 := h ▸ k
theorem expr_leaf {w : World} {t : Tr} (h : leafy t = true) : ExprD w t := by
  intro d hd c k K v R N ops labs xs n uR uN oL os osm hs hn ho hm hl hz
  cases hn with
  | known h1 h2 h3 =>
    have hc : CallD w c k os _ .known 6 := fun R N tg ops labs xs n uR uN ut oL osm ho hm hl hz => call_known hs h1 h2 h3 ho hm hl (nums1 rfl hz)
    exact ⟨fun tg ut => (expr_call3 hs h1 h2 hc ho hm hl hz).le (Nat.le_add_left _ _), (expr_call2 hs h1 h2 hc ho hm hl hz).le (Nat.le_add_left _ _)⟩
  | val h1 h2 h3 => exact ⟨fun tg ut => (expr_val3 hs h1 h2 h3 ho hm hl (nums1 rfl hz)).le (Nat.le_add_left _ _), (expr_val2 hs h1 h2 h3 ho hm hl (nums1 rfl hz)).le (Nat.le_add_left _ _)⟩
  | col0 h1 h2 => exact ⟨fun tg ut => (expr_col3 hs h1 h2 ho hm hl (nums1 rfl hz)).le (Nat.le_add_left _ _), (expr_col2 hs h1 h2 ho hm hl (nums1 rfl hz)).le (Nat.le_add_left _ _)⟩
  | col1 h1 h2 => exact ⟨fun tg ut => (expr_col3 hs h1 h2 ho hm hl (nums1 rfl hz)).le (Nat.le_add_left _ _), (expr_col2 hs h1 h2 ho hm hl (nums1 rfl hz)).le (Nat.le_add_left _ _)⟩
  | f0 => exact no_ft h
  | f1 => exact no_ft h
  | f2 => exact no_ft h
  | f3 => exact no_ft h
theorem expr_all (w : World) : ∀ (d : Nat) (t : Tr), t.depth ≤ d → ExprD w t := by
  intro d
  induction d with
  | zero => exact fun t ht => expr_leaf (leafy_of ht)
  | succ d ih =>
    intro t ht
    cases hc : leafy t with
    | true => exact expr_leaf hc
    | false =>
      intro d' hd' c k K v R N ops labs xs n uR uN oL os osm hs hn ho hm hl hz
      have h1 := deep_of hc
      obtain ⟨x, dx, dob, rfl, m1, m2, hcall⟩ := call_node hs hn (t.depth - 1) (by lia) (fun t' ht' => ih t' (by lia)) hc
      exact ⟨fun tg ut => (expr_call3 hs m1 m2 hcall ho hm hl hz).le (by lia), (expr_call2 hs m1 m2 hcall ho hm hl hz).le (by lia)⟩
theorem expr_does (w : World) (t : Tr) : ExprD w t := expr_all w t.depth t (Nat.le_refl _)
end Mine
end
section
open PySem PySem.W PyProof.Rows PySem.Spec PyProof.V
namespace Mine
noncomputable def WorthPost (ys : List (Option Int)) (os : List (Addr × Obj)) (r : Value) (l : List (Addr × Obj)) : Prop := IsVal r (worth ys) ∧ l = os
section Cur
variable {h₀ : Heap} {L : Addr} {m : Str → Option Value} {gn dr oo} {Q : Value → Shared → Prop}
theorem cur_worth {ys : List (Option Int)} {os : List (Addr × Obj)}
    (ret : ∀ (r : Value) (h' : Heap) (tk' : Nat), Fr h₀ L h' m → News h₀ L h' (os) → IsVal r (worth ys) → Q r ⟨h', gn, dr, tk', oo⟩) :
    ∀ r news' h' tk', Fr h₀ L h' m → News h₀ L h' news' → WorthPost ys os r news' → Q r ⟨h', gn, dr, tk', oo⟩ := by
  rintro r _ h' tk' F N ⟨a, rfl⟩; exact ret r h' tk' F N a
end Cur
theorem worth_none {ys : List (Option Int)} {e : Int} (he : wtot ys = e) (h : e.fmod 3 = 0) : IsVal .none (worth ys) := by
  unfold worth; rw [he, if_pos h]; exact .none
theorem worth_some {ys : List (Option Int)} {e : Int} {t : Tok} (he : wtot ys = e) (h : ¬ e.fmod 3 = 0) : IsVal (.int (e.fmod 7) t) (worth ys) := by
  unfold worth; rw [he, if_neg h]
  have h1 := Int.fmod_nonneg_of_pos e (b := 7) (by decide)
  have h2 := Int.fmod_lt_of_pos e (b := 7) (by decide)
  exact .int h1 (by lia)
section
theorem lines22 : True := by
  k_with "o19" => skip
  k_with "exec For Name Name cons nil" => ((fail_if_success k_extra "o20"); (k_here; (rename Fr _ _ _ _ => lF'ₘ); (with_unfolding_all refine' For_invVF lF'ₘ ?z150k1 ?z150k2 ?_; (case z150k1 => exact rfl); (case z150k2 => exact rfl); k_whole)))
  k_with "pyIterM ref" => ((fail_if_success k_extra "o20"); ((with_reducible show wpAny _ _ (pyIter (Value.ref _)) (fun it s₂ => LoopAtV _ _ _ _ _ _ _ _ _ it s₂) _ _); k_dflt (refine' iter_listUnr (by rfl) ?z151F ?z151N ?z151m ?z151c ?z151d ?_; (case z151F => k_asm); (case z151N => k_asm); (case z151m => k_mem); (case z151c => rfl); (case z151d => rfl); k_whole); intro i'ₘ l1ₘ; (try k_lt l1ₘ)))
  k_with "UnrEnd" => ((fail_if_success k_extra "o20"); (refine' UnrEnd.introP ?z152F ?z152N ?z152P ?z152off ⟨?z152m, ?_⟩; (case z152F => k_asm); (case z152N => k_asm); (case z152P => tb_start); (case z152off => k_all); (case z152m => k_mem)))
  exact True.intro

set_option maxRecDepth 100000 in
set_option maxHeartbeats 1000000 in
theorem worth_0 {w : World} {l : Addr} {n : Nat} {os : List (Addr × Obj)} (hl : (l, listOf #[] n) ∈ os) : Does w 822 2 [.ref l] os (WorthPost [] os) := by
  all_goals (
    refine Does.of ?_
    intro dp un gd cn cs a ccd cl outer A₀ base h₀ L m p loose mean mg mb hp0 gn0 dr0 tk0 oo0 Q E B F X N T hk hd hu hret
    revert X; k_fill; intro X
    refine wpAny_call ?_
    k_dflt ktr_enter
    k_steps
    all_goals first | exact hret _ os _ _ (by with_reducible assumption) (news_sub (by with_reducible assumption) (by lcg_sub)) ⟨by first | exact worth_none rfl (by first | assumption | decide) | exact worth_some rfl (by first | assumption | decide), rfl⟩ | fail)
set_option maxRecDepth 100000 in
set_option maxHeartbeats 1000000 in
theorem worth_1 {w : World} {l : Addr} {n : Nat} {v1 : Value} {y1 : Option Int} {os : List (Addr × Obj)} (hl : (l, listOf #[v1] n) ∈ os) (h1 : IsVal v1 y1) : Does w 822 2 [.ref l] os (WorthPost [y1] os) := by
  cases h1
  all_goals (
    refine Does.of ?_
    intro dp un gd cn cs a ccd cl outer A₀ base h₀ L m p loose mean mg mb hp0 gn0 dr0 tk0 oo0 Q E B F X N T hk hd hu hret
    revert X; k_fill; intro X
    refine wpAny_call ?_
    k_dflt ktr_enter
    k_steps
    all_goals first | exact hret _ os _ _ (by with_reducible assumption) (news_sub (by with_reducible assumption) (by lcg_sub)) ⟨by first | exact worth_none rfl (by first | assumption | decide) | exact worth_some rfl (by first | assumption | decide), rfl⟩ | fail)
set_option maxRecDepth 100000 in
set_option maxHeartbeats 1000000 in
theorem worth_2 {w : World} {l : Addr} {n : Nat} {v1 : Value} {y1 : Option Int} {v2 : Value} {y2 : Option Int} {os : List (Addr × Obj)} (hl : (l, listOf #[v1, v2] n) ∈ os) (h1 : IsVal v1 y1) (h2 : IsVal v2 y2) : Does w 822 2 [.ref l] os (WorthPost [y1, y2] os) := by
  cases h1 <;> cases h2
  all_goals (
    refine Does.of ?_
    intro dp un gd cn cs a ccd cl outer A₀ base h₀ L m p loose mean mg mb hp0 gn0 dr0 tk0 oo0 Q E B F X N T hk hd hu hret
    revert X; k_fill; intro X
    refine wpAny_call ?_
    k_dflt ktr_enter
    k_steps
    all_goals first | exact hret _ os _ _ (by with_reducible assumption) (news_sub (by with_reducible assumption) (by lcg_sub)) ⟨by first | exact worth_none rfl (by first | assumption | decide) | exact worth_some rfl (by first | assumption | decide), rfl⟩ | fail)
end
end Mine
end
section
open PySem PySem.W PyProof.Rows PySem.Spec PyProof.V
namespace Mine
noncomputable def plc : List Tr → List Int
  | [] => []
  | .col false :: r => 0 :: plc r
  | .col true :: r => 1 :: plc r
  | _ :: r => plc r
theorem plc_app (a b : List Tr) : plc (a ++ b) = plc a ++ plc b := by
  induction a with
  | nil => rfl
  | cons t r ih =>
    cases t with
    | col i => cases i <;> simp [plc, ih]
    | _ => simp [plc, ih]
theorem colOf_plc (ts : List Tr) : colOf ts = match plc ts with | [] => "binary" | i :: _ => if i = 0 then "nocase" else "binary" := by
  induction ts with
  | nil => rfl
  | cons t r ih =>
    cases t with
    | col i => cases i <;> rfl
    | _ => exact ih
theorem plc_len (ts : List Tr) : (plc ts).length ≤ ts.length := by
  induction ts with
  | nil => exact Nat.le_refl _
  | cons t r ih =>
    cases t with
    | col i => cases i <;> simp only [plc, List.length_cons] <;> lia
    | _ => simp only [plc, List.length_cons]; lia
theorem tree_two {os : List (Addr × Obj)} {v : Value} {t : Tr} (h : TreeIn os v t) : ∃ a nm tk val k, v = .ref a ∧ (a, tupO [.str nm tk, val] k) ∈ os ∧
    ((nm = Str.ofString "column" ∧ ∃ i u, val = .int i u ∧ plc [t] = [i]) ∨ ((nm == Str.ofString "column") = false ∧ plc [t] = [])) := by
  cases h with
  | val h1 h2 => exact ⟨_, _, _, _, _, rfl, h1, .inr ⟨by decide +kernel, rfl⟩⟩
  | col0 h1 => exact ⟨_, _, _, _, _, rfl, h1, .inl ⟨rfl, _, _, rfl, rfl⟩⟩
  | col1 h1 => exact ⟨_, _, _, _, _, rfl, h1, .inl ⟨rfl, _, _, rfl, rfl⟩⟩
  | known h1 => exact ⟨_, _, _, _, _, rfl, h1, .inr ⟨by decide +kernel, rfl⟩⟩
  | f0 h1 => exact ⟨_, _, _, _, _, rfl, h1, .inr ⟨nmA.2.2, rfl⟩⟩
  | f1 h1 => exact ⟨_, _, _, _, _, rfl, h1, .inr ⟨nmA.2.2, rfl⟩⟩
  | f2 F h1 => exact ⟨_, _, _, _, _, rfl, h1, .inr ⟨(nm2 F).2.2, rfl⟩⟩
  | f3 F h1 => exact ⟨_, _, _, _, _, rfl, h1, .inr ⟨(nm3 F).2.2, rfl⟩⟩
section
variable {prog : PySem.Program} {w : World} {A : Around} {h₀ : Heap} {L : Addr} {m : Str → Option Value} {env : Env} {ct elt : PySem.Expr} {x : Str} {scope : Scope} {cl : List (Str × Addr)} {s : Shared} {S : List (Addr × Obj) → Prop} {P : Nat → Value → Prop} {Fin : List Value → List (Addr × Obj) → Prop} {news : List (Addr × Obj)}
theorem compT_rest {n : Nat} (J : Nat → List Value → List (Addr × Obj) → Prop) (j0 : J 0 [] news)
    (turn : ∀ i v I oI C oC D m₂ ys news₁ h tk (E' : Value → Shared → Prop), i < n → P i v → J i ys news₁ → LCg.NsObj oC m₂ → m₂ x = some v → Fr h₀ L h m → News h₀ L h ((I, oI) :: (C, oC) :: (D, LCg.lst ys) :: news₁) → LCg.Off3 I C D news₁ → ((@Ne Nat I C) ∧ (@Ne Nat I D) ∧ (@Ne Nat C D)) →
      wpAny (model prog w) A (isTrue ct (compEnvC scope cl C env) (eval ct (compEnvC scope cl C env))) (fun ok s' => if ok = true then
        wpAny (model prog w) A (eval elt (compEnvC scope cl C env)) (LCg.CompEnd h₀ L m { s with heap := h, toks := tk } I oI C oC D (LCg.lst ys) S (fun y news' => J (i + 1) (ys ++ [y]) news')) E' s'
        else LCg.CompEnd h₀ L m { s with heap := h, toks := tk } I oI C oC D (LCg.lst ys) S (fun _ news' => J (i + 1) ys news') Value.none s') E' { s with heap := h, toks := tk })
    (fin : ∀ ys news', J n ys news' → Fin ys news') : LCt.CompRestT prog w A h₀ L m env ct elt x scope cl s S P Fin n 0 [] news := by
  have key : ∀ (j i : Nat) (ys : List Value) (nw : List (Addr × Obj)), i + j = n → J i ys nw → LCt.CompRestT prog w A h₀ L m env ct elt x scope cl s S P Fin j i ys nw := by
    intro j
    induction j with
    | zero =>
      intro i ys nw hi hy
      have e : i = n := by lia
      subst e
      exact LCt.CompRestT.zero (fin ys nw hy)
    | succ j ih =>
      intro i ys nw hi hy
      refine LCt.CompRestT.succ ?_
      intro v I oI C oC D m₂ h tk E' hv hC hx F N off ne
      refine wpAny_mono (turn i v I oI C oC D m₂ ys nw h tk E' (by lia) hv hy hC hx F N off ne) (fun ok s₂ hq => ?_) fun _ _ e => e
      cases ok with
      | true =>
        rw [if_pos rfl] at hq ⊢
        refine wpAny_mono hq (fun y s₃ hr => ?_) fun _ _ e => e
        obtain ⟨h', tk', nw', e, F', N', off', hS, hJ⟩ := hr
        exact ⟨h', tk', nw', e, F', N', off', hS, ih (i + 1) _ _ (by lia) hJ⟩
      | false =>
        rw [if_neg (by decide)] at hq ⊢
        obtain ⟨h', tk', nw', e, F', N', off', hS, hJ⟩ := hq
        exact ⟨h', tk', nw', e, F', N', off', hS, ih (i + 1) _ _ (by lia) hJ⟩
  exact key n 0 [] news (by lia) j0
end
noncomputable def CollaJ (ts : List Tr) (os : List (Addr × Obj)) (i : Nat) (ys : List Value) (news : List (Addr × Obj)) : Prop := news = os ∧ IntsAre ys (plc (ts.take i))
noncomputable def CollaCtx (ts : List Tr) (os : List (Addr × Obj)) : Prop := True
section
variable {prog : PySem.Program} {w : World} {A : Around} {h₀ : Heap} {L : Addr} {m : Str → Option Value} {env : Env} {ct elt : PySem.Expr} {x : Str} {scope : Scope} {cl : List (Str × Addr)} {s₁ : Shared} {Fin : Shared → List Value → List (Addr × Obj) → Prop}
theorem colla_src {ax : Addr} {vs : List Value} {n : Nat} {ts : List Tr} {os : List (Addr × Obj)} (uM : CollaCtx ts os) (hh : A.handled = none) (F : Fr h₀ L s₁.heap m) (N : News h₀ L s₁.heap os) (ml : (ax, listOf vs.toArray n) ∈ os) (hvs : TreesIn os vs ts) (hsz : vs.length ≤ 1000)
    (turn : ∀ gq v t I oI C' oC D m₂ ys a nm tk8 val k h tk (E' : Value → Shared → Prop) i, ts[i]? = some t → v = .ref a → (a, tupO [.str nm tk8, val] k) ∈ os → ((nm = Str.ofString "column" ∧ ∃ i u, val = .int i u ∧ plc [t] = [i]) ∨ ((nm == Str.ofString "column") = false ∧ plc [t] = [])) → LCg.NsObj oC m₂ → m₂ x = some v → Fr h₀ L h m → News h₀ L h ((I, oI) :: (C', oC) :: (D, LCg.lst ys) :: os) → IntsAre ys (plc (ts.take i)) →
      LCg.Off3 I C' D os → ((@Ne Nat I C') ∧ (@Ne Nat I D) ∧ (@Ne Nat C' D)) →
      wpAny (model prog w) A (isTrue ct (compEnvC scope cl C' env) (eval ct (compEnvC scope cl C' env))) (fun ok s' => if ok = true then
        wpAny (model prog w) A (eval elt (compEnvC scope cl C' env)) (LCg.CompEnd h₀ L m { s₁ with heap := h, toks := tk } I oI C' oC D (LCg.lst ys) (LCg.SrcAt h₀ ax vs.toArray) (fun y news' => CollaJ ts os (i + 1) (ys ++ [y]) news')) E' s'
        else LCg.CompEnd h₀ L m { s₁ with heap := h, toks := tk } I oI C' oC D (LCg.lst ys) (LCg.SrcAt h₀ ax vs.toArray) (fun _ news' => CollaJ ts os (i + 1) ys news') Value.none s') E' { ({ s₁ with heap := gq } : Shared) with heap := h, toks := tk })
    (fin : ∀ gq ys, IntsAre ys (plc ts) → Fin { s₁ with heap := gq } ys os) :
    LCt.CompSrcT prog w A h₀ L m env ct elt x scope cl Fin (.ref ax) s₁ := by
  have hat := trees_at hvs
  refine LCt.CompSrcT.ledger (news := os) hh F N ml (by rw [List.size_toArray, PySem.sizeLine_eq]; lia) fun gq => ?_
  rw [List.size_toArray, hat.1]
  refine compT_rest (CollaJ ts os) ⟨rfl, by rw [List.take_zero]; exact .nil⟩ (fun i v I oI C' oC D m₂ ys news₁ h tk E' hi hv hJ hC hx F2 N2 off ne => ?_) fun ys news' hJ => ?_
  · obtain ⟨rfl, hts⟩ := hJ
    obtain ⟨t, e1, e2⟩ := hat.2 i v (by simpa using hv)
    obtain ⟨a, nm, tk8, val, k, ea, ha, hc⟩ := tree_two e2
    exact turn gq v t I oI C' oC D m₂ ys a nm tk8 val k h tk E' i e1 ea ha hc hC hx F2 N2 hts off ne
  · obtain ⟨rfl, hts⟩ := hJ
    rw [List.take_length] at hts
    exact fin gq ys hts
end
theorem colla_yes {ts : List Tr} {t : Tr} {i : Nat} {k : Int} {u : Tok} {ys : List Value} {I C' D ax : Addr} {oI oC : Obj} {vs : List Value} {n : Nat} {os l : List (Addr × Obj)} {h₀ h : Heap} {L : Addr} {m : Str → Option Value} {s₁ : Shared} {tk : Nat} (uM : CollaCtx ts os) (hi : ts[i]? = some t) (hp : plc [t] = [k]) (hts : IntsAre ys (plc (ts.take i)))
    (F : Fr h₀ L h m) (N : News h₀ L h l) (sub : ∀ p ∈ (I, oI) :: (C', oC) :: (D, LCg.lst ys) :: os, p ∈ l) (ml : (ax, listOf vs.toArray n) ∈ os) (off : LCg.Off3 I C' D os) :
    LCg.CompEnd h₀ L m s₁ I oI C' oC D (LCg.lst ys) (LCg.SrcAt h₀ ax vs.toArray) (fun y news' => CollaJ ts os (i + 1) (ys ++ [y]) news') (.int k u) { s₁ with heap := h, toks := tk } := by
  have e3 : ts.take (i + 1) = ts.take i ++ [t] := by rw [List.take_add_one, hi]; rfl
  refine LCg.CompEnd.intro F N os sub off (.inr ⟨_, ml, rfl, _, rfl⟩) ⟨rfl, ?_⟩
  rw [e3, plc_app, hp]
  exact hts.append (.cons _ _ .nil)
theorem colla_no {ts : List Tr} {t : Tr} {i : Nat} {ys : List Value} {I C' D ax : Addr} {oI oC : Obj} {vs : List Value} {n : Nat} {os l : List (Addr × Obj)} {h₀ h : Heap} {L : Addr} {m : Str → Option Value} {s₁ : Shared} {tk : Nat} (uM : CollaCtx ts os) (hi : ts[i]? = some t) (hp : plc [t] = []) (hts : IntsAre ys (plc (ts.take i)))
    (F : Fr h₀ L h m) (N : News h₀ L h l) (sub : ∀ p ∈ (I, oI) :: (C', oC) :: (D, LCg.lst ys) :: os, p ∈ l) (ml : (ax, listOf vs.toArray n) ∈ os) (off : LCg.Off3 I C' D os) :
    LCg.CompEnd h₀ L m s₁ I oI C' oC D (LCg.lst ys) (LCg.SrcAt h₀ ax vs.toArray) (fun _ news' => CollaJ ts os (i + 1) ys news') .none { s₁ with heap := h, toks := tk } := by
  have e3 : ts.take (i + 1) = ts.take i ++ [t] := by rw [List.take_add_one, hi]; rfl
  refine LCg.CompEnd.intro F N os sub off (.inr ⟨_, ml, rfl, _, rfl⟩) ⟨rfl, ?_⟩
  rw [e3, plc_app, hp, List.append_nil]
  exact hts
theorem roomE {d n : Nat} (h : d + 8 * n < cLine) (e : 9 ≤ n) : d + 3 + 64 < cLine := by lia
noncomputable def CollaPost (ts : List Tr) (os : List (Addr × Obj)) (r : Value) (l : List (Addr × Obj)) : Prop := ∃ u, r = .str (Str.ofString (colOf ts)) u ∧ l = os
theorem colla_t {ts : List Tr} (h : List.take 1 (plc ts) = [0]) : Str.ofString "nocase" = Str.ofString (colOf ts) := by
  rw [colOf_plc]
  cases e : plc ts with
  | nil => rw [e] at h; cases h
  | cons i r => rw [e] at h; cases h; rfl
theorem colla_f {ts : List Tr} (h : ¬ List.take 1 (plc ts) = [0]) : Str.ofString "binary" = Str.ofString (colOf ts) := by
  rw [colOf_plc]
  cases e : plc ts with
  | nil => rfl
  | cons i r =>
    have hi : ¬ i = 0 := fun q => h (by rw [e, q]; rfl)
    simp only [if_neg hi]
section
theorem lines23 : True := by
  k_with "o20" => skip
  k_with "subscriptTail Name" => ((fail_if_success k_extra "o21"); k_extra "subscriptTail")
  k_with "subscriptTail Name Constant ref int" => ((fail_if_success k_extra "o21"); k_extra "subscriptTail")
  k_with "subscriptTail Name Name ref int" => ((fail_if_success k_extra "o21"); k_extra "subscriptTail")
  k_with "k_all" => ((fail_if_success k_extra "o21"); first | ((with_reducible refine' off_sub ?z153h ?z153s); (case z153h => tbn_find); (case z153s => z_head)) | ((with_reducible refine' off_lt2 ?z153a ?z153h ?z153s); (case z153a => first | (with_reducible assumption) | assumption); (case z153h => tbn_find); (case z153s => z_head)))
  k_with "x_run" => ((fail_if_success k_extra "o21"); first | (with_reducible assumption) | (refine labs_app ?_ ?_; (focus x_run); (focus lia)) | (refine labs_dec (by with_reducible assumption) ?_; lia))
  k_with "x_auto" => ((fail_if_success k_extra "o21"); first | (with_reducible assumption) | (refine labs_app_ne ?_ ?_; (focus x_auto); (focus lia)) | (refine labs_ne ?_; with_reducible assumption) | (refine labs_ne (labs_dec (by with_reducible assumption) ?_); lia) | (refine Fx.fresh (by with_reducible assumption) ?_ ?_; (focus lia); x_auto))
  k_with "x_head" => ((fail_if_success k_extra "o21"); first | (with_reducible exact Apart.nil) | (with_reducible refine Apart.app ?_ ?_; (focus x_head); x_head) | (with_reducible refine Apart.cons ?_ ?_; (focus k_all); x_head) | (refine Apart.subL (by with_reducible assumption) ?_; z_head))
  k_with "z_run" => ((fail_if_success k_extra "o21"); first | (with_reducible exact TailT.here) | ((with_reducible refine' TailT.d1 ?z154pk); (case z154pk => z_run)) | ((with_reducible refine' TailT.d2 ?z154pk); (case z154pk => z_run)) | ((with_reducible refine' TailT.d3 ?z154pk); (case z154pk => z_run)) | ((with_reducible refine' TailT.cons ?z154pk); (case z154pk => z_run)) | ((with_reducible refine' TailT.app ?z154pk); (case z154pk => z_run)))
  k_with "CompSrcT" => ((fail_if_success k_extra "o21"); (k_here; k_dflt (refine' colla_src (by with_reducible assumption) rfl (by k_asm) (by k_asm) (by k_mem) (by with_reducible assumption) (by lia) ?_ ?_; (intro gq v t I oI C' oC D m₂ ys a8 nm8 tk8 val8 k8 h tk E' i hi ev8 ha8 hc8 hC hx F N hts off4 ne; subst ev8; rcases hc8 with ⟨e8, j8, u8, e9, hp8⟩ | ⟨hnm8, hp8⟩; (subst e8; subst e9; (try dsimp only); (try k_fold)); rotate_left; ((try dsimp only); (try k_fold)); rotate_left; (intro gq ys hts; (try dsimp only)); rotate_right; rotate_right))))
  k_with "subscriptTail" => ((fail_if_success k_extra "o21"); (k_here; (with_reducible show wpAny _ _ (subscriptTail _ (PySem.Expr.Slice _ _ none _) (Value.ref _) (Value.ref _)) _ _ _); k_dflt (refine' kmk_slice_ints ?z155F ?z155N ?z155l ?z155p ?z155q ?z155i ?z155m ?z155c ?_ ?z155s ?z155t ?z155z; (case z155F => k_asm); (case z155N => k_asm); (case z155l => (refine' News.isList ?z155nn ?z155mm; (case z155nn => k_asm); (case z155mm => k_mem))); (case z155p => kmk_part); (case z155q => kmk_part); (case z155i => with_reducible assumption); (case z155m => exact kmk_upto (by with_reducible assumption) (by decide)); (case z155c => exact rfl); (case z155s => with_unfolding_all rfl); (case z155t => kmk_pure); (case z155z => (rw [List.size_toArray, IntsAre.length (by with_reducible assumption), PySem.sizeLine_eq]; lia))); intro D'ₘ ws'ₘ h'ₘ F'ₘ N'ₘ l1ₘ hI'ₘ hC'ₘ hL'ₘ; (try k_lt l1ₘ); (try k_sweep)))
  k_with "compareOp Eq ref ref" => ((fail_if_success k_extra "o21"); (k_here; k_dflt (refine' eq_intsK ?z156k1 ?z156k2 ?z156k3 ?z156k4 ?z156k5 ?_; (case z156k1 => (refine' News.isList ?z156nn ?z156mm; (case z156nn => k_asm); (case z156mm => k_mem))); (case z156k2 => with_reducible assumption); (case z156k3 => (refine' News.isList (arr := [_].toArray) ?z156nn ?z156mm; (case z156nn => k_asm); (case z156mm => k_mem))); (case z156k4 => exact .cons _ _ .nil); (case z156k5 => exact roomE (by assumption) (by lia)); k_whole)))
  k_with "FinE" => ((fail_if_success k_extra "o21"); ((unfold LCg.FinE); intro Dq hq tkq Fq Nq o1q; (try simp only [List.nil_append, List.cons_append] at Nq); (try dsimp only)))
  k_with "kcf_m" => ((fail_if_success k_extra "o21"); ( (try k_unmd); (try k_unfold); first | (refine' colla_yes (by with_reducible assumption) ?z157t1 ?z157t2 ?z157t3 ?z157f ?z157n ?z157sb ?z157ml ?z157o; (case z157t1 => with_reducible assumption); (case z157t2 => with_reducible assumption); (case z157t3 => with_reducible assumption); (case z157f => with_reducible assumption); (case z157n => with_reducible assumption); (case z157sb => z_head); (case z157ml => with_reducible assumption); (case z157o => with_reducible assumption)) | (refine' colla_no (by with_reducible assumption) ?z157t1 ?z157t2 ?z157t3 ?z157f ?z157n ?z157sb ?z157ml ?z157o; (case z157t1 => with_reducible assumption); (case z157t2 => with_reducible assumption); (case z157t3 => with_reducible assumption); (case z157f => with_reducible assumption); (case z157n => with_reducible assumption); (case z157sb => z_head); (case z157ml => with_reducible assumption); (case z157o => with_reducible assumption))))
  exact True.intro
set_option maxRecDepth 100000 in
set_option maxHeartbeats 1000000 in
theorem colla_does {w : World} {l : Addr} {n : Nat} {vs : List Value} {ts : List Tr} {os : List (Addr × Obj)} (hl : (l, listOf vs.toArray n) ∈ os) (hvs : TreesIn os vs ts) (hlen : vs.length ≤ 2) : Does w 827 10 [.ref l] os (CollaPost ts os) := by
  refine Does.of ?_
  intro dp un gd cn cs a ccd cl outer A₀ base h₀ L m p loose mean mg mb hp0 gn0 dr0 tk0 oo0 Q E B F X N T hk hd hu hret
  revert X; k_fill; intro X
  refine wpAny_call ?_
  k_dflt ktr_enter
  have M9 : CollaCtx ts os := True.intro
  have hpl : (plc ts).length ≤ 2 := Nat.le_trans (plc_len ts) ((trees_at hvs).1 ▸ hlen)
  k_steps
  all_goals first | kcf_m | exact hret _ os _ _ (by with_reducible assumption) (news_sub (by with_reducible assumption) (by z_head)) ⟨_, by first | rw [colla_t (by with_reducible assumption)] | rw [colla_f (by with_reducible assumption)], rfl⟩ | fail
end
end Mine
end
section
open PySem PySem.W PyProof.Rows PySem.Spec PyProof.V
namespace Mine
inductive ValsAre : List Value → List (Option Int) → Prop
  | nil : ValsAre [] []
  | cons {v y vs ys} : IsVal v y → ValsAre vs ys → ValsAre (v :: vs) (y :: ys)
theorem ValsAre.snoc {vs : List Value} {ys : List (Option Int)} {v : Value} {y : Option Int} (h : ValsAre vs ys) (k : IsVal v y) : ValsAre (vs ++ [v]) (ys ++ [y]) := by
  induction h with
  | nil => exact .cons k .nil
  | cons h1 _ ih => exact .cons h1 ih
theorem ValsAre.len {vs : List Value} {ys : List (Option Int)} (h : ValsAre vs ys) : vs.length = ys.length := by
  induction h with
  | nil => rfl
  | cons _ _ ih => simp [ih]
inductive TdIn (os : List (Addr × Obj)) : Value → Td → Prop
  | mk {a t1 l t2 k vals n nm ys co} : (a, tupO [.str (Str.ofString nm) t1, .ref l, .str (Str.ofString co) t2] k) ∈ os → (l, listOf (List.toArray vals) n) ∈ os → ValsAre vals ys → TdIn os (.ref a) ⟨nm, ys, co⟩
theorem TdIn.mono {os os' : List (Addr × Obj)} (hs : ∀ p ∈ os, p ∈ os') {v : Value} {t : Td} (h : TdIn os v t) : TdIn os' v t := by
  cases h with
  | mk h1 h2 h3 => exact .mk (hs _ h1) (hs _ h2) h3
inductive TdsIn (os : List (Addr × Obj)) : List Value → List Td → Prop
  | nil : TdsIn os [] []
  | snoc {vs ts v t} : TdsIn os vs ts → TdIn os v t → TdsIn os (vs ++ [v]) (ts ++ [t])
theorem TdsIn.mono {os os' : List (Addr × Obj)} (hs : ∀ p ∈ os, p ∈ os') {vs : List Value} {ts : List Td} (h : TdsIn os vs ts) : TdsIn os' vs ts := by
  induction h with
  | nil => exact .nil
  | snoc _ h2 ih => exact .snoc ih (h2.mono hs)
theorem TdsIn.len {os : List (Addr × Obj)} {vs : List Value} {ts : List Td} (h : TdsIn os vs ts) : vs.length = ts.length := by
  induction h with
  | nil => rfl
  | snoc _ _ ih => simp [ih]
noncomputable def RowIn (os : List (Addr × Obj)) (rw : Addr) (W : Rw) : Prop := ∃ v0 v1 v2 k, (rw, tupO [v0, v1, v2] k) ∈ os ∧ IsVal v0 W.r0 ∧ IsVal v1 W.r1 ∧ IsVal v2 W.r2
theorem RowIn.mono {os os' : List (Addr × Obj)} (hs : ∀ p ∈ os, p ∈ os') {rw : Addr} {W : Rw} (h : RowIn os rw W) : RowIn os' rw W := by
  obtain ⟨v0, v1, v2, k, h1, h2⟩ := h
  exact ⟨v0, v1, v2, k, hs _ h1, h2⟩
noncomputable def FndPost (tl : Addr) (tds : List Td) (os osm : List (Addr × Obj)) (y : Option Int) (tn : List Td) (r : Value) (l : List (Addr × Obj)) : Prop :=
  ∃ T' n' nw, IsVal r y ∧ l = (tl, listOf (List.toArray T') n') :: (nw ++ os) ∧ Apart os nw ∧ (∀ p ∈ nw, p.1 ≠ tl) ∧ TdsIn (nw ++ osm) T' (tds ++ tn)
theorem tld_len (W : Rw) (t : Tr) : (tld W t).length ≤ t.nops := by
  induction t with
  | val v => exact Nat.zero_le _
  | col i => exact Nat.zero_le _
  | known => exact Nat.zero_le _
  | f0 => exact Nat.le_refl _
  | f1 a ia => simp only [tld, Tr.nops, F2.own, F3.own, List.length_append, List.length_cons, List.length_nil]; lia
  | f2 F a b ia ib => cases F <;> simp only [tld, Tr.nops, F2.own, F3.own, List.length_append, List.length_cons, List.length_nil] <;> (try split) <;> (try simp only [List.length_nil]) <;> lia
  | f3 F a b c ia ib ic => cases F <;> simp only [tld, Tr.nops, F2.own, F3.own, List.length_append] <;> (try split) <;> (try split) <;> (try simp only [List.length_nil]) <;> lia
noncomputable def FoundD (w : World) (t : Tr) : Prop := ∀ (d : Nat), t.depth ≤ d → ∀ (W : Rw) (v : Value) (rw tl : Addr) (T : List Value) (n : Nat) (tds : List Td) (os osm : List (Addr × Obj)), TreeIn os v t → RowIn os rw W → TdsIn osm T tds → (∀ p ∈ os, p.1 ≠ tl) → tds.length + t.nops ≤ 900 →
  Does w 832 (d + 11) [v, .ref rw, .ref tl] ((tl, listOf T.toArray n) :: os) (FndPost tl tds os osm (fnd W t) (tld W t))
theorem found_use {w : World} {t : Tr} {d : Nat} {W : Rw} {v : Value} {rw tl : Addr} {T : List Value} {n : Nat} {tds : List Td} {os osm : List (Addr × Obj)} (hT : TreeIn os v t) (hF : FoundD w t) (hd : t.depth ≤ d) (hR : RowIn os rw W) (hs : TdsIn osm T tds) (ho : ∀ p ∈ os, p.1 ≠ tl) (hz : tds.length + t.nops ≤ 900) :
    Does w 832 (d + 11) [v, .ref rw, .ref tl] ((tl, listOf T.toArray n) :: os) (fun r l => FndPost tl tds os osm (fnd W t) (tld W t) r l ∧ (tld W t).length ≤ t.nops) := (hF d hd W v rw tl T n tds os osm hT hR hs ho hz).mono fun _ _ h => ⟨h, tld_len W t⟩
theorem found_leaf_end {tl : Addr} {T : List Value} {n : Nat} {tds : List Td} {os osm l : List (Addr × Obj)} {y : Option Int} {tn : List Td} {h₀ h : Heap} {L : Addr} {m : Str → Option Value} {gn dr oo} {tk : Nat} {Q : Value → Shared → Prop} {r : Value}
    (hret : ∀ r news' h' tk', Fr h₀ L h' m → News h₀ L h' news' → FndPost tl tds os osm y tn r news' → Q r ⟨h', gn, dr, tk', oo⟩) (F : Fr h₀ L h m) (N : News h₀ L h l) (sub : ∀ p ∈ (tl, listOf T.toArray n) :: os, p ∈ l) (hs : TdsIn osm T tds) (hv : IsVal r y) (e : tn = []) : Q r ⟨h, gn, dr, tk, oo⟩ := by
  subst e
  exact hret r _ h tk F (news_sub N sub) ⟨T, n, [], hv, rfl, .nil, (fun _ h => nomatch h), by rw [List.append_nil, List.nil_append]; exact hs⟩
section
theorem lines24 : True := by
  k_with "o21" => skip
  k_with "k_all" => ((fail_if_success k_extra "o22"); first | ((with_reducible refine' off_sub ?z158h ?z158s); (case z158h => tbn_find); (case z158s => z_head)) | ((with_reducible refine' off_lt2 ?z158a ?z158h ?z158s); (case z158a => first | (with_reducible assumption) | assumption); (case z158h => tbn_find); (case z158s => z_head)))
  k_with "x_run" => ((fail_if_success k_extra "o22"); first | (with_reducible assumption) | (refine labs_app ?_ ?_; (focus x_run); (focus lia)) | (refine labs_dec (by with_reducible assumption) ?_; lia))
  k_with "x_auto" => ((fail_if_success k_extra "o22"); first | (with_reducible assumption) | (refine labs_app_ne ?_ ?_; (focus x_auto); (focus lia)) | (refine labs_ne ?_; with_reducible assumption) | (refine labs_ne (labs_dec (by with_reducible assumption) ?_); lia) | (refine Fx.fresh (by with_reducible assumption) ?_ ?_; (focus lia); x_auto))
  k_with "x_head" => ((fail_if_success k_extra "o22"); first | (with_reducible exact Apart.nil) | (with_reducible refine Apart.app ?_ ?_; (focus x_head); x_head) | (with_reducible refine Apart.cons ?_ ?_; (focus k_all); x_head) | (refine Apart.subL (by with_reducible assumption) ?_; z_head))
  k_with "z_run" => ((fail_if_success k_extra "o22"); first | (with_reducible exact TailT.here) | ((with_reducible refine' TailT.d1 ?z159pk); (case z159pk => z_run)) | ((with_reducible refine' TailT.d2 ?z159pk); (case z159pk => z_run)) | ((with_reducible refine' TailT.d3 ?z159pk); (case z159pk => z_run)) | ((with_reducible refine' TailT.cons ?z159pk); (case z159pk => z_run)) | ((with_reducible refine' TailT.app ?z159pk); (case z159pk => z_run)))
  k_with "kcf_m" => ((fail_if_success k_extra "o22"); (refine' found_leaf_end (by with_reducible assumption) ?z160f ?z160n ?z160sb ?z160hs ?z160hv ?z160e; (case z160f => with_reducible assumption); (case z160n => with_reducible assumption); (case z160sb => z_head); (case z160hs => with_reducible assumption); (case z160hv => assumption); (case z160e => exact rfl)))
  exact True.intro
set_option maxRecDepth 100000 in
set_option maxHeartbeats 1000000 in
theorem found_leaf (w : World) (t : Tr) (ht : t.depth = 0) : FoundD w t := by
  intro d hd W v rw tl T n tds os osm hT hR hs ho hz
  obtain ⟨r0, r1, r2, k9, hr9, q0, q1, q2⟩ := hR
  cases hT with
  | f0 => simp [Tr.depth] at ht
  | f1 => simp [Tr.depth] at ht
  | f2 => simp [Tr.depth] at ht
  | f3 => simp [Tr.depth] at ht
  | val h1 h2 =>
    refine Does.of ?_
    intro dp un gd cn cs a ccd cl outer A₀ base h₀ L m p loose mean mg mb hp0 gn0 dr0 tk0 oo0 Q E B F X N T hk hd hu hret
    revert X; k_fill; intro X
    refine wpAny_call ?_
    k_dflt (refine' code_defC ?k1 ?k2 ?k3 ?k4 ?k5 ?kA ?kF ?kK ?k6 ?k7 ?k8 ?k9 ?kB ?kD ?_ ?c2 ?c3 ?c4; (case kA => exact rfl); (case kF => exact rfl); (case kK => first | exact rfl | assumption); (case k1 => k_asm); (case k2 => k_asm); (case k3 => k_asm); (case k4 => k_asm); (case k5 => k_asm); (case k6 => k_is); (case k7 => k_is); (case k8 => k_room); (case k9 => exact BindsTo.of_eq rfl); (case kB => exact rfl); (case kD => decide +kernel); (case c2 => exact rfl); (case c3 => exact rfl); (case c4 => exact rfl); k_whole; intro g' L' h' tk' cells' FG' F' N' Y' B' X' T' l1; (try k_lt l1); have hY := CellsAre.two Y'; obtain ⟨oc1, oc2, hE, dc1, dc2⟩ := hY; subst hE; clear Y'; (try simp only [List.cons_append, List.nil_append] at N'); refine letF F' ?_; clear F'; intro mk F'; (first | (refine letN6 N' ?_; clear N'; intro e1 e2 e3 e4 e5 e6 lk N') | (refine letN5 N' ?_; clear N'; intro e1 e2 e3 e4 e5 lk N') | (refine letN4 N' ?_; clear N'; intro e1 e2 e3 e4 lk N') | (refine letN3 N' ?_; clear N'; intro e1 e2 e3 lk N') | (refine letN2 N' ?_; clear N'; intro e1 e2 lk N') | (refine letN1 N' ?_; clear N'; intro e1 lk N') | skip); (try dsimp only); (try k_lift B'); (try k_fold))
    k_steps
    all_goals first | kcf_m | fail
  | col0 h1 =>
    refine Does.of ?_
    intro dp un gd cn cs a ccd cl outer A₀ base h₀ L m p loose mean mg mb hp0 gn0 dr0 tk0 oo0 Q E B F X N T hk hd hu hret
    revert X; k_fill; intro X
    refine wpAny_call ?_
    k_dflt (refine' code_defC ?k1 ?k2 ?k3 ?k4 ?k5 ?kA ?kF ?kK ?k6 ?k7 ?k8 ?k9 ?kB ?kD ?_ ?c2 ?c3 ?c4; (case kA => exact rfl); (case kF => exact rfl); (case kK => first | exact rfl | assumption); (case k1 => k_asm); (case k2 => k_asm); (case k3 => k_asm); (case k4 => k_asm); (case k5 => k_asm); (case k6 => k_is); (case k7 => k_is); (case k8 => k_room); (case k9 => exact BindsTo.of_eq rfl); (case kB => exact rfl); (case kD => decide +kernel); (case c2 => exact rfl); (case c3 => exact rfl); (case c4 => exact rfl); k_whole; intro g' L' h' tk' cells' FG' F' N' Y' B' X' T' l1; (try k_lt l1); have hY := CellsAre.two Y'; obtain ⟨oc1, oc2, hE, dc1, dc2⟩ := hY; subst hE; clear Y'; (try simp only [List.cons_append, List.nil_append] at N'); refine letF F' ?_; clear F'; intro mk F'; (first | (refine letN6 N' ?_; clear N'; intro e1 e2 e3 e4 e5 e6 lk N') | (refine letN5 N' ?_; clear N'; intro e1 e2 e3 e4 e5 lk N') | (refine letN4 N' ?_; clear N'; intro e1 e2 e3 e4 lk N') | (refine letN3 N' ?_; clear N'; intro e1 e2 e3 lk N') | (refine letN2 N' ?_; clear N'; intro e1 e2 lk N') | (refine letN1 N' ?_; clear N'; intro e1 lk N') | skip); (try dsimp only); (try k_lift B'); (try k_fold))
    k_steps
    all_goals first | kcf_m | fail
  | col1 h1 =>
    refine Does.of ?_
    intro dp un gd cn cs a ccd cl outer A₀ base h₀ L m p loose mean mg mb hp0 gn0 dr0 tk0 oo0 Q E B F X N T hk hd hu hret
    revert X; k_fill; intro X
    refine wpAny_call ?_
    k_dflt (refine' code_defC ?k1 ?k2 ?k3 ?k4 ?k5 ?kA ?kF ?kK ?k6 ?k7 ?k8 ?k9 ?kB ?kD ?_ ?c2 ?c3 ?c4; (case kA => exact rfl); (case kF => exact rfl); (case kK => first | exact rfl | assumption); (case k1 => k_asm); (case k2 => k_asm); (case k3 => k_asm); (case k4 => k_asm); (case k5 => k_asm); (case k6 => k_is); (case k7 => k_is); (case k8 => k_room); (case k9 => exact BindsTo.of_eq rfl); (case kB => exact rfl); (case kD => decide +kernel); (case c2 => exact rfl); (case c3 => exact rfl); (case c4 => exact rfl); k_whole; intro g' L' h' tk' cells' FG' F' N' Y' B' X' T' l1; (try k_lt l1); have hY := CellsAre.two Y'; obtain ⟨oc1, oc2, hE, dc1, dc2⟩ := hY; subst hE; clear Y'; (try simp only [List.cons_append, List.nil_append] at N'); refine letF F' ?_; clear F'; intro mk F'; (first | (refine letN6 N' ?_; clear N'; intro e1 e2 e3 e4 e5 e6 lk N') | (refine letN5 N' ?_; clear N'; intro e1 e2 e3 e4 e5 lk N') | (refine letN4 N' ?_; clear N'; intro e1 e2 e3 e4 lk N') | (refine letN3 N' ?_; clear N'; intro e1 e2 e3 lk N') | (refine letN2 N' ?_; clear N'; intro e1 e2 lk N') | (refine letN1 N' ?_; clear N'; intro e1 lk N') | skip); (try dsimp only); (try k_lift B'); (try k_fold))
    k_steps
    all_goals first | kcf_m | fail
  | known h1 =>
    refine Does.of ?_
    intro dp un gd cn cs a ccd cl outer A₀ base h₀ L m p loose mean mg mb hp0 gn0 dr0 tk0 oo0 Q E B F X N T hk hd hu hret
    revert X; k_fill; intro X
    refine wpAny_call ?_
    k_dflt (refine' code_defC ?k1 ?k2 ?k3 ?k4 ?k5 ?kA ?kF ?kK ?k6 ?k7 ?k8 ?k9 ?kB ?kD ?_ ?c2 ?c3 ?c4; (case kA => exact rfl); (case kF => exact rfl); (case kK => first | exact rfl | assumption); (case k1 => k_asm); (case k2 => k_asm); (case k3 => k_asm); (case k4 => k_asm); (case k5 => k_asm); (case k6 => k_is); (case k7 => k_is); (case k8 => k_room); (case k9 => exact BindsTo.of_eq rfl); (case kB => exact rfl); (case kD => decide +kernel); (case c2 => exact rfl); (case c3 => exact rfl); (case c4 => exact rfl); k_whole; intro g' L' h' tk' cells' FG' F' N' Y' B' X' T' l1; (try k_lt l1); have hY := CellsAre.two Y'; obtain ⟨oc1, oc2, hE, dc1, dc2⟩ := hY; subst hE; clear Y'; (try simp only [List.cons_append, List.nil_append] at N'); refine letF F' ?_; clear F'; intro mk F'; (first | (refine letN6 N' ?_; clear N'; intro e1 e2 e3 e4 e5 e6 lk N') | (refine letN5 N' ?_; clear N'; intro e1 e2 e3 e4 e5 lk N') | (refine letN4 N' ?_; clear N'; intro e1 e2 e3 e4 lk N') | (refine letN3 N' ?_; clear N'; intro e1 e2 e3 lk N') | (refine letN2 N' ?_; clear N'; intro e1 e2 lk N') | (refine letN1 N' ?_; clear N'; intro e1 lk N') | skip); (try dsimp only); (try k_lift B'); (try k_fold))
    k_steps
    all_goals first | kcf_m | fail
end
end Mine
end
section
open PySem PySem.W PyProof.Rows PySem.Spec PyProof.V
namespace Mine
theorem isVal_cases {v : Value} {y : Option Int} (h : IsVal v y) : (v = .none ∧ y = none) ∨ ∃ i t, v = .int i t ∧ y = some i ∧ 0 ≤ i ∧ i < 10 := by
  cases h with
  | none => exact .inl ⟨rfl, rfl⟩
  | int h1 h2 => exact .inr ⟨_, _, rfl, rfl, h1, h2⟩
section Cur
variable {h₀ : Heap} {L : Addr} {m : Str → Option Value} {gn dr oo} {Q : Value → Shared → Prop}
theorem cur_found {tl : Addr} {tds tn : List Td} {os osm : List (Addr × Obj)} {y : Option Int} {b : Nat} {fI : List (Addr × Obj) → List (Addr × Obj)} (I : InsF os fI)
    (ret : ∀ (T8 : List Value) (n8 : Nat) (nw8 : List (Addr × Obj)) (h' : Heap) (tk' : Nat), Fr h₀ L h' m → let x1 : Addr × Obj := (tl, listOf (List.toArray T8) n8); let l := x1 :: fI nw8; News h₀ L h' l → Apart os nw8 → (∀ p ∈ nw8, p.1 ≠ tl) → TdsIn (nw8 ++ osm) T8 (tds ++ tn) → tn.length ≤ b → T8.length = tds.length + tn.length → y = none → IsVal .none y → Q .none ⟨h', gn, dr, tk', oo⟩)
    (ret1 : ∀ (T8 : List Value) (n8 : Nat) (nw8 : List (Addr × Obj)) (i8 : Int) (u8 : Tok) (h' : Heap) (tk' : Nat), Fr h₀ L h' m → let x1 : Addr × Obj := (tl, listOf (List.toArray T8) n8); let l := x1 :: fI nw8; News h₀ L h' l → Apart os nw8 → (∀ p ∈ nw8, p.1 ≠ tl) → TdsIn (nw8 ++ osm) T8 (tds ++ tn) → tn.length ≤ b → T8.length = tds.length + tn.length → y = some i8 → 0 ≤ i8 → i8 < 10 → IsVal (.int i8 u8) y → Q (.int i8 u8) ⟨h', gn, dr, tk', oo⟩) :
    ∀ r news' h' tk', Fr h₀ L h' m → News h₀ L h' news' → (fun r l => FndPost tl tds os osm y tn r l ∧ tn.length ≤ b) r news' → Q r ⟨h', gn, dr, tk', oo⟩ := by
  rintro r _ h' tk' F N ⟨⟨T8, n8, nw8, hv, rfl, a, b1, ht⟩, hz⟩
  have e : T8.length = tds.length + tn.length := by rw [TdsIn.len ht, List.length_append]
  have hv' := hv
  rcases isVal_cases hv with ⟨rfl, ey⟩ | ⟨i, u, rfl, ey, hi, hj⟩
  · exact ret T8 n8 nw8 h' tk' F (news_ins N (I.insT nw8)) a b1 ht hz e ey hv'
  · exact ret1 T8 n8 nw8 i u h' tk' F (news_ins N (I.insT nw8)) a b1 ht hz e ey hi hj hv' 
end Cur
noncomputable def TB (tds : List Td) (r : Nat) : Prop := tds.length + r ≤ 900
section
variable {tds tn : List Td} {os : List (Addr × Obj)} {T : List Value} {a b c d n r y z : Nat}
theorem TB.of1 (h : tds.length + (a + b) ≤ 900) : TB tds (a + b) := h
theorem TB.of2 (h : tds.length + (a + b + c) ≤ 900) : TB tds (a + (b + c)) := Nat.add_assoc a b c ▸ h
theorem TB.of3 (h : tds.length + (a + b + c + d) ≤ 900) : TB tds (a + (b + (c + d))) := by unfold TB; lia
theorem TB.of3' (h : tds.length + n ≤ 900) (e : n = a + b + c + d) : TB tds (a + (b + (c + d))) := .of3 (e ▸ h)
theorem TB.take (h : TB tds (z + r)) : tds.length + z ≤ 900 := Nat.le_trans (Nat.add_le_add_left (Nat.le_add_right _ _) _) h
theorem TB.take2 (h : TB tds (y + (z + r))) : tds.length + z ≤ 900 := by unfold TB at h; lia
theorem TB.step (h : TB tds (z + r)) (k : tn.length ≤ z) (_ : TdsIn os T (tds ++ tn)) : TB (tds ++ tn) r := by unfold TB at *; rw [List.length_append]; lia
end
theorem worth_any {w : World} {l : Addr} {vs : List Value} {ys : List (Option Int)} {os : List (Addr × Obj)} (hv : ValsAre vs ys) (hl : (l, LCg.lst vs) ∈ os) (hn : vs.length ≤ 2) : Does w 822 2 [.ref l] os (WorthPost ys os) := by
  cases hv with
  | nil => exact worth_0 hl
  | cons h1 hv =>
    cases hv with
    | nil => exact worth_1 hl h1
    | cons h2 hv =>
      cases hv with
      | nil => exact worth_2 hl h1 h2
      | cons h3 hv => simp only [List.length_cons] at hn; lia
noncomputable def fnds (W : Rw) (ts : List Tr) : List (Option Int) := ts.map (fnd W)
noncomputable def tlds (W : Rw) (ts : List Tr) : List Td := (ts.map (tld W)).flatten
noncomputable def nopss (ts : List Tr) : Nat := (ts.map Tr.nops).sum
theorem fnds_snoc (W : Rw) (ts : List Tr) (t : Tr) : fnds W (ts ++ [t]) = fnds W ts ++ [fnd W t] := by simp [fnds]
theorem tlds_snoc (W : Rw) (ts : List Tr) (t : Tr) : tlds W (ts ++ [t]) = tlds W ts ++ tld W t := by simp [tlds]
theorem nopss_snoc (ts : List Tr) (t : Tr) : nopss (ts ++ [t]) = nopss ts + t.nops := by simp [nopss]
theorem nopss_take (ts : List Tr) (i : Nat) : nopss (ts.take i) ≤ nopss ts := by
  induction ts generalizing i with
  | nil => simp [nopss]
  | cons t r ih =>
    cases i with
    | zero => simp [nopss]
    | succ i => have := ih i; simp only [nopss, List.take_succ_cons, List.map_cons, List.sum_cons] at this ⊢; lia
theorem tlds_len (W : Rw) (ts : List Tr) : (tlds W ts).length ≤ nopss ts := by
  induction ts with
  | nil => simp [tlds, nopss]
  | cons t r ih => have := tld_len W t; simp only [tlds, nopss, List.map_cons, List.flatten_cons, List.length_append, List.sum_cons] at ih ⊢; lia
noncomputable def LowTo (a b : String) : Prop := Txt.lower (Str.ofString a) = Str.ofString b ∧ (Str.ofString a).length ≤ 5592405
theorem low_use {prog : PySem.Program} {w : World} {A : Around} {E : Value → Shared → Prop} {s : Shared} {a b : String} {t : Tok} {Q : Value → Shared → Prop} (hl : LowTo a b) (h : Q (.str (Str.ofString b) s.toks) { s with toks := s.toks + 1 }) : wpAny (model prog w) A (call (.builtin "str.lower") [.str (Str.ofString a) t]) Q E s :=
  SCL.lower hl.2 fun _ => by rw [hl.1]; exact h
inductive FK (w : World) (os : List (Addr × Obj)) (d : Nat) (l : Addr) : String → Tr → Prop
  | fnA {n vs ts t} : (l, listOf (List.toArray vs) n) ∈ os → TreesIn os vs ts → vs.length ≤ 2 → (∀ t ∈ ts, FoundD w t) → (∀ t ∈ ts, t.depth ≤ d) → (∀ W, fnd W t = worth (fnds W ts)) → (∀ W, tld W t = tlds W ts ++ [⟨"abs", fnds W ts, colOf ts⟩]) → nopss ts + 1 = t.nops → FK w os d l "abs" t
  | fnM {n vs ts t} : (l, listOf (List.toArray vs) n) ∈ os → TreesIn os vs ts → vs.length ≤ 2 → (∀ t ∈ ts, FoundD w t) → (∀ t ∈ ts, t.depth ≤ d) → (∀ W, fnd W t = worth (fnds W ts)) → (∀ W, tld W t = tlds W ts ++ [⟨"max", fnds W ts, colOf ts⟩]) → nopss ts + 1 = t.nops → FK w os d l "max" t
  | co2 {n v1 v2 x1 x2} : (l, listOf #[v1, v2] n) ∈ os → TreeIn os v1 x1 → FoundD w x1 → x1.depth ≤ d → TreeIn os v2 x2 → FoundD w x2 → x2.depth ≤ d → FK w os d l "coalesce" (.f2 .coalesce x1 x2)
  | if2 {n v1 v2 x1 x2} : (l, listOf #[v1, v2] n) ∈ os → TreeIn os v1 x1 → FoundD w x1 → x1.depth ≤ d → TreeIn os v2 x2 → FoundD w x2 → x2.depth ≤ d → FK w os d l "ifnull" (.f2 .ifnull x1 x2)
  | co3 {n v1 v2 v3 x1 x2 x3} : (l, listOf #[v1, v2, v3] n) ∈ os → TreeIn os v1 x1 → FoundD w x1 → x1.depth ≤ d → TreeIn os v2 x2 → FoundD w x2 → x2.depth ≤ d → TreeIn os v3 x3 → FoundD w x3 → x3.depth ≤ d → FK w os d l "coalesce" (.f3 .coalesce x1 x2 x3)
  | iif {n v1 v2 v3 x1 x2 x3 t} : (l, listOf #[v1, v2, v3] n) ∈ os → TreeIn os v1 x1 → FoundD w x1 → x1.depth ≤ d → TreeIn os v2 x2 → FoundD w x2 → x2.depth ≤ d → TreeIn os v3 x3 → FoundD w x3 → x3.depth ≤ d → (∀ W, fnd W t = fnd W (.f3 .iif x1 x2 x3)) → (∀ W, tld W t = tld W (.f3 .iif x1 x2 x3)) → t.nops = x1.nops + x2.nops + x3.nops + 2 → FK w os d l "iif" t
noncomputable def FndJ (c1 c2 : Addr × Obj) (tl : Addr) (tds : List Td) (W : Rw) (ts : List Tr) (os osm : List (Addr × Obj)) (i : Nat) (ys : List Value) (news : List (Addr × Obj)) : Prop :=
  ∃ T' n' nw, news = c1 :: c2 :: (tl, listOf (List.toArray T') n') :: (nw ++ os) ∧ Apart os nw ∧ (∀ p ∈ nw, p.1 ≠ tl) ∧ TdsIn (nw ++ osm) T' (tds ++ tlds W (ts.take i)) ∧ ValsAre ys (fnds W (ts.take i))
noncomputable def FndCtx (c1 c2 : Addr × Obj) (tl : Addr) (tds : List Td) (W : Rw) (os osm : List (Addr × Obj)) : Prop := True
section
variable {prog : PySem.Program} {w : World} {A : Around} {h₀ : Heap} {L : Addr} {m : Str → Option Value} {env : Env} {elt : PySem.Expr} {x : Str} {scope : Scope} {cl : List (Str × Addr)} {s₁ : Shared} {Fin : Shared → List Value → List (Addr × Obj) → Prop}
theorem found_src {c1 c2 : Addr × Obj} {tl ax : Addr} {T vs : List Value} {n k d : Nat} {tds : List Td} {W : Rw} {ts : List Tr} {os osm l : List (Addr × Obj)} (uM : FndCtx c1 c2 tl tds W os osm) (hh : A.handled = none) (F : Fr h₀ L s₁.heap m) (N : News h₀ L s₁.heap l) (m1 : c1 ∈ l) (m2 : c2 ∈ l) (mC : (tl, listOf T.toArray n) ∈ l) (mo : ∀ p ∈ os, p ∈ l)
    (ml : (ax, listOf vs.toArray k) ∈ os) (hvs : TreesIn os vs ts) (hsz : vs.length ≤ 1000) (hN : ∀ t ∈ ts, FoundD w t) (hd : ∀ t ∈ ts, t.depth ≤ d) (hT : TdsIn osm T tds)
    (turn : ∀ gq v t I oI C' oC D m₂ ys T7 n7 nw h tk (E' : Value → Shared → Prop) i, ts[i]? = some t → FoundD w t → t.depth ≤ d → TreeIn (nw ++ os) v t → LCg.NsObj oC m₂ → m₂ x = some v → Fr h₀ L h m → News h₀ L h ((I, oI) :: (C', oC) :: (D, LCg.lst ys) :: c1 :: c2 :: (tl, listOf (List.toArray T7) n7) :: (nw ++ os)) → Apart os nw → (∀ p ∈ nw, p.1 ≠ tl) → TdsIn (nw ++ osm) T7 (tds ++ tlds W (ts.take i)) → (tlds W (ts.take i)).length + t.nops ≤ nopss ts → ValsAre ys (fnds W (ts.take i)) →
      (c1.1 ≠ I ∧ c1.1 ≠ C' ∧ c1.1 ≠ D) → (c2.1 ≠ I ∧ c2.1 ≠ C' ∧ c2.1 ≠ D) → ((@Ne Nat tl I) ∧ (@Ne Nat tl C') ∧ (@Ne Nat tl D)) → LCg.Off3 I C' D (nw ++ os) → ((@Ne Nat I C') ∧ (@Ne Nat I D) ∧ (@Ne Nat C' D)) →
      wpAny (model prog w) A (eval elt (compEnvC scope cl C' env)) (LCg.CompEnd h₀ L m { s₁ with heap := h, toks := tk } I oI C' oC D (LCg.lst ys) (LCg.SrcAt h₀ ax vs.toArray) (fun y news' => FndJ c1 c2 tl tds W ts os osm (i + 1) (ys ++ [y]) news')) E' { ({ s₁ with heap := gq } : Shared) with heap := h, toks := tk })
    (fin : ∀ gq ys T7 n7 nw, Apart os nw → (∀ p ∈ nw, p.1 ≠ tl) → TdsIn (nw ++ osm) T7 (tds ++ tlds W ts) → ValsAre ys (fnds W ts) → ys.length = vs.length → (tlds W ts).length ≤ nopss ts → Fin { s₁ with heap := gq } ys (c1 :: c2 :: (tl, listOf (List.toArray T7) n7) :: (nw ++ os))) :
    LCg.CompSrc prog w A h₀ L m env elt x scope cl Fin (.ref ax) s₁ := by
  have hat := trees_at hvs
  refine LCg.CompSrc.ledger (news := c1 :: c2 :: (tl, listOf T.toArray n) :: os) hh F (news_sub N fun p hp => ?_) (mem_tl (mem_tl (mem_tl ml))) (by rw [List.size_toArray, PySem.sizeLine_eq]; lia) fun gq => ?_
  · rcases List.mem_cons.mp hp with rfl | hp
    · exact m1
    · rcases List.mem_cons.mp hp with rfl | hp
      · exact m2
      · rcases List.mem_cons.mp hp with rfl | hp
        · exact mC
        · exact mo p hp
  · rw [List.size_toArray, hat.1]
    refine comp_rest (FndJ c1 c2 tl tds W ts os osm) ⟨T, n, [], by rw [List.nil_append], .nil, (fun _ h => nomatch h), by rw [List.take_zero]; simpa [tlds] using hT, by rw [List.take_zero]; exact .nil⟩ (fun i v I oI C' oC D m₂ ys news₁ h tk E' hi hv hJ hC hx F2 N2 off ne => ?_) fun ys news' hJ => ?_
    · obtain ⟨T7, n7, nw, rfl, ha7, hb7, ht7, hv7⟩ := hJ
      obtain ⟨off1, off2, off3, off4⟩ := off
      obtain ⟨t, e1, e2⟩ := hat.2 i v (by simpa using hv)
      have e3 : ts.take (i + 1) = ts.take i ++ [t] := by rw [List.take_add_one, e1]; rfl
      have e4 := nopss_take ts (i + 1)
      rw [e3, nopss_snoc] at e4
      have e5 := tlds_len W (ts.take i)
      exact turn gq v t I oI C' oC D m₂ ys T7 n7 nw h tk E' i e1 (hN t (List.mem_of_getElem? e1)) (hd t (List.mem_of_getElem? e1)) (e2.mono fun _ => mem_apr) hC hx F2 N2 ha7 hb7 ht7 (by lia) hv7 off1 off2 off3 off4 ne
    · obtain ⟨T7, n7, nw, rfl, ha7, hb7, ht7, hv7⟩ := hJ
      rw [List.take_length] at ht7 hv7
      exact fin gq ys T7 n7 nw ha7 hb7 ht7 hv7 (by rw [hv7.len, hat.1]; simp [fnds]) (tlds_len W ts)
end
theorem fturn_back {c1 c2 : Addr × Obj} {tl I C' D ax : Addr} {T8 vs : List Value} {n8 n : Nat} {oI oC oI1 oC1 oD1 : Obj} {tds : List Td} {W : Rw} {ts : List Tr} {os osm l l8 nw nw8 : List (Addr × Obj)} {i : Nat} {ys : List Value} {v : Value} {t : Tr} {h₀ h : Heap} {L : Addr} {m : Str → Option Value} {s₁ : Shared} {tk : Nat} (uM : FndCtx c1 c2 tl tds W os osm)
    (hi : ts[i]? = some t) (hv : IsVal v (fnd W t)) (ht : TdsIn (nw8 ++ (nw ++ osm)) T8 ((tds ++ tlds W (ts.take i)) ++ tld W t)) (hvs : ValsAre ys (fnds W (ts.take i))) (ha8 : Apart l8 nw8) (mI : (I, oI1) ∈ l8) (mC : (C', oC1) ∈ l8) (mD : (D, oD1) ∈ l8) (hsub8 : ∀ q ∈ os, q ∈ l8) (hb8 : ∀ p ∈ nw8, p.1 ≠ tl)
    (ha : Apart os nw) (hb : ∀ p ∈ nw, p.1 ≠ tl) (F : Fr h₀ L h m) (N : News h₀ L h l) (sub : ∀ p ∈ (I, oI) :: (C', oC) :: (D, LCg.lst ys) :: c1 :: c2 :: (tl, listOf T8.toArray n8) :: (nw8 ++ (nw ++ os)), p ∈ l)
    (ml : (ax, listOf vs.toArray n) ∈ os) (off1 : c1.1 ≠ I ∧ c1.1 ≠ C' ∧ c1.1 ≠ D) (off2 : c2.1 ≠ I ∧ c2.1 ≠ C' ∧ c2.1 ≠ D) (off3 : tl ≠ I ∧ tl ≠ C' ∧ tl ≠ D) (off4 : LCg.Off3 I C' D (nw ++ os)) :
    LCg.CompEnd h₀ L m s₁ I oI C' oC D (LCg.lst ys) (LCg.SrcAt h₀ ax vs.toArray) (fun y news' => FndJ c1 c2 tl tds W ts os osm (i + 1) (ys ++ [y]) news') v { s₁ with heap := h, toks := tk } := by
  have e3 : ts.take (i + 1) = ts.take i ++ [t] := by rw [List.take_add_one, hi]; rfl
  refine LCg.CompEnd.intro F N (c1 :: c2 :: (tl, listOf T8.toArray n8) :: ((nw8 ++ nw) ++ os)) (by rw [List.append_assoc]; exact sub) ⟨off1, off2, off3, off3_tail (ha8.off mI) (ha8.off mC) (ha8.off mD) off4⟩ (.inr ⟨_, mem_tl (mem_tl (mem_tl (mem_apr ml))), rfl, _, rfl⟩) ?_
  refine ⟨T8, n8, nw8 ++ nw, rfl, (Apart.app (fun q hq => ha8 q (hsub8 q hq)) ha), off_app hb8 hb, ?_, ?_⟩
  · rw [e3, tlds_snoc, ← List.append_assoc, List.append_assoc nw8]; exact ht
  · rw [e3, fnds_snoc]; exact hvs.snoc hv
theorem found_end {tl : Addr} {T' : List Value} {n' : Nat} {tds tds' tn : List Td} {os osm l nw : List (Addr × Obj)} {y y' : Option Int} {h₀ h : Heap} {L : Addr} {m : Str → Option Value} {gn dr oo} {tk : Nat} {Q : Value → Shared → Prop} {r : Value}
    (hret : ∀ r news' h' tk', Fr h₀ L h' m → News h₀ L h' news' → FndPost tl tds os osm y tn r news' → Q r ⟨h', gn, dr, tk', oo⟩) (F : Fr h₀ L h m) (N : News h₀ L h l) (TT : TailT tl tl tl os l nw) (m1 : (tl, listOf T'.toArray n') ∈ l) (hv : IsVal r y') (ht : TdsIn (nw ++ osm) T' tds')
    (e1 : y = y') (e2 : tds ++ tn = tds') (a0 : Apart os nw) (a1 : ∀ p ∈ nw, p.1 ≠ tl) : Q r ⟨h, gn, dr, tk, oo⟩ := by
  subst e1; subst e2
  exact hret r ((tl, listOf T'.toArray n') :: (nw ++ os)) h tk F (news_sub N fun p hp => by
    rcases List.mem_cons.mp hp with rfl | hp
    · exact m1
    · exact TT.sub p hp) ⟨T', n', nw, hv, rfl, a0, a1, ht⟩
theorem off1_all {D : Addr} : ∀ {x : List (Addr × Obj)}, LCg.Off1 D x → ∀ p ∈ x, p.1 ≠ D
  | [], _, _, h => nomatch h
  | _ :: _, hx, p, hp => by
    rcases List.mem_cons.mp hp with rfl | hp
    · exact hx.1
    · exact off1_all hx.2 p hp
theorem found_endP {tl b D : Addr} {T8 ys : List Value} {n' k : Nat} {tds tds8 tn : List Td} {os osm l nw : List (Addr × Obj)} {y : Option Int} {zs : List (Option Int)} {nm co : String} {t1 t2 : Tok} {h₀ h : Heap} {L : Addr} {m : Str → Option Value} {gn dr oo} {tk : Nat} {Q : Value → Shared → Prop} {r : Value} {A B : Prop}
    (hret : ∀ r news' h' tk', Fr h₀ L h' m → News h₀ L h' news' → FndPost tl tds os osm y tn r news' → Q r ⟨h', gn, dr, tk', oo⟩) (F : Fr h₀ L h m) (N : News h₀ L h l) (ht : TdsIn (nw ++ osm) T8 tds8) (hys : ValsAre ys zs)
    (sub : ∀ p ∈ (tl, listOf (T8.toArray.push (.ref b)) n') :: (b, tupO [.str (Str.ofString nm) t1, .ref D, .str (Str.ofString co) t2] k) :: (D, LCg.lst ys) :: (nw ++ os), p ∈ l) (hv : IsVal r (worth zs)) (hD : A ∧ B ∧ tl ≠ D ∧ LCg.Off1 D (nw ++ os))
    (e1 : y = worth zs) (e2 : tds ++ tn = tds8 ++ [⟨nm, zs, co⟩]) (a0 : Apart os nw) (a1 : ∀ p ∈ nw, p.1 ≠ tl) (hb : ∀ q ∈ os, q.1 ≠ b) (hbt : @Ne Nat tl b) : Q r ⟨h, gn, dr, tk, oo⟩ := by
  have hDa := off1_all hD.2.2.2
  refine hret r ((tl, listOf (T8 ++ [Value.ref b]).toArray n') :: (((b, tupO [.str (Str.ofString nm) t1, .ref D, .str (Str.ofString co) t2] k) :: (D, LCg.lst ys) :: nw) ++ os)) h tk F (news_sub N fun p hp => sub p (by rw [← List.push_toArray] at hp; exact hp))
    ⟨T8 ++ [.ref b], n', (b, tupO [.str (Str.ofString nm) t1, .ref D, .str (Str.ofString co) t2] k) :: (D, LCg.lst ys) :: nw, by rw [e1]; exact hv, rfl, .cons hb (.cons (fun q hq => hDa q (mem_apr hq)) a0), ?_, ?_⟩
  · intro p hp
    rcases List.mem_cons.mp hp with rfl | hp
    · exact Ne.symm hbt
    · rcases List.mem_cons.mp hp with rfl | hp
      · exact Ne.symm hD.2.2.1
      · exact a1 p hp
  · rw [e2]
    exact .snoc (ht.mono fun p hp => mem_tl (mem_tl hp)) (.mk mem_hd (mem_tl mem_hd) hys)
section
variable {W : Rw} {x1 x2 x3 t : Tr} {y : Option Int} {i : Int} {tds : List Td}
theorem co2_n (h1 : fnd W x1 = none) (h2 : fnd W x2 = y) : fnd W (.f2 .coalesce x1 x2) = y := by simp only [fnd, h1, h2, Option.none_or]
theorem co2_s (h1 : fnd W x1 = some i) : fnd W (.f2 .coalesce x1 x2) = some i := by simp only [fnd, h1, Option.some_or]
theorem co2_tn (h1 : fnd W x1 = none) : tds ++ tld W (.f2 .coalesce x1 x2) = (tds ++ tld W x1) ++ tld W x2 := by simp only [tld, h1, if_true, List.append_assoc]
theorem co2_ts (h1 : fnd W x1 = some i) : tds ++ tld W (.f2 .coalesce x1 x2) = tds ++ tld W x1 := by simp [tld, h1]
theorem if2_n (h1 : fnd W x1 = none) (h2 : fnd W x2 = y) : fnd W (.f2 .ifnull x1 x2) = y := by simp only [fnd, h1, h2, Option.none_or]
theorem if2_s (h1 : fnd W x1 = some i) : fnd W (.f2 .ifnull x1 x2) = some i := by simp only [fnd, h1, Option.some_or]
theorem if2_tn (h1 : fnd W x1 = none) : tds ++ tld W (.f2 .ifnull x1 x2) = (tds ++ tld W x1) ++ tld W x2 := by simp only [tld, h1, if_true, List.append_assoc]
theorem if2_ts (h1 : fnd W x1 = some i) : tds ++ tld W (.f2 .ifnull x1 x2) = tds ++ tld W x1 := by simp [tld, h1]
theorem co3_n (h1 : fnd W x1 = none) (h2 : fnd W x2 = none) (h3 : fnd W x3 = y) : fnd W (.f3 .coalesce x1 x2 x3) = y := by simp only [fnd, h1, h2, h3, Option.none_or]
theorem co3_m (h1 : fnd W x1 = none) (h2 : fnd W x2 = some i) : fnd W (.f3 .coalesce x1 x2 x3) = some i := by simp only [fnd, h1, h2, Option.none_or, Option.some_or]
theorem co3_s (h1 : fnd W x1 = some i) : fnd W (.f3 .coalesce x1 x2 x3) = some i := by simp only [fnd, h1, Option.some_or]
theorem co3_tn (h1 : fnd W x1 = none) (h2 : fnd W x2 = none) : tds ++ tld W (.f3 .coalesce x1 x2 x3) = ((tds ++ tld W x1) ++ tld W x2) ++ tld W x3 := by simp [tld, h1, h2]
theorem co3_tm (h1 : fnd W x1 = none) (h2 : fnd W x2 = some i) : tds ++ tld W (.f3 .coalesce x1 x2 x3) = (tds ++ tld W x1) ++ tld W x2 := by simp [tld, h1, h2]
theorem co3_ts (h1 : fnd W x1 = some i) : tds ++ tld W (.f3 .coalesce x1 x2 x3) = tds ++ tld W x1 := by simp [tld, h1]
theorem iif_t (e : ∀ W, fnd W t = fnd W (.f3 .iif x1 x2 x3)) (h1 : fnd W x1 = some i) (hi : ¬ i = 0) (h2 : fnd W x2 = y) : fnd W t = y := by rw [e]; simp [fnd, h1, tru, hi, h2]
theorem iif_f (e : ∀ W, fnd W t = fnd W (.f3 .iif x1 x2 x3)) (h1 : fnd W x1 = none) (h2 : fnd W x3 = y) : fnd W t = y := by rw [e]; simp [fnd, h1, tru, h2]
theorem iif_z (e : ∀ W, fnd W t = fnd W (.f3 .iif x1 x2 x3)) (h1 : fnd W x1 = some i) (hi : i = 0) (h2 : fnd W x3 = y) : fnd W t = y := by rw [e]; simp [fnd, h1, tru, hi, h2]
theorem iif_tt (e : ∀ W, tld W t = tld W (.f3 .iif x1 x2 x3)) (h1 : fnd W x1 = some i) (hi : ¬ i = 0) : tds ++ tld W t = (tds ++ tld W x1) ++ tld W x2 := by rw [e]; simp [tld, h1, tru, hi]
theorem iif_tf (e : ∀ W, tld W t = tld W (.f3 .iif x1 x2 x3)) (h1 : fnd W x1 = none) : tds ++ tld W t = (tds ++ tld W x1) ++ tld W x3 := by rw [e]; simp [tld, h1, tru]
theorem iif_tz (e : ∀ W, tld W t = tld W (.f3 .iif x1 x2 x3)) (h1 : fnd W x1 = some i) (hi : i = 0) : tds ++ tld W t = (tds ++ tld W x1) ++ tld W x3 := by rw [e]; simp [tld, h1, tru, hi]
theorem fn_e2 {nm : String} {ts : List Tr} (e : ∀ W, tld W t = tlds W ts ++ [⟨nm, fnds W ts, colOf ts⟩]) : tds ++ tld W t = (tds ++ tlds W ts) ++ [⟨nm, fnds W ts, colOf ts⟩] := by rw [e, List.append_assoc]
theorem fn_e1 {ts : List Tr} (e : ∀ W, fnd W t = worth (fnds W ts)) : fnd W t = worth (fnds W ts) := e W
end
section
theorem lines25 : True := by
  k_with "o22" => skip
  k_with "subscriptTail Name" => ((fail_if_success k_extra "o23"); k_extra "subscriptTail")
  k_with "subscriptTail Name Constant ref int" => ((fail_if_success k_extra "o23"); k_extra "subscriptTail")
  k_with "subscriptTail Name Name ref int" => ((fail_if_success k_extra "o23"); k_extra "subscriptTail")
  k_with "k_all" => ((fail_if_success k_extra "o23"); first | ((with_reducible refine' off_sub ?z161h ?z161s); (case z161h => tbn_find); (case z161s => z_head)) | ((with_reducible refine' off_lt2 ?z161a ?z161h ?z161s); (case z161a => first | (with_reducible assumption) | assumption); (case z161h => tbn_find); (case z161s => z_head)))
  k_with "x_run" => ((fail_if_success k_extra "o23"); first | (with_reducible assumption) | (refine labs_app ?_ ?_; (focus x_run); (focus lia)) | (refine labs_dec (by with_reducible assumption) ?_; lia))
  k_with "x_auto" => ((fail_if_success k_extra "o23"); first | (with_reducible assumption) | (refine labs_app_ne ?_ ?_; (focus x_auto); (focus lia)) | (refine labs_ne ?_; with_reducible assumption) | (refine labs_ne (labs_dec (by with_reducible assumption) ?_); lia) | (refine Fx.fresh (by with_reducible assumption) ?_ ?_; (focus lia); x_auto))
  k_with "x_head" => ((fail_if_success k_extra "o23"); first | (with_reducible exact Apart.nil) | (with_reducible refine Apart.app ?_ ?_; (focus x_head); x_head) | (with_reducible refine Apart.cons ?_ ?_; (focus k_all); x_head) | (refine Apart.subL (by with_reducible assumption) ?_; z_head))
  k_with "z_run" => ((fail_if_success k_extra "o23"); first | (with_reducible exact TailT.here) | ((with_reducible refine' TailT.d1 ?z162pk); (case z162pk => z_run)) | ((with_reducible refine' TailT.d2 ?z162pk); (case z162pk => z_run)) | ((with_reducible refine' TailT.d3 ?z162pk); (case z162pk => z_run)) | ((with_reducible refine' TailT.cons ?z162pk); (case z162pk => z_run)) | ((with_reducible refine' TailT.app ?z162pk); (case z162pk => z_run)))
  k_with "call ref" => ((fail_if_success k_extra "o23"); (k_here; (with_reducible show wpAny _ _ (call (Value.ref 832) [_, _, _]) _ _ _); k_dflt (refine' usx1 ?z163B ?z163F ?z163X ?z163N ?z163T ?z163hk ?z163P1 (found_use ?z163hT ?z163hF ?z163ht ?z163hR ?z163hs ?z163ho ?z163hz) ?_ ?_ (cur_found ?z163ik ?_ ?_); (case z163B => k_asm); (case z163F => k_asm); (case z163X => k_asm); (case z163N => k_asm); (case z163T => k_asm); (case z163hk => first | exact rfl | assumption); (case z163P1 => tb_start); (case z163hT => (refine TreeIn.mono ?_ (by with_reducible assumption); z_head)); (case z163hF => with_reducible assumption); (case z163ht => with_reducible assumption); (case z163hR => (refine RowIn.mono ?_ (by with_reducible assumption); z_head)); (case z163hs => with_reducible assumption); (case z163ho => k_all); (case z163hz => (first | exact TB.take (by with_reducible assumption) | exact TB.take2 (by with_reducible assumption) | (first | exact lenX (by with_reducible assumption) (by with_reducible assumption) | exact lenO (by with_reducible assumption) (by with_reducible assumption) | lia | (simp only [List.length_append, List.length_cons, List.length_nil] at *; lia)))); (case z163ik => ktr_rel); (focus k_extra "rmD"); (focus k_extra "rmU"); intro T8ₘ n8ₘ nw8ₘ h'ₘ tk'ₘ F'ₘ en1ₘ lkₘ N'ₘ ha8ₘ h81ₘ ht8ₘ hz8ₘ hl8ₘ ey8ₘ hv8ₘ; (try (have hzTₘ := TB.step (by with_reducible assumption) hz8ₘ ht8ₘ)); rotate_left; intro T8ₘ n8ₘ nw8ₘ i8ₘ u8ₘ h'ₘ tk'ₘ F'ₘ en1ₘ lkₘ N'ₘ ha8ₘ h81ₘ ht8ₘ hz8ₘ hl8ₘ ey8ₘ hi8ₘ hj8ₘ hv8ₘ; (try (have hzTₘ := TB.step (by with_reducible assumption) hz8ₘ ht8ₘ)); rotate_left; all_goals ((try dsimp only); (try k_sweep); (try k_fold)))))
  k_with "call ref" => ((fail_if_success k_extra "o23"); (k_here; (with_reducible show wpAny _ _ (call (Value.ref 822) [_]) _ _ _); k_dflt (refine' usx0 ?z164B ?z164F ?z164X ?z164N ?z164T ?z164hk  (worth_any ?z164hv ?z164hl ?z164hn) ?_ ?_ (cur_worth ?_); (case z164B => k_asm); (case z164F => k_asm); (case z164X => k_asm); (case z164N => k_asm); (case z164T => k_asm); (case z164hk => first | exact rfl | assumption); (case z164hv => with_reducible assumption); (case z164hl => k_mem); (case z164hn => first | (with_reducible assumption) | lia); (focus k_extra "rmD"); (focus k_extra "rmU"); intro r'ₘ h'ₘ tk'ₘ F'ₘ N'ₘ hv8ₘ; (try dsimp only); (try k_sweep); (try k_fold))))
  k_with "call ref" => ((fail_if_success k_extra "o23"); (k_here; (with_reducible show wpAny _ _ (call (Value.ref 827) [_]) _ _ _); k_dflt (refine' usx0 ?z165B ?z165F ?z165X ?z165N ?z165T ?z165hk  (colla_does (hl := ?z165hl) (hvs := ?z165hv) (hlen := ?z165hn)) ?_ ?_ (cur_str ?_); (case z165B => k_asm); (case z165F => k_asm); (case z165X => k_asm); (case z165N => k_asm); (case z165T => k_asm); (case z165hk => first | exact rfl | assumption); (case z165hl => k_mem); (case z165hv => (refine TreesIn.mono ?_ (by with_reducible assumption); z_head)); (case z165hn => with_reducible assumption); (focus k_extra "rmD"); (focus k_extra "rmU"); intro u8ₘ h'ₘ tk'ₘ F'ₘ N'ₘ; (try dsimp only); (try k_sweep); (try k_fold))))
  k_with "exec For Name Name cons nil" => ((fail_if_success k_extra "o23"); (k_here; (rename Fr _ _ _ _ => lF'ₘ); (with_unfolding_all refine' For_invVF lF'ₘ ?z166k1 ?z166k2 ?_; (case z166k1 => exact rfl); (case z166k2 => exact rfl); k_whole)))
  k_with "pyIterM ref" => ((fail_if_success k_extra "o23"); ((with_reducible show wpAny _ _ (pyIter (Value.ref _)) (fun it s₂ => LoopAtV _ _ _ _ _ _ _ _ _ it s₂) _ _); k_dflt (refine' iter_listUnr (by rfl) ?z167F ?z167N ?z167m ?z167c ?z167d ?_; (case z167F => k_asm); (case z167N => k_asm); (case z167m => k_mem); (case z167c => rfl); (case z167d => rfl); k_whole); intro i'ₘ l1ₘ; (try k_lt l1ₘ)))
  k_with "UnrEnd" => ((fail_if_success k_extra "o23"); (refine' UnrEnd.introP ?z168F ?z168N ?z168P ?z168off ⟨?z168m, ?_⟩; (case z168F => k_asm); (case z168N => k_asm); (case z168P => tb_start); (case z168off => k_all); (case z168m => k_mem)))
  k_with "subscriptTail" => ((fail_if_success k_extra "o23"); (k_here; (with_reducible show wpAny _ _ (subscriptTail _ _ (Value.ref _) (Value.int _ _)) _ _ _); k_dflt (refine' item_w (vs := [_, _, _]) ?z169N ?z169m ?z169v ?z169a ?z169f ?_ ?z169hs; (case z169N => k_asm); (case z169m => k_mem); (case z169v => exact rfl); (case z169a => decide); (case z169f => (simp only [List.length_cons, List.length_nil]; lia)); (case z169hs => with_unfolding_all rfl); k_whole)))
  k_with "exec For Name Subscript cons nil" => ((fail_if_success k_extra "o23"); (k_here; (rename Fr _ _ _ _ => lF'ₘ); (with_unfolding_all refine' For_invVF lF'ₘ ?z170k1 ?z170k2 ?_; (case z170k1 => exact rfl); (case z170k2 => exact rfl); k_whole)))
  k_with "call builtin:str.lower" => ((fail_if_success k_extra "o23"); (k_here; k_dflt (refine' low_use (by with_reducible assumption) ?_; (cases hfk); all_goals ((try simp only [Tr.nops, F2.own, F3.own] at hz); (first | (have hzT := TB.of3' hz (by with_reducible assumption)) | (have hzT := TB.of3 hz) | (have hzT := TB.of2 hz) | (have hzT := TB.of1 hz) | skip); (try k_fold)))))
  k_with "CompSrc" => ((fail_if_success k_extra "o23"); (k_here; k_dflt (refine' found_src (by with_reducible assumption) rfl (by k_asm) (by k_asm) (by k_mem) (by k_mem) (by k_mem) (by z_head) (by with_reducible assumption) (by with_reducible assumption) (by lia) (by with_reducible assumption) (by with_reducible assumption) (by with_reducible assumption) ?_ ?_; (intro gq v t I oI C' oC D m₂ ys T7 n7 nw h tk E' i hi hFt hdt hTt hC hx F N ha7 hb7 ht7 hz7 hv7 off1 off2 off3 off4 ne; (have nq0 := off3.1); (have nq1 := off3.2.1); (have nq2 := off3.2.2); (have nq3 := ne.1); (have nq4 := ne.2.1); (have nq5 := ne.2.2); (have hlt7 := TdsIn.len ht7); (try simp only [List.length_append] at hlt7); (try dsimp only); (try k_fold)); rotate_left; (intro gq ys T7 n7 nw ha7 hb7 ht7 hv7 hlv7 hlt6; (have hlt7 := TdsIn.len ht7); (try simp only [List.length_append] at hlt7); (try dsimp only)); rotate_right)))
  k_with "FinE" => ((fail_if_success k_extra "o23"); ((unfold LCg.FinE); intro Dq hq tkq Fq Nq o1q; (try simp only [List.nil_append, List.cons_append] at Nq); (try dsimp only)))
  k_with "kcf_m" => ((fail_if_success k_extra "o23"); ( (try k_unmd); (try k_unfold); refine' fturn_back (by with_reducible assumption) ?z171t1 ?z171t2 ?z171t3 ?z171t4 ?z171t5 ?z171t6 ?z171t7 ?z171t8 ?z171t9 ?z171u1 ?z171u2 ?z171u3 ?z171f ?z171n ?z171sb ?z171ml ?z171w1 ?z171w2 ?z171w3 ?z171w4; (case z171t1 => with_reducible assumption); (case z171t2 => with_reducible assumption); (case z171t3 => with_reducible assumption); (case z171t4 => with_reducible assumption); (case z171t5 => with_reducible assumption); (case z171t6 => k_mem); (case z171t7 => k_mem); (case z171t8 => k_mem); (case z171t9 => z_head); (case z171u1 => with_reducible assumption); (case z171u2 => with_reducible assumption); (case z171u3 => with_reducible assumption); (case z171f => with_reducible assumption); (case z171n => with_reducible assumption); (case z171sb => z_head); (case z171ml => with_reducible assumption); (case z171w1 => with_reducible assumption); (case z171w2 => with_reducible assumption); (case z171w3 => with_reducible assumption); (case z171w4 => with_reducible assumption)))
  k_with "kcf_all" => ((fail_if_success k_extra "o23"); first | (refine' found_endP (by with_reducible assumption) ?z172f ?z172n ?z172ht ?z172hy ?z172sb ?z172hv ?z172hD ?z172e1 ?z172e2 ?z172a0 ?z172a1 ?z172hb ?z172hbt; (case z172f => with_reducible assumption); (case z172n => with_reducible assumption); (case z172ht => with_reducible assumption); (case z172hy => with_reducible assumption); (case z172sb => z_head); (case z172hv => with_reducible assumption); (case z172hD => with_reducible assumption); (case z172e1 => exact fn_e1 (by with_reducible assumption)); (case z172e2 => exact fn_e2 (by with_reducible assumption)); (case z172a0 => with_reducible assumption); (case z172a1 => with_reducible assumption); (case z172hb => k_all); (case z172hbt => k_ne)) | (refine' found_end (by with_reducible assumption) ?z172f ?z172n ?z172tt ?z172m1 ?z172hv ?z172ht ?z172e1 ?z172e2 ?z172a0 ?z172a1; (case z172f => with_reducible assumption); (case z172n => with_reducible assumption); (case z172tt => z_run); (case z172m1 => k_mem); (case z172ht => (refine TdsIn.mono ?_ (by with_reducible assumption); z_head)); (case z172hv => first | exact .none | exact .int (by with_reducible assumption) (by with_reducible assumption)); (case z172e1 => first | exact co2_n (by with_reducible assumption) (by with_reducible assumption) | exact co2_s (by with_reducible assumption) | exact if2_n (by with_reducible assumption) (by with_reducible assumption) | exact if2_s (by with_reducible assumption) | exact co3_n (by with_reducible assumption) (by with_reducible assumption) (by with_reducible assumption) | exact co3_m (by with_reducible assumption) (by with_reducible assumption) | exact co3_s (by with_reducible assumption) | exact iif_t (by with_reducible assumption) (by with_reducible assumption) (by with_reducible assumption) (by with_reducible assumption) | exact iif_f (by with_reducible assumption) (by with_reducible assumption) (by with_reducible assumption) | exact iif_z (by with_reducible assumption) (by with_reducible assumption) (by with_reducible assumption) (by with_reducible assumption)); (case z172e2 => first | exact co2_tn (by with_reducible assumption) | exact co2_ts (by with_reducible assumption) | exact if2_tn (by with_reducible assumption) | exact if2_ts (by with_reducible assumption) | exact co3_tn (by with_reducible assumption) (by with_reducible assumption) | exact co3_tm (by with_reducible assumption) (by with_reducible assumption) | exact co3_ts (by with_reducible assumption) | exact iif_tt (by with_reducible assumption) (by with_reducible assumption) (by with_reducible assumption) | exact iif_tf (by with_reducible assumption) (by with_reducible assumption) | exact iif_tz (by with_reducible assumption) (by with_reducible assumption) (by with_reducible assumption)); (case z172a0 => x_head); (case z172a1 => k_all)))
  exact True.intro
set_option maxRecDepth 100000 in
set_option maxHeartbeats 4000000 in
theorem found_fn {w : World} {t : Tr} {nm nm' : String} {d : Nat} {W : Rw} {a0 l rw tl : Addr} {T : List Value} {n k0 : Nat} {t0 : Tok} {tds : List Td} {os osm : List (Addr × Obj)} (ha : (a0, tupO [.str (Str.ofString nm) t0, .ref l] k0) ∈ os) (hlow : LowTo nm nm') (hfk : FK w os d l nm' t)
   (n1 : (Str.ofString nm == Str.ofString "value") = false) (n2 : (Str.ofString nm == Str.ofString "known") = false) (n3 : (Str.ofString nm == Str.ofString "column") = false) (hR : RowIn os rw W) (hs : TdsIn osm T tds) (ho : ∀ p ∈ os, p.1 ≠ tl) (hz : tds.length + t.nops ≤ 900) :
   Does w 832 (d + 12) [.ref a0, .ref rw, .ref tl] ((tl, listOf T.toArray n) :: os) (FndPost tl tds os osm (fnd W t) (tld W t)) := by
  have hTl := TdsIn.len hs
  refine Does.of ?_
  intro dp un gd cn cs a ccd cl outer A₀ base h₀ L m p loose mean mg mb hp0 gn0 dr0 tk0 oo0 Q E B F X N T hk hd hu hret
  revert X; k_fill; intro X
  refine wpAny_call ?_
  k_dflt (refine' code_defC ?k1 ?k2 ?k3 ?k4 ?k5 ?kA ?kF ?kK ?k6 ?k7 ?k8 ?k9 ?kB ?kD ?_ ?c2 ?c3 ?c4; (case kA => exact rfl); (case kF => exact rfl); (case kK => first | exact rfl | assumption); (case k1 => k_asm); (case k2 => k_asm); (case k3 => k_asm); (case k4 => k_asm); (case k5 => k_asm); (case k6 => k_is); (case k7 => k_is); (case k8 => k_room); (case k9 => exact BindsTo.of_eq rfl); (case kB => exact rfl); (case kD => decide +kernel); (case c2 => exact rfl); (case c3 => exact rfl); (case c4 => exact rfl); k_whole; intro g' L' h' tk' cells' FG' F' N' Y' B' X' T' l1; (try k_lt l1); have hY := CellsAre.two Y'; obtain ⟨oc1, oc2, hE, dc1, dc2⟩ := hY; subst hE; clear Y'; (try simp only [List.cons_append, List.nil_append] at N'); refine letF F' ?_; clear F'; intro mk F'; (first | (refine letN6 N' ?_; clear N'; intro e1 e2 e3 e4 e5 e6 lk N') | (refine letN5 N' ?_; clear N'; intro e1 e2 e3 e4 e5 lk N') | (refine letN4 N' ?_; clear N'; intro e1 e2 e3 e4 lk N') | (refine letN3 N' ?_; clear N'; intro e1 e2 e3 lk N') | (refine letN2 N' ?_; clear N'; intro e1 e2 lk N') | (refine letN1 N' ?_; clear N'; intro e1 lk N') | skip); (try dsimp only); (try k_lift B'); (try k_fold))
  have M9 : FndCtx (L' + 1 + 1, oc1) (L' + 1, oc2) tl tds W os osm := True.intro
  k_steps
  all_goals first | kcf_m | kcf_all | fail
end
end Mine
end
section
open PySem PySem.W PyProof.Rows PySem.Spec PyProof.V
namespace Mine
theorem low_abs : LowTo "abs" "abs" := ⟨by decide +kernel, by decide +kernel⟩
theorem low_co : LowTo "coalesce" "coalesce" := ⟨by decide +kernel, by decide +kernel⟩
theorem low_Co : LowTo "Coalesce" "coalesce" := ⟨by decide +kernel, by decide +kernel⟩
theorem low_ifn : LowTo "ifnull" "ifnull" := ⟨by decide +kernel, by decide +kernel⟩
theorem low_iif : LowTo "iif" "iif" := ⟨by decide +kernel, by decide +kernel⟩
theorem low_IIF : LowTo "IIF" "iif" := ⟨by decide +kernel, by decide +kernel⟩
theorem low_Max : LowTo "Max" "max" := ⟨by decide +kernel, by decide +kernel⟩
theorem found_call {w : World} {t : Tr} {d : Nat} {os : List (Addr × Obj)} {v : Value} (hT : TreeIn os v t) (h1 : 1 ≤ t.depth) (hd : t.depth ≤ d + 1) (hE : ∀ t', t'.depth ≤ d → FoundD w t') {W : Rw} {rw tl : Addr} {T : List Value} {n : Nat} {tds : List Td} {osm : List (Addr × Obj)}
    (hR : RowIn os rw W) (hs : TdsIn osm T tds) (ho : ∀ p ∈ os, p.1 ≠ tl) (hz : tds.length + t.nops ≤ 900) :
    Does w 832 (d + 12) [v, .ref rw, .ref tl] ((tl, listOf T.toArray n) :: os) (FndPost tl tds os osm (fnd W t) (tld W t)) := by
  have ab : ∀ {a b n : Nat}, max a b + 1 ≤ n + 1 → a ≤ n ∧ b ≤ n := fun h => by lia
  obtain ⟨q1, q2, q3⟩ := nmA
  cases hT with
  | val => simp [Tr.depth] at h1
  | col0 => simp [Tr.depth] at h1
  | col1 => simp [Tr.depth] at h1
  | known => simp [Tr.depth] at h1
  | f0 m1 m2 => exact found_fn m1 low_abs (.fnA (vs := []) (ts := []) m2 .nil (by simp) (fun _ h => nomatch h) (fun _ h => nomatch h) (fun W => rfl) (fun W => rfl) rfl) q1 q2 q3 hR hs ho hz
  | @f1 a t' l k n' v1 x1 m1 m2 m3 =>
    have d1 := Nat.le_of_succ_le_succ hd
    refine found_fn m1 low_abs (.fnA (vs := [v1]) (ts := [x1]) m2 (tr1 m3) (by simp) (fun t h => by rw [List.mem_singleton.mp h]; exact hE _ d1) (fun t h => by rw [List.mem_singleton.mp h]; exact d1) (fun W => rfl) (fun W => ?_) ?_) q1 q2 q3 hR hs ho hz
    · simp [tld, tlds, fnds]
    · simp [nopss, Tr.nops, F2.own, F3.own]
  | @f2 a t' l k n' v1 v2 x1 x2 F m1 m2 m3 m4 =>
    obtain ⟨d1, d2⟩ := ab hd
    cases F with
    | coalesce => exact found_fn m1 low_co (.co2 m2 m3 (hE _ d1) d1 m4 (hE _ d2) d2) (nm2 .coalesce).1 (nm2 .coalesce).2.1 (nm2 .coalesce).2.2 hR hs ho hz
    | ifnull => exact found_fn m1 low_ifn (.if2 m2 m3 (hE _ d1) d1 m4 (hE _ d2) d2) (nm2 .ifnull).1 (nm2 .ifnull).2.1 (nm2 .ifnull).2.2 hR hs ho hz
    | max =>
      have hm : ∀ t ∈ [x1, x2], FoundD w t ∧ t.depth ≤ d := fun t h => by
        simp only [List.mem_cons, List.not_mem_nil, or_false] at h
        rcases h with rfl | rfl
        · exact ⟨hE _ d1, d1⟩
        · exact ⟨hE _ d2, d2⟩
      refine found_fn m1 low_Max (.fnM (vs := [v1, v2]) (ts := [x1, x2]) m2 (tr2 m3 m4) (by simp) (fun t h => (hm t h).1) (fun t h => (hm t h).2) (fun W => rfl) (fun W => ?_) ?_) (nm2 .max).1 (nm2 .max).2.1 (nm2 .max).2.2 hR hs ho hz
      · simp [tld, tlds, fnds]
      · simp [nopss, Tr.nops, F2.own, F3.own]
  | @f3 a t' l k n' v1 v2 v3 x1 x2 x3 F m1 m2 m3 m4 m5 =>
    obtain ⟨d1, d23⟩ := ab hd
    obtain ⟨d2, d3⟩ : _ ∧ _ := ⟨Nat.le_trans (Nat.le_max_left _ _) d23, Nat.le_trans (Nat.le_max_right _ _) d23⟩
    cases F with
    | coalesce => exact found_fn m1 low_Co (.co3 m2 m3 (hE _ d1) d1 m4 (hE _ d2) d2 m5 (hE _ d3) d3) (nm3 .coalesce).1 (nm3 .coalesce).2.1 (nm3 .coalesce).2.2 hR hs ho hz
    | iif => exact found_fn m1 low_iif (.iif m2 m3 (hE _ d1) d1 m4 (hE _ d2) d2 m5 (hE _ d3) d3 (fun _ => rfl) (fun _ => rfl) rfl) (nm3 .iif).1 (nm3 .iif).2.1 (nm3 .iif).2.2 hR hs ho hz
    | iif2 => exact found_fn m1 low_IIF (.iif m2 m3 (hE _ d1) d1 m4 (hE _ d2) d2 m5 (hE _ d3) d3 (fun _ => rfl) (fun _ => rfl) rfl) (nm3 .iif2).1 (nm3 .iif2).2.1 (nm3 .iif2).2.2 hR hs ho hz
theorem found_all (w : World) : ∀ (d : Nat) (t : Tr), t.depth ≤ d → FoundD w t := by
  intro d
  induction d with
  | zero => exact fun t ht => found_leaf w t (Nat.le_zero.mp ht)
  | succ d ih =>
    intro t ht
    by_cases h0 : t.depth = 0
    · exact found_leaf w t h0
    intro d' hd' W v rw tl T n tds os osm hT hR hs ho hz
    exact (found_call hT (by lia) (d := t.depth - 1) (by lia) (fun t' ht' => ih t' (by lia)) hR hs ho hz).le (by lia)
theorem found_does (w : World) (t : Tr) : FoundD w t := found_all w t.depth t (Nat.le_refl _)
end Mine
end
section
open PySem PySem.W PyProof.Rows PySem.Spec PyProof.V
namespace Mine
theorem valueAt_stored (kvs : List (Int × Value)) (k r : Int) (v : Value) : valueAt (stored kvs k v) r = if r = k then some v else valueAt kvs r := by
  have key : ∀ (l : List (Int × Value)), valueAt (l.map fun kv => if kv.1 = k then (kv.1, v) else kv) r = if r = k then (valueAt l r).map fun _ => v else valueAt l r := by
    intro l
    induction l with
    | nil => simp [valueAt]
    | cons p q ih =>
      unfold valueAt at ih ⊢
      by_cases h1 : p.1 = k
      · by_cases h2 : p.1 = r
        · have h3 : r = k := by lia
          simp [h1, h2, h3]
        · have h2' : ¬ k = r := by lia
          by_cases h3 : r = k
          · lia
          · simp only [List.map_cons, h1, if_true, List.find?_cons, decide_eq_false h2', if_neg h3] at ih ⊢
            exact ih
      · by_cases h2 : p.1 = r
        · have h3 : ¬ r = k := by lia
          simp [h1, h2, h3]
        · simp only [List.map_cons, if_neg h1, List.find?_cons, decide_eq_false h2] at ih ⊢
          exact ih
  unfold stored
  by_cases ha : (kvs.any fun kv => kv.1 = k) = true
  · rw [if_pos ha, key]
    by_cases h : r = k
    · subst h
      rw [if_pos rfl, if_pos rfl]
      have := valueAt_isSome_eq_any kvs r
      rw [ha] at this
      cases e : valueAt kvs r with
      | none => rw [e] at this; cases this
      | some x => rfl
    · rw [if_neg h, if_neg h]
  · rw [if_neg ha]
    have hn : valueAt kvs k = none := by
      have := valueAt_isSome_eq_any kvs k
      cases e : valueAt kvs k with
      | none => rfl
      | some x => rw [e] at this; exact absurd this.symm ha
    unfold valueAt at hn ⊢
    rw [List.find?_append]
    by_cases h : r = k
    · subst h
      rw [if_pos rfl]
      cases e : kvs.find? fun kv => decide (kv.1 = r) with
      | none => simp
      | some x => rw [e] at hn; cases hn
    · rw [if_neg h]
      have hne : ¬ k = r := fun q => h q.symm
      simp [List.find?_cons, hne]
noncomputable def Held (w : World) (o : Obj) (H : Int → Option Int) (z : Nat) : Prop := ∃ kvs, o.IsDictOf (intKind PGm w) kvs ∧ kvs.length ≤ z ∧ ∀ r, IsVal ((valueAt kvs r).getD .none) (H r)
section
variable {w : World} {A : Around} {E : Value → Shared → Prop} {s : Shared} {h₀ : Heap} {L d : Addr} {m : Str → Option Value} {news : List (Addr × Obj)} {o : Obj} {H : Int → Option Int} {z : Nat} {r : Int} {t : Tok} {g : Obj → List (Addr × Obj)}
theorem held_method {pl : Sem Bool} {Q : Value × List Value → Shared → Prop} (hH : Held w o H z) (N : News h₀ L s.heap news) (hp : (d, o) ∈ news) (h : Q (.builtin "dict.get", [.ref d]) s) : wpAny (model PGm w) A (getMethod (.ref d) "get" pl) Q E s := by
  obtain ⟨kvs, hd, _⟩ := hH
  exact kdg_method N hp hd h
theorem held_get {Q : Value → Shared → Prop} (hH : Held w o H z) (N : News h₀ L s.heap news) (hp : (d, o) ∈ news) (lo : (d == sysModules) = false) (h : ∀ v, IsVal v (H r) → Q v { s with toks := s.toks + 1 }) :
    wpAny (model PGm w) A (call (.builtin "dict.get") [.ref d, .int r t]) Q E s := by
  obtain ⟨kvs, hd, _, hv⟩ := hH
  exact kdg_get1 N hp hd lo (intKind_is _ _ _ _) _ rfl (h _ (hv r))
theorem held_set {Q : Unit → Shared → Prop} {v : Value} {y : Option Int} (hH : Held w o H z) (F : Fr h₀ L s.heap m) (N : News h₀ L s.heap news) (U : UpdF d o news g) (hz : z ≤ 1000) (hy : IsVal v y)
    (h : ∀ h' o', Fr h₀ L h' m → News h₀ L h' (g o') → Held w o' (upd H r y) (z + 1) → Q () { s with heap := h', toks := s.toks + 1 }) : wpAny (model PGm w) A (setItem (.ref d) (.int r t) v) Q E s := by
  obtain ⟨kvs, hd, hl, hv⟩ := hH
  refine kda_set F N U hd (intKind_is _ _ _ _) (by rw [sizeLine_eq]; lia) fun h' o' F' N' hd' => h h' o' F' N' ⟨_, hd', ?_, fun q => ?_⟩
  · have := stored_length_le kvs r v
    lia
  · rw [valueAt_stored]
    unfold upd
    by_cases e : q = r
    · rw [if_pos e, if_pos e]; exact hy
    · rw [if_neg e, if_neg e]; exact hv q
end
theorem OpsIn.at {os : List (Addr × Obj)} {vs : List Value} {ts : List Op} (h : OpsIn os vs ts) : ∀ (i : Nat) (t : Op), ts[i]? = some t → ∃ v, vs[i]? = some v ∧ OpIn os v t := by
  induction h with
  | nil => exact fun i t e => by simp at e
  | @snoc vs ts v t h1 h2 h3 ih =>
    intro i u e
    have hl := h1.len
    by_cases q : i < ts.length
    · rw [List.getElem?_append_left q] at e
      obtain ⟨v', e1, e2⟩ := ih i u e
      exact ⟨v', by rw [List.getElem?_append_left (hl ▸ q)]; exact e1, e2⟩
    · rw [List.getElem?_append_right (Nat.le_of_not_lt q)] at e
      have hi : i - ts.length = 0 := by
        cases z : i - ts.length with
        | zero => rfl
        | succ n => rw [z] at e; simp at e
      rw [hi] at e
      cases e
      exact ⟨v, by rw [List.getElem?_append_right (by lia), hl, hi]; rfl, h2⟩
noncomputable def nnpc (y : Option Int) (a t : Int) : Int := match y with | none => a + 1 | some _ => t
noncomputable def ifpc (y : Option Int) (a t : Int) : Int := match y with | none => t | some x => if x = 0 then t else a + 1
inductive StK (F : List Op) : RS → RS → Prop
  | value {a H T p1 t p3 v} : 0 ≤ a → F[a.toNat]? = some ⟨"Value", p1, t, p3, .val v⟩ → StK F ⟨a, H, T⟩ ⟨a + 1, upd H t v, T⟩
  | copy {a H T p t p3 x} : 0 ≤ a → F[a.toNat]? = some ⟨"Copy", p, t, p3, x⟩ → StK F ⟨a, H, T⟩ ⟨a + 1, upd H t (H p), T⟩
  | func {a H T p t nm co} (n : Nat) : 0 ≤ a → n ≤ 2 → F[a.toNat]? = some ⟨"Function", p, (n : Int), t, .told nm co⟩ → StK F ⟨a, H, T⟩ ⟨a + 1, upd H t (worth (vsAt H p n)), T ++ [⟨nm, vsAt H p n, co⟩]⟩
  | goto {a H T p1 t p3 x} : 0 ≤ a → F[a.toNat]? = some ⟨"Goto", p1, t, p3, x⟩ → StK F ⟨a, H, T⟩ ⟨t, H, T⟩
  | nn {a H T p t p3 x} : 0 ≤ a → F[a.toNat]? = some ⟨"NotNull", p, t, p3, x⟩ → StK F ⟨a, H, T⟩ ⟨nnpc (H p) a t, H, T⟩
  | ifn {a H T p t x} : 0 ≤ a → F[a.toNat]? = some ⟨"IfNot", p, t, 1, x⟩ → StK F ⟨a, H, T⟩ ⟨ifpc (H p) a t, H, T⟩
theorem Stp.toK {F : List Op} {a b : RS} (h : Stp F a b) : StK F a b := by
  cases h with
  | value h1 h2 => exact .value h1 h2
  | copy h1 h2 => exact .copy h1 h2
  | func n h1 h2 h3 => exact .func n h1 h2 h3
  | goto h1 h2 => exact .goto h1 h2
  | @nn0 a H T p t p3 x h1 h2 h3 => have := StK.nn (H := H) (T := T) h1 h2; rw [h3] at this; exact this
  | @nn1 a H T p t p3 x y h1 h2 h3 => have := StK.nn (H := H) (T := T) h1 h2; rw [h3] at this; exact this
  | @if0 a H T p t x y h1 h2 h3 h4 => have := StK.ifn (H := H) (T := T) h1 h2; rw [h3] at this; simp only [ifpc, if_neg h4] at this; exact this
  | @ifn a H T p t x h1 h2 h3 => have := StK.ifn (H := H) (T := T) h1 h2; rw [h3] at this; exact this
  | @ifz a H T p t x h1 h2 h3 => have := StK.ifn (H := H) (T := T) h1 h2; rw [h3] at this; simp only [ifpc, if_true] at this; exact this
section
variable {prog : PySem.Program} {w : World} {A : Around} {E : Value → Shared → Prop} {s : Shared} {env : Env} {h₀ : Heap} {x : Str} {body : List Stmt} {Q : Flow → Shared → Prop}
theorem range_rest {I : Addr} {a : Int} {n : Nat} {m₀ : Str → Option Value} {news : List (Addr × Obj)} (J : Nat → (Str → Option Value) → List (Addr × Obj) → Prop) (j0 : J 0 m₀ news)
    (turn : ∀ i m nw t h tk, i < n → J i m nw → Fr h₀ env.locals h (fun y => if y = x then some (.int (a + (i : Int)) t) else m y) → News h₀ env.locals h ((I, itR (a + ((i + 1 : Nat) : Int)) ((n : Int) - ((i + 1 : Nat) : Int))) :: nw) →
      wpAny (model prog w) A (execs body env) (UnrPost h₀ env.locals { s with heap := h, toks := tk } I (itR (a + ((i + 1 : Nat) : Int)) ((n : Int) - ((i + 1 : Nat) : Int))) (fun m' n' => J (i + 1) m' n') Q) E { s with heap := h, toks := tk })
    (done : ∀ m nw h tk, J n m nw → Fr h₀ env.locals h m → News h₀ env.locals h nw → Q .next { s with heap := h, toks := tk }) : RangeRest prog w A E h₀ env x body Q s I a n n 0 m₀ news := by
  have key : ∀ (k i : Nat) (m : Str → Option Value) (nw : List (Addr × Obj)), i + k = n → J i m nw → RangeRest prog w A E h₀ env x body Q s I a n k i m nw := by
    intro k
    induction k with
    | zero =>
      intro i m nw hi hJ
      have e : i = n := by lia
      subst e
      exact RangeRest.zero fun h tk F N => done m nw h tk hJ F N
    | succ k ih =>
      intro i m nw hi hJ
      refine RangeRest.succ fun t h tk F N => ?_
      refine wpAny_mono (turn i m nw t h tk (by lia) hJ F N) (fun f s₂ hp => ?_) fun _ _ e => e
      cases f with
      | ret v => exact hp
      | brk => exact hp
      | next =>
        obtain ⟨h', tk', m', nw', e, F', N', off, hJ'⟩ := hp
        exact ⟨h', tk', m', nw', e, F', N', off, ih (i + 1) m' nw' (by lia) hJ'⟩
      | cont =>
        obtain ⟨h', tk', m', nw', e, F', N', off, hJ'⟩ := hp
        exact ⟨h', tk', m', nw', e, F', N', off, ih (i + 1) m' nw' (by lia) hJ'⟩
  exact key n 0 m₀ news (by lia) j0
end
end Mine
end
section
open PySem PySem.W PyProof.Rows PySem.Spec PyProof.V
namespace Mine
theorem Held.le {w : World} {o : Obj} {H : Int → Option Int} {z z' : Nat} (h : Held w o H z) (hz : z ≤ z') : Held w o H z' := by
  obtain ⟨kvs, h1, h2, h3⟩ := h
  exact ⟨kvs, h1, Nat.le_trans h2 hz, h3⟩
noncomputable def ValCtx (H : Int → Option Int) (p : Int) (m : Nat) : Prop := True
inductive TK (os : List (Addr × Obj)) (xs : List Value) (st : RS) : RS → Prop
  | value {a n t0 t1 t2 t3 v4 p1 t p3 y} : xs[st.pc.toNat]? = some (.ref a) → (a, listOf #[.str (Str.ofString "Value") t0, .int p1 t1, .int t t2, .int p3 t3, v4] n) ∈ os → IsVal v4 y → TK os xs st ⟨st.pc + 1, upd st.H t y, st.T⟩
  | copy {a n t0 t1 t2 t3 v4 p t p3} : xs[st.pc.toNat]? = some (.ref a) → (a, listOf #[.str (Str.ofString "Copy") t0, .int p t1, .int t t2, .int p3 t3, v4] n) ∈ os → TK os xs st ⟨st.pc + 1, upd st.H t (st.H p), st.T⟩
  | func {a n t0 t1 t2 t3 b k tb tc p t nm co} (m : Nat) : m ≤ 2 → ValCtx st.H p m → xs[st.pc.toNat]? = some (.ref a) → (a, listOf #[.str (Str.ofString "Function") t0, .int p t1, .int (m : Int) t2, .int t t3, .ref b] n) ∈ os → (b, tupO [.str (Str.ofString nm) tb, .str (Str.ofString co) tc] k) ∈ os → TK os xs st ⟨st.pc + 1, upd st.H t (worth (vsAt st.H p m)), st.T ++ [⟨nm, vsAt st.H p m, co⟩]⟩
  | goto {a n t0 t1 t2 t3 v4 p1 t p3} : xs[st.pc.toNat]? = some (.ref a) → (a, listOf #[.str (Str.ofString "Goto") t0, .int p1 t1, .int t t2, .int p3 t3, v4] n) ∈ os → TK os xs st ⟨t, st.H, st.T⟩
  | nn {a n t0 t1 t2 t3 v4 p t p3} : xs[st.pc.toNat]? = some (.ref a) → (a, listOf #[.str (Str.ofString "NotNull") t0, .int p t1, .int t t2, .int p3 t3, v4] n) ∈ os → TK os xs st ⟨nnpc (st.H p) st.pc t, st.H, st.T⟩
  | ifn {a n t0 t1 t2 t3 v4 p t} : xs[st.pc.toNat]? = some (.ref a) → (a, listOf #[.str (Str.ofString "IfNot") t0, .int p t1, .int t t2, .int 1 t3, v4] n) ∈ os → TK os xs st ⟨ifpc (st.H p) st.pc t, st.H, st.T⟩
theorem op_use {F : List Op} {os : List (Addr × Obj)} {xs : List Value} {i : Nat} {o : Op} {G : Prop} (ho : OpsIn os xs F) (h : F[i]? = some o)
    (k : ∀ a n t0 t1 t2 t3 v4, xs[i]? = some (.ref a) → (a, listOf #[.str (Str.ofString o.nm) t0, .int o.p1 t1, .int o.p2 t2, .int o.p3 t3, v4] n) ∈ os → P4In os v4 o.p4 → G) : G := by
  obtain ⟨v, e1, e2⟩ := ho.at _ _ h
  cases e2 with
  | mk m1 m2 => exact k _ _ _ _ _ _ _ e1 m1 m2
theorem P4In.is {os : List (Addr × Obj)} {v : Value} {p : P4} (h : P4In os v p) : match p with | .val x => IsVal v x | .told nm co => ∃ b t u k, v = .ref b ∧ (b, tupO [.str (Str.ofString nm) t, .str (Str.ofString co) u] k) ∈ os := by
  cases h with
  | val h => exact h
  | told h => exact ⟨_, _, _, _, rfl, h⟩
theorem tk_of {F : List Op} {st st' : RS} {os : List (Addr × Obj)} {xs : List Value} (hs : StK F st st') (ho : OpsIn os xs F) : TK os xs st st' ∧ 0 ≤ st.pc ∧ st.pc < (xs.length : Int) := by
  have hl := ho.len
  have ix : ∀ {a : Int} {o : Op}, 0 ≤ a → F[a.toNat]? = some o → 0 ≤ a ∧ a < (xs.length : Int) := fun h0 h => by
    refine ⟨h0, ?_⟩
    have : ¬ F.length ≤ Int.toNat _ := fun q => by rw [List.getElem?_eq_none q] at h; cases h
    lia
  cases hs with
  | value h0 h => exact op_use ho h fun a n t0 t1 t2 t3 v4 e m p => ⟨.value e m p.is, ix h0 h⟩
  | copy h0 h => exact op_use ho h fun a n t0 t1 t2 t3 v4 e m p => ⟨.copy e m, ix h0 h⟩
  | func n h0 hn h =>
    refine op_use ho h fun a n' t0 t1 t2 t3 v4 e m p => ?_
    obtain ⟨b, t, u, k, rfl, hb⟩ := p.is
    exact ⟨.func n hn True.intro e m hb, ix h0 h⟩
  | goto h0 h => exact op_use ho h fun a n t0 t1 t2 t3 v4 e m p => ⟨.goto e m, ix h0 h⟩
  | nn h0 h => exact op_use ho h fun a n t0 t1 t2 t3 v4 e m p => ⟨.nn e m, ix h0 h⟩
  | ifn h0 h => exact op_use ho h fun a n t0 t1 t2 t3 v4 e m p => ⟨.ifn e m, ix h0 h⟩
noncomputable def RKeep (m₀ m : Str → Option Value) : Prop := ∀ y, y ≠ Str.ofString "turn" → y ≠ Str.ofString "at" → y ≠ Str.ofString "name" → y ≠ Str.ofString "p2" → y ≠ Str.ofString "p3" → y ≠ Str.ofString "p4" → y ≠ Str.ofString "values" → y ≠ Str.ofString "value" → m y = m₀ y
theorem run_frame {m₀ m : Str → Option Value} {v : Value} (hk : RKeep m₀ m) (ha : m (Str.ofString "at") = some v) : ∃ u1 u3 u4 u5 u6 u7 u8, m = fun y => if y = Str.ofString "turn" then u1 else if y = Str.ofString "at" then some v else if y = Str.ofString "name" then u3 else if y = Str.ofString "p2" then u4 else if y = Str.ofString "p3" then u5 else if y = Str.ofString "p4" then u6 else if y = Str.ofString "values" then u7 else if y = Str.ofString "value" then u8 else m₀ y := by
  refine ⟨m (Str.ofString "turn"), m (Str.ofString "name"), m (Str.ofString "p2"), m (Str.ofString "p3"), m (Str.ofString "p4"), m (Str.ofString "values"), m (Str.ofString "value"), ?_⟩
  funext y
  by_cases h1 : y = Str.ofString "turn"
  · rw [if_pos h1, h1]
  rw [if_neg h1]
  by_cases h2 : y = Str.ofString "at"
  · rw [if_pos h2, h2, ha]
  rw [if_neg h2]
  by_cases h3 : y = Str.ofString "name"
  · rw [if_pos h3, h3]
  rw [if_neg h3]
  by_cases h4 : y = Str.ofString "p2"
  · rw [if_pos h4, h4]
  rw [if_neg h4]
  by_cases h5 : y = Str.ofString "p3"
  · rw [if_pos h5, h5]
  rw [if_neg h5]
  by_cases h6 : y = Str.ofString "p4"
  · rw [if_pos h6, h6]
  rw [if_neg h6]
  by_cases h7 : y = Str.ofString "values"
  · rw [if_pos h7, h7]
  rw [if_neg h7]
  by_cases h8 : y = Str.ofString "value"
  · rw [if_pos h8, h8]
  rw [if_neg h8]
  exact hk y h1 h2 h3 h4 h5 h6 h7 h8
noncomputable def RunJ (w : World) (F : List Op) (k : Nat) (stk : RS) (I c1 : Addr) (c2 : Addr × Obj) (HD tl : Addr) (m₀ : Str → Option Value) (os osm : List (Addr × Obj)) (i : Nat) (m : Str → Option Value) (news : List (Addr × Obj)) : Prop :=
  ∃ st o1 v1 oH T n nw t, i ≤ k ∧ Run F (k - i) st stk ∧ m (Str.ofString "at") = some (.int st.pc t) ∧ RKeep m₀ m ∧ news = (c1, o1) :: c2 :: (HD, oH) :: (tl, listOf (List.toArray T) n) :: (nw ++ os) ∧ o1.data = .cell v1 ∧ Held w oH st.H (3 + i) ∧ TdsIn (nw ++ osm) T st.T ∧ T.length ≤ i ∧
    Apart os nw ∧ (∀ p ∈ nw, p.1 ≠ HD) ∧ (∀ p ∈ nw, p.1 ≠ tl) ∧ (∀ p ∈ nw, p.1 ≠ c1) ∧ (∀ p ∈ nw, p.1 ≠ c2.1) ∧ ∀ p ∈ nw, p.1 ≠ I
theorem run_cases {F : List Op} {k i : Nat} {st stk : RS} (h : Run F (k - i) st stk) (hi : i ≤ k) : (i = k ∧ st = stk) ∨ (i < k ∧ ∃ st', Stp F st st' ∧ Run F (k - (i + 1)) st' stk) := by
  rcases Nat.lt_or_ge i k with q | q
  · right
    refine ⟨q, ?_⟩
    have e : k - i = (k - (i + 1)) + 1 := by lia
    rw [e] at h
    cases h with
    | succ h1 h2 => exact ⟨_, h1, h2⟩
  · left
    have e : k - i = 0 := by lia
    rw [e] at h
    cases h with
    | zero => exact ⟨by lia, rfl⟩
theorem run_done {w : World} {F : List Op} {k : Nat} {stk : RS} {I c1 : Addr} {c2 : Addr × Obj} {HD tl : Addr} {m₀ m : Str → Option Value} {os osm news : List (Addr × Obj)} (hk : k ≤ 21) (h : RunJ w F k stk I c1 c2 HD tl m₀ os osm 400 m news) : False := by
  obtain ⟨_, _, _, _, _, _, _, _, h1, _⟩ := h
  lia
theorem run_next {w : World} {F : List Op} {k i : Nat} {st' stk : RS} {c1 I : Addr} {c2 : Addr × Obj} {HD tl : Addr} {m₀ m' : Str → Option Value} {os osm nw all : List (Addr × Obj)} {h₀ h' : Heap} {L : Addr} {s₁ : Shared} {it o1 oH : Obj} {v1 : Option Value} {T : List Value} {n z tk : Nat} {t : Tok} {pc : Int}
    (F' : Fr h₀ L h' m') (N : News h₀ L h' all) (sub : ∀ p ∈ (I, it) :: (c1, o1) :: c2 :: (HD, oH) :: (tl, listOf T.toArray n) :: (nw ++ os), p ∈ all) (off : ∀ p ∈ (c1, o1) :: c2 :: (HD, oH) :: (tl, listOf T.toArray n) :: (nw ++ os), p.1 ≠ I)
    (hi : i < k) (hr : Run F (k - (i + 1)) st' stk) (ha : m' (Str.ofString "at") = some (.int pc t)) (hpc : st'.pc = pc) (hk : RKeep m₀ m') (hc : o1.data = .cell v1) (hH : Held w oH st'.H z) (hz : z ≤ 3 + (i + 1)) (hT : TdsIn (nw ++ osm) T st'.T) (hTn : T.length ≤ i + 1)
    (a0 : Apart os nw) (a1 : ∀ p ∈ nw, p.1 ≠ HD) (a2 : ∀ p ∈ nw, p.1 ≠ tl) (a3 : ∀ p ∈ nw, p.1 ≠ c1) (a4 : ∀ p ∈ nw, p.1 ≠ c2.1) (a5 : ∀ p ∈ nw, p.1 ≠ I) :
    UnrEnd h₀ L s₁ I it (fun m' n' => RunJ w F k stk I c1 c2 HD tl m₀ os osm (i + 1) m' n') { s₁ with heap := h', toks := tk } :=
  UnrEnd.intro F' N _ sub off ⟨st', o1, v1, oH, T, n, nw, t, hi, hr, by rw [hpc]; exact ha, hk, rfl, hc, hH.le hz, hT, hTn, a0, a1, a2, a3, a4, a5⟩
theorem run_nextF {w : World} {F : List Op} {k i kb : Nat} {st' stk : RS} {c1 I b D : Addr} {c2 : Addr × Obj} {HD tl : Addr} {m₀ m' : Str → Option Value} {os osm nw all : List (Addr × Obj)} {h₀ h' : Heap} {L : Addr} {s₁ : Shared} {it o1 oH : Obj} {v1 : Option Value} {T ys : List Value} {n z tk : Nat} {t t1 t2 : Tok} {pc : Int} {nm co : String} {zs : List (Option Int)} {T0 : List Td}
    (F' : Fr h₀ L h' m') (N : News h₀ L h' all) (sub : ∀ p ∈ (I, it) :: (c1, o1) :: c2 :: (HD, oH) :: (tl, listOf (T.toArray.push (.ref b)) n) :: (b, tupO [.str (Str.ofString nm) t1, .ref D, .str (Str.ofString co) t2] kb) :: (D, LCg.lst ys) :: (nw ++ os), p ∈ all) (off : ∀ p ∈ (c1, o1) :: c2 :: (HD, oH) :: (tl, listOf (T.toArray.push (.ref b)) n) :: (nw ++ os), p.1 ≠ I)
    (hi : i < k) (hr : Run F (k - (i + 1)) st' stk) (ha : m' (Str.ofString "at") = some (.int pc t)) (hpc : st'.pc = pc) (hk : RKeep m₀ m') (hc : o1.data = .cell v1) (hH : Held w oH st'.H z) (hz : z ≤ 3 + (i + 1)) (hT : TdsIn (nw ++ osm) T T0) (hTT : st'.T = T0 ++ [⟨nm, zs, co⟩]) (hTn : T.length ≤ i) (hys : ValsAre ys zs)
    (hDD : I ≠ D ∧ c1 ≠ D ∧ c2.1 ≠ D ∧ HD ≠ D ∧ tl ≠ D ∧ LCg.Off1 D (nw ++ os)) (hb : ∀ p ∈ (c1, o1) :: c2 :: (HD, oH) :: (tl, listOf (T.toArray.push (.ref b)) n) :: (nw ++ os), p.1 ≠ b) (hbI : @Ne Nat b I)
    (a0 : Apart os nw) (a1 : ∀ p ∈ nw, p.1 ≠ HD) (a2 : ∀ p ∈ nw, p.1 ≠ tl) (a3 : ∀ p ∈ nw, p.1 ≠ c1) (a4 : ∀ p ∈ nw, p.1 ≠ c2.1) (a5 : ∀ p ∈ nw, p.1 ≠ I) :
    UnrEnd h₀ L s₁ I it (fun m' n' => RunJ w F k stk I c1 c2 HD tl m₀ os osm (i + 1) m' n') { s₁ with heap := h', toks := tk } := by
  obtain ⟨hDI', d1, d2, d3, d4, d5⟩ := hDD
  have hDI := Ne.symm hDI'
  have hD : ∀ p ∈ (c1, o1) :: c2 :: (HD, oH) :: (tl, listOf (T.toArray.push (.ref b)) n) :: (nw ++ os), p.1 ≠ D := off_cons d1 (off_cons d2 (off_cons d3 (off_cons d4 (off1_all d5))))
  have two : ∀ {c : Addr}, (∀ p ∈ nw, p.1 ≠ c) → b ≠ c → D ≠ c → ∀ p ∈ (b, tupO [.str (Str.ofString nm) t1, .ref D, .str (Str.ofString co) t2] kb) :: (D, LCg.lst ys) :: nw, p.1 ≠ c := fun h e1 e2 => off_cons e1 (off_cons e2 h)
  refine run_next (T := T ++ [.ref b]) (nw := (b, tupO [.str (Str.ofString nm) t1, .ref D, .str (Str.ofString co) t2] kb) :: (D, LCg.lst ys) :: nw) F' N (fun p hp => sub p (by rw [← List.push_toArray] at hp; exact hp)) (fun p hp => ?_) hi hr ha hpc hk hc hH hz ?_ (by rw [List.length_append]; simpa using hTn) (.cons (fun q hq => hb q (by simp [hq])) (.cons (fun q hq => hD q (by simp [hq])) a0))
    (two a1 (Ne.symm (hb (HD, oH) (by simp))) (Ne.symm (hD (HD, oH) (by simp)))) (two a2 (Ne.symm (hb (tl, _) (mem_tl (mem_tl (mem_tl mem_hd))))) (Ne.symm (hD (tl, _) (mem_tl (mem_tl (mem_tl mem_hd)))))) (two a3 (Ne.symm (hb (c1, o1) mem_hd)) (Ne.symm (hD (c1, o1) mem_hd))) (two a4 (Ne.symm (hb c2 (mem_tl mem_hd))) (Ne.symm (hD c2 (mem_tl mem_hd)))) (two a5 hbI hDI)
  · rw [← List.push_toArray] at hp
    simp only [List.mem_cons, List.cons_append] at hp
    rcases hp with rfl | rfl | rfl | rfl | rfl | rfl | hp
    · exact off _ mem_hd
    · exact off _ (mem_tl mem_hd)
    · exact off _ (mem_tl (mem_tl mem_hd))
    · exact off _ (mem_tl (mem_tl (mem_tl mem_hd)))
    · exact hbI
    · exact hDI
    · exact off _ (mem_tl (mem_tl (mem_tl (mem_tl hp))))
  · rw [hTT]
    exact .snoc (hT.mono fun p hp => mem_tl (mem_tl hp)) (.mk mem_hd (mem_tl mem_hd) hys)
theorem vsAt_succ (H : Int → Option Int) (p : Int) (i : Nat) : vsAt H p (i + 1) = vsAt H p i ++ [H (p + (0 + (i : Int)))] := by
  unfold vsAt
  rw [List.range_succ, List.map_append, Int.zero_add]; rfl
theorem vsAt_len (H : Int → Option Int) (p : Int) (i : Nat) : (vsAt H p i).length = i := by simp [vsAt]
section
variable {prog : PySem.Program} {w : World} {A : Around} {h₀ : Heap} {L : Addr} {m : Str → Option Value} {env : Env} {elt : PySem.Expr} {x : Str} {scope : Scope} {cl : List (Str × Addr)} {s₁ : Shared} {Fin : Shared → List Value → List (Addr × Obj) → Prop}
theorem vals_src {r : Addr} {k : Nat} {t u v : Tok} {H : Int → Option Int} {p : Int} {news : List (Addr × Obj)} (uM : ValCtx H p k) (hh : A.handled = none) (F : Fr h₀ L s₁.heap m) (N : News h₀ L s₁.heap news) (hr : IsRange s₁.heap r 0 (k : Int) 1 t u v) (hk : k ≤ 2)
    (turn : ∀ gq i u I oI C oC D m₂ ys h tk (E' : Value → Shared → Prop), LCg.NsObj oC m₂ → m₂ x = some (.int (0 + ((i : Nat) : Int)) u) → Fr h₀ L h m → News h₀ L h ((I, oI) :: (C, oC) :: (D, LCg.lst ys) :: news) → ValsAre ys (vsAt H p i) → LCg.Off3 I C D news → ((@Ne Nat I C) ∧ (@Ne Nat I D) ∧ (@Ne Nat C D)) →
      wpAny (model prog w) A (eval elt (compEnvC scope cl C env)) (LCg.CompEnd h₀ L m { s₁ with heap := h, toks := tk } I oI C oC D (LCg.lst ys) (fun _ => True) (fun y news' => news' = news ∧ ValsAre (ys ++ [y]) (vsAt H p (i + 1)))) E' { ({ s₁ with heap := gq } : Shared) with heap := h, toks := tk })
    (fin : ∀ gq ys, ValsAre ys (vsAt H p k) → ys.length ≤ 2 → Fin { s₁ with heap := gq } ys news) :
    LCg.CompSrc prog w A h₀ L m env elt x scope cl Fin (.ref r) s₁ := by
  have e0 : ((k : Int) - 0).toNat = k := by lia
  refine LCg.CompSrc.range (n := ((k : Int) - 0).toNat) (news := news) hh F N hr (small_one (by lia) (by lia) (by lia) (by lia)) (rangeSize_nat _ _) (by rw [PySem.sizeLine_eq]; lia) fun gq => ?_
  rw [e0]
  refine comp_rest (fun i ys nw => nw = news ∧ ValsAre ys (vsAt H p i)) ⟨rfl, .nil⟩ (fun i v I oI C oC D m₂ ys news₁ h tk E' hi hv hJ hC hx F2 N2 off ne => ?_) fun ys news' hJ => ?_
  · obtain ⟨rfl, hys⟩ := hJ
    obtain ⟨u, rfl⟩ := hv
    exact turn gq i u I oI C oC D m₂ ys h tk E' hC hx F2 N2 hys off ne
  · obtain ⟨rfl, hys⟩ := hJ
    exact fin gq ys hys (by rw [hys.len, vsAt_len]; exact hk)
end
theorem vals_back {I C D : Addr} {oI oC : Obj} {news l : List (Addr × Obj)} {i : Nat} {H : Int → Option Int} {p : Int} {ys : List Value} {v : Value} {h₀ h : Heap} {L : Addr} {m : Str → Option Value} {s₁ : Shared} {tk : Nat} (hys : ValsAre ys (vsAt H p i)) (hv : IsVal v (H (p + (0 + (i : Int)))))
    (F : Fr h₀ L h m) (N : News h₀ L h l) (sub : ∀ p ∈ (I, oI) :: (C, oC) :: (D, LCg.lst ys) :: news, p ∈ l) (off : LCg.Off3 I C D news) :
    LCg.CompEnd h₀ L m s₁ I oI C oC D (LCg.lst ys) (fun _ => True) (fun y news' => news' = news ∧ ValsAre (ys ++ [y]) (vsAt H p (i + 1))) v { s₁ with heap := h, toks := tk } :=
  LCg.CompEnd.intro F N news sub off trivial ⟨rfl, by rw [vsAt_succ]; exact hys.snoc hv⟩
theorem nnpc_n {y : Option Int} {a t : Int} (h : y = none) : nnpc y a t = a + 1 := by subst h; rfl
theorem nnpc_s {y : Option Int} {a t i : Int} (h : y = some i) : nnpc y a t = t := by subst h; rfl
theorem ifpc_n {y : Option Int} {a t : Int} (h : y = none) : ifpc y a t = t := by subst h; rfl
theorem ifpc_z {y : Option Int} {a t i : Int} (h : y = some i) (hi : i = 0) : ifpc y a t = t := by subst h; simp only [ifpc, if_pos hi]
theorem ifpc_s {y : Option Int} {a t i : Int} (h : y = some i) (hi : ¬ i = 0) : ifpc y a t = a + 1 := by subst h; simp only [ifpc, if_neg hi]
theorem halt_of {F : List Op} {pc : Int} {os : List (Addr × Obj)} {xs : List Value} (ho : OpsIn os xs F) (h0 : 0 ≤ pc) (h : F[pc.toNat]? = some haltOp) : ∃ a n t0 t1 t2 t3 v4, xs[pc.toNat]? = some (.ref a) ∧ (a, listOf #[.str (Str.ofString "Halt") t0, .int 0 t1, .int 0 t2, .int 0 t3, v4] n) ∈ os ∧ pc < (xs.length : Int) := by
  have hl := ho.len
  obtain ⟨v, e1, e2⟩ := ho.at _ _ h
  cases e2 with
  | mk m1 m2 =>
    refine ⟨_, _, _, _, _, _, _, e1, m1, ?_⟩
    have : ¬ F.length ≤ Int.toNat _ := fun q => by rw [List.getElem?_eq_none q] at h; cases h
    lia
noncomputable def RunPost (w : World) (HD tl : Addr) (st : RS) (os osm : List (Addr × Obj)) (r : Value) (l : List (Addr × Obj)) : Prop :=
  ∃ oH T n nw, r = .bool true ∧ l = (HD, oH) :: (tl, listOf (List.toArray T) n) :: (nw ++ os) ∧ Held w oH st.H 30 ∧ TdsIn (nw ++ osm) T st.T ∧ Apart os nw ∧ (∀ p ∈ nw, p.1 ≠ HD) ∧ ∀ p ∈ nw, p.1 ≠ tl
theorem run_end {w : World} {HD tl : Addr} {st : RS} {os osm l nw : List (Addr × Obj)} {oH : Obj} {T : List Value} {n z tk : Nat} {h₀ h : Heap} {L : Addr} {m : Str → Option Value} {gn dr oo} {Q : Value → Shared → Prop}
    (hret : ∀ r news' h' tk', Fr h₀ L h' m → News h₀ L h' news' → RunPost w HD tl st os osm r news' → Q r ⟨h', gn, dr, tk', oo⟩) (F : Fr h₀ L h m) (N : News h₀ L h l) (hH : Held w oH st.H z) (hz : z ≤ 30) (hT : TdsIn (nw ++ osm) T st.T) (sub : ∀ p ∈ (HD, oH) :: (tl, listOf T.toArray n) :: (nw ++ os), p ∈ l)
    (a0 : Apart os nw) (a1 : ∀ p ∈ nw, p.1 ≠ HD) (a2 : ∀ p ∈ nw, p.1 ≠ tl) : Q (.bool true) ⟨h, gn, dr, tk, oo⟩ :=
  hret _ _ h tk F (news_sub N sub) ⟨oH, T, n, nw, rfl, rfl, hH.le hz, hT, a0, a1, a2⟩
section
variable {prog : PySem.Program} {w : World} {A : Around} {E : Value → Shared → Prop} {h₀ : Heap} {L a : Addr} {m : Str → Option Value} {cn : Str} {cs : Scope} {ccd : Value} {x : Str} {v : Value} {h : Heap} {g d o} {t : Nat} {news : List (Addr × Obj)} {Q : Unit → Shared → Prop}
theorem stN (k : okN cs x .local = true) (F : Fr h₀ L h m) (N : News h₀ L h news) (q : ∀ h' t', Fr h₀ L h' (fun y => if y = x then some v else m y) → News h₀ L h' news → Q () ⟨h', g, d, t', o⟩) :
    wpAny (model prog w) A (storeName (envOfC cn cs L a ccd) x v) Q E ⟨h, g, d, t, o⟩ := stC k F N q
end
end Mine
end
section
open PySem PySem.W PyProof.Rows PySem.Spec PyProof.V
namespace Mine
section
theorem lines26 : True := by
  k_with "o23" => skip
  k_with "subscriptTail Name" => ((fail_if_success k_extra "o24"); k_extra "subscriptTail")
  k_with "subscriptTail Name Constant ref int" => ((fail_if_success k_extra "o24"); k_extra "subscriptTail")
  k_with "subscriptTail Name Name ref int" => ((fail_if_success k_extra "o24"); k_extra "subscriptTail")
  k_with "k_all" => ((fail_if_success k_extra "o24"); first | ((with_reducible refine' off_sub ?z173h ?z173s); (case z173h => tbn_find); (case z173s => z_head)) | ((with_reducible refine' off_lt2 ?z173a ?z173h ?z173s); (case z173a => first | (with_reducible assumption) | assumption); (case z173h => tbn_find); (case z173s => z_head)))
  k_with "x_run" => ((fail_if_success k_extra "o24"); first | (with_reducible assumption) | (refine labs_app ?_ ?_; (focus x_run); (focus lia)) | (refine labs_dec (by with_reducible assumption) ?_; lia))
  k_with "x_auto" => ((fail_if_success k_extra "o24"); first | (with_reducible assumption) | (refine labs_app_ne ?_ ?_; (focus x_auto); (focus lia)) | (refine labs_ne ?_; with_reducible assumption) | (refine labs_ne (labs_dec (by with_reducible assumption) ?_); lia) | (refine Fx.fresh (by with_reducible assumption) ?_ ?_; (focus lia); x_auto))
  k_with "x_head" => ((fail_if_success k_extra "o24"); first | (with_reducible exact Apart.nil) | (with_reducible refine Apart.app ?_ ?_; (focus x_head); x_head) | (with_reducible refine Apart.cons ?_ ?_; (focus k_all); x_head) | (refine Apart.subL (by with_reducible assumption) ?_; z_head))
  k_with "z_run" => ((fail_if_success k_extra "o24"); first | (with_reducible exact TailT.here) | ((with_reducible refine' TailT.d1 ?z174pk); (case z174pk => z_run)) | ((with_reducible refine' TailT.d2 ?z174pk); (case z174pk => z_run)) | ((with_reducible refine' TailT.d3 ?z174pk); (case z174pk => z_run)) | ((with_reducible refine' TailT.cons ?z174pk); (case z174pk => z_run)) | ((with_reducible refine' TailT.app ?z174pk); (case z174pk => z_run)))
  k_with "call ref" => ((fail_if_success k_extra "o24"); (k_here; (with_reducible show wpAny _ _ (call (Value.ref 822) [_]) _ _ _); k_dflt (refine' usx0 ?z175B ?z175F ?z175X ?z175N ?z175T ?z175hk  (worth_any ?z175hv ?z175hl ?z175hn) ?_ ?_ (cur_worth ?_); (case z175B => k_asm); (case z175F => k_asm); (case z175X => k_asm); (case z175N => k_asm); (case z175T => k_asm); (case z175hk => first | exact rfl | assumption); (case z175hv => with_reducible assumption); (case z175hl => k_mem); (case z175hn => first | (with_reducible assumption) | lia); (focus k_extra "rmD"); (focus k_extra "rmU"); intro r'ₘ h'ₘ tk'ₘ F'ₘ N'ₘ hv8ₘ; (try dsimp only); (try k_sweep); (try k_fold))))
  k_with "storeName" => ((fail_if_success k_extra "o24"); (k_here; k_dflt ((with_reducible refine' stN ?z176k ?z176F ?z176N ?_); (case z176k => kernel_rfl!); (case z176F => k_asm); (case z176N => k_asm); k_whole; intro h'ₘ t'ₘ F'ₘ N'ₘ; (try k_sweep))))
  k_with "pyIterM ref" => ((fail_if_success k_extra "o24"); ((with_reducible show wpAny _ _ (pyIter (Value.ref _)) (fun it s₂ => LoopAtV _ _ _ _ _ _ _ _ _ it s₂) _ _); (rename IsRange _ _ _ _ _ _ _ _ => hR8); (with_unfolding_all refine iter_rangeUnr (n := 400) (by rfl) hR8 (by decide) (by rfl) (by k_asm) (by k_asm) ?_); intro iI l1; (try k_lt l1)))
  k_with "RangeRest" => ((fail_if_success k_extra "o24"); (k_dflt (refine' range_rest (RunJ w FO k stk iI (L' + 1 + 1) (L' + 1, oc2) HD tl _ os osm) ⟨⟨0, H, []⟩, oc1, _, oH, [], n2, [], _, Nat.zero_le _, hr, rfl, (fun _ _ _ _ _ _ _ _ _ => rfl), rfl, dc1, hH, .nil, Nat.zero_le _, .nil, (fun _ h => nomatch h), (fun _ h => nomatch h), (fun _ h => nomatch h), (fun _ h => nomatch h), (fun _ h => nomatch h)⟩ ?_ (fun m8 nw8 h8 tk8 hJ8 F8 N8 => (run_done hk21 hJ8).elim); (intro i8 m8 nw8 t8 h8 tk8 hi8 hJ8 F8 N8; obtain ⟨st, o1, v1, oH7, T7, n7, nw7, t7, hik, hrun, hat, hkeep, e8, hcell, hheld, htds, htn, a0, a1, a2, a3, a4, a5⟩ := hJ8; subst e8; obtain ⟨u1, u3, u4, u5, u6, u7, u8, e9⟩ := run_frame hkeep hat; subst e9; clear hat hkeep; (have hT7 := TdsIn.len htds); rcases run_cases hrun hik with ⟨e10, e11⟩ | ⟨hlt, st', hst, hrun'⟩; (subst e10; subst e11; obtain ⟨ah, nh, th0, th1, th2, th3, vh4, hh1, hh2, hh3⟩ := halt_of ho hpc0 hhalt; (try dsimp only)); rotate_left; (obtain ⟨hTK, hp0, hpl⟩ := tk_of hst.toK ho; clear hst hrun; cases hTK; all_goals (try dsimp only))))))
  k_with "subscriptTail" => ((fail_if_success k_extra "o24"); (k_here; (with_reducible show wpAny _ _ (subscriptTail _ _ (Value.ref _) (Value.int _ _)) _ _ _); k_dflt (first | (refine' item_w (vs := xs) ?z177N ?z177m ?z177v ?z177a ?z177f ?_ ?z177hs; (case z177N => k_asm); (case z177m => k_mem); (case z177v => with_reducible assumption); (case z177a => lia); (case z177f => lia); (case z177hs => with_unfolding_all rfl); k_whole) | (refine' item_w (vs := [_, _, _, _, _]) ?z177N ?z177m ?z177v ?z177a ?z177f ?_ ?z177hs; (case z177N => k_asm); (case z177m => k_mem); (case z177v => exact rfl); (case z177a => decide); (case z177f => (simp only [List.length_cons, List.length_nil]; lia)); (case z177hs => with_unfolding_all rfl); k_whole))))
  k_with "getMethod ref" => ((fail_if_success k_extra "o24"); (k_here; (with_reducible show wpAny _ _ (getMethod (Value.ref _) (Str.ofString "get") _) _ _ _); k_dflt (refine' held_method ?z178H ?z178N ?z178m ?_; (case z178N => k_asm); (case z178m => k_mem); (case z178H => with_reducible assumption); k_whole)))
  k_with "call builtin:dict.get" => ((fail_if_success k_extra "o24"); (k_here; k_dflt (refine' held_get ?z179H ?z179N ?z179m ?z179lo ?_; (case z179N => k_asm); (case z179m => k_mem); (case z179H => with_reducible assumption); (case z179lo => with_reducible assumption); k_whole); intro v9ₘ hv9ₘ; rcases isVal_cases hv9ₘ with ⟨e9, ey9⟩ | ⟨i9, t9, e9, ey9, hi9, hj9⟩ <;> (subst e9; (try dsimp only))))
  k_with "setItem ref int" => ((fail_if_success k_extra "o24"); (k_here; k_dflt (refine' held_set ?z180H ?z180F ?z180N ?z180U ?z180z ?z180y ?_; (case z180F => k_asm); (case z180N => k_asm); (case z180U => k_updF); (case z180H => with_reducible assumption); (case z180z => lia); (case z180y => first | (with_reducible assumption) | exact .none | exact .int (by with_reducible assumption) (by with_reducible assumption)); k_whole); intro h'ₘ o'ₘ F'ₘ N'ₘ hH'ₘ; (try dsimp only at N'ₘ)))
  k_with "CompSrc" => ((fail_if_success k_extra "o24"); (k_here; k_dflt (refine' vals_src (by with_reducible assumption) rfl (by k_asm) (by k_asm) (by assumption) (by with_reducible assumption) ?_ ?_; (intro gq i u I oI C oC D m₂ ys h tk E' hC hx F N hys off4 ne; (try dsimp only); (try k_fold)); rotate_left; (intro gq ys hys hyl; (try dsimp only)); rotate_right)))
  k_with "UnrEnd" => ((fail_if_success k_extra "o24"); (k_dflt (first | (refine' run_nextF ?z181F ?z181N ?z181sub ?z181off ?z181hi ?z181hr ?z181ha ?z181hpc ?z181hk ?z181hc ?z181hH ?z181hz ?z181hT ?z181hTT ?z181hTn ?z181hys ?z181hDD ?z181hb ?z181hbI ?z181a0 ?z181a1 ?z181a2 ?z181a3 ?z181a4 ?z181a5; (case z181F => k_asm); (case z181N => k_asm); (case z181hi => with_reducible assumption); (case z181hr => with_reducible assumption); (case z181ha => exact rfl); (case z181hc => with_reducible assumption); (case z181hH => with_reducible assumption); (case z181hz => lia); (case z181hT => with_reducible assumption); (case z181hTT => exact rfl); (case z181a0 => with_reducible assumption); (case z181a1 => with_reducible assumption); (case z181a2 => with_reducible assumption); (case z181a3 => with_reducible assumption); (case z181a4 => with_reducible assumption); (case z181a5 => with_reducible assumption); (case z181hk => (intro yₘ q1ₘ q2ₘ q3ₘ q4ₘ q5ₘ q6ₘ q7ₘ q8ₘ; (try dsimp only); repeat (rw [if_neg (by with_reducible assumption)]))); (case z181hpc => first | exact rfl | exact nnpc_n (by with_reducible assumption) | exact nnpc_s (by with_reducible assumption) | exact ifpc_n (by with_reducible assumption) | exact ifpc_z (by with_reducible assumption) (by with_reducible assumption) | exact ifpc_s (by with_reducible assumption) (by with_reducible assumption)); (case z181sub => z_head); (case z181off => k_all); (case z181hTn => lia); (case z181hys => with_reducible assumption); (case z181hDD => with_reducible assumption); (case z181hb => k_all); (case z181hbI => k_ne)) | (refine' run_next ?z181F ?z181N ?z181sub ?z181off ?z181hi ?z181hr ?z181ha ?z181hpc ?z181hk ?z181hc ?z181hH ?z181hz ?z181hT ?z181hTn ?z181a0 ?z181a1 ?z181a2 ?z181a3 ?z181a4 ?z181a5; (case z181F => k_asm); (case z181N => k_asm); (case z181hi => with_reducible assumption); (case z181hr => with_reducible assumption); (case z181ha => exact rfl); (case z181hc => with_reducible assumption); (case z181hH => with_reducible assumption); (case z181hz => lia); (case z181hT => with_reducible assumption); (case z181a0 => with_reducible assumption); (case z181a1 => with_reducible assumption); (case z181a2 => with_reducible assumption); (case z181a3 => with_reducible assumption); (case z181a4 => with_reducible assumption); (case z181a5 => with_reducible assumption); (case z181hk => (intro yₘ q1ₘ q2ₘ q3ₘ q4ₘ q5ₘ q6ₘ q7ₘ q8ₘ; (try dsimp only); repeat (rw [if_neg (by with_reducible assumption)]))); (case z181hpc => first | exact rfl | exact nnpc_n (by with_reducible assumption) | exact nnpc_s (by with_reducible assumption) | exact ifpc_n (by with_reducible assumption) | exact ifpc_z (by with_reducible assumption) (by with_reducible assumption) | exact ifpc_s (by with_reducible assumption) (by with_reducible assumption)); (case z181sub => z_head); (case z181off => k_all); (case z181hTn => lia)))))
  k_with "kcf_m" => ((fail_if_success k_extra "o24"); ( (try k_unmd); (try k_unfold); (refine' vals_back ?z182t1 ?z182t2 ?z182f ?z182n ?z182sb ?z182o; (case z182t1 => with_reducible assumption); (case z182t2 => with_reducible assumption); (case z182f => with_reducible assumption); (case z182n => with_reducible assumption); (case z182sb => z_head); (case z182o => with_reducible assumption))))
  k_with "kcf_all" => ((fail_if_success k_extra "o24"); (refine' run_end (by with_reducible assumption) ?z183f ?z183n ?z183hH ?z183hz ?z183hT ?z183sb ?z183a0 ?z183a1 ?z183a2; (case z183f => with_reducible assumption); (case z183n => with_reducible assumption); (case z183hH => with_reducible assumption); (case z183hz => lia); (case z183hT => with_reducible assumption); (case z183sb => z_head); (case z183a0 => with_reducible assumption); (case z183a1 => with_reducible assumption); (case z183a2 => with_reducible assumption)))
  exact True.intro
set_option maxRecDepth 100000 in
set_option maxHeartbeats 8000000 in
theorem run_does {w : World} {FO : List Op} {k : Nat} {stk : RS} {OL HD tl : Addr} {xs : List Value} {n n2 : Nat} {oH : Obj} {H : Int → Option Int} {os osm : List (Addr × Obj)} (hO : (OL, listOf xs.toArray n) ∈ os) (ho : OpsIn os xs FO) (hx : xs.length ≤ 1000) (hH : Held w oH H 3) (hlo : (HD == sysModules) = false) (hHo : ∀ p ∈ os, p.1 ≠ HD) (hto : ∀ p ∈ os, p.1 ≠ tl) (hHt : @Ne Nat HD tl)
   (hr : Run FO k ⟨0, H, []⟩ stk) (hk21 : k ≤ 21) (hpc0 : 0 ≤ stk.pc) (hhalt : FO[stk.pc.toNat]? = some haltOp) : Does w 837 12 [.ref OL, .ref HD, .ref tl] ((HD, oH) :: (tl, listOf ([] : List Value).toArray n2) :: os) (RunPost w HD tl stk os osm) := by
  refine Does.of ?_
  intro dp un gd cn cs a ccd cl outer A₀ base h₀ L m p loose mean mg mb hp0 gn0 dr0 tk0 oo0 Q E B F X N T hk hd hu hret
  revert X; k_fill; intro X
  refine wpAny_call ?_
  k_dflt (refine' code_defC ?k1 ?k2 ?k3 ?k4 ?k5 ?kA ?kF ?kK ?k6 ?k7 ?k8 ?k9 ?kB ?kD ?_ ?c2 ?c3 ?c4; (case kA => exact rfl); (case kF => exact rfl); (case kK => first | exact rfl | assumption); (case k1 => k_asm); (case k2 => k_asm); (case k3 => k_asm); (case k4 => k_asm); (case k5 => k_asm); (case k6 => k_is); (case k7 => k_is); (case k8 => k_room); (case k9 => exact BindsTo.of_eq rfl); (case kB => exact rfl); (case kD => decide +kernel); (case c2 => exact rfl); (case c3 => exact rfl); (case c4 => exact rfl); k_whole; intro g' L' h' tk' cells' FG' F' N' Y' B' X' T' l1; (try k_lt l1); have hY := CellsAre.two Y'; obtain ⟨oc1, oc2, hE, dc1, dc2⟩ := hY; subst hE; clear Y'; (try simp only [List.cons_append, List.nil_append] at N'); (first | (refine letN6 N' ?_; clear N'; intro e1 e2 e3 e4 e5 e6 lk N') | (refine letN5 N' ?_; clear N'; intro e1 e2 e3 e4 e5 lk N') | (refine letN4 N' ?_; clear N'; intro e1 e2 e3 e4 lk N') | (refine letN3 N' ?_; clear N'; intro e1 e2 e3 lk N') | (refine letN2 N' ?_; clear N'; intro e1 e2 lk N') | (refine letN1 N' ?_; clear N'; intro e1 lk N') | skip); (try dsimp only); (try k_lift B'); (try k_fold))
  k_steps
  all_goals first | kcf_m | kcf_all | fail
end
end Mine
end
section
open PySem PySem.W PyProof.Rows PySem.Spec PyProof.V
namespace Mine
noncomputable def OpObj (os : List (Addr × Obj)) (o : Obj) (op : Op) : Prop := ∃ t0 t1 t2 t3 v4 n, o = listOf #[.str (Str.ofString op.nm) t0, .int op.p1 t1, .int op.p2 t2, .int op.p3 t3, v4] n ∧ P4In os v4 op.p4
theorem OpObj.mono {os os' : List (Addr × Obj)} (hs : ∀ p ∈ os, p ∈ os') {o : Obj} {op : Op} (h : OpObj os o op) : OpObj os' o op := by
  obtain ⟨t0, t1, t2, t3, v4, n, e, h⟩ := h
  exact ⟨t0, t1, t2, t3, v4, n, e, h.mono hs⟩
inductive EsAt (os : List (Addr × Obj)) : List (Addr × Obj) → List Op → Prop
  | nil : EsAt os [] []
  | cons {p es op ops} : OpObj os p.2 op → EsAt os es ops → EsAt os (p :: es) (op :: ops)
theorem EsAt.mono {os os' : List (Addr × Obj)} (hs : ∀ p ∈ os, p ∈ os') {es : List (Addr × Obj)} {ops : List Op} (h : EsAt os es ops) : EsAt os' es ops := by
  induction h with
  | nil => exact .nil
  | cons h1 _ ih => exact .cons (h1.mono hs) ih
theorem EsAt.snoc {os es : List (Addr × Obj)} {ops : List Op} {p : Addr × Obj} {op : Op} (h : EsAt os es ops) (k : OpObj os p.2 op) : EsAt os (es ++ [p]) (ops ++ [op]) := by
  induction h with
  | nil => exact .cons k .nil
  | cons h1 _ ih => exact .cons h1 ih
theorem EsAt.len {os es : List (Addr × Obj)} {ops : List Op} (h : EsAt os es ops) : es.length = ops.length := by
  induction h with
  | nil => rfl
  | cons _ _ ih => simp [ih]
theorem EsAt.split {os : List (Addr × Obj)} {A B : List Op} {op : Op} : ∀ {es : List (Addr × Obj)}, EsAt os es (A ++ op :: B) → ∃ pre p post, es = pre ++ p :: post ∧ pre.length = A.length ∧ EsAt os pre A ∧ OpObj os p.2 op ∧ EsAt os post B := by
  induction A with
  | nil =>
    intro es h
    cases h with
    | cons h1 h2 => exact ⟨[], _, _, rfl, rfl, .nil, h1, h2⟩
  | cons a A ih =>
    intro es h
    cases h with
    | cons h1 h2 =>
      obtain ⟨pre, p, post, rfl, e, h3, h4, h5⟩ := ih h2
      exact ⟨_ :: pre, p, post, rfl, by simp [e], .cons h1 h3, h4, h5⟩
theorem EsAt.app {os pre post : List (Addr × Obj)} {A B : List Op} (h : EsAt os pre A) (k : EsAt os post B) : EsAt os (pre ++ post) (A ++ B) := by
  induction h with
  | nil => exact k
  | cons h1 _ ih => exact .cons h1 ih
noncomputable def refs (es : List (Addr × Obj)) : List Value := es.map fun p => Value.ref p.1
theorem es_of {nw : List (Addr × Obj)} {xs : List Value} {ops : List Op} (h : OpsIn nw xs ops) : ∃ es, xs = refs es ∧ (∀ p ∈ es, p ∈ nw) ∧ EsAt nw es ops ∧ es.Pairwise (fun p q => p.1 ≠ q.1) ∧ ∀ p ∈ es, p.2.cls = .type "list" := by
  induction h with
  | nil => exact ⟨[], rfl, (fun _ h => nomatch h), .nil, .nil, (fun _ h => nomatch h)⟩
  | @snoc vs ts v t h1 h2 h3 ih =>
    obtain ⟨es, rfl, hs, he, hp, hc⟩ := ih
    cases h2 with
    | @mk a nm p1 p2 p3 p4 t0 t1 t2 t3 v4 n m1 m2 =>
      refine ⟨es ++ [(a, listOf #[.str (Str.ofString nm) t0, .int p1 t1, .int p2 t2, .int p3 t3, v4] n)], by simp [refs], fun p hp' => ?_, he.snoc ⟨_, _, _, _, _, _, rfl, m2⟩, List.pairwise_append.mpr ⟨hp, List.pairwise_singleton _ _, fun p hp' q hq => ?_⟩, fun p hp' => ?_⟩
      · rcases List.mem_append.mp hp' with q | q
        · exact hs p q
        · rw [List.mem_singleton.mp q]; exact m1
      · rw [List.mem_singleton.mp hq]
        intro e
        exact h3 (List.mem_map.mpr ⟨p, hp', by rw [e]⟩)
      · rcases List.mem_append.mp hp' with q | q
        · exact hc p q
        · rw [List.mem_singleton.mp q]
theorem ops_of {os : List (Addr × Obj)} {ops : List Op} : ∀ {es : List (Addr × Obj)}, EsAt os es ops → es.Pairwise (fun p q => p.1 ≠ q.1) → OpsIn (es ++ os) (refs es) ops := by
  have key : ∀ (opsR : List Op) (es : List (Addr × Obj)), EsAt os es opsR.reverse → es.Pairwise (fun p q => p.1 ≠ q.1) → OpsIn (es ++ os) (refs es) opsR.reverse := by
    intro opsR
    induction opsR with
    | nil => intro es h _; cases h; exact .nil
    | cons op r ih =>
      intro es h hp
      rw [List.reverse_cons] at h ⊢
      obtain ⟨pre, p, post, rfl, e1, h1, h2, h3⟩ := EsAt.split (B := []) h
      cases h3
      obtain ⟨hp1, _, hp2⟩ := List.pairwise_append.mp hp
      obtain ⟨a, o⟩ := p
      obtain ⟨t0, t1, t2, t3, v4, n, rfl, h4⟩ := h2
      have i1 := ih pre h1 hp1
      have e : refs (pre ++ [(a, listOf #[.str (Str.ofString op.nm) t0, .int op.p1 t1, .int op.p2 t2, .int op.p3 t3, v4] n)]) = refs pre ++ [Value.ref a] := by simp [refs]
      rw [e]
      refine .snoc (i1.mono fun q hq => ?_) (.mk (nm := op.nm) (p1 := op.p1) (p2 := op.p2) (p3 := op.p3) (p4 := op.p4) (mem_apl (mem_apr mem_hd)) (h4.mono fun _ => mem_apr)) fun hv => ?_
      · rcases List.mem_append.mp hq with hq | hq
        · exact mem_apl (mem_apl hq)
        · exact mem_apr hq
      · obtain ⟨q, hq, e⟩ := List.mem_map.mp hv
        exact hp2 q hq _ mem_hd (Value.ref.inj e)
  intro es h hp
  have := key ops.reverse es (by rw [List.reverse_reverse]; exact h) hp
  rwa [List.reverse_reverse] at this
theorem es_tuples {nw : List (Addr × Obj)} {es : List (Addr × Obj)} {ops : List Op} (h : EsAt nw es ops) (pt : List (Addr × Obj)) (hpt : ∀ p ∈ nw, p.2.cls = .type "tuple" → p ∈ pt) : EsAt pt es ops := by
  induction h with
  | nil => exact .nil
  | cons h1 _ ih =>
    refine .cons ?_ ih
    obtain ⟨t0, t1, t2, t3, v4, n, e, h4⟩ := h1
    refine ⟨t0, t1, t2, t3, v4, n, e, ?_⟩
    revert h4
    generalize Op.p4 _ = p4
    intro h4
    cases h4 with
    | val h => exact .val h
    | told h => exact .told (hpt _ h rfl)
theorem upd_pair {es : List (Addr × Obj)} {pre post : List (Addr × Obj)} {a : Addr} {o o' : Obj} (e : es = pre ++ (a, o) :: post) (h : es.Pairwise (fun p q => p.1 ≠ q.1)) : (pre ++ (a, o') :: post).Pairwise (fun p q => p.1 ≠ q.1) ∧ (∀ p ∈ pre, p.1 ≠ a) ∧ (∀ p ∈ post, p.1 ≠ a) := by
  subst e
  obtain ⟨h1, h2, h3⟩ := List.pairwise_append.mp h
  obtain ⟨h4, h5⟩ := List.pairwise_cons.mp h2
  refine ⟨List.pairwise_append.mpr ⟨h1, List.pairwise_cons.mpr ⟨fun q hq => h4 q hq, h5⟩, fun p hp q hq => ?_⟩, fun p hp => h3 p hp _ mem_hd, fun p hp => Ne.symm (h4 p hp)⟩
  rcases List.mem_cons.mp hq with rfl | hq
  · exact h3 p hp (a, o) mem_hd
  · exact h3 p hp q (.tail _ hq)
theorem comp_last (t : Tr) : ∀ (x : Int) (s : St), ∃ l o, (comp t x s).ops = l ++ [o] ∧ (o.nm = "Value" ∨ o.nm = "Copy" ∨ o.nm = "Function" ∨ o.nm = "NotNull") := by
  induction t with
  | val v => intro x s; exact ⟨_, _, rfl, .inl rfl⟩
  | col i => intro x s; exact ⟨_, _, rfl, .inr (.inl rfl)⟩
  | known => intro x s; exact ⟨_, _, rfl, .inr (.inl rfl)⟩
  | f0 => intro x s; exact ⟨_, _, rfl, .inr (.inr (.inl rfl))⟩
  | f1 a ia => intro x s; exact ⟨_, _, rfl, .inr (.inr (.inl rfl))⟩
  | f2 F a b ia ib =>
    intro x s
    cases F with
    | max => exact ⟨_, _, rfl, .inr (.inr (.inl rfl))⟩
    | coalesce => exact ⟨_, _, rfl, .inr (.inr (.inr rfl))⟩
    | ifnull => exact ⟨_, _, rfl, .inr (.inr (.inr rfl))⟩
  | f3 F a b c ia ib ic =>
    intro x s
    cases F with
    | coalesce => exact ⟨_, _, rfl, .inr (.inr (.inr rfl))⟩
    | iif => exact ic _ _
    | iif2 => exact ic _ _
noncomputable def lastTup : List Str := [Str.ofString "Halt", Str.ofString "Goto", Str.ofString "Return", Str.ofString "Fail"]
theorem last_no {nm : String} (h : nm = "Value" ∨ nm = "Copy" ∨ nm = "Function" ∨ nm = "NotNull") : (lastTup.any (· == Str.ofString nm)) = false := by
  rcases h with rfl | rfl | rfl | rfl <;> decide +kernel
section
variable {prog : PySem.Program} {w : World} {A : Around} {E : Value → Shared → Prop} {s : Shared} {env : Env} {h₀ : Heap} {target : PySem.Expr} {body : List Stmt} {Q : Flow → Shared → Prop}
theorem keys_rest {I ax : Addr} {lo : Obj} {ks : List Int} {m₀ : Str → Option Value} {news : List (Addr × Obj)} (x : Str) (hm : (ax, lo) ∈ news)
    (turn : ∀ (k : Int) u t it h tk, k ∈ ks → it.cls = .type "dict_keyiterator" → Fr h₀ env.locals h (fun y => if y = x then u else m₀ y) → News h₀ env.locals h ((I, it) :: news) →
      wpAny (model prog w) A (assign target env (.int k t)) (fun _ s₂ => wpAny (model prog w) A (execs body env) (UnrPostW h₀ env.locals { s with heap := h, toks := tk } [(I, it)] (fun m' n' => (∀ y, y ≠ x → m' y = m₀ y) ∧ n' = news) Q) E s₂) E { s with heap := h, toks := tk })
    (done : ∀ u h tk, Fr h₀ env.locals h (fun y => if y = x then u else m₀ y) → News h₀ env.locals h news → Q .next { s with heap := h, toks := tk }) :
    ItemsRest prog w A E h₀ env target body Q s [(I, "dict_keyiterator")] [(ax, lo)] (ks.map fun k => Itm.tok fun t => .int k t) m₀ news := by
  have cc : ∀ {mm : Str → Option Value}, (∀ y, y ≠ x → mm y = m₀ y) → mm = fun y => if y = x then mm x else m₀ y := fun {mm} k => by
    funext y
    by_cases h1 : y = x
    · rw [if_pos h1, h1]
    · rw [if_neg h1]; exact k y h1
  have key : ∀ (r : List Int) (mm : Str → Option Value), (∀ k ∈ r, k ∈ ks) → (∀ y, y ≠ x → mm y = m₀ y) → ItemsRest prog w A E h₀ env target body Q s [(I, "dict_keyiterator")] [(ax, lo)] (r.map fun k => Itm.tok fun t => .int k t) mm news := by
    intro r
    induction r with
    | nil =>
      intro mm hr hk
      refine ItemsRest.zero fun h tk F N => ?_
      rw [cc hk] at F
      exact done _ h tk F N
    | cons v r ih =>
      intro mm hr hk
      refine ItemsRest.tok fun t h tk F => AllObj.cons fun it hit => AllObj.nil fun N => ?_
      rw [cc hk] at F
      refine wpAny_mono (turn v _ t it h tk (hr v mem_hd) hit F N) (fun _ s₂ hp => wpAny_mono hp (fun f s₃ hq => ?_) fun _ _ e => e) fun _ _ e => e
      have fin : UnrEndW h₀ env.locals { s with heap := h, toks := tk } [(I, it)] (fun m' n' => (∀ y, y ≠ x → m' y = m₀ y) ∧ n' = news) s₃ →
          UnrEndW h₀ env.locals { s with heap := h, toks := tk } [(I, it)] (fun m' n' => SubL [(ax, lo)] n' ∧ ItemsRest prog w A E h₀ env target body Q s [(I, "dict_keyiterator")] [(ax, lo)] (r.map fun k => Itm.tok fun t => .int k t) m' n') s₃ := by
        rintro ⟨h', tk', m', nw', e, F', N', off, hk', rfl⟩
        exact ⟨h', tk', m', nw', e, F', N', off, ⟨hm, trivial⟩, ih m' (fun k hk => hr k (.tail _ hk)) hk'⟩
      cases f with
      | ret v => exact hq
      | brk => exact hq
      | next => exact fin hq
      | cont => exact fin hq
  exact key ks m₀ (fun _ h => h) fun _ _ => rfl
theorem keys_end {L I : Addr} {it : Obj} {m₀ : Str → Option Value} {x : Str} {s₁ : Shared} {h' : Heap} {tk : Nat} {c1 u1 : Option Value} {all news : List (Addr × Obj)} (F : Fr h₀ L h' (fun y => if y = x then c1 else if y = x then u1 else m₀ y)) (N : News h₀ L h' all)
    (sub : ∀ p ∈ (I, it) :: news, p ∈ all) (off : ∀ p ∈ news, p.1 ≠ I) : UnrEndW h₀ L s₁ [(I, it)] (fun m' n' => (∀ y, y ≠ x → m' y = m₀ y) ∧ n' = news) { s₁ with heap := h', toks := tk } :=
  ⟨h', tk, _, news, rfl, F, fun p hp => N p (sub p hp), fun p hp q hq => by rw [List.mem_singleton.mp hq]; exact off p hp, fun y h1 => by simp only [if_neg h1], rfl⟩
theorem lab_val {kvs : List (Int × Value)} {labs : List (Int × Int)} (hf : FlatPairs PyData.int kvs (labD labs)) (hd : labs.Pairwise fun p q => p.1 ≠ q.1) : (∀ k ∈ kvs.map (·.1), ∃ n, (k, n) ∈ labs) ∧ ∀ p ∈ labs, ∃ t, valueAt kvs p.1 = some (.int p.2 t) := by
  induction labs generalizing kvs with
  | nil =>
    cases hf
    exact ⟨fun k hk => by simp at hk, fun _ h => nomatch h⟩
  | cons q r ih =>
    obtain ⟨d1, d2⟩ := List.pairwise_cons.mp hd
    have hf' : FlatPairs PyData.int kvs ((.int q.1, .int q.2) :: labD r) := hf
    generalize e : ((PyData.int q.1, PyData.int q.2) :: labD r) = D at hf'
    cases hf' with
    | nil => cases e
    | @cons k v d kvs' D' h1 h2 =>
      cases e
      obtain ⟨i1, i2⟩ := ih h2 d2
      obtain ⟨t, rfl⟩ := Flat.int_inv h1
      refine ⟨fun k hk => ?_, fun p hp => ?_⟩
      · rw [List.map_cons] at hk
        rcases List.mem_cons.mp hk with rfl | hk
        · exact ⟨q.2, mem_hd⟩
        · obtain ⟨n, hn⟩ := i1 k hk
          exact ⟨n, mem_tl hn⟩
      · unfold valueAt
        rcases List.mem_cons.mp hp with rfl | hp
        · exact ⟨t, by simp⟩
        · obtain ⟨t', ht'⟩ := i2 p hp
          have hne : ¬ q.1 = p.1 := d1 p hp
          refine ⟨t', ?_⟩
          rw [List.find?_cons, decide_eq_false hne]
          exact ht'
end
section
variable {prog : PySem.Program} {w : World} {A : Around} {E : Value → Shared → Prop} {s : Shared} {env : Env} {h₀ : Heap} {target : PySem.Expr} {body : List Stmt} {Q : Flow → Shared → Prop}
theorem vals_rest {I ax : Addr} {lo : Obj} {vs : List Value} {m₀ : Str → Option Value} {news : List (Addr × Obj)} (x : Str) (J : Nat → List (Addr × Obj) → Prop) (hlp : ∀ i nw, J i nw → (ax, lo) ∈ nw) (j0 : J 0 news)
    (turn : ∀ i v u it nw h tk, vs[i]? = some v → J i nw → it.cls = .type "list_iterator" → Fr h₀ env.locals h (fun y => if y = x then u else m₀ y) → News h₀ env.locals h ((I, it) :: nw) →
      wpAny (model prog w) A (assign target env v) (fun _ s₂ => wpAny (model prog w) A (execs body env) (UnrPostW h₀ env.locals { s with heap := h, toks := tk } [(I, it)] (fun m' n' => (∀ y, y ≠ x → m' y = m₀ y) ∧ J (i + 1) n') Q) E s₂) E { s with heap := h, toks := tk })
    (done : ∀ u nw h tk, J vs.length nw → Fr h₀ env.locals h (fun y => if y = x then u else m₀ y) → News h₀ env.locals h nw → Q .next { s with heap := h, toks := tk }) :
    ItemsRest prog w A E h₀ env target body Q s [(I, "list_iterator")] [(ax, lo)] (vs.map .val) m₀ news := by
  have cc : ∀ {mm : Str → Option Value}, (∀ y, y ≠ x → mm y = m₀ y) → mm = fun y => if y = x then mm x else m₀ y := fun {mm} k => by
    funext y
    by_cases h1 : y = x
    · rw [if_pos h1, h1]
    · rw [if_neg h1]; exact k y h1
  have key : ∀ (r : List Value) (i : Nat) (mm : Str → Option Value) (nw : List (Addr × Obj)), vs.drop i = r → i + r.length = vs.length → (∀ y, y ≠ x → mm y = m₀ y) → J i nw → ItemsRest prog w A E h₀ env target body Q s [(I, "list_iterator")] [(ax, lo)] (r.map .val) mm nw := by
    intro r
    induction r with
    | nil =>
      intro i mm nw hr hi hk hJ
      have e : i = vs.length := by simpa using hi
      subst e
      refine ItemsRest.zero fun h tk F N => ?_
      rw [cc hk] at F
      exact done _ _ h tk hJ F N
    | cons v r ih =>
      intro i mm nw hr hi hk hJ
      have hv : vs[i]? = some v := by
        have := congrArg (fun l => l[0]?) hr
        simpa using this
      have hr' : vs.drop (i + 1) = r := by
        have := congrArg List.tail hr
        simpa using this
      refine ItemsRest.val fun h tk F => AllObj.cons fun it hit => AllObj.nil fun N => ?_
      rw [cc hk] at F
      refine wpAny_mono (turn i v _ it nw h tk hv hJ hit F N) (fun _ s₂ hp => wpAny_mono hp (fun f s₃ hq => ?_) fun _ _ e => e) fun _ _ e => e
      have fin : UnrEndW h₀ env.locals { s with heap := h, toks := tk } [(I, it)] (fun m' n' => (∀ y, y ≠ x → m' y = m₀ y) ∧ J (i + 1) n') s₃ →
          UnrEndW h₀ env.locals { s with heap := h, toks := tk } [(I, it)] (fun m' n' => SubL [(ax, lo)] n' ∧ ItemsRest prog w A E h₀ env target body Q s [(I, "list_iterator")] [(ax, lo)] (r.map .val) m' n') s₃ := by
        rintro ⟨h', tk', m', nw', e, F', N', off, hk', hJ'⟩
        exact ⟨h', tk', m', nw', e, F', N', off, ⟨hlp _ _ hJ', trivial⟩, ih (i + 1) m' nw' hr' (by simp only [List.length_cons] at hi; lia) hk' hJ'⟩
      cases f with
      | ret v => exact hq
      | brk => exact hq
      | next => exact fin hq
      | cont => exact fin hq
  exact key vs 0 m₀ news rfl (by simp) (fun _ _ => rfl) j0
end
noncomputable def FinJ (labs : List (Int × Int)) (opsH : List Op) (as : List Addr) (E1 E2 E3 : Addr × Obj) (os : List (Addr × Obj)) (i : Nat) (news : List (Addr × Obj)) : Prop :=
  ∃ es, es.map Prod.fst = as ∧ EsAt os es ((opsH.take i).map (pat labs) ++ opsH.drop i) ∧ news = E1 :: E2 :: E3 :: (es ++ os)
theorem fin_turn {labs : List (Int × Int)} {opsH : List Op} {as : List Addr} {E1 E2 E3 : Addr × Obj} {os nw : List (Addr × Obj)} {i : Nat} {v : Value} (hJ : FinJ labs opsH as E1 E2 E3 os i nw) (hv : (as.map Value.ref)[i]? = some v) (hp : as.Pairwise fun a b => @Ne Nat a b) (hl : as.length = opsH.length) :
    ∃ pre post a o op, v = .ref a ∧ op ∈ opsH ∧ nw = E1 :: E2 :: E3 :: ((pre ++ (a, o) :: post) ++ os) ∧ OpObj os o op ∧ (∀ p ∈ pre, p.1 ≠ a) ∧ (∀ p ∈ post, p.1 ≠ a) ∧ a ∈ as ∧ (∀ p ∈ pre, p.1 ∈ as) ∧ (∀ p ∈ post, p.1 ∈ as) ∧
      ∀ o', OpObj os o' (pat labs op) → FinJ labs opsH as E1 E2 E3 os (i + 1) (E1 :: E2 :: E3 :: ((pre ++ (a, o') :: post) ++ os)) := by
  obtain ⟨es, e1, h1, rfl⟩ := hJ
  have hi : i < opsH.length := by
    rw [← hl]
    rcases Nat.lt_or_ge i as.length with q | q
    · exact q
    · rw [List.getElem?_eq_none (by simpa using q)] at hv; cases hv
  have hd : opsH.drop i = opsH[i] :: opsH.drop (i + 1) := List.drop_eq_getElem_cons hi
  rw [hd] at h1
  obtain ⟨pre, ⟨a, o⟩, post, rfl, e2, h2, h3, h4⟩ := h1.split
  have e3 : pre.length = i := by rw [e2, List.length_map, List.length_take, Nat.min_eq_left (Nat.le_of_lt hi)]
  have hva : v = .ref a := by
    rw [← e1] at hv
    simp only [List.map_append, List.map_cons, List.map_map] at hv
    rw [List.getElem?_append_right (by simp [e3])] at hv
    simp [e3] at hv
    exact hv.symm
  have hp' : (pre ++ (a, o) :: post).Pairwise fun p q => p.1 ≠ q.1 := by
    rw [← e1] at hp
    exact List.pairwise_map.mp hp
  obtain ⟨_, q1, q2⟩ := upd_pair (o' := o) rfl hp'
  refine ⟨pre, post, a, o, opsH[i], hva, List.getElem_mem hi, rfl, h3, q1, q2, by rw [← e1]; simp, fun p hp => by rw [← e1]; simp [List.mem_map]; exact .inl ⟨_, hp⟩, fun p hp => by rw [← e1]; simp [List.mem_map]; exact .inr (.inr ⟨_, hp⟩), fun o' ho' => ⟨_, ?_, ?_, rfl⟩⟩
  · rw [← e1]; simp
  · have e4 : (opsH.take (i + 1)).map (pat labs) ++ opsH.drop (i + 1) = (opsH.take i).map (pat labs) ++ (pat labs opsH[i]) :: opsH.drop (i + 1) := by
      have e5 : opsH.take (i + 1) = opsH.take i ++ [opsH[i]] := by rw [List.take_add_one, List.getElem?_eq_getElem hi]; rfl
      rw [e5, List.map_append, List.append_assoc]; rfl
    rw [e4]
    exact h2.app (.cons ho' h4)
theorem fin_end {labs : List (Int × Int)} {opsH : List Op} {as : List Addr} {E1 E2 E3 : Addr × Obj} {os all pre post : List (Addr × Obj)} {i : Nat} {op : Op} {L I a : Addr} {it o' : Obj} {m₀ : Str → Option Value} {x : Str} {s₁ : Shared} {h₀ h' : Heap} {tk : Nat} {c1 u1 : Option Value}
    (F : Fr h₀ L h' (fun y => if y = x then c1 else if y = x then u1 else m₀ y)) (N : News h₀ L h' all) (sub : ∀ p ∈ (a, o') :: (I, it) :: E1 :: E2 :: E3 :: (pre ++ (post ++ os)), p ∈ all) (hnext : ∀ o', OpObj os o' (pat labs op) → FinJ labs opsH as E1 E2 E3 os (i + 1) (E1 :: E2 :: E3 :: ((pre ++ (a, o') :: post) ++ os)))
    (ho : OpObj os o' (pat labs op)) (q0 : E1.1 ≠ I) (q1 : E2.1 ≠ I) (q2 : E3.1 ≠ I) (q3 : ∀ p ∈ os, p.1 ≠ I) (hasI : ∀ a ∈ as, a ≠ I) (ha : a ∈ as) (hpre : ∀ p ∈ pre, p.1 ∈ as) (hpost : ∀ p ∈ post, p.1 ∈ as) :
    UnrEndW h₀ L s₁ [(I, it)] (fun m' n' => (∀ y, y ≠ x → m' y = m₀ y) ∧ FinJ labs opsH as E1 E2 E3 os (i + 1) n') { s₁ with heap := h', toks := tk } := by
  refine ⟨h', tk, _, E1 :: E2 :: E3 :: ((pre ++ (a, o') :: post) ++ os), rfl, F, fun p hp => N p (sub p ?_), fun p hp q hq => ?_, fun y h1 => by simp only [if_neg h1], hnext o' ho⟩
  · simp only [List.cons_append, List.nil_append, List.mem_cons, List.mem_append] at hp ⊢
    rcases hp with h | h | h | h | (h | h | h) | h
    · exact .inr (.inl h)
    · exact .inr (.inr (.inl h))
    · exact .inr (.inr (.inr (.inl h)))
    · exact .inr (.inr (.inr (.inr (.inl h))))
    · exact .inr (.inr (.inr (.inr (.inr (.inl h)))))
    · exact .inl h
    · exact .inr (.inr (.inr (.inr (.inr (.inr (.inl h))))))
    · exact .inr (.inr (.inr (.inr (.inr (.inr (.inr h))))))
  · rw [List.mem_singleton.mp hq]
    simp only [List.mem_cons, List.mem_append] at hp
    rcases hp with h | h | h | (h | h | h) | h
    · rw [h]; exact q0
    · rw [h]; exact q1
    · rw [h]; exact q2
    · exact hasI _ (hpre p h)
    · rw [h]; exact hasI _ ha
    · exact hasI _ (hpost p h)
    · exact q3 p h
section
variable {prog : PySem.Program} {w : World} {A : Around} {E : Value → Shared → Prop} {s : Shared} {h₀ : Heap} {L l : Addr} {news : List (Addr × Obj)} {vs : List Value} {n : Nat}
theorem truthy_ne {Q : Bool → Shared → Prop} (N : News h₀ L s.heap news) (hm : (l, listOf vs.toArray n) ∈ news) (hne : vs ≠ []) (hfit : vs.length < 2 ^ 62) (h : Q true { s with toks := s.toks + 1 + 1 }) : wpAny (model prog w) A (truthy (.ref l)) Q E s := by
  refine wpAny_truthy_list (News.isList N hm) (by rw [List.size_toArray]; lia) ?_
  have e : (!vs.toArray.isEmpty) = true := by cases vs with | nil => exact absurd rfl hne | cons a r => rfl
  rw [e]; exact h
theorem item_last {value slice : PySem.Expr} {u : Tok} {v : Value} {Q : Value → Shared → Prop} (N : News h₀ L s.heap news) (hm : (l, listOf (vs ++ [v]).toArray n) ∈ news) (hfit : vs.length < 2 ^ 62) (h : Q v s)
    (hs : subscripted slice false (.ref l) (.int (-1) u) = operate [.ref l, .int (-1) u] (getItem (.ref l) (.int (-1) u)) := by with_unfolding_all rfl) :
    wpAny (model prog w) A (subscriptTail value slice (.ref l) (.int (-1) u)) Q E s := by
  have hL := News.isList N hm
  refine tail_any hL.typeIs slot_list_getitem.lookup (wpAny_getItem_list_neg (x := v) hL (by decide) ?_ (by decide) ?_ h) hs
  · rw [List.size_toArray, List.length_append]; simp only [List.length_cons, List.length_nil]; lia
  · rw [List.size_toArray, List.length_append]
    have e : ((-1 : Int) + ((vs.length + [v].length : Nat) : Int)).toNat = vs.length := by simp only [List.length_cons, List.length_nil]; lia
    rw [e]
    simp
theorem notin_last {D : Addr} {k : Nat} {nm : String} {t u1 u2 u3 u4 : Tok} {Q : Value → Shared → Prop} (N : News h₀ L s.heap news) (hm : (D, tupO [.str (Str.ofString "Halt") u1, .str (Str.ofString "Goto") u2, .str (Str.ofString "Return") u3, .str (Str.ofString "Fail") u4] k) ∈ news) (hl : nm = "Value" ∨ nm = "Copy" ∨ nm = "Function" ∨ nm = "NotNull")
    (h : Q (.bool true) s) : wpAny (model prog w) A (compareOp .NotIn (.str (Str.ofString nm) t) (.ref D)) Q E s := by
  refine notin_tuple_strs (ys := lastTup) (News.isTup N hm) (.cons _ _ (.cons _ _ (.cons _ _ (.cons _ _ .nil)))) ?_
  rw [last_no hl]; exact h
end
noncomputable def HaltAt (OL : Addr) (xs : List Value) (os : List (Addr × Obj)) (ur : Value) (l : List (Addr × Obj)) : Prop :=
  ∃ a n n' t0 t1 t2 t3, l = (OL, listOf (xs ++ [Value.ref a]).toArray n) :: (a, listOf #[.str (Str.ofString "Halt") t0, .int 0 t1, .int 0 t2, .int 0 t3, .none] n') :: os ∧ (∀ q ∈ os, q.1 ≠ a) ∧ @Ne Nat OL a
theorem halt_does {w : World} {P dP : Addr} {k : PK} {R N : Int} {uR uN : Tok} {xs : List Value} {n : Nat} {t : Tok} {os : List (Addr × Obj)} (hP : (P, instObj 780 dP) ∈ os) (hdP : (dP, progD w k R uR N uN) ∈ os) (hoff : ∀ p ∈ os, p.1 ≠ k.OL) (hx : xs.length ≤ 1000) :
    Does w 712 2 [.ref P, .str (Str.ofString "Halt") t] ((k.OL, listOf xs.toArray n) :: os) (HaltAt k.OL xs os) :=
  (add2_does w P dP k R N uR uN xs n _ os hP hdP hoff hx).mono fun r l ⟨op, h1, a, n1, n2, e, h2, h3⟩ => by
    cases h1
    exact ⟨a, n1, n2, _, _, _, _, e, h2, h3⟩
theorem keysItm (kvs : List (Int × Value)) : kvs.map (fun p => Itm.tok (kyVal (PyData.int p.1))) = (kvs.map (·.1)).map fun k => Itm.tok fun t => Value.int k t := by
  rw [List.map_map]; rfl
theorem fin_pack {es os os' : List (Addr × Obj)} {ops : List Op} {labs : List (Int × Int)} {aH : Addr} {n : Nat} {t0 t1 t2 t3 : Tok} (hE : EsAt os es ops) (hp : es.Pairwise fun p q => p.1 ≠ q.1) (hH : ∀ q ∈ os', q.1 ≠ aH) (hs : ∀ p ∈ es, p ∈ os') :
    ∃ es1 as, as = es1.map Prod.fst ∧ refs es ++ [Value.ref aH] = as.map Value.ref ∧ EsAt os es1 (((ops ++ [haltOp]).take 0).map (pat labs) ++ (ops ++ [haltOp]).drop 0) ∧ (as.Pairwise fun a b => @Ne Nat a b) ∧ (∀ p ∈ es1, p = (aH, listOf #[.str (Str.ofString "Halt") t0, .int 0 t1, .int 0 t2, .int 0 t3, .none] n) ∨ p ∈ es) ∧ as.length = (ops ++ [haltOp]).length := by
  refine ⟨es ++ [(aH, listOf #[.str (Str.ofString "Halt") t0, .int 0 t1, .int 0 t2, .int 0 t3, .none] n)], _, rfl, by simp [refs, List.map_map, Function.comp_def], ?_, ?_, fun p h => ?_, ?_⟩
  · exact hE.snoc ⟨t0, t1, t2, t3, .none, n, rfl, .val .none⟩
  · rw [List.map_append, List.pairwise_append]
    refine ⟨List.pairwise_map.mpr hp, List.pairwise_singleton _ _, fun a ha b hb => ?_⟩
    obtain ⟨p, hp', rfl⟩ := List.mem_map.mp ha
    rw [List.mem_singleton.mp hb]
    exact hH p (hs p hp')
  · rcases List.mem_append.mp h with h | h
    · exact .inr h
    · exact .inl (List.mem_singleton.mp h)
  · simp [hE.len]
theorem fin_sub {es es1 os all : List (Addr × Obj)} {E1 E2 E3 Hh : Addr × Obj} (h : ∀ p ∈ es1, p = Hh ∨ p ∈ es) (m1 : E1 ∈ all) (m2 : E2 ∈ all) (m3 : E3 ∈ all) (mh : Hh ∈ all) (me : ∀ p ∈ es, p ∈ all) (mo : ∀ p ∈ os, p ∈ all) : ∀ p ∈ E1 :: E2 :: E3 :: (es1 ++ os), p ∈ all := by
  intro p hp
  simp only [List.mem_cons, List.mem_append] at hp
  rcases hp with rfl | rfl | rfl | hp | hp
  · exact m1
  · exact m2
  · exact m3
  · rcases h p hp with rfl | hp
    · exact mh
    · exact me p hp
  · exact mo p hp
theorem fin_form {a I : Addr} {o it : Obj} {E1 E2 E3 : Addr × Obj} {pre post os : List (Addr × Obj)} : ∀ p ∈ (a, o) :: (I, it) :: E1 :: E2 :: E3 :: (pre ++ (post ++ os)), p ∈ (I, it) :: E1 :: E2 :: E3 :: ((pre ++ (a, o) :: post) ++ os) := by
  intro p hp
  simp only [List.mem_cons, List.mem_append] at hp ⊢
  rcases hp with h | h | h | h | h | h | h | h <;> simp [h]
theorem fin_ne {as : List Addr} {es1 : List (Addr × Obj)} {I : Addr} (h : as = es1.map Prod.fst) (k : ∀ p ∈ es1, p.1 ≠ I) : ∀ a ∈ as, a ≠ I := fun a ha => by
  rw [h] at ha
  obtain ⟨p, hp, rfl⟩ := List.mem_map.mp ha
  exact k p hp
theorem fin_mem {labs : List (Int × Int)} {opsH : List Op} {as : List Addr} {E1 E2 E3 : Addr × Obj} {os nw : List (Addr × Obj)} {i : Nat} (h : FinJ labs opsH as E1 E2 E3 os i nw) : E1 ∈ nw := by
  obtain ⟨es, _, _, rfl⟩ := h
  exact mem_hd
theorem fin_kind {labs : List (Int × Int)} {ops : List Op} {op : Op} (hok : ∀ o ∈ ops, OpOk labs o) (h : op ∈ ops ++ [haltOp]) : OpOk labs op ∨ op = haltOp := by
  rcases List.mem_append.mp h with h | h
  · exact .inl (hok op h)
  · exact .inr (List.mem_singleton.mp h)
theorem obj_no {os : List (Addr × Obj)} {labs : List (Int × Int)} {nm : String} {p1 p2 p3 : Int} {p4 : P4} {t0 t1 t2 t3 : Tok} {v4 : Value} {n : Nat} (hj : isJ nm = false) (h : P4In os v4 p4) : OpObj os (listOf #[.str (Str.ofString nm) t0, .int p1 t1, .int p2 t2, .int p3 t3, v4] n) (pat labs ⟨nm, p1, p2, p3, p4⟩) := by
  rw [pat_no hj]; exact ⟨t0, t1, t2, t3, v4, n, rfl, h⟩
theorem obj_j {os : List (Addr × Obj)} {labs : List (Int × Int)} {nm : String} {p1 p2 p3 n8 : Int} {p4 : P4} {t0 t1 t2 t3 : Tok} {v4 : Value} {n : Nat} (hj : isJ nm = true) (h2 : p2 < 0) (hm : (p2, n8) ∈ labs) (hd : labs.Pairwise fun p q => p.1 ≠ q.1) (h : P4In os v4 p4) : OpObj os (listOf #[.str (Str.ofString nm) t0, .int p1 t1, .int n8 t2, .int p3 t3, v4] n) (pat labs ⟨nm, p1, p2, p3, p4⟩) := by
  rw [pat_j hj h2, labAt_mem hd _ hm]; exact ⟨t0, t1, t2, t3, v4, n, rfl, h⟩
theorem fin_off {as : List Addr} {es es1 os os' : List (Addr × Obj)} {Hh : Addr × Obj} {OL dP LD : Addr} {od ol : Obj} (has : as = es1.map Prod.fst) (hes1 : ∀ p ∈ es1, p = Hh ∨ p ∈ es) (e1 : ∀ q ∈ es, q.1 ≠ OL) (e2 : ∀ q ∈ es, q.1 ≠ dP) (e3 : ∀ q ∈ es, q.1 ≠ LD) (hdis : ∀ p ∈ os, ∀ q ∈ es, p.1 ≠ q.1) (hH1 : ∀ q ∈ os', q.1 ≠ Hh.1) (hH2 : @Ne Nat OL Hh.1)
    (md : (dP, od) ∈ os') (ml : (LD, ol) ∈ os') (mo : ∀ p ∈ os, p ∈ os') : ∀ a ∈ as, (@Ne Nat OL a) ∧ (@Ne Nat dP a) ∧ (@Ne Nat LD a) ∧ ∀ p ∈ os, p.1 ≠ a := fun a ha => by
  rw [has] at ha
  obtain ⟨p, hp, rfl⟩ := List.mem_map.mp ha
  rcases hes1 p hp with rfl | hp
  · exact ⟨hH2, hH1 _ md, hH1 _ ml, fun q hq => hH1 _ (mo q hq)⟩
  · exact ⟨Ne.symm (e1 p hp), Ne.symm (e2 p hp), Ne.symm (e3 p hp), fun q hq => hdis q hq p hp⟩
theorem fin_last {os es : List (Addr × Obj)} {ops ops0 : List Op} {lop : Op} (h : ops = ops0 ++ [lop]) (hE : EsAt os es ops) : ∃ es0 al, refs es = refs es0 ++ [Value.ref al] ∧ (refs es0).length = ops0.length ∧ ∃ t0 t1 t2 t3 v4 n, (al, listOf #[.str (Str.ofString lop.nm) t0, .int lop.p1 t1, .int lop.p2 t2, .int lop.p3 t3, v4] n) ∈ es := by
  subst h
  obtain ⟨pre, ⟨a, o⟩, post, rfl, e1, h1, h2, h3⟩ := EsAt.split (B := []) hE
  cases h3
  obtain ⟨t0, t1, t2, t3, v4, n, rfl, h4⟩ := h2
  exact ⟨pre, a, by simp [refs], by simp [refs, e1], t0, t1, t2, t3, v4, n, by simp⟩
end Mine
end
section
open PySem PySem.W PyProof.Rows PySem.Spec PyProof.V
namespace Mine
section
theorem lines27 : True := by
  k_with "o24" => skip
  exact True.intro

set_option maxRecDepth 100000 in
set_option maxHeartbeats 1000000 in
theorem jmp_Value {w : World} {A : Around} {E : Value → Shared → Prop} {s : Shared} {h₀ : Heap} {L : Addr} {m : Str → Option Value} {t : Tok} {Q : Value → Shared → Prop} (F : Fr h₀ L s.heap m) (X : (hd.heap_39 w.params).In h₀) (h : Q (.bool false) { s with toks := s.toks + 1 }) : wpAny (model PySem.Challenge.rw_nt0122_01.row.prog w) A (compareOp .In (.str (Str.ofString "Value") t) (.ref 689)) Q E s := by
  revert X; k_fill; intro X
  refine' topIn_K F X ?l ?k ?e ?o ?h
  case l => k_dflt k_is
  case k => k_dflt k_keys
  case e => k_dflt k_is
  case o => decide
  case h => exact h
set_option maxRecDepth 100000 in
set_option maxHeartbeats 1000000 in
theorem jmp_Copy {w : World} {A : Around} {E : Value → Shared → Prop} {s : Shared} {h₀ : Heap} {L : Addr} {m : Str → Option Value} {t : Tok} {Q : Value → Shared → Prop} (F : Fr h₀ L s.heap m) (X : (hd.heap_39 w.params).In h₀) (h : Q (.bool false) { s with toks := s.toks + 1 }) : wpAny (model PySem.Challenge.rw_nt0122_01.row.prog w) A (compareOp .In (.str (Str.ofString "Copy") t) (.ref 689)) Q E s := by
  revert X; k_fill; intro X
  refine' topIn_K F X ?l ?k ?e ?o ?h
  case l => k_dflt k_is
  case k => k_dflt k_keys
  case e => k_dflt k_is
  case o => decide
  case h => exact h
set_option maxRecDepth 100000 in
set_option maxHeartbeats 1000000 in
theorem jmp_Function {w : World} {A : Around} {E : Value → Shared → Prop} {s : Shared} {h₀ : Heap} {L : Addr} {m : Str → Option Value} {t : Tok} {Q : Value → Shared → Prop} (F : Fr h₀ L s.heap m) (X : (hd.heap_39 w.params).In h₀) (h : Q (.bool false) { s with toks := s.toks + 1 }) : wpAny (model PySem.Challenge.rw_nt0122_01.row.prog w) A (compareOp .In (.str (Str.ofString "Function") t) (.ref 689)) Q E s := by
  revert X; k_fill; intro X
  refine' topIn_K F X ?l ?k ?e ?o ?h
  case l => k_dflt k_is
  case k => k_dflt k_keys
  case e => k_dflt k_is
  case o => decide
  case h => exact h
set_option maxRecDepth 100000 in
set_option maxHeartbeats 1000000 in
theorem jmp_Halt {w : World} {A : Around} {E : Value → Shared → Prop} {s : Shared} {h₀ : Heap} {L : Addr} {m : Str → Option Value} {t : Tok} {Q : Value → Shared → Prop} (F : Fr h₀ L s.heap m) (X : (hd.heap_39 w.params).In h₀) (h : Q (.bool false) { s with toks := s.toks + 1 }) : wpAny (model PySem.Challenge.rw_nt0122_01.row.prog w) A (compareOp .In (.str (Str.ofString "Halt") t) (.ref 689)) Q E s := by
  revert X; k_fill; intro X
  refine' topIn_K F X ?l ?k ?e ?o ?h
  case l => k_dflt k_is
  case k => k_dflt k_keys
  case e => k_dflt k_is
  case o => decide
  case h => exact h
set_option maxRecDepth 100000 in
set_option maxHeartbeats 1000000 in
theorem jmp_Goto {w : World} {A : Around} {E : Value → Shared → Prop} {s : Shared} {h₀ : Heap} {L : Addr} {m : Str → Option Value} {t : Tok} {Q : Value → Shared → Prop} (F : Fr h₀ L s.heap m) (X : (hd.heap_39 w.params).In h₀) (h : Q (.bool true) { s with toks := s.toks + 1 }) : wpAny (model PySem.Challenge.rw_nt0122_01.row.prog w) A (compareOp .In (.str (Str.ofString "Goto") t) (.ref 689)) Q E s := by
  revert X; k_fill; intro X
  refine' topIn_K F X ?l ?k ?e ?o ?h
  case l => k_dflt k_is
  case k => k_dflt k_keys
  case e => k_dflt k_is
  case o => decide
  case h => exact h
set_option maxRecDepth 100000 in
set_option maxHeartbeats 1000000 in
theorem jmp_NotNull {w : World} {A : Around} {E : Value → Shared → Prop} {s : Shared} {h₀ : Heap} {L : Addr} {m : Str → Option Value} {t : Tok} {Q : Value → Shared → Prop} (F : Fr h₀ L s.heap m) (X : (hd.heap_39 w.params).In h₀) (h : Q (.bool true) { s with toks := s.toks + 1 }) : wpAny (model PySem.Challenge.rw_nt0122_01.row.prog w) A (compareOp .In (.str (Str.ofString "NotNull") t) (.ref 689)) Q E s := by
  revert X; k_fill; intro X
  refine' topIn_K F X ?l ?k ?e ?o ?h
  case l => k_dflt k_is
  case k => k_dflt k_keys
  case e => k_dflt k_is
  case o => decide
  case h => exact h
set_option maxRecDepth 100000 in
set_option maxHeartbeats 1000000 in
theorem jmp_IfNot {w : World} {A : Around} {E : Value → Shared → Prop} {s : Shared} {h₀ : Heap} {L : Addr} {m : Str → Option Value} {t : Tok} {Q : Value → Shared → Prop} (F : Fr h₀ L s.heap m) (X : (hd.heap_39 w.params).In h₀) (h : Q (.bool true) { s with toks := s.toks + 1 }) : wpAny (model PySem.Challenge.rw_nt0122_01.row.prog w) A (compareOp .In (.str (Str.ofString "IfNot") t) (.ref 689)) Q E s := by
  revert X; k_fill; intro X
  refine' topIn_K F X ?l ?k ?e ?o ?h
  case l => k_dflt k_is
  case k => k_dflt k_keys
  case e => k_dflt k_is
  case o => decide
  case h => exact h
end
end Mine
end
section
open PySem PySem.W PyProof.Rows PySem.Spec PyProof.V
namespace Mine
noncomputable def FinPost (w : World) (P dP : Addr) (k : PK) (R : Int) (uR : Tok) (N : Int) (uN : Tok) (oL : Obj) (ops : List Op) (labs : List (Int × Int)) (os : List (Addr × Obj)) (r : Value) (l : List (Addr × Obj)) : Prop :=
  ∃ es n, r = .ref P ∧ l = (k.OL, listOf (refs es).toArray n) :: (dP, progD w k R uR N uN) :: (k.LD, oL) :: (es ++ os) ∧ EsAt os es ((ops ++ [haltOp]).map (pat labs)) ∧ es.Pairwise fun p q => p.1 ≠ q.1
theorem fin_back {w : World} {P dP : Addr} {k : PK} {R N : Int} {uR uN : Tok} {oL : Obj} {ops : List Op} {labs : List (Int × Int)} {os l nw : List (Addr × Obj)} {as : List Addr} {n i : Nat} {h₀ h : Heap} {L : Addr} {m : Str → Option Value} {gn dr oo} {tk : Nat} {Q : Value → Shared → Prop}
    (hret : ∀ r news' h' tk', Fr h₀ L h' m → News h₀ L h' news' → FinPost w P dP k R uR N uN oL ops labs os r news' → Q r ⟨h', gn, dr, tk', oo⟩) (F : Fr h₀ L h m) (N8 : News h₀ L h l) (sub : ∀ p ∈ nw, p ∈ l)
    (hJ : FinJ labs (ops ++ [haltOp]) as (k.OL, listOf (as.map Value.ref).toArray n) (dP, progD w k R uR N uN) (k.LD, oL) os i nw) (hi : i = (ops ++ [haltOp]).length) (hp : as.Pairwise fun a b => @Ne Nat a b) : Q (.ref P) ⟨h, gn, dr, tk, oo⟩ := by
  obtain ⟨es, e1, h1, rfl⟩ := hJ
  subst hi
  rw [List.take_length, List.drop_length, List.append_nil] at h1
  refine hret _ _ h tk F (news_sub N8 sub) ⟨es, n, rfl, ?_, h1, ?_⟩
  · rw [← e1]; simp [refs, List.map_map, Function.comp_def]
  · rw [← e1] at hp; exact List.pairwise_map.mp hp
theorem kda_getitem {prog : PySem.Program} {w : World} {A : Around} {E : Value → Shared → Prop} {s : Shared} {h₀ : Heap} {L d : Addr} {news : List (Addr × Obj)} {o : Obj} {kvs : List (Int × Value)} {i : Int} {t : Tok} {v : Value} {Q : Value → Shared → Prop} (N : News h₀ L s.heap news) (hp : (d, o) ∈ news) (hd : o.IsDictOf (intKind prog w) kvs) (hl : valueAt kvs i = some v) (h : Q v { s with toks := s.toks + 1 }) :
    wpAny (model prog w) A (getItem (.ref d) (.int i t)) Q E s := wpAny_getItem_of (knd := intKind prog w) (intKind_is _ _ _ _) (kda_dict N hp hd).mapOf hl h
theorem lab_getitem {prog : PySem.Program} {w : World} {A : Around} {E : Value → Shared → Prop} {s : Shared} {h₀ : Heap} {L d : Addr} {news : List (Addr × Obj)} {o : Obj} {kvs : List (Int × Value)} {labs : List (Int × Int)} {i n : Int} {t : Tok} {Q : Value → Shared → Prop} (N : News h₀ L s.heap news) (hp : (d, o) ∈ news) (hd : o.IsDictOf (intKind prog w) kvs) (hl : ∀ p ∈ labs, ∃ t, valueAt kvs p.1 = some (.int p.2 t)) (hm : (i, n) ∈ labs) (h : ∀ t, Q (.int n t) { s with toks := s.toks + 1 }) :
    wpAny (model prog w) A (getItem (.ref d) (.int i t)) Q E s := by
  obtain ⟨t', e⟩ := hl _ hm
  exact kda_getitem N hp hd e (h t')
theorem lab_notin {prog : PySem.Program} {w : World} {A : Around} {E : Value → Shared → Prop} {s : Shared} {h₀ : Heap} {L d : Addr} {news : List (Addr × Obj)} {o : Obj} {kvs : List (Int × Value)} {labs : List (Int × Int)} {i n : Int} {t : Tok} {Q : Value → Shared → Prop} (N : News h₀ L s.heap news) (hp : (d, o) ∈ news) (hd : o.IsDictOf (intKind prog w) kvs) (lo : (d == sysModules) = false) (hl : ∀ p ∈ labs, ∃ t, valueAt kvs p.1 = some (.int p.2 t)) (hm : (i, n) ∈ labs) (h : Q (.bool false) { s with toks := s.toks + 1 }) :
    wpAny (model prog w) A (compareOp .NotIn (.int i t) (.ref d)) Q E s := by
  obtain ⟨t', e⟩ := hl _ hm
  exact kda_notin N hp hd lo true (by rw [show valueAt kvs i = some _ from e]; rfl) h
theorem eqI_no {a b : Int} (h : ¬ a = b) : ¬ (a == b) = true := fun q => h (eq_of_beq q)
section
theorem lines28 : True := by
  k_with "o25" => skip
  k_with "subscriptTail Name" => ((fail_if_success k_extra "o26"); k_extra "subscriptTail")
  k_with "subscriptTail Name Constant ref int" => ((fail_if_success k_extra "o26"); k_extra "subscriptTail")
  k_with "subscriptTail Name Name ref int" => ((fail_if_success k_extra "o26"); k_extra "subscriptTail")
  k_with "k_all" => ((fail_if_success k_extra "o26"); first | ((with_reducible refine' off_sub ?z184h ?z184s); (case z184h => tbn_find); (case z184s => z_head)) | ((with_reducible refine' off_lt2 ?z184a ?z184h ?z184s); (case z184a => first | (with_reducible assumption) | assumption); (case z184h => tbn_find); (case z184s => z_head)))
  k_with "x_run" => ((fail_if_success k_extra "o26"); first | (with_reducible assumption) | (refine labs_app ?_ ?_; (focus x_run); (focus lia)) | (refine labs_dec (by with_reducible assumption) ?_; lia))
  k_with "x_auto" => ((fail_if_success k_extra "o26"); first | (with_reducible assumption) | (refine labs_app_ne ?_ ?_; (focus x_auto); (focus lia)) | (refine labs_ne ?_; with_reducible assumption) | (refine labs_ne (labs_dec (by with_reducible assumption) ?_); lia) | (refine Fx.fresh (by with_reducible assumption) ?_ ?_; (focus lia); x_auto))
  k_with "x_head" => ((fail_if_success k_extra "o26"); first | (with_reducible exact Apart.nil) | (with_reducible refine Apart.app ?_ ?_; (focus x_head); x_head) | (with_reducible refine Apart.cons ?_ ?_; (focus k_all); x_head) | (refine Apart.subL (by with_reducible assumption) ?_; z_head))
  k_with "z_run" => ((fail_if_success k_extra "o26"); first | (with_reducible exact TailT.here) | ((with_reducible refine' TailT.d1 ?z185pk); (case z185pk => z_run)) | ((with_reducible refine' TailT.d2 ?z185pk); (case z185pk => z_run)) | ((with_reducible refine' TailT.d3 ?z185pk); (case z185pk => z_run)) | ((with_reducible refine' TailT.cons ?z185pk); (case z185pk => z_run)) | ((with_reducible refine' TailT.app ?z185pk); (case z185pk => z_run)))
  k_with "call ref" => ((fail_if_success k_extra "o26"); (k_here; (with_reducible show wpAny _ _ (call (Value.ref 712) [_, _]) _ _ _); k_dflt (refine' usx1 ?z186B ?z186F ?z186X ?z186N ?z186T ?z186hk ?z186P1 (halt_does (k := k) (dP := dP) ?z186hP ?z186hdP ?z186ho ?z186hx) ?_ ?_ ?_; (case z186B => k_asm); (case z186F => k_asm); (case z186X => k_asm); (case z186N => k_asm); (case z186T => k_asm); (case z186hk => first | exact rfl | assumption); (case z186P1 => tb_start); (case z186hP => k_mem); (case z186hdP => k_mem); (case z186ho => k_all); (case z186hx => lia); (focus k_extra "rmD"); (focus k_extra "rmU"); intro r' n' h' tk' F' N' q'; obtain ⟨aH, nH, nH2, tH0, tH1, tH2, tH3, e2', hH1, hH2⟩ := q'; subst e2'; obtain ⟨es1, as, has, hxs1, hE1, hpa, hes1, hla⟩ := fin_pack (labs := labs) (n := nH2) (t0 := tH0) (t1 := tH1) (t2 := tH2) (t3 := tH3) hE hpw hH1 (by z_head); rw [hxs1] at N'; (have hlm : (List.map Value.ref as).length = ops.length + 1 := by rw [List.length_map, hla, List.length_append]; rfl); (have hao : ∀ a ∈ as, (@Ne Nat k.OL a) ∧ (@Ne Nat dP a) ∧ (@Ne Nat k.LD a) ∧ ∀ p ∈ os, p.1 ≠ a := fin_off has hes1 e1 e2 e3 hdis hH1 hH2 (by k_mem) (by k_mem) (by z_head)); (try dsimp only); (try k_sweep); (try k_fold))))
  k_with "truthy ref" => ((fail_if_success k_extra "o26"); (k_here; k_dflt (refine' truthy_ne ?z187N ?z187m ?z187a ?z187b ?_; (case z187N => k_asm); (case z187m => k_mem); (case z187a => with_reducible assumption); (case z187b => lia); k_whole)))
  k_with "subscriptTail" => ((fail_if_success k_extra "o26"); (k_here; (with_reducible show wpAny _ _ (subscriptTail _ _ (Value.ref _) (Value.int _ _)) _ _ _); k_dflt (first | (refine' item_w (vs := [_, _, _, _, _]) ?z188N ?z188m ?z188v ?z188a ?z188f ?_ ?z188hs; (case z188N => k_asm); (case z188m => k_mem); (case z188v => exact rfl); (case z188a => decide); (case z188f => (simp only [List.length_cons, List.length_nil]; lia)); (case z188hs => with_unfolding_all rfl); k_whole) | (refine' kda_item (knd := PySem.intKind _ _) ?z188n ?z188m ?z188d (intKind_is _ _ _ _) ?z188v ?_ ?z188hs ?z188hg; (case z188n => k_asm); (case z188m => k_mem); (case z188d => with_reducible assumption); (case z188v => with_reducible assumption); (case z188hs => with_unfolding_all rfl); (case z188hg => intro _; with_unfolding_all rfl); k_whole))))
  k_with "subscriptTail" => ((fail_if_success k_extra "o26"); (k_here; (with_reducible show wpAny _ _ (subscriptTail _ (PySem.Expr.UnaryOp _ _ _) (Value.ref _) (Value.int _ _)) _ _ _); k_dflt (refine' item_last (vs := refs es0) (v := Value.ref al) ?z189N ?z189m ?z189f ?_ ?z189hs; (case z189N => k_asm); (case z189m => (rw [← hxs]; k_mem)); (case z189f => lia); (case z189hs => with_unfolding_all rfl); k_whole)))
  k_with "getItem ref int" => ((fail_if_success k_extra "o26"); (k_here; k_dflt (first | (refine' kda_getitem ?z190n ?z190m ?z190d ?z190v ?_; (case z190n => k_asm); (case z190m => k_mem); (case z190d => with_reducible assumption); (case z190v => with_reducible assumption); k_whole) | (refine' lab_getitem ?z190n ?z190m ?z190d hlv.2 ?z190hm ?_; (case z190n => k_asm); (case z190m => k_mem); (case z190d => with_reducible assumption); (case z190hm => with_reducible assumption); k_whole; intro t77))))
  k_with "ite" => ((fail_if_success k_extra "o26"); (with_reducible refine ite_neg (eqI_no ?_) ?_; (focus lia)))
  k_with "compareOp In str ref" => ((fail_if_success k_extra "o26"); (k_here; first | ((with_reducible show wpAny _ _ (compareOp _ (Value.str (PySem.Str.ofString "Value") _) _) _ _ _); (with_reducible refine' jmp_Value ?z191F ?z191X ?_); (case z191F => k_asm); (case z191X => k_asm); k_whole) | ((with_reducible show wpAny _ _ (compareOp _ (Value.str (PySem.Str.ofString "Copy") _) _) _ _ _); (with_reducible refine' jmp_Copy ?z191F ?z191X ?_); (case z191F => k_asm); (case z191X => k_asm); k_whole) | ((with_reducible show wpAny _ _ (compareOp _ (Value.str (PySem.Str.ofString "Function") _) _) _ _ _); (with_reducible refine' jmp_Function ?z191F ?z191X ?_); (case z191F => k_asm); (case z191X => k_asm); k_whole) | ((with_reducible show wpAny _ _ (compareOp _ (Value.str (PySem.Str.ofString "Halt") _) _) _ _ _); (with_reducible refine' jmp_Halt ?z191F ?z191X ?_); (case z191F => k_asm); (case z191X => k_asm); k_whole) | ((with_reducible show wpAny _ _ (compareOp _ (Value.str (PySem.Str.ofString "Goto") _) _) _ _ _); (with_reducible refine' jmp_Goto ?z191F ?z191X ?_); (case z191F => k_asm); (case z191X => k_asm); k_whole) | ((with_reducible show wpAny _ _ (compareOp _ (Value.str (PySem.Str.ofString "NotNull") _) _) _ _ _); (with_reducible refine' jmp_NotNull ?z191F ?z191X ?_); (case z191F => k_asm); (case z191X => k_asm); k_whole) | ((with_reducible show wpAny _ _ (compareOp _ (Value.str (PySem.Str.ofString "IfNot") _) _) _ _ _); (with_reducible refine' jmp_IfNot ?z191F ?z191X ?_); (case z191F => k_asm); (case z191X => k_asm); k_whole)))
  k_with "subscriptTail Name Constant ref int" => ((fail_if_success k_extra "o26"); (k_here; k_dflt (refine' item_w (vs := [_, _, _, _, _]) ?z192N ?z192m ?z192v ?z192a ?z192f ?_ ?z192hs; (case z192N => k_asm); (case z192m => k_mem); (case z192v => exact rfl); (case z192a => decide); (case z192f => (simp only [List.length_cons, List.length_nil]; lia)); (case z192hs => with_unfolding_all rfl); k_whole)))
  k_with "compareOp NotIn str ref" => ((fail_if_success k_extra "o26"); (k_here; k_dflt (refine' notin_last ?z193N ?z193m ?z193l ?_; (case z193N => k_asm); (case z193m => k_mem); (case z193l => with_reducible assumption); k_whole)))
  k_with "compareOp NotIn int ref" => ((fail_if_success k_extra "o26"); (k_here; k_dflt (refine' lab_notin ?z194N ?z194m ?z194d ?z194lo hlv.2 ?z194hm ?_; (case z194N => k_asm); (case z194m => k_mem); (case z194d => with_reducible assumption); (case z194lo => with_reducible assumption); (case z194hm => with_reducible assumption); k_whole)))
  k_with "exec For Name Attribute cons nil" => ((fail_if_success k_extra "o26"); (k_here; (rename Fr _ _ _ _ => lF'ₘ); (with_unfolding_all refine' For_turns lF'ₘ ?_; k_whole)))
  k_with "pyIterM ref" => ((fail_if_success k_extra "o26"); ((with_reducible show wpAny _ _ (pyIter (Value.ref _)) (fun it s₂ => TurnsAt _ _ _ _ _ _ _ _ _ it s₂) _ _); first | (k_dflt (refine' kta_keys (knd := PySem.intKind _ _) (enc := PyData.int) (kvs := kvs) (rfl) ?z195F ?z195N ?z195m ?z195d ?z195lo (fun _ _ h => Value.isInt_shape h) ?z195x ?_; (case z195F => k_asm); (case z195N => k_asm); (case z195m => k_mem); (case z195d => with_reducible assumption); (case z195lo => with_reducible assumption); (case z195x => exact keysItm kvs); k_whole); intro iK l1; (try k_lt l1)) | (k_dflt (refine' iter_listTurns (lo := listOf (as.map Value.ref).toArray nH) (vs := as.map Value.ref) (news := (k.OL, listOf (as.map Value.ref).toArray nH) :: (dP, progD w k R uR N0 uN) :: (k.LD, oL) :: (es1 ++ os)) (rfl) ?z195F ?z195N ?z195m rfl rfl ?_; (case z195F => k_asm); (case z195N => exact news_sub (by assumption) (fin_sub hes1 (by k_mem) (by k_mem) (by k_mem) (by k_mem) (by z_head) (by z_head))); (case z195m => exact mem_hd); k_whole); intro iL l1; (try k_lt l1))))
  k_with "ItemsRest" => ((fail_if_success k_extra "o26"); (k_dflt (first | (refine' keys_rest (ks := kvs.map (·.1)) (Str.ofString "label") ?z196m ?_ ?_; (case z196m => k_mem); (intro k8 u8 t8 it8 h8 tk8 hk8 hit8 F8 N8; obtain ⟨n8, hn8⟩ := hlv.1 k8 hk8; obtain ⟨t9, hv8⟩ := hlv.2 (k8, n8) hn8; (have hn9 := hlp _ hn8); (try dsimp only at hv8 hn9); (try dsimp only)); rotate_left; (intro u8 h8 tk8 F8 N8; (try dsimp only)); rotate_right) | (refine' vals_rest (Str.ofString "op") (FinJ labs (ops ++ [haltOp]) as (k.OL, listOf (as.map Value.ref).toArray nH) (dP, progD w k R uR N0 uN) (k.LD, oL) os) (fun _ _ hJ => fin_mem hJ) ⟨es1, has.symm, hE1, rfl⟩ ?_ ?_; ((have hasI : ∀ a ∈ as, a ≠ iL := fin_ne has (by k_all)); intro i8 v8 u8 it8 nw8 h8 tk8 hv8 hJ8 hit8 F8 N8; obtain ⟨pre, post, a9, o9, op9, e91, hop9, e92, hobj, hpre, hpost, ha9, hprem, hpostm, hnext⟩ := fin_turn hJ8 hv8 hpa hla; subst e91; subst e92; obtain ⟨t90, t91, t92, t93, v94, n9, e9, h94⟩ := hobj; subst e9; replace N8 := news_sub N8 fin_form; (have hIa : @Ne Nat iL a9 := Ne.symm (hasI a9 ha9)); obtain ⟨hoa1, hoa2, hoa3, hoa4⟩ := hao a9 ha9; rcases fin_kind hok hop9 with hk9 | hk9; (cases hk9; all_goals ((try dsimp only at N8); (try dsimp only))); all_goals (try (subst hk9; (try dsimp only [haltOp] at N8 h94 hnext); (try dsimp only)))); rotate_right; (intro u8 nw8 h8 tk8 hJ8 F8 N8; (try dsimp only)); rotate_left))))
  k_with "UnrEndW" => ((fail_if_success k_extra "o26"); (k_dflt (first | (refine' fin_end ?z197F ?z197N ?z197sub hnext ?z197ho ?z197q0 ?z197q1 ?z197q2 ?z197q3 hasI ha9 hprem hpostm; (case z197F => k_asm); (case z197N => k_asm); (case z197sub => z_head); (case z197ho => first | ((with_reducible refine' obj_j ?z197oa ?z197ob ?z197oc hnd h94); (case z197oa => decide); (case z197ob => with_reducible assumption); (case z197oc => with_reducible assumption)) | ((with_reducible refine' obj_no ?z197oa h94); (case z197oa => decide))); (case z197q0 => k_ne); (case z197q1 => k_ne); (case z197q2 => k_ne); (case z197q3 => k_all)) | (refine' keys_end ?z197F ?z197N ?z197sub ?z197off; (case z197F => k_asm); (case z197N => k_asm); (case z197sub => z_head); (case z197off => k_all)) | fail)))
  k_with "kcf_all" => ((fail_if_success k_extra "o26"); (refine' fin_back ?z198h ?z198f ?z198n ?z198sb ?z198hJ ?z198hi ?z198hp; (case z198h => with_reducible assumption); (case z198f => with_reducible assumption); (case z198n => with_reducible assumption); (case z198hJ => with_reducible assumption); (case z198sb => exact fun _ h => h); (case z198hi => (rw [List.length_map]; with_reducible assumption)); (case z198hp => with_reducible assumption)))
  exact True.intro
set_option maxRecDepth 100000 in
set_option maxHeartbeats 8000000 in
theorem fin_does {w : World} {P dP : Addr} {k : PK} {R N0 : Int} {uR uN : Tok} {oL : Obj} {es os : List (Addr × Obj)} {ops ops0 : List Op} {lop : Op} {labs : List (Int × Int)} {n : Nat} (hP : (P, instObj 780 dP) ∈ os) (hops : ops = ops0 ++ [lop]) (hlast : lop.nm = "Value" ∨ lop.nm = "Copy" ∨ lop.nm = "Function" ∨ lop.nm = "NotNull")
   (hE : EsAt os es ops) (hpw : es.Pairwise fun p q => p.1 ≠ q.1) (hdis : ∀ p ∈ os, ∀ q ∈ es, p.1 ≠ q.1) (e1 : ∀ q ∈ es, q.1 ≠ k.OL) (e2 : ∀ q ∈ es, q.1 ≠ dP) (e3 : ∀ q ∈ es, q.1 ≠ k.LD) (o1 : ∀ p ∈ os, p.1 ≠ k.OL) (o2 : ∀ p ∈ os, p.1 ≠ dP) (o3 : ∀ p ∈ os, p.1 ≠ k.LD)
   (d1 : @Ne Nat k.OL dP) (d2 : @Ne Nat k.OL k.LD) (d3 : @Ne Nat dP k.LD) (hlo : (k.LD == sysModules) = false) (hl : IntD w oL (labD labs)) (hnd : labs.Pairwise fun p q => p.1 ≠ q.1) (hlp : ∀ p ∈ labs, p.2 ≤ (ops.length : Int)) (hok : ∀ o ∈ ops, OpOk labs o) (hlen : ops.length ≤ 900) :
   Does w 777 8 [.ref P] ((k.OL, listOf (refs es).toArray n) :: (dP, progD w k R uR N0 uN) :: (k.LD, oL) :: (es ++ os)) (FinPost w P dP k R uR N0 uN oL ops labs os) := by
  obtain ⟨kvs, hkd, hkf⟩ := hl
  have hlv := lab_val hkf hnd
  have hxl : (refs es).length = ops.length := by rw [← hE.len]; simp [refs]
  obtain ⟨es0, al, hxs, hxl0, tl0, tl1, tl2, tl3, vl4, nl, hal⟩ := fin_last hops hE
  have hl0 : ops0.length ≤ 900 := by rw [hops, List.length_append] at hlen; lia
  have hne : refs es ≠ [] := by rw [hxs]; simp
  refine Does.of ?_
  intro dp un gd cn cs a ccd cl outer A₀ base h₀ L m p loose mean mg mb hp0 gn0 dr0 tk0 oo0 Q E B F X N T hk hd hu hret
  revert X; k_fill; intro X
  refine wpAny_call ?_
  k_dflt ktr_enter
  k_steps
  all_goals first | kcf_all | fail
end
end Mine
end
section
open PySem PySem.W PyProof.Rows PySem.Spec PyProof.V
namespace Mine
theorem src_mk {c e : Int} {P : Prop} [Decidable P] {t u : Tok} {n : Nat} : Src (listOf #[.int ((if -1 - c > c then -1 - c else c) * (if P then 1 else 0)) t, .int (e.fmod 2147483647) u] n) := by
  refine ⟨_, _, _, _, _, rfl, Int.mul_nonneg ?_ ?_, fm_lo _, fm_hi _⟩
  · split <;> lia
  · split <;> decide
noncomputable def PoolPost (os : List (Addr × Obj)) (r : Value) (l : List (Addr × Obj)) : Prop := ∃ S o, r = .ref S ∧ l = (S, o) :: os ∧ Src o ∧ ∀ p ∈ os, p.1 ≠ S
noncomputable def DoesL (w : World) (f : Addr) (n : Nat) (vs : List Value) (sc : Addr) (its : List Value) (ns : List Int) (news : List (Addr × Obj)) (Post : Value → List (Addr × Obj) → Prop) : Prop :=
  ∀ (dp un : Nat) (gd : Option (List Code)) (cn : Str) (cs : Scope) (a : Addr) (ccd : Value) (cl : List (Str × Addr)) (outer : List Env) (A₀ : Around) (base h₀ : Heap) (L : Addr) (m : Str → Option Value)
    (p : Program) (loose : List Str) (mean : ExcName → Option Value) (mg mb : Str → Option Value) (s : Shared) (Q E : Value → Shared → Prop),
    Below A₀ base outer h₀ → Fr h₀ L s.heap m → (hd.heap_39 w.params).In h₀ → News h₀ L s.heap news → Top p loose mean mg mb h₀ → cs.kind = .function →
    dp + n < recursionLimit → un + 8 * n < cLine → h₀.IsList sc its.toArray → IntsAre its ns → ns.length ≤ 63 →
    (∀ r news' h' tk', Fr h₀ L h' m → News h₀ L h' news' → Post r news' → Q r { s with heap := h', toks := tk' }) →
    wpAny (model PySem.Challenge.rw_nt0122_01.row.prog w) (ktrTop dp un gd cn cs L a ccd cl outer) (call (.ref f) vs) Q E s
theorem off_new {l : List (Addr × Obj)} {d : Addr} (h : ∀ p ∈ l, @LT.lt Nat _ p.1 d) : ∀ p ∈ l, p.1 ≠ d := fun p hp => Nat.ne_of_lt (h p hp)
section
theorem lines29 : True := by
  k_with "o26" => skip
  k_with "l_fit" => ((fail_if_success k_extra "o27"); lia)
  exact True.intro
set_option maxRecDepth 100000 in
set_option maxHeartbeats 2000000 in
theorem pool_does (w : World) (sc : Addr) (its : List Value) (ns : List Int) (t : Tok) (os : List (Addr × Obj)) : DoesL w 791 2 [.ref sc, .int 0 t] sc its ns os (PoolPost os) := by
  unfold DoesL
  intro dp un gd cn cs a ccd cl outer A₀ base h₀ L m p loose mean mg mb s Q E B F X N T hk hd hu hS hI hl63 hret
  revert X; k_fill; intro X
  refine wpAny_call ?_
  k_dflt ktr_enter
  have hS2 := hS.at fun o e => Fr.keep ‹Fr h₀ L _ m› _ _ e
  clear hS
  k_steps
  all_goals first | exact hret _ _ _ _ (by with_reducible assumption) (by with_reducible assumption) ⟨_, _, rfl, rfl, src_mk, off_new (ktn_ltOf (by with_reducible assumption))⟩ | fail
end
section
variable {w : World} {sc : Addr} {its : List Value} {ns : List Int} {t : Tok} {os : List (Addr × Obj)}
  {dp un : Nat} {gd : Option (List Code)} {cn : Str} {cs : Scope} {a : Addr} {ccd : Value} {cl : List (Str × Addr)} {outer : List Env} {A₀ : Around} {base h₀ : Heap} {L : Addr} {m : Str → Option Value}
  {p : Program} {loose : List Str} {mean : ExcName → Option Value} {mg mb : Str → Option Value} {s : Shared} {Q E : Value → Shared → Prop}
theorem pool_use (B : Below A₀ base outer h₀) (F : Fr h₀ L s.heap m) (X : (hd.heap_39 w.params).In h₀) (N : News h₀ L s.heap os) (T : Top p loose mean mg mb h₀) (hk : cs.kind = .function)
    (hd : dp + 2 < recursionLimit) (hu : un + 8 * 2 < cLine) (hS : h₀.IsList sc its.toArray) (hI : IntsAre its ns) (hl : ns.length ≤ 63)
    (ret : ∀ r news' h' tk', Fr h₀ L h' m → News h₀ L h' news' → PoolPost os r news' → Q r { s with heap := h', toks := tk' }) :
    wpAny (model PySem.Challenge.rw_nt0122_01.row.prog w) (ktrTop dp un gd cn cs L a ccd cl outer) (call (.ref 791) [.ref sc, .int 0 t]) Q E s :=
  pool_does w sc its ns t os _ _ _ _ _ _ _ _ _ _ _ _ _ _ _ _ _ _ _ _ _ _ B F X N T hk hd hu hS hI hl ret
end
end Mine
end
section
open PySem PySem.W PyProof.Rows PySem.Spec PyProof.V
namespace Mine
theorem sz_le (t : Tr) : t.sz ≤ 3 ^ t.depth := by
  have pm : ∀ {a b : Nat}, a ≤ b → 3 ^ a ≤ 3 ^ b := fun h => Nat.pow_le_pow_right (by decide) h
  induction t with
  | val v => simp [Tr.sz, Tr.depth]
  | col i => simp [Tr.sz, Tr.depth]
  | known => simp [Tr.sz, Tr.depth]
  | f0 => simp [Tr.sz, Tr.depth]
  | f1 a ia => simp only [Tr.sz, Tr.depth, Nat.pow_succ]; lia
  | f2 K a b ia ib =>
    have ma := pm (Nat.le_max_left a.depth b.depth)
    have mb := pm (Nat.le_max_right a.depth b.depth)
    simp only [Tr.sz, Tr.depth, Nat.pow_succ]; lia
  | f3 K a b c ia ib ic =>
    have ma := pm (Nat.le_max_left a.depth (max b.depth c.depth))
    have mb := pm (Nat.le_trans (Nat.le_max_left b.depth c.depth) (Nat.le_max_right a.depth (max b.depth c.depth)))
    have mc := pm (Nat.le_trans (Nat.le_max_right b.depth c.depth) (Nat.le_max_right a.depth (max b.depth c.depth)))
    simp only [Tr.sz, Tr.depth, Nat.pow_succ]; lia
theorem sz_9 {t : Tr} (h : t.depth ≤ 2) : t.sz ≤ 9 := by
  have h1 := sz_le t
  have h2 : 3 ^ t.depth ≤ 3 ^ 2 := Nat.pow_le_pow_right (by decide) h
  lia
theorem sz_ok {t : Tr} (h : t.depth ≤ 2) : ([] : List Value).length + t.sz ≤ 1000 := by
  have := sz_9 h
  simp only [List.length_nil]; lia
inductive TupsAt (kn : Int) (nw : List (Addr × Obj)) : List Value → List Value → Prop
  | nil : TupsAt kn nw [] []
  | snoc {ys xs a x u j} : TupsAt kn nw ys xs → (a, tupO [x, .int kn u] j) ∈ nw → TupsAt kn nw (ys ++ [.ref a]) (xs ++ [x])
theorem TupsAt.mono {kn : Int} {nw nw' : List (Addr × Obj)} (hs : ∀ p ∈ nw, p ∈ nw') {ys xs : List Value} (h : TupsAt kn nw ys xs) : TupsAt kn nw' ys xs := by
  induction h with
  | nil => exact .nil
  | snoc _ h2 ih => exact .snoc ih (hs _ h2)
theorem TupsAt.len {kn : Int} {nw : List (Addr × Obj)} {ys xs : List Value} (h : TupsAt kn nw ys xs) : ys.length = xs.length := by
  induction h with
  | nil => rfl
  | snoc _ _ ih => simp [ih]
theorem TupsAt.at {kn : Int} {nw : List (Addr × Obj)} {ys xs : List Value} (h : TupsAt kn nw ys xs) : ∀ (i : Nat) (y : Value), ys[i]? = some y → ∃ a u j x, y = .ref a ∧ xs[i]? = some x ∧ (a, tupO [x, .int kn u] j) ∈ nw := by
  induction h with
  | nil => exact fun i y e => by simp at e
  | @snoc ys xs a x u j h1 h2 ih =>
    intro i y e
    have hl := h1.len
    by_cases q : i < ys.length
    · rw [List.getElem?_append_left q] at e
      obtain ⟨a', u', j', x', e1, e2, e3⟩ := ih i y e
      exact ⟨a', u', j', x', e1, by rw [List.getElem?_append_left (hl ▸ q)]; exact e2, e3⟩
    · rw [List.getElem?_append_right (Nat.le_of_not_lt q)] at e
      have hi : i - ys.length = 0 := by
        cases z : i - ys.length with
        | zero => rfl
        | succ n => rw [z] at e; simp at e
      rw [hi] at e
      cases e
      exact ⟨a, u, j, x, rfl, by rw [List.getElem?_append_right (by lia), ← hl, hi]; rfl, h2⟩
noncomputable def AggJ (kn : Int) (K : List Value) (L0 : List (Addr × Obj)) (i : Nat) (ys : List Value) (news : List (Addr × Obj)) : Prop :=
  ∃ nw, news = nw ++ L0 ∧ Apart L0 nw ∧ TupsAt kn nw ys (K.take i)
section
variable {prog : PySem.Program} {w : World} {A : Around} {h₀ : Heap} {L : Addr} {m : Str → Option Value} {env : Env} {elt : PySem.Expr} {x : Str} {scope : Scope} {cl : List (Str × Addr)} {s₁ : Shared} {Fin : Shared → List Value → List (Addr × Obj) → Prop}
theorem agg_src {ax : Addr} {K : List Value} {n : Nat} {kn : Int} {L0 : List (Addr × Obj)} (hh : A.handled = none) (F : Fr h₀ L s₁.heap m) (N : News h₀ L s₁.heap L0) (ml : (ax, listOf K.toArray n) ∈ L0) (hsz : K.length ≤ 1000)
    (turn : ∀ gq i v I oI C oC D m₂ ys nwA h tk (E' : Value → Shared → Prop), K[i]? = some v → LCg.NsObj oC m₂ → m₂ x = some v → Fr h₀ L h m → News h₀ L h ((I, oI) :: (C, oC) :: (D, LCg.lst ys) :: (nwA ++ L0)) → Apart L0 nwA → TupsAt kn nwA ys (K.take i) → LCg.Off3 I C D (nwA ++ L0) → ((@Ne Nat I C) ∧ (@Ne Nat I D) ∧ (@Ne Nat C D)) →
      wpAny (model prog w) A (eval elt (compEnvC scope cl C env)) (LCg.CompEnd h₀ L m { s₁ with heap := h, toks := tk } I oI C oC D (LCg.lst ys) (LCg.SrcAt h₀ ax K.toArray) (fun y news' => AggJ kn K L0 (i + 1) (ys ++ [y]) news')) E' { ({ s₁ with heap := gq } : Shared) with heap := h, toks := tk })
    (fin : ∀ gq ys nwA, Apart L0 nwA → TupsAt kn nwA ys K → Fin { s₁ with heap := gq } ys (nwA ++ L0)) :
    LCg.CompSrc prog w A h₀ L m env elt x scope cl Fin (.ref ax) s₁ := by
  refine LCg.CompSrc.ledger (news := L0) hh F N ml (by rw [List.size_toArray, PySem.sizeLine_eq]; lia) fun gq => ?_
  rw [List.size_toArray]
  refine comp_rest (AggJ kn K L0) ⟨[], rfl, .nil, by rw [List.take_zero]; exact .nil⟩ (fun i v I oI C oC D m₂ ys news₁ h tk E' hi hv hJ hC hx F2 N2 off ne => ?_) fun ys news' hJ => ?_
  · obtain ⟨nw, rfl, ha, ht⟩ := hJ
    exact turn gq i v I oI C oC D m₂ ys nw h tk E' (by simpa using hv) hC hx F2 N2 ha ht off ne
  · obtain ⟨nw, rfl, ha, ht⟩ := hJ
    rw [List.take_length] at ht
    exact fin gq ys nw ha ht
end
theorem agg_back {ax I C D T : Addr} {oI oC : Obj} {K ys : List Value} {n i j : Nat} {kn : Int} {u : Tok} {v : Value} {L0 l nwA : List (Addr × Obj)} {h₀ h : Heap} {L : Addr} {m : Str → Option Value} {s₁ : Shared} {tk : Nat} (hv : K[i]? = some v) (ml : (ax, listOf K.toArray n) ∈ L0) (ha : Apart L0 nwA) (ht : TupsAt kn nwA ys (K.take i))
    (F : Fr h₀ L h m) (N : News h₀ L h l) (sub : ∀ p ∈ (I, oI) :: (C, oC) :: (D, LCg.lst ys) :: (T, tupO [v, .int kn u] j) :: (nwA ++ L0), p ∈ l) (off : LCg.Off3 I C D (nwA ++ L0)) (q1 : @Ne Nat T I) (q2 : @Ne Nat T C) (q3 : @Ne Nat T D) (hT : ∀ q ∈ L0, q.1 ≠ T) :
    LCg.CompEnd h₀ L m s₁ I oI C oC D (LCg.lst ys) (LCg.SrcAt h₀ ax K.toArray) (fun y news' => AggJ kn K L0 (i + 1) (ys ++ [y]) news') (.ref T) { s₁ with heap := h, toks := tk } := by
  have e3 : K.take (i + 1) = K.take i ++ [v] := by rw [List.take_add_one, hv]; rfl
  refine LCg.CompEnd.intro F N (((T, tupO [v, .int kn u] j) :: nwA) ++ L0) sub ⟨⟨q1, q2, q3⟩, off⟩ (.inr ⟨_, mem_apr ml, rfl, _, rfl⟩) ⟨_, rfl, .cons hT ha, ?_⟩
  rw [e3]
  exact .snoc (ht.mono fun _ => mem_tl) mem_hd
theorem agg_in {c : CK} {K ys : List Value} {nw os : List (Addr × Obj)} {n : Nat} (h : TupsAt 4 nw ys K) (hs : ∀ p ∈ nw, p ∈ os) (ml : (c.AG, listOf ys.toArray n) ∈ os) (hl : K.length ≤ 1000) : AggIn c K os := by
  refine ⟨ys, n, ml, h.len, by rw [h.len]; exact hl, fun i x e => ?_⟩
  obtain ⟨a, u, j, y, e1, e2, e3⟩ := h.at i x e
  exact ⟨a, u, j, y, e1, e2, hs _ e3⟩
end Mine
end
section
open PySem PySem.W PyProof.Rows PySem.Spec PyProof.V
namespace Mine
section
theorem lines30 : True := by
  k_with "o27" => skip
  exact True.intro

set_option maxRecDepth 100000 in
set_option maxHeartbeats 1000000 in
theorem isc_no {w : World} {A : Around} {E : Value → Shared → Prop} {s : Shared} {h₀ : Heap} {L x dx D : Addr} {dob : Obj} {news : List (Addr × Obj)} {Q : Value → Shared → Prop} (X : (hd.heap_39 w.params).In s.heap) (N : News h₀ L s.heap news) (hx : (x, instObj D dx) ∈ news) (hdx : (dx, dob) ∈ news)
    (hD : D = 122 ∨ D = 148) (h : Q (.bool false) { s with toks := s.toks + 1 }) : wpAny (model PySem.Challenge.rw_nt0122_01.row.prog w) A (call (.builtin "isinstance") [.ref x, .ref 354]) Q E s := by
  revert X; k_fill; intro X
  rcases hD with rfl | rfl <;>
  (refine' kin_callC X ?k2 ?k3 ?k4 ?k5 ?k6 ?k7 ?k8 ?k9 h; (case k2 => k_inst); (case k3 => kin_no); (case k4 => k_is); (case k5 => k_is); (case k6 => k_is); (case k7 => k_is); (case k8 => k_is); (case k9 => k_is))
set_option maxRecDepth 100000 in
set_option maxHeartbeats 1000000 in
theorem isc_yes {w : World} {A : Around} {E : Value → Shared → Prop} {s : Shared} {h₀ : Heap} {L x dx : Addr} {dob : Obj} {news : List (Addr × Obj)} {Q : Value → Shared → Prop} (X : (hd.heap_39 w.params).In s.heap) (N : News h₀ L s.heap news) (hx : (x, instObj 354 dx) ∈ news) (hdx : (dx, dob) ∈ news)
    (h : Q (.bool true) s) : wpAny (model PySem.Challenge.rw_nt0122_01.row.prog w) A (call (.builtin "isinstance") [.ref x, .ref 354]) Q E s := by
  revert X; k_fill; intro X
  refine' isi_call X ?k2 ?k3 ?k4 h
  case k2 => k_types
  case k3 => k_is
  case k4 => intro e; cases e
end
inductive Kd (w : World) (os : List (Addr × Obj)) (x : Addr) (t : Tr) : Bool → Prop
  | call {dx dob} : (x, instObj 354 dx) ∈ os → (dx, dob) ∈ os → (∀ y, t ≠ .val y) → (∀ i, t ≠ .col i) → Kd w os x t true
  | leaf {D dx dob} : (x, instObj D dx) ∈ os → (dx, dob) ∈ os → (D = 122 ∨ D = 148) → Kd w os x t false
theorem kd_of {w : World} {os : List (Addr × Obj)} {K : List Value} {v : Value} {t : Tr} (h : NodeIn w os K v t) : ∃ x b, v = .ref x ∧ Kd w os x t b := by
  cases h with
  | val h1 h2 h3 => exact ⟨_, _, rfl, .leaf h1 h2 (.inl rfl)⟩
  | col0 h1 h2 => exact ⟨_, _, rfl, .leaf h1 h2 (.inr rfl)⟩
  | col1 h1 h2 => exact ⟨_, _, rfl, .leaf h1 h2 (.inr rfl)⟩
  | known h1 h2 h3 => exact ⟨_, _, rfl, .call h1 h2 (fun _ e => nomatch e) (fun _ e => nomatch e)⟩
  | f0 h1 h2 h3 => exact ⟨_, _, rfl, .call h1 h2 (fun _ e => nomatch e) (fun _ e => nomatch e)⟩
  | f1 h1 h2 h3 => exact ⟨_, _, rfl, .call h1 h2 (fun _ e => nomatch e) (fun _ e => nomatch e)⟩
  | f2 F h1 h2 h3 => exact ⟨_, _, rfl, .call h1 h2 (fun _ e => nomatch e) (fun _ e => nomatch e)⟩
  | f3 F h1 h2 h3 => exact ⟨_, _, rfl, .call h1 h2 (fun _ e => nomatch e) (fun _ e => nomatch e)⟩
theorem node_isc {w : World} {A : Around} {E : Value → Shared → Prop} {s : Shared} {h₀ : Heap} {L x : Addr} {t : Tr} {b : Bool} {os news : List (Addr × Obj)} {Q : Value → Shared → Prop} (X : (hd.heap_39 w.params).In s.heap) (N : News h₀ L s.heap news) (hk : Kd w os x t b) (hs : ∀ p ∈ os, p ∈ news)
    (h : ∀ k, Q (.bool b) { s with toks := k }) : wpAny (model PySem.Challenge.rw_nt0122_01.row.prog w) A (call (.builtin "isinstance") [.ref x, .ref 354]) Q E s := by
  cases hk with
  | call h1 h2 _ _ => exact isc_yes X N (hs _ h1) (hs _ h2) (h s.toks)
  | leaf h1 h2 h3 => exact isc_no X N (hs _ h1) (hs _ h2) h3 (h _)
structure TopC (w : World) (P dP OL CO LD Kc dK BD BT AG : Addr) (K : List Value) (os : List (Addr × Obj)) : Prop where
  h1 : (Kc, instObj 686 dK) ∈ os
  h2 : ∃ a1 a2 a3, (dK, dictOf [ent w "program" a1 (.ref P), ent w "bindings" a2 (.ref BD), ent w "aggregates" a3 (.ref AG)] 3) ∈ os
  h3 : (P, instObj 780 dP) ∈ os
  h4 : ∃ oB, (BD, oB) ∈ os ∧ oB.IsDictOf (intKind PGm w) [(4, .ref BT)]
  h6 : ∃ b1 b2 bn z, (BT, tupO [.str (Str.ofString "registers") b1, .int z b2] bn) ∈ os ∧ z = 2
  h7 : (BD == sysModules) = false
  ag : ∀ c : CK, c.AG = AG → AggIn c K os
  kn : ∀ x ∈ K, KnownAt w os x
  o1 : ∀ p ∈ os, p.1 ≠ OL
  o2 : ∀ p ∈ os, p.1 ≠ dP
  o3 : ∀ p ∈ os, p.1 ≠ LD
  d1 : @Ne Nat OL dP
  d2 : @Ne Nat OL LD
  d3 : @Ne Nat dP LD
  sm : (LD == sysModules) = false
noncomputable def TopPost (w : World) (P dP OL CO LD : Addr) (os : List (Addr × Obj)) (S : St) (ur : Value) (l : List (Addr × Obj)) : Prop :=
  ∃ (k : PK) (xs : List Value) (n : Nat) (oL : Obj) (nw : List (Addr × Obj)) (uR uN : Tok), k.OL = OL ∧ k.LD = LD ∧ l = (OL, listOf xs.toArray n) :: (dP, progD w k S.R uR S.N uN) :: (LD, oL) :: (nw ++ os) ∧ Apart os nw ∧ (∀ p ∈ nw, p.1 ≠ OL) ∧ (∀ p ∈ nw, p.1 ≠ dP) ∧ (∀ p ∈ nw, p.1 ≠ LD) ∧ OpsIn nw xs S.ops ∧ IntD w oL (labD S.labs)
theorem leafy_no {t : Tr} (hk : ¬ t = .known) (hv : ∀ y, t ≠ .val y) (hc : ∀ i, t ≠ .col i) : leafy t = false := by
  cases t <;> first | rfl | exact absurd rfl hk | exact absurd rfl (hv _) | exact absurd rfl (hc _)
theorem top_code {w : World} {P dP OL CO LD Kc dK BD BT AG : Addr} {K : List Value} {x : Addr} {t : Tr} {n : Nat} {oL : Obj} {t1 t2 t3 t4 t5 t6 t7 t8 u4 u5 uR uN ut : Tok} {os : List (Addr × Obj)} (hT : TopC w P dP OL CO LD Kc dK BD BT AG K os) (hn : NodeIn w os K (.ref x) t) (hd2 : t.depth ≤ 2) (hl : IntD w oL [])
    (f : Addr) (hf : (f = 541) ∨ (f = 676 ∧ ∃ dx dob, (x, instObj 354 dx) ∈ os ∧ (dx, dob) ∈ os ∧ (∀ y, t ≠ .val y) ∧ ∀ i, t ≠ .col i)) :
    Does w f 24 [.ref Kc, .ref x, .int 5 ut] ((OL, listOf #[] n) :: (dP, dictOf [ent w "ops" t1 (.ref OL), ent w "columns" t2 (.ref CO), ent w "registers" t3 (.int 6 uR), ent w "cursors" t4 (.int 0 u4), ent w "slots" t5 (.int 0 u5), ent w "writes" t6 (.bool false), ent w "labels" t7 (.ref LD), ent w "next_label" t8 (.int (-1) uN)] 8) :: (LD, oL) :: os)
      (TopPost w P dP OL CO LD os (comp t 5 St0)) := by
  obtain ⟨h1, ⟨a1, a2, a3, h2⟩, h3, ⟨oB, h4, h5⟩, ⟨b1, b2, bn, z2, h6, rfl⟩, h7, ag, kn, o1, o2, o3, d1, d2, d3, sm⟩ := hT
  have hs : Sta w ⟨Kc, dK, P, dP, BD, BT, AG, a1, a2, a3, b1, b2, 0, bn, oB⟩ ⟨t1, t2, t3, t4, t5, t6, t7, t8, u4, u5, OL, CO, LD⟩ K os := ⟨⟨h1, h2, h3, h4, h5, h6, h7⟩, ag _ rfl, kn, o1, o2, o3, d1, d2, d3, sm⟩
  have hnops := nops_21 hd2
  have hz : Nums (-1) ([] : List Op) ([] : List (Int × Int)) t.nops := ⟨by decide, (fun _ h => by cases h), by simp only [List.length_nil]; lia, by simp only [List.length_nil]; lia⟩
  have post : ∀ {r l}, CompS w ⟨Kc, dK, P, dP, BD, BT, AG, a1, a2, a3, b1, b2, 0, bn, oB⟩ ⟨t1, t2, t3, t4, t5, t6, t7, t8, u4, u5, OL, CO, LD⟩ os [] (comp t 5 ⟨6, -1, [], []⟩) (fun _ => True) r l → TopPost w P dP OL CO LD os (comp t 5 St0) r l := fun h => by
    obtain ⟨xs, n, oL, nw, uR, uN, _, e, a0, q1, q2, q3, q4, q5⟩ := h
    exact ⟨_, xs, n, oL, nw, uR, uN, rfl, rfl, e, a0, q1, q2, q3, by rw [List.append_nil] at q4; exact q4, q5⟩
  rcases hf with rfl | ⟨rfl, dx, dob, m1, m2, hv, hc⟩
  · exact ((((expr_does w t) 2 hd2 _ _ K (.ref x) 6 (-1) [] [] [] n uR uN oL os [] hs hn .nil (fun _ h => by cases h) hl hz).1 5 ut).mono fun r l h => post h).le (by lia)
  · by_cases hk : t = .known
    · subst hk
      cases hn with
      | known k1 k2 k3 => exact ((call_known hs k1 k2 k3 .nil (fun _ h => by cases h) hl (nums1 rfl hz)).mono fun r l h => post h).le (by lia)
    · have hlf := leafy_no hk hv hc
      have h1' := deep_of hlf
      obtain ⟨x', dx', dob', e, _, _, hcall⟩ := call_node hs hn (t.depth - 1) (by lia) (fun t' _ => expr_does w t') hlf
      cases e
      exact ((hcall 6 (-1) 5 [] [] [] n uR uN ut oL [] .nil (fun _ h => by cases h) hl hz).mono fun r l h => post h).le (by lia)
theorem top_rule {w : World} {P dP OL CO LD Kc dK BD BT AG : Addr} {K : List Value} {x : Addr} {t : Tr} {n : Nat} {oL : Obj} {t1 t2 t3 t4 t5 t6 t7 t8 u4 u5 uR uN ut a1 a2 a3 : Tok} {os nws : List (Addr × Obj)} {z6 zm z5 : Int} (um1 : (Kc, instObj 686 dK) ∈ nws) (um2 : (dK, dictOf [ent w "program" a1 (.ref P), ent w "bindings" a2 (.ref BD), ent w "aggregates" a3 (.ref AG)] 3) ∈ nws) (um3 : (P, instObj 780 dP) ∈ nws)
    (um4 : (dP, dictOf [ent w "ops" t1 (.ref OL), ent w "columns" t2 (.ref CO), ent w "registers" t3 (.int z6 uR), ent w "cursors" t4 (.int 0 u4), ent w "slots" t5 (.int 0 u5), ent w "writes" t6 (.bool false), ent w "labels" t7 (.ref LD), ent w "next_label" t8 (.int zm uN)] 8) ∈ nws) (e6 : z6 = 6) (em : zm = -1) (e5 : z5 = 5)
    (hT : TopC w P dP OL CO LD Kc dK BD BT AG K os) (hn : NodeIn w os K (.ref x) t) (hd2 : t.depth ≤ 2) (hl : IntD w oL [])
    (f : Addr) (hf : (f = 541) ∨ (f = 676 ∧ ∃ dx dob, (x, instObj 354 dx) ∈ os ∧ (dx, dob) ∈ os ∧ (∀ y, t ≠ .val y) ∧ ∀ i, t ≠ .col i)) :
    Does w f 24 [.ref Kc, .ref x, .int z5 ut] ((OL, listOf #[] n) :: (dP, dictOf [ent w "ops" t1 (.ref OL), ent w "columns" t2 (.ref CO), ent w "registers" t3 (.int z6 uR), ent w "cursors" t4 (.int 0 u4), ent w "slots" t5 (.int 0 u5), ent w "writes" t6 (.bool false), ent w "labels" t7 (.ref LD), ent w "next_label" t8 (.int zm uN)] 8) :: (LD, oL) :: os)
      (TopPost w P dP OL CO LD os (comp t 5 St0)) := by
  subst e6; subst em; subst e5
  exact top_code hT hn hd2 hl f hf
theorem off1_allz {D : Addr} : ∀ {l : List (Addr × Obj)}, LCg.Off1 D l → ∀ p ∈ l, p.1 ≠ D
  | [], _, _, h => nomatch h
  | a :: l, x, q, h => by
    have x' : (@Ne Nat a.1 D) ∧ LCg.Off1 D l := x
    cases List.mem_cons.mp h with
    | inl e => rw [e]; exact x'.1
    | inr h => exact off1_allz (l := l) x'.2 q h
theorem off1_split {D : Addr} {r : List (Addr × Obj)} : ∀ {l : List (Addr × Obj)}, LCg.Off1 D (l ++ r) → LCg.Off1 D r ∧ ∀ p ∈ l, p.1 ≠ D
  | [], x => ⟨x, fun _ h => nomatch h⟩
  | a :: l, x => by
    have x' : (@Ne Nat a.1 D) ∧ LCg.Off1 D (l ++ r) := x
    have ih := off1_split (l := l) x'.2
    refine ⟨ih.1, fun q h => ?_⟩
    cases List.mem_cons.mp h with
    | inl e => rw [e]; exact x'.1
    | inr h => exact ih.2 q h
theorem upd_app {d : Addr} {o o' : Obj} {r r' : List (Addr × Obj)} : ∀ {l : List (Addr × Obj)}, (∀ p ∈ l, p.1 ≠ d) → Upd d o o' r r' → Upd d o o' (l ++ r) (l ++ r')
  | [], _, h => h
  | p :: _, ho, h => .tail (ho p (.head _)) (upd_app (fun q hq => ho q (.tail _ hq)) h)
section
variable {w : World} {news r1 r2 r3 os : List (Addr × Obj)} {dp un : Nat} {gd : Option (List Code)} {cn : Str} {cs : Scope} {a : Addr} {ccd : Value} {cl : List (Str × Addr)} {outer : List Env} {A₀ : Around} {base h₀ : Heap} {L : Addr} {m : Str → Option Value}
  {p : Program} {loose : List Str} {mean : ExcName → Option Value} {mg mb : Str → Option Value} {s : Shared} {Q E : Value → Shared → Prop}
theorem top_use {P dP OL CO LD Kc dK BD BT AG : Addr} {K : List Value} {x f : Addr} {t : Tr} {n : Nat} {oL : Obj} {t1 t2 t3 t4 t5 t6 t7 t8 u4 u5 uR uN ut a1 a2 a3 : Tok} {z6 zm z5 : Int} (N : News h₀ L s.heap news) (m1 : (Kc, instObj 686 dK) ∈ news) (m2 : (dK, dictOf [ent w "program" a1 (.ref P), ent w "bindings" a2 (.ref BD), ent w "aggregates" a3 (.ref AG)] 3) ∈ news) (m3 : (P, instObj 780 dP) ∈ news)
    (m4 : (dP, dictOf [ent w "ops" t1 (.ref OL), ent w "columns" t2 (.ref CO), ent w "registers" t3 (.int z6 uR), ent w "cursors" t4 (.int 0 u4), ent w "slots" t5 (.int 0 u5), ent w "writes" t6 (.bool false), ent w "labels" t7 (.ref LD), ent w "next_label" t8 (.int zm uN)] 8) ∈ news)
    (B : Below A₀ base outer h₀) (F : Fr h₀ L s.heap m) (X : (hd.heap_39 w.params).In h₀) (T : Top p loose mean mg mb h₀) (hk : cs.kind = .function)
    (P1 : Pick (OL, listOf #[] n) news r1) (P2 : Pick (dP, dictOf [ent w "ops" t1 (.ref OL), ent w "columns" t2 (.ref CO), ent w "registers" t3 (.int z6 uR), ent w "cursors" t4 (.int 0 u4), ent w "slots" t5 (.int 0 u5), ent w "writes" t6 (.bool false), ent w "labels" t7 (.ref LD), ent w "next_label" t8 (.int zm uN)] 8) r1 r2) (P3 : Pick (LD, oL) r2 os)
    (e6 : z6 = 6) (em : zm = -1) (e5 : z5 = 5) (hT : TopC w P dP OL CO LD Kc dK BD BT AG K os) (hn : NodeIn w os K (.ref x) t) (hd2 : t.depth ≤ 2) (hl : IntD w oL [])
    (hf : (f = 541) ∨ (f = 676 ∧ ∃ dx dob, (x, instObj 354 dx) ∈ os ∧ (dx, dob) ∈ os ∧ (∀ y, t ≠ .val y) ∧ ∀ i, t ≠ .col i)) (hd : dp + 24 < recursionLimit) (hu : un + 8 * 24 < cLine)
    (ret : ∀ r news' h' tk', Fr h₀ L h' m → News h₀ L h' news' → TopPost w P dP OL CO LD os (comp t 5 St0) r news' → Q r { s with heap := h', toks := tk' }) :
    wpAny (model PySem.Challenge.rw_nt0122_01.row.prog w) (ktrTop dp un gd cn cs L a ccd cl outer) (call (.ref f) [.ref Kc, .ref x, .int z5 ut]) Q E s :=
  use3 (top_rule m1 m2 m3 m4 e6 em e5 hT hn hd2 hl f hf) B F X N T hk P1 P2 P3 hd hu ret
end
theorem hf_call {os os' : List (Addr × Obj)} {x dx : Addr} {dob : Obj} {t : Tr} (h1 : (x, instObj 354 dx) ∈ os') (h2 : (dx, dob) ∈ os') (h3 : ∀ y, t ≠ .val y) (h4 : ∀ i, t ≠ .col i) (hs : ∀ p ∈ os', p ∈ os) : ((676 : Addr) = 541) ∨ ((676 : Addr) = 676 ∧ ∃ dx dob, (x, instObj 354 dx) ∈ os ∧ (dx, dob) ∈ os ∧ (∀ y, t ≠ .val y) ∧ ∀ i, t ≠ .col i) := .inr ⟨rfl, _, _, hs _ h1, hs _ h2, h3, h4⟩
theorem law_join {w : World} {A : Around} {E : Value → Shared → Prop} {s : Shared} {h₀ : Heap} {L x P dP OL CO LD : Addr} {t : Tr} {b : Bool} {os' os news : List (Addr × Obj)} {m : Str → Option Value} {Q : Value → Shared → Prop} {R : Heap → Nat → Prop} (X : (hd.heap_39 w.params).In s.heap) (N : News h₀ L s.heap news) (hk : Kd w os' x t b) (hs : ∀ p ∈ os', p ∈ news)
    (hm : (∀ r h' tk' l, Fr h₀ L h' m → News h₀ L h' l → TopPost w P dP OL CO LD os (comp t 5 St0) r l → R h' tk') → ∀ k, Q (.bool b) { s with toks := k })
    (hr : ∀ r h' tk' l, Fr h₀ L h' m → News h₀ L h' l → TopPost w P dP OL CO LD os (comp t 5 St0) r l → R h' tk') : wpAny (model PySem.Challenge.rw_nt0122_01.row.prog w) A (call (.builtin "isinstance") [.ref x, .ref 354]) Q E s :=
  node_isc X N hk hs (hm hr)
end Mine
end
section
open PySem PySem.W PyProof.Rows PySem.Spec PyProof.V
namespace Mine
theorem news_fun {h₀ h : Heap} {L : Addr} {l : List (Addr × Obj)} {p q : Addr × Obj} (N : News h₀ L h l) (hp : p ∈ l) (hq : q ∈ l) (e : p.1 = q.1) : p.2 = q.2 := by
  have a := (N p hp).1
  have b := (N q hq).1
  rw [e, b] at a
  exact (Option.some.inj a).symm
theorem tups_of (nw : List (Addr × Obj)) : ∃ pt : List (Addr × Obj), (∀ p ∈ pt, p ∈ nw ∧ p.2.cls = .type "tuple") ∧ ∀ p ∈ nw, p.2.cls = .type "tuple" → p ∈ pt := by
  classical
  refine ⟨nw.filter fun p => decide (p.2.cls = .type "tuple"), fun p hp => ?_, fun p hp e => ?_⟩
  · obtain ⟨h1, h2⟩ := List.mem_filter.mp hp
    exact ⟨h1, of_decide_eq_true h2⟩
  · exact List.mem_filter.mpr ⟨hp, decide_eq_true e⟩
noncomputable def FinT (os : List (Addr × Obj)) (w : World) (P dP row : Addr) (W : Rw) (tv : Value) (t : Tr) (r : Value) (l : List (Addr × Obj)) : Prop :=
  r = .ref P ∧ ∃ (k : PK) (xs : List Value) (n : Nat) (uR uN : Tok) (R N : Int), (P, instObj 780 dP) ∈ l ∧ (dP, progD w k R uR N uN) ∈ l ∧ (k.OL, listOf xs.toArray n) ∈ l ∧ OpsIn l xs (finOps (comp t 5 St0)) ∧ xs.length ≤ 1000 ∧ RowIn l row W ∧ TreeIn l tv t ∧ ∀ p ∈ os, p ∈ l
section
variable {w : World} {news os : List (Addr × Obj)} {dp un : Nat} {gd : Option (List Code)} {cn : Str} {cs : Scope} {a : Addr} {ccd : Value} {cl : List (Str × Addr)} {outer : List Env} {A₀ : Around} {base h₀ : Heap} {L : Addr} {m : Str → Option Value}
  {p : PySem.Program} {loose : List Str} {mean : ExcName → Option Value} {mg mb : Str → Option Value} {s : Shared} {Q E : Value → Shared → Prop}
theorem fin_use {P dP OL CO LD row : Addr} {W : Rw} {tv r0 : Value} {t : Tr} (N : News h₀ L s.heap news) (q : TopPost w P dP OL CO LD os (comp t 5 St0) r0 news)
    (B : Below A₀ base outer h₀) (F : Fr h₀ L s.heap m) (X : (hd.heap_39 w.params).In h₀) (T : Top p loose mean mg mb h₀) (hk : cs.kind = .function)
    (mP : (P, instObj 780 dP) ∈ os) (o1 : ∀ p ∈ os, p.1 ≠ OL) (o2 : ∀ p ∈ os, p.1 ≠ dP) (o3 : ∀ p ∈ os, p.1 ≠ LD) (d1 : @Ne Nat OL dP) (d2 : @Ne Nat OL LD) (d3 : @Ne Nat dP LD) (sm : (LD == sysModules) = false)
    (hR : RowIn os row W) (hT : TreeIn os tv t) (hd2 : t.depth ≤ 2) (hd : dp + 8 < recursionLimit) (hu : un + 8 * 8 < cLine)
    (ret : ∀ r news' h' tk', Fr h₀ L h' m → News h₀ L h' news' → FinT os w P dP row W tv t r news' → Q r { s with heap := h', toks := tk' }) :
    wpAny (model PySem.Challenge.rw_nt0122_01.row.prog w) (ktrTop dp un gd cn cs L a ccd cl outer) (call (.ref 777) [.ref P]) Q E s := by
  obtain ⟨k, xs, n, oL, nw, uR, uN, kO, kL, rfl, ha, b1, b2, b3, ho, hl⟩ := q
  subst kO; subst kL
  obtain ⟨es, rfl, hs, hE, hpw, hcl⟩ := es_of ho
  obtain ⟨pt, hp1, hp2⟩ := tups_of nw
  obtain ⟨ops0, lop, hops, hlast⟩ := comp_last t 5 St0
  have hN := comp_nd t 5 St0 nd0
  have hlen : (comp t 5 St0).ops.length ≤ 900 := by
    have h1 := comp_len t 5 St0
    have h2 := nops_21 hd2
    have h3 : St0.ops.length = 0 := rfl
    lia
  have hok : ∀ o ∈ (comp t 5 St0).ops, OpOk (comp t 5 St0).labs o := fun o ho => (comp_ok t 5 St0 (by decide) o ho).elim (fun h => nomatch h) id
  have hdis : ∀ p ∈ pt ++ os, ∀ q ∈ es, p.1 ≠ q.1 := fun p hp q hq e => by
    rcases List.mem_append.mp hp with hp | hp
    · have hm : ∀ x ∈ nw, x ∈ (k.OL, listOf (refs es).toArray n) :: (dP, progD w k (comp t 5 St0).R uR (comp t 5 St0).N uN) :: (k.LD, oL) :: (nw ++ os) := fun x hx => .tail _ (.tail _ (.tail _ (mem_apl hx)))
      have h1 := news_fun N (hm _ (hp1 p hp).1) (hm _ (hs q hq)) e
      have h2 := (hp1 p hp).2
      rw [h1, hcl q hq] at h2
      exact absurd h2 (by decide)
    · exact ha p hp q (hs q hq) e.symm
  have D := fin_does (w := w) (P := P) (dP := dP) (k := k) (R := (comp t 5 St0).R) (N0 := (comp t 5 St0).N) (uR := uR) (uN := uN) (oL := oL) (es := es) (os := pt ++ os) (n := n) (labs := (comp t 5 St0).labs) (mem_apr mP) hops hlast
    ((es_tuples hE pt hp2).mono fun _ => mem_apl) hpw hdis (fun q hq => b1 q (hs q hq)) (fun q hq => b2 q (hs q hq)) (fun q hq => b3 q (hs q hq))
    (off_app (fun p hp => b1 p (hp1 p hp).1) o1) (off_app (fun p hp => b2 p (hp1 p hp).1) o2) (off_app (fun p hp => b3 p (hp1 p hp).1) o3) d1 d2 d3 sm hl hN.d (fun p hp => (hN.o p hp).2) hok hlen
  refine use0 D B F X (news_sub N fun x hx => ?_) T hk hd hu fun r news' h' tk' F' N' q' => ret r news' h' tk' F' N' ?_
  · rcases List.mem_cons.mp hx with rfl | hx
    · exact .head _
    · rcases List.mem_cons.mp hx with rfl | hx
      · exact .tail _ (.head _)
      · rcases List.mem_cons.mp hx with rfl | hx
        · exact .tail _ (.tail _ (.head _))
        · refine .tail _ (.tail _ (.tail _ ?_))
          rcases List.mem_append.mp hx with hx | hx
          · exact mem_apl (hs _ hx)
          · rcases List.mem_append.mp hx with hx | hx
            · exact mem_apl (hp1 _ hx).1
            · exact mem_apr hx
  · obtain ⟨es', n', rfl, rfl, hE', hp'⟩ := q'
    have sub : ∀ x ∈ es' ++ (pt ++ os), x ∈ (k.OL, listOf (refs es').toArray n') :: (dP, progD w k (comp t 5 St0).R uR (comp t 5 St0).N uN) :: (k.LD, oL) :: (es' ++ (pt ++ os)) := fun x hx => .tail _ (.tail _ (.tail _ hx))
    refine ⟨rfl, k, refs es', n', uR, uN, _, _, sub _ (mem_apr (mem_apr mP)), .tail _ (.head _), .head _, (ops_of hE' hp').mono sub, ?_, hR.mono fun x hx => sub _ (mem_apr (mem_apr hx)), hT.mono fun x hx => sub _ (mem_apr (mem_apr hx)), fun x hx => sub _ (mem_apr (mem_apr hx))⟩
    have h1 : (refs es').length = es'.length := by simp [refs]
    have h2 := hE'.len
    rw [List.length_map, List.length_append] at h2
    rw [h1, h2]
    show _ + 1 ≤ _
    lia
end
end Mine
end
section
open PySem PySem.W PyProof.Rows PySem.Spec PyProof.V
namespace Mine
noncomputable def valD : Option Int → Dat
  | none => .none
  | some i => .int i
noncomputable def tdD (td : Td) : Dat := .tuple [.str (Str.ofString td.nm), .list (td.vals.map valD), .str (Str.ofString td.co)]
theorem val_dat {os : List (Addr × Obj)} {v : Value} {y : Option Int} (h : IsVal v y) : DatIn os v (valD y) := by
  cases h with
  | none => exact .none
  | int _ _ => exact .int _ _
theorem vals_dat {os : List (Addr × Obj)} {vs : List Value} {ys : List (Option Int)} (h : ValsAre vs ys) : DatAll os vs (ys.map valD) := by
  induction h with
  | nil => exact .nil
  | cons h1 _ ih => exact .cons (val_dat h1) ih
theorem td_dat {os : List (Addr × Obj)} {v : Value} {td : Td} (h : TdIn os v td) : DatIn os v (tdD td) := by
  cases h with
  | mk h1 h2 h3 => exact .tuple h1 (.cons (.str _ _) (.cons (.list h2 (vals_dat h3)) (.cons (.str _ _) .nil)))
theorem dat_snoc {os : List (Addr × Obj)} {d : Dat} {v : Value} : ∀ {vs : List Value} {ds : List Dat}, DatAll os vs ds → DatIn os v d → DatAll os (vs ++ [v]) (ds ++ [d])
  | _, _, .nil, h => .cons h .nil
  | _, _, .cons h1 h2, h => .cons h1 (dat_snoc h2 h)
theorem tds_dat {os : List (Addr × Obj)} {vs : List Value} {tds : List Td} (h : TdsIn os vs tds) : DatAll os vs (tds.map tdD) := by
  induction h with
  | nil => exact .nil
  | snoc _ h2 ih => rw [List.map_append]; exact dat_snoc ih (td_dat h2)
theorem strOk_all (s : String) : PyData.strOk (Str.ofString s) = true := by
  rw [Str.ofString_eq_toList]
  unfold PyData.strOk
  rw [Array.all_eq_true']
  intro x hx
  obtain ⟨c, _, rfl⟩ := List.mem_map.mp (List.mem_toArray.mp hx)
  refine decide_eq_true ?_
  have := c.valid
  rcases this with h | h
  · exact Nat.lt_trans h (by decide)
  · exact h.2
theorem td_ok (td : Td) : kqdOk 8 (tdD td) = true := by
  simp only [tdD, kqdOk, List.all_cons, List.all_nil, strOk_all, Bool.and_true, Bool.true_and, List.all_eq_true, List.mem_map]
  rintro _ ⟨y, _, rfl⟩
  cases y <;> rfl
theorem told_eq {prog : PySem.Program} {w : World} {A : Around} {E : Value → Shared → Prop} {s : Shared} {h₀ : Heap} {L a b : Addr} {news : List (Addr × Obj)} {T T' : List Value} {n n' : Nat} {tds : List Td} {Q : Value → Shared → Prop} (N : News h₀ L s.heap news) (ma : (a, listOf T.toArray n) ∈ news) (mb : (b, listOf T'.toArray n') ∈ news)
    (D : TdsIn news T tds) (D' : TdsIn news T' tds) (hu : A.units + 64 < cLine) (h : Q (.bool true) s) : wpAny (model prog w) A (compareOp .Eq (.ref a) (.ref b)) Q E s := by
  have hok : ∀ d ∈ tds.map tdD, kqdOk 8 d = true := fun d hd => by
    obtain ⟨td, _, rfl⟩ := List.mem_map.mp hd
    exact td_ok td
  refine kqd_eq N ma rfl rfl (tds_dat D) (fun _ h => h) mb rfl rfl (tds_dat D') (fun _ h => h) hok hok hu (by simpa using h)
end Mine
end
section
open PySem PySem.W PyProof.Rows PySem.Spec PyProof.V
namespace Mine
theorem isVal_of3 {v : Value} {a b : Int} {t u : Tok} (h : v ∈ [Value.none, .int a t, .int b u]) (a0 : 0 ≤ a) (a1 : a < 10) (b0 : 0 ≤ b) (b1 : b < 10) : ∃ y, IsVal v y := by
  simp only [List.mem_cons, List.not_mem_nil, or_false] at h
  rcases h with rfl | rfl | rfl
  · exact ⟨_, .none⟩
  · exact ⟨_, .int a0 a1⟩
  · exact ⟨_, .int b0 b1⟩
theorem row_of {os : List (Addr × Obj)} {rw : Addr} {v0 v1 v2 : Value} {k : Nat} (h : (rw, tupO [v0, v1, v2] k) ∈ os) (h0 : ∃ y, IsVal v0 y) (h1 : ∃ y, IsVal v1 y) (h2 : ∃ y, IsVal v2 y) : ∃ W, RowIn os rw W := by
  obtain ⟨y0, h0⟩ := h0
  obtain ⟨y1, h1⟩ := h1
  obtain ⟨y2, h2⟩ := h2
  exact ⟨⟨y0, y1, y2⟩, v0, v1, v2, k, h, h0, h1, h2⟩
theorem held_of {w : World} {o : Obj} {v0 v1 v2 : Value} {W : Rw} {a b c : Int} (hd : o.IsDictOf (intKind PGm w) [(a, v0), (b, v1), (c, v2)]) (ea : a = 2) (eb : b = 3) (ec : c = 4) (h0 : IsVal v0 W.r0) (h1 : IsVal v1 W.r1) (h2 : IsVal v2 W.r2) : ∃ H, Held w o H 3 ∧ Cols W H := by
  subst ea; subst eb; subst ec
  refine ⟨fun r => if r = 2 then W.r0 else if r = 3 then W.r1 else if r = 4 then W.r2 else none, ⟨_, hd, Nat.le_refl _, fun r => ?_⟩, by simp [Cols]⟩
  unfold valueAt
  by_cases q2 : r = 2
  · subst q2; simpa using h0
  · have p2 : ¬ (2 : Int) = r := fun e => q2 e.symm
    by_cases q3 : r = 3
    · subst q3; simpa using h1
    · have p3 : ¬ (3 : Int) = r := fun e => q3 e.symm
      by_cases q4 : r = 4
      · subst q4; simpa using h2
      · have p4 : ¬ (4 : Int) = r := fun e => q4 e.symm
        simp only [q2, q3, q4, if_false, List.find?_cons, List.find?_nil, p2, p3, p4, decide_false, Option.map_none, Option.getD_none]
        exact .none
noncomputable def RunT (w : World) (HD tl : Addr) (W : Rw) (t : Tr) (os : List (Addr × Obj)) (r : Value) (l : List (Addr × Obj)) : Prop :=
  ∃ oH H' T n nw, r = .bool true ∧ l = (HD, oH) :: (tl, listOf (List.toArray T) n) :: (nw ++ os) ∧ Held w oH H' 30 ∧ H' 5 = fnd W t ∧ TdsIn nw T (tld W t) ∧ Apart os nw ∧ (∀ p ∈ nw, p.1 ≠ HD) ∧ ∀ p ∈ nw, p.1 ≠ tl
section Cur
variable {h₀ : Heap} {L : Addr} {m : Str → Option Value} {gn dr oo} {Q : Value → Shared → Prop}
theorem cur_run {w : World} {HD tl : Addr} {W : Rw} {t : Tr} {os : List (Addr × Obj)} {fI : List (Addr × Obj) → List (Addr × Obj)} (I : InsF os fI)
    (ret : ∀ (oH8 : Obj) (H8 : Int → Option Int) (T8 : List Value) (n8 : Nat) (nwR : List (Addr × Obj)) (h' : Heap) (tk' : Nat), Fr h₀ L h' m → let x1 : Addr × Obj := (HD, oH8); let x2 : Addr × Obj := (tl, listOf (List.toArray T8) n8); let l := x1 :: x2 :: fI nwR; News h₀ L h' l → Held w oH8 H8 30 → H8 5 = fnd W t → TdsIn nwR T8 (tld W t) → Apart os nwR → (∀ p ∈ nwR, p.1 ≠ HD) → (∀ p ∈ nwR, p.1 ≠ tl) → Q (.bool true) ⟨h', gn, dr, tk', oo⟩) :
    ∀ r news' h' tk', Fr h₀ L h' m → News h₀ L h' news' → RunT w HD tl W t os r news' → Q r ⟨h', gn, dr, tk', oo⟩ := by
  rintro _ _ h' tk' F N ⟨oH8, H8, T8, n8, nw, rfl, rfl, a, b, c, d, e, f⟩; exact ret oH8 H8 T8 n8 nw h' tk' F (news_ins2 N (I.insT nw)) a b c d e f
end Cur
theorem run_top {w : World} {t : Tr} {OL HD tl : Addr} {xs : List Value} {n n2 : Nat} {oH : Obj} {H : Int → Option Int} {W : Rw} {os : List (Addr × Obj)} (hO : (OL, listOf xs.toArray n) ∈ os) (ho : OpsIn os xs (finOps (comp t 5 St0))) (hx : xs.length ≤ 1000) (hH : Held w oH H 3) (hC : Cols W H) (hd2 : t.depth ≤ 2) (hlo : (HD == sysModules) = false) (hHo : ∀ p ∈ os, p.1 ≠ HD) (hto : ∀ p ∈ os, p.1 ≠ tl) (hHt : @Ne Nat HD tl) :
    Does w 837 12 [.ref OL, .ref HD, .ref tl] ((HD, oH) :: (tl, listOf ([] : List Value).toArray n2) :: os) (RunT w HD tl W t os) := by
  obtain ⟨k, H', hk, hr, h5, hh⟩ := plain_law W t hd2 H hC
  refine (run_does (os := os) (osm := []) (stk := ⟨((comp t 5 St0).ops.length : Int), H', tld W t⟩) hO ho hx hH hlo hHo hto hHt hr hk (Int.ofNat_nonneg _) ?_).mono fun r l h => ?_
  · simpa using hh
  · obtain ⟨oH', T, n, nw, e1, e2, h1, h2, h3, h4, h5'⟩ := h
    rw [List.append_nil] at h2
    exact ⟨oH', H', T, n, nw, e1, e2, h1, h5, h2, h3, h4, h5'⟩
theorem isVal_at {v : Value} {H : Int → Option Int} {r : Int} {y : Option Int} (h : IsVal v (H r)) (e : r = 5) (k : H 5 = y) : IsVal v y := by
  subst e; rw [← k]; exact h
theorem nops_900 {t : Tr} (h : t.depth ≤ 2) : ([] : List Td).length + t.nops ≤ 900 := by
  have := nops_21 h
  simp only [List.length_nil]; lia
theorem news_drop {h₀ h : Heap} {L : Addr} {e : Addr × Obj} {l : List (Addr × Obj)} (N : News h₀ L h (e :: l)) : News h₀ L h l := fun p hp => N p (.tail _ hp)
end Mine
end
section
open PySem PySem.W PyProof.Rows PySem.Spec PyProof.V
namespace Mine
structure G0 (P dP OL LD Kc dK BD BT CL rw ck : Addr) (oB oC : Obj) (b1 b2 : Tok) (bn : Nat) (z : Int) (tv : Value) (t : Tr) (W : Rw) (os : List (Addr × Obj)) : Prop where
  iP : (P, instObj 780 dP) ∈ os
  iK : (Kc, instObj 686 dK) ∈ os
  iB : (BD, oB) ∈ os
  iT : (BT, tupO [.str (Str.ofString "registers") b1, .int z b2] bn) ∈ os
  iC : (ck, oC) ∈ os
  row : RowIn os rw W
  tree : TreeIn os tv t
  o1 : ∀ p ∈ os, p.1 ≠ CL
  o2 : ∀ p ∈ os, p.1 ≠ dK
  o3 : ∀ p ∈ os, p.1 ≠ dP
  o4 : ∀ p ∈ os, p.1 ≠ OL
  o5 : ∀ p ∈ os, p.1 ≠ LD
  d12 : @Ne Nat CL dK
  d13 : @Ne Nat CL dP
  d14 : @Ne Nat CL OL
  d15 : @Ne Nat CL LD
  d23 : @Ne Nat dK dP
  d24 : @Ne Nat dK OL
  d25 : @Ne Nat dK LD
  d34 : @Ne Nat dP OL
  d35 : @Ne Nat dP LD
  d45 : @Ne Nat OL LD
theorem gen0 {w : World} {h₀ h : Heap} {L P dP OL CO LD Kc dK BD BT AG CL rw ck : Addr} {oB oC oL : Obj} {b1 b2 ku a1 a2 a3 t1 t2 t3 t4 t5 t6 t7 t8 u3 u4 u5 u8 : Tok} {bn k9 n1 n4 : Nat} {z kz z3 z8 : Int} {tv v0 v1 v2 : Value} {t : Tr} {l r1 r2 r3 r4 r5 : List (Addr × Obj)} {Goal : Prop} (N : News h₀ L h l)
    (mP : (P, instObj 780 dP) ∈ l) (mK : (Kc, instObj 686 dK) ∈ l) (mdK : (dK, dictOf [ent w "program" a1 (.ref P), ent w "bindings" a2 (.ref BD), ent w "aggregates" a3 (.ref AG)] 3) ∈ l)
    (mdP : (dP, dictOf [ent w "ops" t1 (.ref OL), ent w "columns" t2 (.ref CO), ent w "registers" t3 (.int z3 u3), ent w "cursors" t4 (.int 0 u4), ent w "slots" t5 (.int 0 u5), ent w "writes" t6 (.bool false), ent w "labels" t7 (.ref LD), ent w "next_label" t8 (.int z8 u8)] 8) ∈ l)
    (hB : oB.IsDictOf (intKind PGm w) [(4, .ref BT)]) (hC : oC.data = Data.cell (some (.int kz ku)))
    (P1 : Pick (CL, listOf #[] n1) l r1) (P2 : Pick (dK, dictOf [ent w "program" a1 (.ref P), ent w "bindings" a2 (.ref BD), ent w "aggregates" a3 (.ref AG)] 3) r1 r2)
    (P3 : Pick (dP, dictOf [ent w "ops" t1 (.ref OL), ent w "columns" t2 (.ref CO), ent w "registers" t3 (.int z3 u3), ent w "cursors" t4 (.int 0 u4), ent w "slots" t5 (.int 0 u5), ent w "writes" t6 (.bool false), ent w "labels" t7 (.ref LD), ent w "next_label" t8 (.int z8 u8)] 8) r2 r3)
    (P4 : Pick (OL, listOf #[] n4) r3 r4) (P5 : Pick (LD, oL) r4 r5)
    (iP : (P, instObj 780 dP) ∈ r5) (iK : (Kc, instObj 686 dK) ∈ r5) (iB : (BD, oB) ∈ r5) (iT : (BT, tupO [.str (Str.ofString "registers") b1, .int z b2] bn) ∈ r5) (iC : (ck, oC) ∈ r5)
    (iR : (rw, tupO [v0, v1, v2] k9) ∈ r5) (q0 : ∃ y, IsVal v0 y) (q1 : ∃ y, IsVal v1 y) (q2 : ∃ y, IsVal v2 y) (iX : TreeIn r5 tv t)
    (o1 : ∀ p ∈ r5, p.1 ≠ CL) (o2 : ∀ p ∈ r5, p.1 ≠ dK) (o3 : ∀ p ∈ r5, p.1 ≠ dP) (o4 : ∀ p ∈ r5, p.1 ≠ OL) (o5 : ∀ p ∈ r5, p.1 ≠ LD)
    (d : (@Ne Nat CL dK ∧ @Ne Nat CL dP ∧ @Ne Nat CL OL ∧ @Ne Nat CL LD) ∧ (@Ne Nat dK dP ∧ @Ne Nat dK OL ∧ @Ne Nat dK LD) ∧ @Ne Nat dP OL ∧ @Ne Nat dP LD ∧ @Ne Nat OL LD)
    (k : (∃ os W, News h₀ L h ((CL, listOf #[] n1) :: (dK, dictOf [ent w "program" a1 (.ref P), ent w "bindings" a2 (.ref BD), ent w "aggregates" a3 (.ref AG)] 3) :: (dP, dictOf [ent w "ops" t1 (.ref OL), ent w "columns" t2 (.ref CO), ent w "registers" t3 (.int z3 u3), ent w "cursors" t4 (.int 0 u4), ent w "slots" t5 (.int 0 u5), ent w "writes" t6 (.bool false), ent w "labels" t7 (.ref LD), ent w "next_label" t8 (.int z8 u8)] 8) :: (OL, listOf #[] n4) :: (LD, oL) :: os) ∧
      G0 P dP OL LD Kc dK BD BT CL rw ck oB oC b1 b2 bn z tv t W os) → Goal) : Goal := by
  obtain ⟨W, hR⟩ := row_of iR q0 q1 q2
  obtain ⟨⟨d1, d2, d3, d4⟩, ⟨d5, d6, d7⟩, d8, d9, d10⟩ := d
  exact k ⟨r5, W, news_sub N (sub_pick P1 (sub_pick P2 (sub_pick P3 (sub_pick P4 P5.sub)))), iP, iK, iB, iT, iC, hR, iX, o1, o2, o3, o4, o5, d1, d2, d3, d4, d5, d6, d7, d8, d9, d10⟩
theorem gen815 {A : Around} {Q E : Value → Shared → Prop} {s : Shared} {w : World} {h₀ : Heap} {L P dP OL CO LD Kc dK BD BT AG CL rw ck : Addr} {oB oC oL : Obj} {b1 b2 ku a1 a2 a3 t1 t2 t3 t4 t5 t6 t7 t8 u3 u4 u5 u8 : Tok} {bn k9 n1 n4 : Nat} {z kz z3 z8 : Int} {tv v0 v1 v2 : Value} {t : Tr} {l r1 r2 r3 r4 r5 : List (Addr × Obj)} (N : News h₀ L s.heap l)
    (mP : (P, instObj 780 dP) ∈ l) (mK : (Kc, instObj 686 dK) ∈ l) (mdK : (dK, dictOf [ent w "program" a1 (.ref P), ent w "bindings" a2 (.ref BD), ent w "aggregates" a3 (.ref AG)] 3) ∈ l)
    (mdP : (dP, dictOf [ent w "ops" t1 (.ref OL), ent w "columns" t2 (.ref CO), ent w "registers" t3 (.int z3 u3), ent w "cursors" t4 (.int 0 u4), ent w "slots" t5 (.int 0 u5), ent w "writes" t6 (.bool false), ent w "labels" t7 (.ref LD), ent w "next_label" t8 (.int z8 u8)] 8) ∈ l)
    (hB : oB.IsDictOf (intKind PGm w) [(4, .ref BT)]) (hC : oC.data = Data.cell (some (.int kz ku)))
    (P1 : Pick (CL, listOf #[] n1) l r1) (P2 : Pick (dK, dictOf [ent w "program" a1 (.ref P), ent w "bindings" a2 (.ref BD), ent w "aggregates" a3 (.ref AG)] 3) r1 r2)
    (P3 : Pick (dP, dictOf [ent w "ops" t1 (.ref OL), ent w "columns" t2 (.ref CO), ent w "registers" t3 (.int z3 u3), ent w "cursors" t4 (.int 0 u4), ent w "slots" t5 (.int 0 u5), ent w "writes" t6 (.bool false), ent w "labels" t7 (.ref LD), ent w "next_label" t8 (.int z8 u8)] 8) r2 r3)
    (P4 : Pick (OL, listOf #[] n4) r3 r4) (P5 : Pick (LD, oL) r4 r5)
    (iP : (P, instObj 780 dP) ∈ r5) (iK : (Kc, instObj 686 dK) ∈ r5) (iB : (BD, oB) ∈ r5) (iT : (BT, tupO [.str (Str.ofString "registers") b1, .int z b2] bn) ∈ r5) (iC : (ck, oC) ∈ r5)
    (iR : (rw, tupO [v0, v1, v2] k9) ∈ r5) (q0 : ∃ y, IsVal v0 y) (q1 : ∃ y, IsVal v1 y) (q2 : ∃ y, IsVal v2 y) (iX : TreeIn r5 tv t)
    (o1 : ∀ p ∈ r5, p.1 ≠ CL) (o2 : ∀ p ∈ r5, p.1 ≠ dK) (o3 : ∀ p ∈ r5, p.1 ≠ dP) (o4 : ∀ p ∈ r5, p.1 ≠ OL) (o5 : ∀ p ∈ r5, p.1 ≠ LD)
    (d : (@Ne Nat CL dK ∧ @Ne Nat CL dP ∧ @Ne Nat CL OL ∧ @Ne Nat CL LD) ∧ (@Ne Nat dK dP ∧ @Ne Nat dK OL ∧ @Ne Nat dK LD) ∧ @Ne Nat dP OL ∧ @Ne Nat dP LD ∧ @Ne Nat OL LD)
    (k : (∃ os W, News h₀ L s.heap ((CL, listOf #[] n1) :: (dK, dictOf [ent w "program" a1 (.ref P), ent w "bindings" a2 (.ref BD), ent w "aggregates" a3 (.ref AG)] 3) :: (dP, dictOf [ent w "ops" t1 (.ref OL), ent w "columns" t2 (.ref CO), ent w "registers" t3 (.int z3 u3), ent w "cursors" t4 (.int 0 u4), ent w "slots" t5 (.int 0 u5), ent w "writes" t6 (.bool false), ent w "labels" t7 (.ref LD), ent w "next_label" t8 (.int z8 u8)] 8) :: (OL, listOf #[] n4) :: (LD, oL) :: os) ∧
      G0 P dP OL LD Kc dK BD BT CL rw ck oB oC b1 b2 bn z tv t W os) → wpAny (model PySem.Challenge.rw_nt0122_01.row.prog w) A (call (.ref 815) [tv, .ref CL]) Q E s) : wpAny (model PySem.Challenge.rw_nt0122_01.row.prog w) A (call (.ref 815) [tv, .ref CL]) Q E s :=
  gen0 N mP mK mdK mdP hB hC P1 P2 P3 P4 P5 iP iK iB iT iC iR q0 q1 q2 iX o1 o2 o3 o4 o5 d k
theorem mem3 {α : Type} {a b c d : α} {l : List α} (h : a ∈ l) : a ∈ b :: c :: d :: l := .tail _ (.tail _ (.tail _ h))
theorem Kd.mono {w : World} {os os' : List (Addr × Obj)} {x : Addr} {t : Tr} {b : Bool} (hs : ∀ p ∈ os, p ∈ os') (h : Kd w os x t b) : Kd w os' x t b := by
  cases h with
  | call h1 h2 h3 h4 => exact .call (hs _ h1) (hs _ h2) h3 h4
  | leaf h1 h2 h3 => exact .leaf (hs _ h1) (hs _ h2) h3
structure J1 (w : World) (P dP OL CO LD Kc dK BD BT AG rw ck x : Addr) (oC : Obj) (K : List Value) (t : Tr) (b : Bool) (tv : Value) (W : Rw) (os : List (Addr × Obj)) : Prop where
  top : TopC w P dP OL CO LD Kc dK BD BT AG K os
  node : NodeIn w os K (.ref x) t
  kd : Kd w os x t b
  row : RowIn os rw W
  tree : TreeIn os tv t
  iP : (P, instObj 780 dP) ∈ os
  iK : (Kc, instObj 686 dK) ∈ os
  iD : ∃ a1 a2 a3, (dK, dictOf [ent w "program" a1 (.ref P), ent w "bindings" a2 (.ref BD), ent w "aggregates" a3 (.ref AG)] 3) ∈ os
  iC : (ck, oC) ∈ os
theorem gen1 {A : Around} {Q E : Value → Shared → Prop} {s : Shared} {w : World} {h₀ : Heap} {L P dP OL CO LD Kc dK BD BT AG rw ck x : Addr} {oB oC oL : Obj} {b1 b2 ku a1 a2 a3 t1 t2 t3 t4 t5 t6 t7 t8 u3 u4 u5 u8 : Tok} {bn n4 : Nat} {z kz z3 z8 ka : Int} {tv : Value} {t : Tr} {b : Bool} {W : Rw} {K ys : List Value} {l nw nwA r1 r2 r3 : List (Addr × Obj)} (N : News h₀ L s.heap l)
    (hkd : Kd w nw x t b) (mP : (P, instObj 780 dP) ∈ l) (mK : (Kc, instObj 686 dK) ∈ l) (mdK : (dK, dictOf [ent w "program" a1 (.ref P), ent w "bindings" a2 (.ref BD), ent w "aggregates" a3 (.ref AG)] 3) ∈ l)
    (mdP : (dP, dictOf [ent w "ops" t1 (.ref OL), ent w "columns" t2 (.ref CO), ent w "registers" t3 (.int z3 u3), ent w "cursors" t4 (.int 0 u4), ent w "slots" t5 (.int 0 u5), ent w "writes" t6 (.bool false), ent w "labels" t7 (.ref LD), ent w "next_label" t8 (.int z8 u8)] 8) ∈ l)
    (hB : oB.IsDictOf (intKind PGm w) [(4, .ref BT)]) (hC : oC.data = Data.cell (some (.int kz ku)))
    (P1 : Pick (OL, listOf #[] n4) l r1) (P2 : Pick (dP, dictOf [ent w "ops" t1 (.ref OL), ent w "columns" t2 (.ref CO), ent w "registers" t3 (.int z3 u3), ent w "cursors" t4 (.int 0 u4), ent w "slots" t5 (.int 0 u5), ent w "writes" t6 (.bool false), ent w "labels" t7 (.ref LD), ent w "next_label" t8 (.int z8 u8)] 8) r1 r2)
    (P3 : Pick (LD, oL) r2 r3)
    (iP : (P, instObj 780 dP) ∈ r3) (iK : (Kc, instObj 686 dK) ∈ r3) (idK : (dK, dictOf [ent w "program" a1 (.ref P), ent w "bindings" a2 (.ref BD), ent w "aggregates" a3 (.ref AG)] 3) ∈ r3) (iB : (BD, oB) ∈ r3) (iT : (BT, tupO [.str (Str.ofString "registers") b1, .int z b2] bn) ∈ r3) (ez : z = 2) (iC : (ck, oC) ∈ r3)
    (sB : (BD == sysModules) = false) (sL : (LD == sysModules) = false) (ht : TupsAt ka nwA ys K) (ea : ka = 4) (hs1 : ∀ p ∈ nwA, p ∈ r3) (ml : (AG, LCg.lst ys) ∈ r3) (hK : K.length ≤ t.sz) (ht9 : t.sz ≤ 9)
    (hs2 : ∀ p ∈ nw, p ∈ r3) (kn : ∀ c ∈ K, KnownAt w nw c) (iN : NodeIn w nw K (.ref x) t) (iR : RowIn r3 rw W) (iX : TreeIn r3 tv t)
    (o1 : ∀ p ∈ r3, p.1 ≠ OL) (o2 : ∀ p ∈ r3, p.1 ≠ dP) (o3 : ∀ p ∈ r3, p.1 ≠ LD) (d1 : @Ne Nat OL dP) (d2 : @Ne Nat OL LD) (d3 : @Ne Nat dP LD)
    (k : (∃ os, News h₀ L s.heap ((OL, listOf #[] n4) :: (dP, dictOf [ent w "ops" t1 (.ref OL), ent w "columns" t2 (.ref CO), ent w "registers" t3 (.int z3 u3), ent w "cursors" t4 (.int 0 u4), ent w "slots" t5 (.int 0 u5), ent w "writes" t6 (.bool false), ent w "labels" t7 (.ref LD), ent w "next_label" t8 (.int z8 u8)] 8) :: (LD, oL) :: os) ∧
      J1 w P dP OL CO LD Kc dK BD BT AG rw ck x oC K t b tv W os) → wpAny (model PySem.Challenge.rw_nt0122_01.row.prog w) A (call (.builtin "isinstance") [.ref x, .ref 354]) Q E s) : wpAny (model PySem.Challenge.rw_nt0122_01.row.prog w) A (call (.builtin "isinstance") [.ref x, .ref 354]) Q E s := by
  subst ea
  have hK9 : K.length ≤ 1000 := by lia
  refine k ⟨r3, news_sub N (sub_pick P1 (sub_pick P2 P3.sub)), ⟨iK, ⟨_, _, _, idK⟩, iP, ⟨_, iB, hB⟩, ⟨_, _, _, _, iT, ez⟩, sB, fun c e => agg_in ht hs1 (n := ys.length) (by rw [e]; exact ml) hK9, fun c h => (kn c h).mono hs2, o1, o2, o3, d1, d2, d3, sL⟩, NodeIn.mono hs2 (fun _ h => h) iN, hkd.mono hs2, iR, iX, iP, iK, ⟨_, _, _, idK⟩, iC⟩
noncomputable def RestP (p : Prop) : Prop := p
noncomputable def RTy : Type := Heap → Nat → Prop
theorem law_join2 {w : World} {A : Around} {E : Value → Shared → Prop} {s : Shared} {h₀ : Heap} {L x P dP OL CO LD : Addr} {t : Tr} {b : Bool} {os news : List (Addr × Obj)} {m : Str → Option Value} {Q : Value → Shared → Prop} {R : RTy} {Kc dK BD BT AG : Addr} {K : List Value} (X : (hd.heap_39 w.params).In s.heap) (N : News h₀ L s.heap news) (F : Fr h₀ L s.heap m) (jt0 : TopC w P dP OL CO LD Kc dK BD BT AG K os) (jn0 : NodeIn w os K (.ref x) t) (hk : Kd w os x t b) (hs : ∀ p ∈ os, p ∈ news)
    (h1 : (∀ r h' tk' l, Fr h₀ L h' m → News h₀ L h' l → TopPost w P dP OL CO LD os (comp t 5 St0) r l → R h' tk') → ∀ k dx dob, (x, instObj 354 dx) ∈ os → (dx, dob) ∈ os → (∀ y, t ≠ .val y) → (∀ i, t ≠ .col i) → Q (.bool true) { s with toks := k })
    (h2 : (∀ r h' tk' l, Fr h₀ L h' m → News h₀ L h' l → TopPost w P dP OL CO LD os (comp t 5 St0) r l → R h' tk') → ∀ k, Q (.bool false) { s with toks := k })
    (hr : RestP (∀ r h' tk' l, Fr h₀ L h' m → News h₀ L h' l → TopPost w P dP OL CO LD os (comp t 5 St0) r l → R h' tk')) : wpAny (model PySem.Challenge.rw_nt0122_01.row.prog w) A (call (.builtin "isinstance") [.ref x, .ref 354]) Q E s := by
  refine node_isc X N hk hs fun k => ?_
  cases hk with
  | call m1 m2 m3 m4 => exact h1 hr k _ _ m1 m2 m3 m4
  | leaf m1 m2 m3 => exact h2 hr k
end Mine
end
section
open PySem PySem.W PyProof.Rows
namespace Mine
section
variable {w : World} {news os : List (Addr × Obj)} {dp un : Nat} {gd : Option (List Code)} {cn : Str} {cs : Scope} {a : Addr} {ccd : Value} {cl : List (Str × Addr)} {outer : List Env} {A₀ : Around} {base h₀ : Heap} {L : Addr} {m : Str → Option Value}
  {p : Program} {loose : List Str} {mean : ExcName → Option Value} {mg mb : Str → Option Value} {s : Shared} {Q E : Value → Shared → Prop} {P dP OL CO LD : Addr} {t1 t2 t3 t4 t5 t6 t7 t8 u3 u4 u5 u8 um : Tok} {z3 z8 zm : Int}
theorem law_reg1 (N : News h₀ L s.heap news) (um1 : (P, instObj 780 dP) ∈ news) (um2 : (dP, dictOf [ent w "ops" t1 (.ref OL), ent w "columns" t2 (.ref CO), ent w "registers" t3 (.int z3 u3), ent w "cursors" t4 (.int 0 u4), ent w "slots" t5 (.int 0 u5), ent w "writes" t6 (.bool false), ent w "labels" t7 (.ref LD), ent w "next_label" t8 (.int z8 u8)] 8) ∈ news)
    (B : Below A₀ base outer h₀) (F : Fr h₀ L s.heap m) (X : (hd.heap_39 w.params).In h₀) (T : Top p loose mean mg mb h₀) (hk : cs.kind = .function)
    (P1 : Pick (dP, dictOf [ent w "ops" t1 (.ref OL), ent w "columns" t2 (.ref CO), ent w "registers" t3 (.int z3 u3), ent w "cursors" t4 (.int 0 u4), ent w "slots" t5 (.int 0 u5), ent w "writes" t6 (.bool false), ent w "labels" t7 (.ref LD), ent w "next_label" t8 (.int z8 u8)] 8) news os)
    (hP : (P, instObj 780 dP) ∈ os) (ho : ∀ p ∈ os, p.1 ≠ dP) (hd : dp + 2 < recursionLimit) (hu : un + 8 * 2 < cLine)
    (ret : ∀ h' tk' u uR, Fr h₀ L h' m → News h₀ L h' ((dP, dictOf [ent w "ops" t1 (.ref OL), ent w "columns" t2 (.ref CO), ent w "registers" t3 (.int (z3 + 1) uR), ent w "cursors" t4 (.int 0 u4), ent w "slots" t5 (.int 0 u5), ent w "writes" t6 (.bool false), ent w "labels" t7 (.ref LD), ent w "next_label" t8 (.int z8 u8)] 8) :: os) → Q (.int z3 u) { s with heap := h', toks := tk' }) :
    wpAny (model PySem.Challenge.rw_nt0122_01.row.prog w) (ktrTop dp un gd cn cs L a ccd cl outer) (call (.ref 741) [.ref P]) Q E s :=
  use1 (reg1_does w P dP ⟨t1, t2, t3, t4, t5, t6, t7, t8, u4, u5, OL, CO, LD⟩ z3 z8 u3 u8 os hP ho) B F X N T hk P1 hd hu fun r n h' tk' F' N' q' => by
    obtain ⟨u, uR, rfl, rfl⟩ := q'
    exact ret h' tk' u uR F' N'
theorem law_regn (N : News h₀ L s.heap news) (um1 : (P, instObj 780 dP) ∈ news) (um2 : (dP, dictOf [ent w "ops" t1 (.ref OL), ent w "columns" t2 (.ref CO), ent w "registers" t3 (.int z3 u3), ent w "cursors" t4 (.int 0 u4), ent w "slots" t5 (.int 0 u5), ent w "writes" t6 (.bool false), ent w "labels" t7 (.ref LD), ent w "next_label" t8 (.int z8 u8)] 8) ∈ news)
    (B : Below A₀ base outer h₀) (F : Fr h₀ L s.heap m) (X : (hd.heap_39 w.params).In h₀) (T : Top p loose mean mg mb h₀) (hk : cs.kind = .function)
    (P1 : Pick (dP, dictOf [ent w "ops" t1 (.ref OL), ent w "columns" t2 (.ref CO), ent w "registers" t3 (.int z3 u3), ent w "cursors" t4 (.int 0 u4), ent w "slots" t5 (.int 0 u5), ent w "writes" t6 (.bool false), ent w "labels" t7 (.ref LD), ent w "next_label" t8 (.int z8 u8)] 8) news os)
    (hP : (P, instObj 780 dP) ∈ os) (ho : ∀ p ∈ os, p.1 ≠ dP) (hd : dp + 2 < recursionLimit) (hu : un + 8 * 2 < cLine)
    (ret : ∀ h' tk' u uR, Fr h₀ L h' m → News h₀ L h' ((dP, dictOf [ent w "ops" t1 (.ref OL), ent w "columns" t2 (.ref CO), ent w "registers" t3 (.int (z3 + zm) uR), ent w "cursors" t4 (.int 0 u4), ent w "slots" t5 (.int 0 u5), ent w "writes" t6 (.bool false), ent w "labels" t7 (.ref LD), ent w "next_label" t8 (.int z8 u8)] 8) :: os) → Q (.int z3 u) { s with heap := h', toks := tk' }) :
    wpAny (model PySem.Challenge.rw_nt0122_01.row.prog w) (ktrTop dp un gd cn cs L a ccd cl outer) (call (.ref 741) [.ref P, .int zm um]) Q E s :=
  use1 (regn_does w P dP ⟨t1, t2, t3, t4, t5, t6, t7, t8, u4, u5, OL, CO, LD⟩ z3 z8 zm u3 u8 um os hP ho) B F X N T hk P1 hd hu fun r n h' tk' F' N' q' => by
    obtain ⟨u, uR, rfl, rfl⟩ := q'
    exact ret h' tk' u uR F' N'
end
end Mine
end
section
open PySem PySem.W PyProof.Rows PySem.Spec PyProof.V
namespace Mine
theorem neZ {d a : Nat} {o : Obj} {l : List (Addr × Obj)} (h : ∀ p ∈ l, p.1 ≠ d) (m : (((a : Addr), o) : Addr × Obj) ∈ l) : @Ne Nat d a := (h _ m).symm
theorem neZ' {d a : Nat} {o : Obj} {l : List (Addr × Obj)} (h : ∀ p ∈ l, p.1 ≠ d) (m : (((a : Addr), o) : Addr × Obj) ∈ l) : @Ne Nat a d := h _ m
section
theorem lines31 : True := by
  k_with "o28" => skip
  k_with "k_all" => ((fail_if_success k_extra "o29"); first | ((with_reducible refine' off_sub ?z199h ?z199s); (case z199h => tbn_find); (case z199s => z_head)) | ((with_reducible refine' off_lt2 ?z199a ?z199h ?z199s); (case z199a => first | (with_reducible assumption) | assumption); (case z199h => tbn_find); (case z199s => z_head)))
  k_with "x_run" => ((fail_if_success k_extra "o29"); first | (with_reducible assumption) | (refine labs_app ?_ ?_; (focus x_run); (focus lia)) | (refine labs_dec (by with_reducible assumption) ?_; lia))
  k_with "x_auto" => ((fail_if_success k_extra "o29"); first | (with_reducible assumption) | (refine labs_app_ne ?_ ?_; (focus x_auto); (focus lia)) | (refine labs_ne ?_; with_reducible assumption) | (refine labs_ne (labs_dec (by with_reducible assumption) ?_); lia) | (refine Fx.fresh (by with_reducible assumption) ?_ ?_; (focus lia); x_auto))
  k_with "x_head" => ((fail_if_success k_extra "o29"); first | (with_reducible exact Apart.nil) | (with_reducible refine Apart.app ?_ ?_; (focus x_head); x_head) | (with_reducible refine Apart.cons ?_ ?_; (focus k_all); x_head) | (refine Apart.subL (by with_reducible assumption) ?_; z_head))
  k_with "z_run" => ((fail_if_success k_extra "o29"); first | (with_reducible exact TailT.here) | ((with_reducible refine' TailT.d1 ?z200pk); (case z200pk => z_run)) | ((with_reducible refine' TailT.d2 ?z200pk); (case z200pk => z_run)) | ((with_reducible refine' TailT.d3 ?z200pk); (case z200pk => z_run)) | ((with_reducible refine' TailT.cons ?z200pk); (case z200pk => z_run)) | ((with_reducible refine' TailT.app ?z200pk); (case z200pk => z_run)))
  k_with "call ref" => ((fail_if_success k_extra "o29"); (k_here; (with_reducible show wpAny _ _ (call (Value.ref 791) [_, _]) _ _ _); k_dflt (refine' pool_use ?z201B ?z201F ?z201X ?z201N ?z201T ?z201hk ?z201hd ?z201hu ?z201S ?z201I ?z201l ?_; (case z201B => k_asm); (case z201F => k_asm); (case z201X => k_asm); (case z201N => first | k_asm | exact News.nil); (case z201T => k_asm); (case z201hk => exact rfl); (case z201S => is_list); (case z201I => with_reducible assumption); (case z201l => lia); (case z201hd => k_extra "rmD"); (case z201hu => k_extra "rmU"); intro r'ₘ n'ₘ h'ₘ tk'ₘ F'ₘ N'ₘ q'ₘ; obtain ⟨S9ₘ, o9ₘ, e1'ₘ, e2'ₘ, hs9ₘ, hoff9ₘ⟩ := q'ₘ; subst e1'ₘ; subst e2'ₘ; (try (have hc9 : @Ne Nat _ _ := hoff9ₘ _ (List.Mem.head _); dsimp only at hc9)); (try dsimp only); (try k_sweep); (try k_fold))))
  k_with "call ref" => ((fail_if_success k_extra "o29"); (k_here; (with_reducible show wpAny _ _ (call (Value.ref 810) _) _ _ _); k_dflt (refine' usx1 ?z202B ?z202F ?z202X ?z202N ?z202T ?z202hk ?z202P1 (treeD_use (tree_does _ 2) _ _ _ _ _ ?z202hs ?z202ho ?z202h1) ?_ ?_ (cur_tree ?z202ik ?_); (case z202B => k_asm); (case z202F => k_asm); (case z202X => k_asm); (case z202N => k_asm); (case z202T => k_asm); (case z202hk => first | exact rfl | assumption); (case z202P1 => tb_start); (case z202hs => assumption); (case z202ho => k_all); (case z202h1 => first | exact rfl | lia); (case z202ik => ktr_rel); (focus k_extra "rmD"); (focus k_extra "rmU"); intro r'ₘ o8ₘ nw8ₘ t8ₘ h'ₘ tk'ₘ F'ₘ en1ₘ lkₘ N'ₘ hs8ₘ ha8ₘ ht8ₘ hd8ₘ; (try dsimp only); (try k_sweep); (try k_fold))))
  k_with "call ref" => ((fail_if_success k_extra "o29"); (k_here; (with_reducible show wpAny _ _ (call (Value.ref 805) _) _ _ _); k_dflt (refine' usx1 ?z203B ?z203F ?z203X ?z203N ?z203T ?z203hk ?z203P1 (one_does _ _ _ _ _ _ _ ?z203hs ?z203ho ?z203hT ?z203h1 ?z203h2) ?_ ?_ (cur_one ?_); (case z203B => k_asm); (case z203F => k_asm); (case z203X => k_asm); (case z203N => k_asm); (case z203T => k_asm); (case z203hk => first | exact rfl | assumption); (case z203P1 => tb_start); (case z203hs => assumption); (case z203ho => k_all); (case z203hT => k_mem); (case z203h1 => first | decide | (simp; done) | lia); (case z203h2 => first | decide | (simp; done) | lia); (focus k_extra "rmD"); (focus k_extra "rmU"); intro r'ₘ o'ₘ h'ₘ tk'ₘ F'ₘ en1ₘ lkₘ N'ₘ hv'ₘ hs'ₘ; (try dsimp only); (try k_sweep); (try k_fold))))
  k_with "call ref" => ((fail_if_success k_extra "o29"); (k_here; (with_reducible show wpAny _ _ (call (Value.ref 815) [_, _]) _ _ _); k_dflt (refine' gen815 ?z204N ?z204mP ?z204mK ?z204mdK ?z204mdP ?z204hB ?z204hC ?z204P1 ?z204P2 ?z204P3 ?z204P4 ?z204P5 ?z204iP ?z204iK ?z204iB ?z204iT ?z204iC ?z204iR ?z204q0 ?z204q1 ?z204q2 ?z204iX ?z204o1 ?z204o2 ?z204o3 ?z204o4 ?z204o5 ?z204dd ?_; (case z204N => k_asm); (case z204mP => k_mem); (case z204mK => k_mem); (case z204mdK => k_mem); (case z204mdP => k_mem); (case z204hB => with_reducible assumption); (case z204hC => with_reducible assumption); (case z204P1 => tb_start); (case z204P2 => tb_start); (case z204P3 => tb_start); (case z204P4 => tb_start); (case z204P5 => tb_start); (case z204iP => k_mem); (case z204iK => k_mem); (case z204iB => k_mem); (case z204iT => k_mem); (case z204iC => k_mem); (case z204iR => k_mem); (case z204q0 => exact isVal_of3 (by with_reducible assumption) (by decide) (by decide) (by decide) (by decide)); (case z204q1 => exact isVal_of3 (by with_reducible assumption) (by decide) (by decide) (by decide) (by decide)); (case z204q2 => exact isVal_of3 (by with_reducible assumption) (by decide) (by decide) (by decide) (by decide)); (case z204iX => (refine TreeIn.mono ?_ (by with_reducible assumption); z_head)); (case z204o1 => k_all); (case z204o2 => k_all); (case z204o3 => k_all); (case z204o4 => k_all); (case z204o5 => k_all); (case z204dd => (refine ⟨⟨?_, ?_, ?_, ?_⟩, ⟨?_, ?_, ?_⟩, ?_, ?_, ?_⟩ <;> k_ne)); k_whole); intro hG; (repeat (rename (_ ∧ _) => hz77; clear hz77)); (repeat (rename News _ _ _ _ => hz77; clear hz77)); (repeat (rename Apart _ _ => hz77; clear hz77)); (repeat (rename AllLt _ _ => hz77; clear hz77)); obtain ⟨osG, WG, NG, gG1, gG2, gG3, gG4, gG5, gG6, gG7, gO1, gO2, gO3, gO4, gO5, gD1, gD2, gD3, gD4, gD5, gD6, gD7, gD8, gD9, gDA⟩ := hG; k_dflt (refine' usx1 ?z204B ?z204F ?z204X ?z204N ?z204T ?z204hk ?z204P1 (nodeD_use (node_does _ _) 2 ?z204hd1 _ _ _ _ ?z204ht ?z204ho ?z204hz) ?_ ?_ (cur_node0 ?z204ik ?_); (case z204B => k_asm); (case z204F => k_asm); (case z204X => k_asm); (case z204N => k_asm); (case z204T => k_asm); (case z204hk => first | exact rfl | assumption); (case z204P1 => tb_start); (case z204ht => (refine TreeIn.mono ?_ (by with_reducible assumption); z_head)); (case z204hd1 => with_reducible assumption); (case z204ho => k_all); (case z204hz => exact sz_ok (by with_reducible assumption)); (case z204ik => ktr_rel); (focus k_extra "rmD"); (focus k_extra "rmU"); intro r' nw8 K8 k8 h' tk' F' en1 lk N' ha8 ht8 hk8 hz8; obtain ⟨xN, bN, eN, hkd⟩ := kd_of ht8; subst eN; (have hz9 := sz_9 (by with_reducible assumption)); (try dsimp only); (try k_sweep); (try k_fold))))
  k_with "k_upd" => ((fail_if_success k_extra "o29"); first | ((with_reducible refine' Upd.head ?z205a); (case z205a => k_all)) | ((with_reducible refine' Upd.tail ?z205a ?z205b); (case z205a => k_ne); (case z205b => k_upd)) | ((with_reducible refine' upd_app ?z205a ?z205b); (case z205a => k_all); (case z205b => k_upd)))
  k_with "call builtin:isinstance" => ((fail_if_success k_extra "o29"); (k_here; (with_reducible show wpAny _ _ (call _ [Value.ref _, Value.ref 354]) _ _ _); k_dflt (refine' gen1 ?z206N ?z206hkd ?z206mP ?z206mK ?z206mdK ?z206mdP ?z206hB ?z206hC ?z206P1 ?z206P2 ?z206P3 ?z206iP ?z206iK ?z206idK ?z206iB ?z206iT ?z206ez ?z206iC ?z206sB ?z206sL ?z206ht ?z206ea ?z206hs1 ?z206ml ?z206hK ?z206ht9 ?z206hs2 ?z206kn ?z206iN ?z206iR ?z206iX ?z206o1 ?z206o2 ?z206o3 ?z206d1 ?z206d2 ?z206d3 ?_; (case z206N => k_asm); (case z206hkd => with_reducible assumption); (case z206mP => k_mem); (case z206mK => k_mem); (case z206mdK => k_mem); (case z206mdP => k_mem); (case z206hB => with_reducible assumption); (case z206hC => with_reducible assumption); (case z206P1 => tb_start); (case z206P2 => tb_start); (case z206P3 => tb_start); (case z206iP => k_mem); (case z206iK => k_mem); (case z206idK => k_mem); (case z206iB => k_mem); (case z206iT => k_mem); (case z206iC => k_mem); (case z206ez => rfl); (case z206sB => with_reducible assumption); (case z206sL => with_reducible assumption); (case z206ht => with_reducible assumption); (case z206ea => rfl); (case z206hs1 => z_head); (case z206ml => k_mem); (case z206hK => with_reducible assumption); (case z206ht9 => with_reducible assumption); (case z206hs2 => z_head); (case z206kn => with_reducible assumption); (case z206iN => with_reducible assumption); (case z206iR => (refine RowIn.mono ?_ (by with_reducible assumption); z_head)); (case z206iX => (refine TreeIn.mono ?_ (by with_reducible assumption); z_head)); (case z206o1 => k_all); (case z206o2 => k_all); (case z206o3 => k_all); (case z206d1 => k_ne); (case z206d2 => k_ne); (case z206d3 => k_ne); k_whole); intro hG; (repeat (rename (_ ∧ _) => hz77; clear hz77)); (repeat (rename News _ _ _ _ => hz77; clear hz77)); (repeat (rename Apart _ _ => hz77; clear hz77)); (repeat (rename AllLt _ _ => hz77; clear hz77)); (repeat (rename _ ≠ _ => hz77; clear hz77)); obtain ⟨osJ, NJ, jt, jn, jk, jr, jx, jp, ji, ⟨ja1, ja2, ja3, jd⟩, jc⟩ := hG; k_dflt (refine' law_join2 ?z206X ?z206N ?z206F jt jn jk ?z206s ?z206mainA ?z206mainB ?z206rest; (case z206X => k_in); (case z206N => k_asm); (case z206F => k_asm); (case z206s => z_head); (case' z206mainA => intro hrest8 k9 dx9 dob9 mA9 mB9 mC9 mD9; (try dsimp only)); (case' z206mainB => intro hrest8 k9; (try dsimp only)))))
  k_with "call ref" => ((fail_if_success k_extra "o29"); (k_here; (with_reducible show wpAny _ _ (call (Value.ref 676) [_, _, _]) _ _ _); k_dflt (refine' top_use ?z207N (mem3 ji) (mem3 jd) (mem3 jp) (mem_tl mem_hd) ?z207B ?z207F ?z207X ?z207T ?z207hk ?z207P1 ?z207P2 ?z207P3 ?z207e6 ?z207em ?z207e5 jt jn (by with_reducible assumption) ?z207hl ?z207hf ?z207hd ?z207hu ?_; (case z207N => k_asm); (case z207B => k_asm); (case z207F => k_asm); (case z207X => k_asm); (case z207T => k_asm); (case z207hk => first | exact rfl | assumption); (case z207P1 => tb_start); (case z207P2 => tb_start); (case z207P3 => tb_start); (case z207e6 => rfl); (case z207em => rfl); (case z207e5 => rfl); (case z207hl => first | with_reducible assumption | exact ⟨[], by with_reducible assumption, by with_reducible assumption⟩); (case z207hf => exact .inr ⟨rfl, _, _, mA9, mB9, mC9, mD9⟩); (case z207hd => k_extra "rmD"); (case z207hu => k_extra "rmU"); intro r' n' h' tk' F' N' q'; (try k_unfold); (try dsimp only); exact hrest8 _ _ tk' _ F' N' q')))
  k_with "call ref" => ((fail_if_success k_extra "o29"); (k_here; (with_reducible show wpAny _ _ (call (Value.ref 541) [_, _, _]) _ _ _); k_dflt (refine' top_use ?z208N (mem3 ji) (mem3 jd) (mem3 jp) (mem_tl mem_hd) ?z208B ?z208F ?z208X ?z208T ?z208hk ?z208P1 ?z208P2 ?z208P3 ?z208e6 ?z208em ?z208e5 jt jn (by with_reducible assumption) ?z208hl ?z208hf ?z208hd ?z208hu ?_; (case z208N => k_asm); (case z208B => k_asm); (case z208F => k_asm); (case z208X => k_asm); (case z208T => k_asm); (case z208hk => first | exact rfl | assumption); (case z208P1 => tb_start); (case z208P2 => tb_start); (case z208P3 => tb_start); (case z208e6 => rfl); (case z208em => rfl); (case z208e5 => rfl); (case z208hl => first | with_reducible assumption | exact ⟨[], by with_reducible assumption, by with_reducible assumption⟩); (case z208hf => exact .inl rfl); (case z208hd => k_extra "rmD"); (case z208hu => k_extra "rmU"); intro r' n' h' tk' F' N' q'; (try k_unfold); (try dsimp only); exact hrest8 _ _ tk' _ F' N' q')))
  k_with "call ref" => ((fail_if_success k_extra "o29"); (k_here; (with_reducible show wpAny _ _ (call (Value.ref 777) _) _ _ _); k_dflt (refine' fin_use ?z209N qT ?z209B ?z209F ?z209X ?z209T ?z209hk jp jt.o1 jt.o2 jt.o3 jt.d1 jt.d2 jt.d3 jt.sm jr jx ?z209hd2 ?z209hd ?z209hu ?_; (case z209N => k_asm); (case z209B => k_asm); (case z209F => k_asm); (case z209X => k_asm); (case z209T => k_asm); (case z209hk => first | exact rfl | assumption); (case z209hd2 => with_reducible assumption); (case z209hd => k_extra "rmD"); (case z209hu => k_extra "rmU"); intro r' n' h' tk' F' N' q'; obtain ⟨e1', k7, xs7, n7, uR7, uN7, R7, N7, m71, m72, m73, ho7, hx7, ⟨v70, v71, v72, k70, mR7, iv0, iv1, iv2⟩, hT7, hs7⟩ := q'; subst e1'; (have jc7 := hs7 _ jc); (have hR7 : RowIn _ _ _ := ⟨v70, v71, v72, k70, mR7, iv0, iv1, iv2⟩); (try dsimp only); (try k_sweep); (try k_fold))))
  k_with "call ref" => ((fail_if_success k_extra "o29"); (k_here; (with_reducible show wpAny _ _ (call (Value.ref 837) _) _ _ _); (rename News _ _ _ (_ :: _ :: _ :: _ :: _) => hz78); (replace hz78 := news_drop hz78); k_dflt (refine' usx2 ?z210B ?z210F ?z210X ?z210N ?z210T ?z210hk ?z210P1 ?z210P2 (run_top ?z210m1 ?z210ho ?z210hx ?z210hH ?z210hC ?z210hd2 ?z210hlo ?z210a1 ?z210a2 ?z210hne) ?_ ?_ (cur_run ?z210ik ?_); (case z210B => k_asm); (case z210F => k_asm); (case z210X => k_asm); (case z210N => k_asm); (case z210T => k_asm); (case z210hk => first | exact rfl | assumption); (case z210P1 => tb_start); (case z210P2 => tb_start); (case z210m1 => k_mem); (case z210ho => (refine OpsIn.mono ?_ (by with_reducible assumption); z_head)); (case z210hx => with_reducible assumption); (case z210hH => with_reducible assumption); (case z210hC => with_reducible assumption); (case z210hd2 => with_reducible assumption); (case z210hlo => with_reducible assumption); (case z210a1 => k_all); (case z210a2 => k_all); (case z210hne => k_ne); (case z210ik => ktr_rel); (focus k_extra "rmD"); (focus k_extra "rmU"); intro oH8 H8 T8 n8 nwR h' tk' F' en1 en2 lk N' hH8 h58 hT8 haR b81 b82; (try dsimp only); (try k_sweep); (try k_fold))))
  k_with "call ref" => ((fail_if_success k_extra "o29"); (k_here; (with_reducible show wpAny _ _ (call (Value.ref 832) [_, _, _]) _ _ _); k_dflt (refine' usx1 ?z211B ?z211F ?z211X ?z211N ?z211T ?z211hk ?z211P1 (found_use (d := 2) (osm := []) ?z211hT (found_does _ _) ?z211ht ?z211hR ?z211hs ?z211ho ?z211hz) ?_ ?_ (cur_found ?z211ik ?_ ?_); (case z211B => k_asm); (case z211F => k_asm); (case z211X => k_asm); (case z211N => k_asm); (case z211T => k_asm); (case z211hk => first | exact rfl | assumption); (case z211P1 => tb_start); (case z211hT => (refine TreeIn.mono ?_ (by with_reducible assumption); z_head)); (case z211ht => with_reducible assumption); (case z211hR => (refine RowIn.mono ?_ (by with_reducible assumption); z_head)); (case z211hs => exact TdsIn.nil); (case z211ho => k_all); (case z211hz => exact nops_900 (by with_reducible assumption)); (case z211ik => ktr_rel); (focus k_extra "rmD"); (focus k_extra "rmU"); intro T9 n9 nwF h' tk' F' en1 lk N' haF b91 ht9 hz9 hl9 ey9 hv9; rotate_left; intro T9 n9 nwF i9 u9 h' tk' F' en1 lk N' haF b91 ht9 hz9 hl9 ey9 hi9 hj9 hv9; rotate_left; all_goals (simp only [List.append_nil, List.nil_append] at ht9); all_goals ((try dsimp only); (try k_sweep); (try k_fold)))))
  k_with "eval Dict" => ((fail_if_success k_extra "o29"); (k_here; k_dflt (refine' kdn_eval (knd := PySem.intKind _ _) ?z212Fq1 ?z212Nq1 ?z212bq1 ?z212aq1 ?z212lq1 ?z212eq1 ?z212nq1 ?_; (case z212Fq1 => k_asm); (case z212Nq1 => k_asm); (case z212bq1 => exact Top.nolimit (by k_asm)); (case z212aq1 => rfl); (case z212lq1 => rfl); (case z212eq1 => exact List.cons_ne_nil _ _); (case z212nq1 => exact Nat.le_of_ble_eq_true rfl)); intro d' h' o' F' N' l1 lo' hd'; (first | (k_lt l1) | (replace l1 := allLt_of l1))))
  k_with "KdnMade" => ((fail_if_success k_extra "o29"); (k_here; k_dflt (refine' kdn_made_int ?z213Fq3 ?z213Nq3 ?z213Uq3 ?z213dq3 ?z213kq3 ?z213nq3 ?_; (case z213Fq3 => k_asm); (case z213Nq3 => k_asm); (case z213Uq3 => k_updF); (case z213dq3 => k_asm); (case z213kq3 => rfl); (case z213nq3 => exact of_decide_eq_true (by first | rfl | kernel_rfl!)); intro h' o' F' N' hd'; (obtain ⟨H9, hH9, hC9⟩ := held_of hd' rfl rfl rfl iv0 iv1 iv2)); (try dsimp only at N')))
  k_with "getMethod ref" => ((fail_if_success k_extra "o29"); (k_here; (with_reducible show wpAny _ _ (getMethod (Value.ref _) (Str.ofString "get") _) _ _ _); k_dflt (refine' held_method ?z214Hq4 ?z214Nq4 ?z214mq4 ?_; (case z214Nq4 => k_asm); (case z214mq4 => k_mem); (case z214Hq4 => with_reducible assumption); k_whole)))
  k_with "call builtin:dict.get" => ((fail_if_success k_extra "o29"); (k_here; k_dflt (refine' held_get ?z215Hq6 ?z215Nq6 ?z215mq6 ?z215loq6 ?_; (case z215Nq6 => k_asm); (case z215mq6 => k_mem); (case z215Hq6 => with_reducible assumption); (case z215loq6 => with_reducible assumption); k_whole); intro v9 hvA; (have hv10 := isVal_at hvA rfl h58); rw [ey9] at hv10; cases hv10; (try dsimp only)))
  k_with "compareOp Eq ref ref" => ((fail_if_success k_extra "o29"); (k_here; k_dflt (refine' told_eq ?z216Nq8 ?z216aq8 ?z216bq8 ?z216cq8 ?z216dq8 ?z216uq8 ?_; (case z216Nq8 => k_asm); (case z216aq8 => k_mem); (case z216bq8 => k_mem); (case z216cq8 => (refine TdsIn.mono ?_ hT8; z_head)); (case z216dq8 => (refine TdsIn.mono ?_ ht9; z_head)); (case z216uq8 => first | ke_room | units_room); k_whole)))
  k_with "call ref" => ((fail_if_success k_extra "o29"); (k_here; (with_reducible show wpAny _ _ (call (Value.ref 741) [_]) _ _ _); k_dflt (refine' law_reg1 ?z217N ?z217m1 ?z217m2 ?z217B ?z217F ?z217X ?z217T ?z217hk ?z217P1 ?z217hP ?z217ho ?z217hd ?z217hu ?_; (case z217N => k_asm); (case z217m1 => k_mem); (case z217m2 => k_mem); (case z217B => k_asm); (case z217F => k_asm); (case z217X => k_asm); (case z217T => k_asm); (case z217hk => first | exact rfl | assumption); (case z217P1 => tb_start); (case z217hP => k_mem); (case z217ho => k_all); (case z217hd => k_extra "rmD"); (case z217hu => k_extra "rmU"); intro h'ₘ tk'ₘ u8ₘ uR8ₘ F'ₘ N'ₘ; (try dsimp only); (try k_sweep); (try k_fold))))
  k_with "call ref" => ((fail_if_success k_extra "o29"); (k_here; (with_reducible show wpAny _ _ (call (Value.ref 741) [_, _]) _ _ _); k_dflt (refine' law_regn ?z218N ?z218m1 ?z218m2 ?z218B ?z218F ?z218X ?z218T ?z218hk ?z218P1 ?z218hP ?z218ho ?z218hd ?z218hu ?_; (case z218N => k_asm); (case z218m1 => k_mem); (case z218m2 => k_mem); (case z218B => k_asm); (case z218F => k_asm); (case z218X => k_asm); (case z218T => k_asm); (case z218hk => first | exact rfl | assumption); (case z218P1 => tb_start); (case z218hP => k_mem); (case z218ho => k_all); (case z218hd => k_extra "rmD"); (case z218hu => k_extra "rmU"); intro h'ₘ tk'ₘ u8ₘ uR8ₘ F'ₘ N'ₘ; (try dsimp only); (try k_sweep); (try k_fold))))
  k_with "setItem ref int" => ((fail_if_success k_extra "o29"); (k_here; k_dflt (refine' kda_set (knd := PySem.intKind _ _) ?z219F ?z219N ?z219U ?z219d (intKind_is _ _ _ _) ?z219z ?_; (case z219F => k_asm); (case z219N => k_asm); (case z219U => k_updF); (case z219d => with_reducible assumption); (case z219z => rw [sizeLine_eq]; exact Nat.le_of_ble_eq_true (by with_unfolding_all rfl))); intro h'ₘ o'ₘ F'ₘ N'ₘ hd'ₘ; (replace hd'ₘ : Obj.IsDictOf _ _ [(_, _)] := hd'ₘ); (try dsimp only at N'ₘ)))
  k_with "CompSrc" => ((fail_if_success k_extra "o29"); (k_here; k_dflt (refine' agg_src (kn := 1 + 3) rfl (by k_asm) (by k_asm) (by k_mem) (by lia) ?_ ?_; (intro gq i v I oI C oC D m₂ ys nwA h tk E' hvA hC hx F N haA htA off4 ne; (try dsimp only); (try k_fold)); rotate_left; (intro gq ys nwA haA htA; (try dsimp only)); rotate_right)))
  k_with "k_ne" => ((fail_if_success k_extra "o29"); first | (refine' neZ o1a ?z220m; (case z220m => kst_has)) | (refine' neZ' o1a ?z220m; (case z220m => kst_has)) | fail)
  k_with "FinE" => ((fail_if_success k_extra "o29"); ((unfold LCg.FinE); intro Dq hq tkq Fq Nq o1q; (have o1a := off1_allz o1q); (obtain ⟨o1q, o1w⟩ := off1_split o1q); (try simp only [LCg.Off1] at o1q); (try simp only [List.nil_append] at Nq); replace Nq := news_ins Nq (by ktr_rel); (try dsimp only)))
  k_with "kcf_m" => ((fail_if_success k_extra "o29"); ( (try k_unmd); (try k_unfold); (refine' agg_back ?z221hv ?z221ml ?z221ha ?z221ht ?z221f ?z221n ?z221sb ?z221o ?z221q1 ?z221q2 ?z221q3 ?z221hT; (case z221hv => with_reducible assumption); (case z221ha => with_reducible assumption); (case z221ht => with_reducible assumption); (case z221f => with_reducible assumption); (case z221n => with_reducible assumption); (case z221ml => k_mem); (case z221sb => z_head); (case z221o => with_reducible assumption); (case z221q1 => k_ne); (case z221q2 => k_ne); (case z221q3 => k_ne); (case z221hT => k_all))))
  exact True.intro
set_option maxRecDepth 100000 in
set_option maxHeartbeats 8000000 in
theorem law_holds : PySem.Challenge.rw_nt0122_01.Holds := hd rfl rfl rfl (by
  unfold hd.hook
  k_fill
  intro w s₀ s₁ mg mb G Y fa o pm cd doc dV kV ho hdd hcd hD hmg hg args vals as hpre hlay hrd hwl hlo
  have KX := kIn_of Y
  have X := (Ground.X G).1
  have V := (Ground.X G).2
  refine Ground.open G ?_
  intro T B D TE TW
  try (refine guard_noD D (by decide +kernel) ?_; clear D)
  obtain ⟨_, _, M⟩ := bmod_of_top T
  have TA := at_of_top T
  try (obtain ⟨_, _, he, B0⟩ := based_of_top T rfl hmg ho hdd; have he' : cd = _ := he; subst he'; clear he)
  clear hmg
  wrow_args hpre hlay hrd hwl hlo
  all_goals (
    first | refine callC_kw (enter_call ?_) | refine enter_call ?_ | refine callC_kw (enter_callW ?_) | refine enter_callW ?_ | w_how
    w_top on
    try refine codeAny_mono ?_ (fun _ _ g => GoodW.toG g)
    have K0 := below_caller (Top.heap T)
    w_call any ho hdd hcd hD T F
    clear hdd TA
    k_drop
    skip)
  (all_goals w_top off)
  (all_goals try k_fold)
  k_steps
  all_goals (try kcf_m)
  all_goals (
    unfold RestP
    intro r7 h7 tk7 l7 F7 N7 q7
    have qT := q7
    obtain ⟨kT, xT, nT, oT, nwT, uT, vT, kO, kL, eT, aT, b1, b2, b3, oT', lT⟩ := q7
    subst eT
    (try dsimp only)
    (with_reducible show wpAny _ _ _ _ _ _)
    (try k_fold)
    repeat' (first | (k_unfold; (try dsimp only)) | (kc_bool; refine goodW_bool (by with_reducible assumption) (by with_reducible assumption) (raisesW_false ?_) ?_; (· wrow_none_raised); (· (refine postW_of (by wrow_shape) (w_eq_bool (w_res rfl) w_lit) ?_); w_fin)) | walk1 | (dsimp only; walk1) | (leave1; (try dsimp only)) | fail "no step")))
end
end Mine
end
theorem PySem.Challenge.cw_nt0122_01_holds : PySem.Challenge.rw_nt0122_01.Holds :=
  Mine.law_holds
